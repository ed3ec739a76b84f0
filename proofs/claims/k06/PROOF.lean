import PyProof.Rows.All
import Wide.All
import OpenK.AllK
import Wide.FinOn
import HandS.ForMost
import HandS.WordsExc
import HandS.Nested
import HandS.ExcOwn
import HandS.ExcIs
import HandS.TupAny
import HandS.IsInst
import HandS.Deep
import HandS.Zip
import HandS.Defaults
import KE.KNestM
import HandS.Iter
import HandS.SetKeys
import HandS.More
import HandS.TupLe
import KE.KEqDict
import KE.KDictZip
import HandS.SortKw
import HandS.Finally
import HandS.CallLocal
import HandS.Style
import HandS.Strs
import HandS.Set
import HandS.SetFor
import HandS.SetTxt0
import PyProof.Rows.SortShellAny
import HandS.Flow
import PyProof.StrBlock2
import KE.KUnpack
import KE.KEqNest
import HandS.DictTup
import KE.SortData
import HandS.Conv
import HandS.TupMul
import KE.GoesMore
import KE.GoesEnum
import PyProof.EnumMake
import PyProof.DictUpdate
import KE.SortKeyHeap
import PySem.Challenge.RW_holeform_k06_places
section
set_option Elab.async false
set_option linter.all false
set_option maxRecDepth 20000
set_option autoImplicit false
/-! HF1: values as trees, the state of a def as slots and cells, and what it means that a state of the hand layer bears them. -/
namespace HF
open PySem PySem.Spec PyProof.Rows L2

/-- a value: tuples, lists and dicts that never change any more are told by what they hold -/
inductive PV where
  | non
  | bl (b : Bool)
  | int (i : Int)
  | str (x : Str)
  | tup (xs : List PV)
  | lst (xs : List PV)
  | dct (ks : List Key) (xs : List PV)
  | ref (r : Nat)
  | con (a : Addr)
  | rol (xs : List PV)
  | exc (c : Str)
  | fn (x : Str)
/-- a thing that may change -/
inductive PO where
  | lst (xs : List PV)
  | dct (ks : List Key) (xs : List PV)
  | ins (c : Str) (ns : List Str) (xs : List PV)
/-- ghosts: the frozen addresses; where the cells stand -/
structure Gh where
  F : Addr → Prop
  al : List Addr
/-- the kinds that are read -/
def Plain : HO → Prop
  | .lst _ => True
  | .tup _ => True
  | .dK _ => True
  | _ => False
def noHp : Hp := fun _ => none
section
variable (K : PySem.W.Frag) (G : Gh) (H : Hp)
def FzL (a : Addr) (us : List V) : Prop := us.length ≤ sizeLine ∧ ((G.F a ∧ Rd H a (.lst us)) ∨ SqL K noHp a us)
def FzT (a : Addr) (us : List V) : Prop := us.length ≤ sizeLine ∧ ((G.F a ∧ Rd H a (.tup us)) ∨ SqT K noHp a us)
mutual
def RepV : PV → V → Prop
  | .non, v => v = .non
  | .bl b, v => v = .bl b
  | .int i, v => v = .int i
  | .str x, v => v = .str x
  | .tup xs, v => ∃ a us, v = .ref a ∧ FzT K G H a us ∧ RepVs xs us
  | .lst xs, v => ∃ a us, v = .ref a ∧ (us.length ≤ sizeLine ∧ G.F a ∧ Rd H a (.lst us)) ∧ RepVs xs us
  | .dct ks xs, v => ∃ a kvs, v = .ref a ∧ (G.F a ∧ Rd H a (.dK kvs)) ∧ kvs.length ≤ sizeLine ∧ kvs.map (·.1) = ks ∧ RepVs xs (kvs.map (·.2))
  | .ref r, v => ∃ a, v = .ref a ∧ G.al[r]? = some a
  | .con a, v => v = .ref a
  | .rol xs, v => ∃ a us, v = .ref a ∧ FzL K G H a us ∧ RepVs xs us
  | .exc c, v => ∃ a, v = .ref a ∧ G.F a ∧ ∃ oe C, H a = some (.frz oe (.own a)) ∧ Zc (.ref C) none oe ∧ (∃ vs, oe.data = .fields vs) ∧ PySem.W.nsIn K mainGlobals c = some (some (.ref C))
  | .fn x, v => ∃ f, v = .ref f ∧ PySem.W.nsIn K mainGlobals x = some (some (.ref f))
def RepVs : List PV → List V → Prop
  | [], us => us = []
  | x :: xs, us => ∃ u ws, us = u :: ws ∧ RepV x u ∧ RepVs xs ws
end
def RepO : PO → HO → Prop
  | .lst xs, o => ∃ us, o = .lst us ∧ us.length ≤ sizeLine ∧ RepVs K G H xs us
  | .dct ks xs, o => ∃ kvs, o = .dK kvs ∧ kvs.length ≤ sizeLine ∧ kvs.map (·.1) = ks ∧ RepVs K G H xs (kvs.map (·.2))
  | .ins c ns xs, o => ∃ C dx fs, o = .ins C dx fs ∧ PySem.W.nsIn K mainGlobals c = some (some (.ref C)) ∧ fs.map (·.1) = ns ∧ RepVs K G H xs (fs.map (·.2))
end

/-- what later states keep of values -/
structure Ext (G : Gh) (H : Hp) (G' : Gh) (H' : Hp) : Prop where
  f : ∀ a, G.F a → G'.F a
  rd : ∀ a u, G.F a → Plain u → Rd H a u → Rd H' a u
  al : ∀ (r : Nat) (a : Addr), G.al[r]? = some a → G'.al[r]? = some a
  fz : ∀ a o u, G.F a → H a = some (.frz o u) → H' a = some (.frz o u)
theorem Ext.refl (G : Gh) (H : Hp) : Ext G H G H := ⟨fun _ h => h, fun _ _ _ _ h => h, fun _ _ h => h, fun _ _ _ _ h => h⟩
theorem Ext.trans {G0 G1 G2 : Gh} {H0 H1 H2 : Hp} (x : Ext G0 H0 G1 H1) (y : Ext G1 H1 G2 H2) : Ext G0 H0 G2 H2 :=
  ⟨fun a h => y.f a (x.f a h), fun a u h p r => y.rd a u (x.f a h) p (x.rd a u h p r), fun r a h => y.al r a (x.al r a h), fun a o u h r => y.fz a o u (x.f a h) (x.fz a o u h r)⟩

section
variable {K : PySem.W.Frag} {G G' : Gh} {H H' : Hp}
theorem FzL.mono (x : Ext G H G' H') {a : Addr} {us : List V} (h : FzL K G H a us) : FzL K G' H' a us :=
  ⟨h.1, h.2.imp (fun ⟨f, r⟩ => ⟨x.f a f, x.rd a _ f trivial r⟩) id⟩
theorem FzT.mono (x : Ext G H G' H') {a : Addr} {us : List V} (h : FzT K G H a us) : FzT K G' H' a us :=
  ⟨h.1, h.2.imp (fun ⟨f, r⟩ => ⟨x.f a f, x.rd a _ f trivial r⟩) id⟩
theorem FzL.sq {a : Addr} {us : List V} (h : FzL K G H a us) : SqL K H a us := by
  rcases h.2 with ⟨_, r⟩ | r
  · exact .inl r
  · rcases r with (r | ⟨o, r⟩) | r
    · cases r
    · cases r
    · exact .inr r
theorem FzT.sq {a : Addr} {us : List V} (h : FzT K G H a us) : SqT K H a us := by
  rcases h.2 with ⟨_, r⟩ | r
  · exact .inl r
  · rcases r with (r | ⟨o, r⟩) | r
    · cases r
    · cases r
    · exact .inr r
mutual
theorem RepV.mono (x : Ext G H G' H') : ∀ (p : PV) (v : V), RepV K G H p v → RepV K G' H' p v
  | .non, v, h => h
  | .bl b, v, h => h
  | .int i, v, h => h
  | .str s, v, h => h
  | .tup xs, v, h => by
    simp only [RepV] at h ⊢
    obtain ⟨a, us, e, f, r⟩ := h
    exact ⟨a, us, e, f.mono x, RepVs.mono x xs us r⟩
  | .lst xs, v, h => by
    simp only [RepV] at h ⊢
    obtain ⟨a, us, e, ⟨f0, f1, f2⟩, r⟩ := h
    exact ⟨a, us, e, ⟨f0, x.f a f1, x.rd a _ f1 trivial f2⟩, RepVs.mono x xs us r⟩
  | .rol xs, v, h => by
    simp only [RepV] at h ⊢
    obtain ⟨a, us, e, f, r⟩ := h
    exact ⟨a, us, e, f.mono x, RepVs.mono x xs us r⟩
  | .dct ks xs, v, h => by
    simp only [RepV] at h ⊢
    obtain ⟨a, us, e, ⟨f1, f2⟩, z, k, r⟩ := h
    exact ⟨a, us, e, ⟨x.f a f1, x.rd a _ f1 trivial f2⟩, z, k, RepVs.mono x xs _ r⟩
  | .ref r, v, h => by
    simp only [RepV] at h ⊢
    obtain ⟨a, e, q⟩ := h
    exact ⟨a, e, x.al r a q⟩
  | .con a, v, h => h
  | .exc c, v, h => by
    simp only [RepV] at h ⊢
    obtain ⟨a, e, f, oe, C, h1, r⟩ := h
    exact ⟨a, e, x.f a f, oe, C, x.fz a oe _ f h1, r⟩
  | .fn y, v, h => by
    simp only [RepV] at h ⊢
    exact h
theorem RepVs.mono (x : Ext G H G' H') : ∀ (ps : List PV) (vs : List V), RepVs K G H ps vs → RepVs K G' H' ps vs
  | [], vs, h => h
  | p :: ps, vs, h => by
    simp only [RepVs] at h ⊢
    obtain ⟨u, ws, e, r, rs⟩ := h
    exact ⟨u, ws, e, RepV.mono x p u r, RepVs.mono x ps ws rs⟩
end
theorem RepO.mono (x : Ext G H G' H') {o : PO} {u : HO} (h : RepO K G H o u) : RepO K G' H' o u := by
  cases o with
  | lst xs => obtain ⟨us, e, z, r⟩ := h; exact ⟨us, e, z, RepVs.mono x _ _ r⟩
  | dct ks xs => obtain ⟨us, e, z, k, r⟩ := h; exact ⟨us, e, z, k, RepVs.mono x _ _ r⟩
  | ins c ns xs => obtain ⟨C, dx, us, e, k, n, r⟩ := h; exact ⟨C, dx, us, e, k, n, RepVs.mono x _ _ r⟩
theorem RepVs.nil_iff {vs : List V} : RepVs K G H [] vs ↔ vs = [] := by simp only [RepVs]
theorem RepVs.cons_iff {p : PV} {ps : List PV} {vs : List V} : RepVs K G H (p :: ps) vs ↔ ∃ u ws, vs = u :: ws ∧ RepV K G H p u ∧ RepVs K G H ps ws := by simp only [RepVs]
theorem RepVs.nil : RepVs K G H [] [] := RepVs.nil_iff.mpr rfl
theorem RepVs.cons {p : PV} {ps : List PV} {v : V} {vs : List V} (h : RepV K G H p v) (t : RepVs K G H ps vs) : RepVs K G H (p :: ps) (v :: vs) := RepVs.cons_iff.mpr ⟨v, vs, rfl, h, t⟩
theorem RepVs.length : ∀ {ps : List PV} {vs : List V}, RepVs K G H ps vs → ps.length = vs.length
  | [], vs, h => by rw [RepVs.nil_iff.mp h]; rfl
  | p :: ps, vs, h => by
    obtain ⟨u, ws, rfl, _, t⟩ := RepVs.cons_iff.mp h
    simp [RepVs.length t]
theorem RepVs.append : ∀ {ps qs : List PV} {vs ws : List V}, RepVs K G H ps vs → RepVs K G H qs ws → RepVs K G H (ps ++ qs) (vs ++ ws)
  | [], qs, vs, ws, h, g => by rw [RepVs.nil_iff.mp h]; exact g
  | p :: ps, qs, vs, ws, h, g => by
    obtain ⟨u, us, rfl, r, t⟩ := RepVs.cons_iff.mp h
    exact RepVs.cons r (RepVs.append t g)
theorem RepVs.get : ∀ {ps : List PV} {vs : List V} {i : Nat} {p : PV}, RepVs K G H ps vs → ps[i]? = some p → ∃ v, vs[i]? = some v ∧ RepV K G H p v
  | [], vs, i, p, h, e => by simp at e
  | q :: ps, vs, i, p, h, e => by
    obtain ⟨u, us, rfl, r, t⟩ := RepVs.cons_iff.mp h
    cases i with
    | zero => simp at e; subst e; exact ⟨u, rfl, r⟩
    | succ i => exact RepVs.get (i := i) t (by simpa using e)
theorem RepVs.getV : ∀ {ps : List PV} {vs : List V} {i : Nat} {v : V}, RepVs K G H ps vs → vs[i]? = some v → ∃ p, ps[i]? = some p ∧ RepV K G H p v
  | [], vs, i, p, h, e => by rw [RepVs.nil_iff.mp h] at e; simp at e
  | q :: ps, vs, i, p, h, e => by
    obtain ⟨u, us, rfl, r, t⟩ := RepVs.cons_iff.mp h
    cases i with
    | zero => simp at e; subst e; exact ⟨q, rfl, r⟩
    | succ i => exact RepVs.getV (i := i) t (by simpa using e)
theorem RepVs.take : ∀ {ps : List PV} {vs : List V} (n : Nat), RepVs K G H ps vs → RepVs K G H (ps.take n) (vs.take n)
  | ps, vs, 0, h => by simpa using RepVs.nil
  | [], vs, n + 1, h => by rw [RepVs.nil_iff.mp h]; simpa using RepVs.nil
  | p :: ps, vs, n + 1, h => by
    obtain ⟨u, us, rfl, r, t⟩ := RepVs.cons_iff.mp h
    exact RepVs.cons r (RepVs.take n t)
theorem RepVs.drop : ∀ {ps : List PV} {vs : List V} (n : Nat), RepVs K G H ps vs → RepVs K G H (ps.drop n) (vs.drop n)
  | ps, vs, 0, h => by simpa using h
  | [], vs, n + 1, h => by rw [RepVs.nil_iff.mp h]; simpa using RepVs.nil
  | p :: ps, vs, n + 1, h => by
    obtain ⟨u, us, rfl, r, t⟩ := RepVs.cons_iff.mp h
    exact RepVs.drop n t
theorem RepVs.set : ∀ {ps : List PV} {vs : List V} {p : PV} {v : V} (i : Nat), RepVs K G H ps vs → RepV K G H p v → RepVs K G H (ps.set i p) (vs.set i v)
  | [], vs, p, v, i, h, _ => by rw [RepVs.nil_iff.mp h]; exact RepVs.nil
  | q :: ps, vs, p, v, i, h, k => by
    obtain ⟨u, us, rfl, r, t⟩ := RepVs.cons_iff.mp h
    cases i with
    | zero => exact RepVs.cons k t
    | succ i => exact RepVs.cons r (RepVs.set i t k)
theorem RepVs.eraseIdx : ∀ {ps : List PV} {vs : List V} (i : Nat), RepVs K G H ps vs → RepVs K G H (ps.eraseIdx i) (vs.eraseIdx i)
  | [], vs, i, h => by rw [RepVs.nil_iff.mp h]; exact RepVs.nil
  | q :: ps, vs, i, h => by
    obtain ⟨u, us, rfl, r, t⟩ := RepVs.cons_iff.mp h
    cases i with
    | zero => exact t
    | succ i => exact RepVs.cons r (RepVs.eraseIdx i t)
theorem RepVs.reverse : ∀ {ps : List PV} {vs : List V}, RepVs K G H ps vs → RepVs K G H ps.reverse vs.reverse
  | [], vs, h => by rw [RepVs.nil_iff.mp h]; exact RepVs.nil
  | q :: ps, vs, h => by
    obtain ⟨u, us, rfl, r, t⟩ := RepVs.cons_iff.mp h
    rw [List.reverse_cons, List.reverse_cons]
    exact (RepVs.reverse t).append (RepVs.cons r RepVs.nil)
theorem RepVs.snoc {ps : List PV} {vs : List V} {p : PV} {v : V} (h : RepVs K G H ps vs) (k : RepV K G H p v) : RepVs K G H (ps ++ [p]) (vs ++ [v]) := h.append (RepVs.cons k RepVs.nil)
theorem RepVs.dropLast {ps : List PV} {vs : List V} (h : RepVs K G H ps vs) : RepVs K G H ps.dropLast vs.dropLast := by
  rw [List.dropLast_eq_take, List.dropLast_eq_take, h.length]
  exact h.take _
end

/-- a slot: a value, or a thing that this slot alone holds -/
inductive LV where
  | v (p : PV)
  | own (o : PO)
/-- slots and cells -/
structure Mem where
  r : List (Option LV)
  h : List PO
/-- no object of its own kind -/
def NoX (u : HO) : Prop := (∀ φ, u ≠ .ext φ) ∧ ∀ ps, u ≠ .tbl ps
theorem RepO.nox {K : PySem.W.Frag} {G : Gh} {H : Hp} {o : PO} {u : HO} (h : RepO K G H o u) : NoX u := by
  cases o with
  | lst xs => obtain ⟨us, rfl, _⟩ := h; exact ⟨fun _ z => (nomatch z), fun _ z => (nomatch z)⟩
  | dct ks xs => obtain ⟨kvs, rfl, _⟩ := h; exact ⟨fun _ z => (nomatch z), fun _ z => (nomatch z)⟩
  | ins c ns xs => obtain ⟨C, dx, fs, rfl, _⟩ := h; exact ⟨fun _ z => (nomatch z), fun _ z => (nomatch z)⟩
/-- the tables of code objects: they and what they hold are nobody's cells and not frozen -/
def TabsOk (T : List NdefX.NTab) (G : Gh) (H : Hp) : Prop := ∀ p ∈ T, ∃ ps : Array Value, H p.1 = some (.tbl ps) ∧ TriplesOk ps.toList ∧ p.1 ∉ G.al ∧ ¬ G.F p.1 ∧
  ∀ (pos : Pos) (cv : Value), codeAmong pos ps.toList = some cv → ∃ c, cv = .ref c ∧ H c = some (LamX.CodeO c (p.2 pos.line pos.col)) ∧ c ∉ G.al ∧ ¬ G.F c
theorem TabsOk.step {T : List NdefX.NTab} {G G' : Gh} {H H' : Hp} (t : TabsOk T G H) (h : ∀ a u, H a = some u → ¬ NoX u → a ∉ G.al → ¬ G.F a → H' a = some u ∧ a ∉ G'.al ∧ ¬ G'.F a) : TabsOk T G' H' := fun p hp => by
  obtain ⟨ps, h1, h2, h3, h4, h5⟩ := t p hp
  obtain ⟨k1, k2, k3⟩ := h _ _ h1 (fun z => z.2 _ rfl) h3 h4
  refine ⟨ps, k1, h2, k2, k3, fun pos cv e => ?_⟩
  obtain ⟨c, e1, e2, e3, e4⟩ := h5 pos cv e
  obtain ⟨j1, j2, j3⟩ := h _ _ e2 (fun z => z.1 _ rfl) e3 e4
  exact ⟨c, e1, j1, j2, j3⟩
/-- the entry of a def -/
structure Ent where
  G : Gh
  H : Hp
  T : List NdefX.NTab
  ok : TabsOk T G H
structure HpRep (K : PySem.W.Frag) (G : Gh) (h : List PO) (H : Hp) : Prop where
  fdom : ∀ a, G.F a → ∃ u, H a = some u ∧ NoX u
  nd : G.al.Nodup
  len : h.length = G.al.length
  obj : ∀ (r : Nat) (a : Addr) (o : PO), G.al[r]? = some a → h[r]? = some o → ¬ G.F a ∧ ∃ u, H a = some u ∧ RepO K G H o u
structure Post (T : List NdefX.NTab) (G0 : Gh) (H0 : Hp) (G : Gh) (H : Hp) : Prop where
  f : ∀ a, G0.F a → G.F a
  fnew : ∀ a, G.F a → G0.F a ∨ H0 a = none
  al : ∃ l, G.al = G0.al ++ l ∧ ∀ a ∈ l, H0 a = none
  keep : ∀ a u, H0 a = some u → a ∉ G0.al → ¬ G0.F a → (∀ ps, u ≠ .tbl ps) → H a = some u
  tabs : TabsOk T G0 H0 → TabsOk T G H
  rd : ∀ a u, G0.F a → Plain u → Rd H0 a u → Rd H a u
  dom : ∀ a, H a = none → H0 a = none
  fz : ∀ a o u, G0.F a → H0 a = some (.frz o u) → H a = some (.frz o u)
theorem Post.refl (T : List NdefX.NTab) (G : Gh) (H : Hp) : Post T G H G H := ⟨fun _ h => h, fun _ h => .inl h, ⟨[], by simp, by simp⟩, fun _ _ h _ _ _ => h, fun h => h, fun _ _ _ _ h => h, fun _ h => h, fun _ _ _ _ h => h⟩
theorem Post.ext {T : List NdefX.NTab} {G0 : Gh} {H0 : Hp} {G : Gh} {H : Hp} (p : Post T G0 H0 G H) : Ext G0 H0 G H := by
  refine ⟨p.f, p.rd, fun r a h => ?_, p.fz⟩
  obtain ⟨l, e, _⟩ := p.al
  rw [e, List.getElem?_append_left (List.getElem?_eq_some_iff.mp h).1]
  exact h
theorem Post.noal {T : List NdefX.NTab} {G0 : Gh} {H0 : Hp} {G : Gh} {H : Hp} (p : Post T G0 H0 G H) {a : Addr} {u : HO} (h : H0 a = some u) (n : a ∉ G0.al) : a ∉ G.al := by
  obtain ⟨l, e, q⟩ := p.al
  rw [e, List.mem_append]
  rintro (z | z)
  · exact n z
  · rw [q a z] at h; cases h
theorem Post.nof {T : List NdefX.NTab} {G0 : Gh} {H0 : Hp} {G : Gh} {H : Hp} (p : Post T G0 H0 G H) {a : Addr} {u : HO} (h : H0 a = some u) (n : ¬ G0.F a) : ¬ G.F a := fun z => by
  rcases p.fnew a z with z | z
  · exact n z
  · rw [z] at h; cases h
theorem Post.trans {T : List NdefX.NTab} {G0 G1 G2 : Gh} {H0 H1 H2 : Hp} (p : Post T G0 H0 G1 H1) (q : Post T G1 H1 G2 H2) : Post T G0 H0 G2 H2 := by
  refine ⟨fun a h => q.f a (p.f a h), fun a h => ?_, ?_, fun a u h n m nt => ?_, fun t => q.tabs (p.tabs t), fun a u h pl r => q.rd a u (p.f a h) pl (p.rd a u h pl r), fun a h => p.dom a (q.dom a h), fun a o u h r => q.fz a o u (p.f a h) (p.fz a o u h r)⟩
  · rcases q.fnew a h with z | z
    · exact p.fnew a z
    · exact .inr (p.dom a z)
  · obtain ⟨l, e, x⟩ := p.al
    obtain ⟨l', e', x'⟩ := q.al
    refine ⟨l ++ l', by rw [e', e, List.append_assoc], fun a ha => ?_⟩
    rcases List.mem_append.mp ha with z | z
    · exact x a z
    · exact p.dom a (x' a z)
  · exact q.keep a u (p.keep a u h n m nt) (p.noal h n) (p.nof h m) nt

/-- an address that a slot alone holds -/
def OwnAt (r : List (Option LV)) (s : L2.St) (a : Addr) : Prop := ∃ (i : Nat) (o : PO), r[i]? = some (some (LV.own o)) ∧ s[i]? = some (some (V.ref a))
structure StRep (K : PySem.W.Frag) (E : Ent) (G : Gh) (M : Mem) (s : L2.St) (H : Hp) : Prop where
  post : Post E.T E.G E.H G H
  hp : HpRep K G M.h H
  len : M.r.length = s.length
  slot : ∀ (i : Nat) (p : PV), M.r[i]? = some (some (.v p)) → ∃ u, s[i]? = some (some u) ∧ RepV K G H p u
  own : ∀ (i : Nat) (o : PO), M.r[i]? = some (some (.own o)) → ∃ a u, s[i]? = some (some (.ref a)) ∧ H a = some u ∧ RepO K G H o u ∧ E.H a = none ∧ ¬ G.F a ∧ a ∉ G.al
  sep : ∀ (i j : Nat) (o o' : PO) (a : Addr), M.r[i]? = some (some (.own o)) → M.r[j]? = some (some (.own o')) → s[i]? = some (some (.ref a)) → s[j]? = some (some (.ref a)) → i = j
/-- what an expression's run keeps -/
structure Evo (s : L2.St) (G : Gh) (M : Mem) (H : Hp) (G' : Gh) (M' : Mem) (H' : Hp) : Prop where
  ext : Ext G H G' H'
  keep : ∀ a u, H a = some u → a ∉ G.al → ¬ G.F a → ¬ OwnAt M.r s a → (∀ ps, u ≠ .tbl ps) → H' a = some u ∧ a ∉ G'.al ∧ ¬ G'.F a
  own : ∀ a, OwnAt M'.r s a → OwnAt M.r s a
  dom : ∀ a, H' a = none → H a = none
theorem Evo.refl (s : L2.St) (G : Gh) (M : Mem) (H : Hp) : Evo s G M H G M H := ⟨Ext.refl _ _, fun _ _ h a b c _ => ⟨h, a, b⟩, fun _ h => h, fun _ h => h⟩
theorem Evo.trans {s : L2.St} {G0 G1 G2 : Gh} {M0 M1 M2 : Mem} {H0 H1 H2 : Hp} (x : Evo s G0 M0 H0 G1 M1 H1) (y : Evo s G1 M1 H1 G2 M2 H2) : Evo s G0 M0 H0 G2 M2 H2 :=
  ⟨x.ext.trans y.ext, fun a u h n f o nt => by obtain ⟨h1, n1, f1⟩ := x.keep a u h n f o nt; exact y.keep a u h1 n1 f1 (fun z => o (x.own a z)) nt, fun a h => x.own a (y.own a h), fun a h => x.dom a (y.dom a h)⟩

/-- what an expression gives: a value; a new thing that nothing else holds; the thing that a slot alone holds -/
inductive EV where
  | v (p : PV)
  | fr (o : PO)
  | sl (i : Nat)
/-- H0: the heap as the expression's run began -/
def RepE (K : PySem.W.Frag) (E : Ent) (H0 : Hp) (G : Gh) (M : Mem) (s : L2.St) (H : Hp) : EV → V → Prop
  | .v p, u => RepV K G H p u
  | .fr o, u => ∃ a w, u = .ref a ∧ H a = some w ∧ RepO K G H o w ∧ E.H a = none ∧ ¬ G.F a ∧ a ∉ G.al ∧ ¬ OwnAt M.r s a ∧ H0 a = none
  | .sl i, u => s[i]? = some (some u)
theorem RepE.evo {K : PySem.W.Frag} {E : Ent} {s : L2.St} {G G' : Gh} {M M' : Mem} {H0 H H' : Hp} (x : Evo s G M H G' M' H') : ∀ {e : EV} {u : V}, RepE K E H0 G M s H e u → RepE K E H0 G' M' s H' e u
  | .v p, u, h => RepV.mono x.ext p u h
  | .fr o, u, ⟨a, w, e, h, r, n, f, l, ow, z⟩ => by
    obtain ⟨h1, l1, f1⟩ := x.keep a w h l f ow r.nox.2
    exact ⟨a, w, e, h1, r.mono x.ext, n, f1, l1, fun y => ow (x.own a y), z⟩
  | .sl i, u, h => h
theorem RepE.old {K : PySem.W.Frag} {E : Ent} {s : L2.St} {G : Gh} {M : Mem} {H0 H1 H : Hp} (x : ∀ a, H1 a = none → H0 a = none) : ∀ {e : EV} {u : V}, RepE K E H1 G M s H e u → RepE K E H0 G M s H e u
  | .v p, u, h => h
  | .fr o, u, ⟨a, w, e, h, r, n, f, l, ow, z⟩ => ⟨a, w, e, h, r, n, f, l, ow, x a z⟩
  | .sl i, u, h => h
/-- a def's answer, seen by the caller -/
def RepR (K : PySem.W.Frag) (H0 : Hp) (G : Gh) (H : Hp) : EV → V → Prop
  | .v p, u => RepV K G H p u
  | .fr o, u => ∃ a w, u = .ref a ∧ H a = some w ∧ RepO K G H o w ∧ H0 a = none ∧ ¬ G.F a ∧ a ∉ G.al
  | .sl _, _ => False

/-! ### steps of the ghosts -/
section
variable {K : PySem.W.Frag} {E : Ent} {G : Gh} {M : Mem} {s : L2.St} {H : Hp}
theorem Rd.upd_ne {H : Hp} {a p : Addr} {o u : HO} (n : a ≠ p) (h : Rd H a u) : Rd (upd H p o) a u := by
  rcases h with h | ⟨x, h⟩
  · exact .inl (by rw [L2.upd_ne n]; exact h)
  · exact .inr ⟨x, by rw [L2.upd_ne n]; exact h⟩
theorem HpRep.nF (h : HpRep K G M.h H) {p : Addr} (hp : H p = none) : ¬ G.F p := fun z => by
  obtain ⟨u, e, _⟩ := h.fdom p z
  rw [hp] at e; cases e
theorem HpRep.nAl {hh : List PO} (h : HpRep K G hh H) {p : Addr} (hp : H p = none) : p ∉ G.al := fun z => by
  obtain ⟨r, hr⟩ := List.getElem?_of_mem z
  have hl : r < hh.length := by rw [h.len]; exact (List.getElem?_eq_some_iff.mp hr).1
  obtain ⟨_, u, e, _⟩ := h.obj r p hh[r] hr (List.getElem?_eq_getElem hl)
  rw [e] at hp; cases hp
/-- a write at an address that is not frozen: values stay -/
theorem ext_upd {p : Addr} {o : HO} (nf : ¬ G.F p) : Ext G H G (upd H p o) :=
  ⟨fun _ h => h, fun a u f _ r => Rd.upd_ne (fun e => nf (e ▸ f)) r, fun _ _ h => h, fun a o u f r => by rw [L2.upd_ne (show a ≠ p from fun e => nf (e ▸ f))]; exact r⟩
theorem post_upd {T : List NdefX.NTab} {G0 : Gh} {H0 : Hp} {p : Addr} {o : HO} (x : Post T G0 H0 G H) (nf : ¬ G.F p) (h : p ∈ G.al ∨ H0 p = none) (nx : ∀ u, H p = some u → NoX u) : Post T G0 H0 G (upd H p o) := by
  refine ⟨x.f, x.fnew, x.al, fun a u e n m nt => ?_, fun t => (x.tabs t).step fun a u e nn n m => ⟨?_, n, m⟩, fun a u f pl r => ?_, fun a e => ?_, fun a o' u f r => by rw [L2.upd_ne (show a ≠ p from fun z => nf (z ▸ x.f a f))]; exact x.fz a o' u f r⟩
  · have ne : a ≠ p := fun z => by
      subst z
      rcases h with h | h
      · exact x.noal e n h
      · rw [h] at e; cases e
    rw [L2.upd_ne ne]
    exact x.keep a u e n m nt
  · have ne : a ≠ p := fun z => by subst z; exact nn (nx u e)
    rw [L2.upd_ne ne]; exact e
  · exact Rd.upd_ne (fun z => nf (z ▸ x.f a f)) (x.rd a u f pl r)
  · by_cases z : a = p
    · subst z; rw [upd_same] at e; cases e
    · rw [L2.upd_ne z] at e
      exact x.dom a e
theorem hprep_upd {hh : List PO} {p : Addr} {o : HO} (x : HpRep K G hh H) (nf : ¬ G.F p) (na : p ∉ G.al) : HpRep K G hh (upd H p o) := by
  refine ⟨fun a f => ?_, x.nd, x.len, fun r a ob e e' => ?_⟩
  · obtain ⟨u, e, n⟩ := x.fdom a f
    exact ⟨u, by rw [L2.upd_ne (fun z => nf (by rw [← z]; exact f))]; exact e, n⟩
  · obtain ⟨f, u, q, rr⟩ := x.obj r a ob e e'
    exact ⟨f, u, by rw [L2.upd_ne (fun z => na (by rw [← z]; exact List.mem_of_getElem? e))]; exact q, rr.mono (ext_upd nf)⟩
/-- a new object is laid -/
theorem StRep.laid (R : StRep K E G M s H) {p : Addr} (o : HO) (hp : H p = none) : StRep K E G M s (upd H p o) ∧ Evo s G M H G M (upd H p o) ∧ E.H p = none ∧ ¬ G.F p ∧ p ∉ G.al ∧ ¬ OwnAt M.r s p := by
  have nf := R.hp.nF hp
  have na := R.hp.nAl hp
  have eh := R.post.dom p hp
  have x := ext_upd (H := H) (o := o) nf
  refine ⟨⟨post_upd R.post nf (.inr eh) (fun u z => by rw [hp] at z; cases z), hprep_upd R.hp nf na, R.len, fun i q e => ?_, fun i ob e => ?_, R.sep⟩, ⟨x, fun a u e n f ow _ => ⟨?_, n, f⟩, fun _ h => h, fun a e => ?_⟩, eh, nf, na, fun ⟨i, ob, e, e'⟩ => ?_⟩
  · obtain ⟨u, h1, h2⟩ := R.slot i q e
    exact ⟨u, h1, RepV.mono x _ _ h2⟩
  · obtain ⟨a, u, h1, h2, h3, h4⟩ := R.own i ob e
    exact ⟨a, u, h1, by rw [L2.upd_ne (ne_of_none h2 hp)]; exact h2, h3.mono x, h4⟩
  · rw [L2.upd_ne (ne_of_none e hp)]; exact e
  · by_cases z : a = p
    · subst z; rw [upd_same] at e; cases e
    · rwa [L2.upd_ne z] at e
  · obtain ⟨a, u, h1, h2, _⟩ := R.own i ob e
    rw [h1] at e'
    cases e'
    rw [h2] at hp; cases hp
/-- the ghosts with one more frozen address -/
def Gh.fz (G : Gh) (p : Addr) : Gh := ⟨fun a => G.F a ∨ a = p, G.al⟩
theorem Gh.ext_fz (G : Gh) (H : Hp) (p : Addr) : Ext G H (G.fz p) H := ⟨fun _ h => .inl h, fun _ _ _ _ h => h, fun _ _ h => h, fun _ _ _ _ h => h⟩
/-- freezing what nothing holds but a value to be -/
theorem StRep.frozen (R : StRep K E G M s H) {p : Addr} {u : HO} (hp : H p = some u) (eh : E.H p = none) (na : p ∉ G.al) (no : ¬ OwnAt M.r s p) (nx : NoX u := by exact ⟨fun _ z => (nomatch z), fun _ z => (nomatch z)⟩) : StRep K E (G.fz p) M s H := by
  have x := G.ext_fz H p
  refine ⟨⟨fun a h => .inl (R.post.f a h), fun a h => ?_, R.post.al, R.post.keep, fun t => (R.post.tabs t).step fun a v e nn n m => ⟨e, n, fun z => z.elim m fun z => by subst z; rw [hp] at e; cases e; exact nn nx⟩, R.post.rd, R.post.dom, R.post.fz⟩, ⟨fun a h => ?_, R.hp.nd, R.hp.len, fun r a o e e' => ?_⟩, R.len, fun i q e => ?_, fun i o e => ?_, R.sep⟩
  · rcases h with h | h
    · exact R.post.fnew a h
    · exact .inr (h ▸ eh)
  · rcases h with h | h
    · exact R.hp.fdom a h
    · exact ⟨u, by rw [h]; exact hp, nx⟩
  · obtain ⟨f, w, q, rr⟩ := R.hp.obj r a o e e'
    refine ⟨fun z => z.elim f fun z => na (z ▸ List.mem_of_getElem? e), w, q, rr.mono x⟩
  · obtain ⟨w, h1, h2⟩ := R.slot i q e
    exact ⟨w, h1, RepV.mono x _ _ h2⟩
  · obtain ⟨a, w, h1, h2, h3, h4, h5, h6⟩ := R.own i o e
    exact ⟨a, w, h1, h2, h3.mono x, h4, fun z => z.elim h5 fun z => no ⟨i, o, e, z ▸ h1⟩, h6⟩
theorem Evo.frozen {G0 : Gh} {M0 : Mem} {H0 : Hp} (x : Evo s G0 M0 H0 G M H) {p : Addr} (h : H0 p = none ∨ OwnAt M0.r s p) : Evo s G0 M0 H0 (G.fz p) M H := by
  refine ⟨x.ext.trans (G.ext_fz H p), fun a u e n f o nt => ?_, x.own, x.dom⟩
  obtain ⟨h1, h2, h3⟩ := x.keep a u e n f o nt
  refine ⟨h1, h2, fun z => z.elim h3 fun z => ?_⟩
  subst z
  rcases h with h | h
  · rw [h] at e; cases e
  · exact o h
/-- slots are forgotten, or told by less -/
theorem StRep.slots (R : StRep K E G M s H) {r' : List (Option LV)} (hl : r'.length = M.r.length) (h : ∀ (i : Nat) (x : LV), r'[i]? = some (some x) → M.r[i]? = some (some x) ∨ ∃ p u, x = .v p ∧ s[i]? = some (some u) ∧ RepV K G H p u) :
    StRep K E G ⟨r', M.h⟩ s H := by
  refine ⟨R.post, R.hp, hl.trans R.len, fun i q e => ?_, fun i o e => ?_, fun i j o o' a e e' => ?_⟩
  · rcases h i _ e with z | ⟨p, u, z, e1, e2⟩
    · exact R.slot i q z
    · cases z; exact ⟨u, e1, e2⟩
  · rcases h i _ e with z | ⟨p, u, z, e1, e2⟩
    · exact R.own i o z
    · cases z
  · rcases h i _ e with z | ⟨p, u, z, e1, e2⟩
    · rcases h j _ e' with z' | ⟨p', u', z', e1', e2'⟩
      · exact R.sep i j o o' a z z'
      · cases z'
    · cases z
/-- the thing of a slot is written -/
theorem StRep.wrote (R : StRep K E G M s H) {i : Nat} {o o' : PO} {a : Addr} {u' : HO} (hi : M.r[i]? = some (some (.own o))) (hs : s[i]? = some (some (.ref a))) (ho : RepO K G H o' u') :
    StRep K E G ⟨M.r.set i (some (.own o')), M.h⟩ s (upd H a u') ∧ Evo s G M H G ⟨M.r.set i (some (.own o')), M.h⟩ (upd H a u') := by
  obtain ⟨b, w, h1, h2, h3, h4, h5, h6⟩ := R.own i o hi
  have eb : b = a := by rw [hs] at h1; cases h1; rfl
  subst eb
  have x := ext_upd (H := H) (o := u') h5
  have lt : i < M.r.length := (List.getElem?_eq_some_iff.mp hi).1
  have isown : ∀ (j : Nat) (o2 : PO), (M.r.set i (some (.own o')))[j]? = some (some (.own o2)) → ∃ o3, M.r[j]? = some (some (.own o3)) := fun j o2 e => by
    by_cases z : i = j
    · subst z; exact ⟨o, hi⟩
    · rw [List.getElem?_set_ne z] at e; exact ⟨o2, e⟩
  refine ⟨⟨post_upd R.post h5 (.inr h4) (fun u z => by rw [h2] at z; cases z; exact h3.nox), hprep_upd R.hp h5 h6, by simp [R.len], fun j q e => ?_, fun j ob e => ?_, fun j k o1 o2 c e e' => ?_⟩, ⟨x, fun c v e n f ow _ => ⟨?_, n, f⟩, fun c ⟨j, o2, e, e'⟩ => ?_, fun c e => ?_⟩⟩
  · by_cases z : i = j
    · subst z; rw [List.getElem?_set_self lt] at e; cases e
    · rw [List.getElem?_set_ne z] at e
      obtain ⟨v, k1, k2⟩ := R.slot j q e
      exact ⟨v, k1, RepV.mono x _ _ k2⟩
  · by_cases z : i = j
    · subst z; rw [List.getElem?_set_self lt] at e; cases e
      exact ⟨b, u', hs, upd_same, ho.mono x, h4, h5, h6⟩
    · rw [List.getElem?_set_ne z] at e
      obtain ⟨c, v, k1, k2, k3, k4⟩ := R.own j ob e
      have ne : c ≠ b := fun y => z (R.sep i j o ob b hi e hs (y ▸ k1))
      exact ⟨c, v, k1, by rw [L2.upd_ne ne]; exact k2, k3.mono x, k4⟩
  · obtain ⟨o3, e3⟩ := isown j o1 e
    obtain ⟨o4, e4⟩ := isown k o2 e'
    exact R.sep j k o3 o4 c e3 e4
  · rw [L2.upd_ne (fun (z : c = b) => ow ⟨i, o, hi, by rw [z]; exact hs⟩)]; exact e
  · obtain ⟨o3, e3⟩ := isown j o2 e
    exact ⟨j, o3, e3, e'⟩
  · by_cases z : c = b
    · subst z; rw [upd_same] at e; cases e
    · rwa [L2.upd_ne z] at e
/-- a cell is written -/
theorem StRep.celled (R : StRep K E G M s H) {r : Nat} {o o' : PO} {a : Addr} {u' : HO} (hr : M.h[r]? = some o) (ha : G.al[r]? = some a) (ho : RepO K G H o' u') :
    StRep K E G ⟨M.r, M.h.set r o'⟩ s (upd H a u') ∧ Evo s G M H G ⟨M.r, M.h.set r o'⟩ (upd H a u') := by
  obtain ⟨nf, w, h1, h2⟩ := R.hp.obj r a o ha hr
  have x := ext_upd (H := H) (o := u') nf
  have am : a ∈ G.al := List.mem_of_getElem? ha
  have lt : r < M.h.length := (List.getElem?_eq_some_iff.mp hr).1
  have uniq : ∀ (j : Nat), G.al[j]? = some a → j = r := fun j e => nd_ix R.hp.nd e ha
  refine ⟨⟨post_upd R.post nf (.inl am) (fun u z => by rw [h1] at z; cases z; exact h2.nox), ⟨fun b f => ?_, R.hp.nd, by simp [R.hp.len], fun j b ob e e' => ?_⟩, R.len, fun j q e => ?_, fun j ob e => ?_, R.sep⟩, ⟨x, fun c v e n f ow _ => ⟨?_, n, f⟩, fun c h => h, fun c e => ?_⟩⟩
  · obtain ⟨u, e, n⟩ := R.hp.fdom b f
    exact ⟨u, by rw [L2.upd_ne (fun z => nf (by rw [← z]; exact f))]; exact e, n⟩
  · by_cases z : r = j
    · subst z
      rw [ha] at e; cases e
      rw [List.getElem?_set_self lt] at e'; cases e'
      exact ⟨nf, u', upd_same, ho.mono x⟩
    · rw [List.getElem?_set_ne z] at e'
      obtain ⟨f, v, k1, k2⟩ := R.hp.obj j b ob e e'
      have ne : b ≠ a := fun y => z (uniq j (y ▸ e)).symm
      exact ⟨f, v, by rw [L2.upd_ne ne]; exact k1, k2.mono x⟩
  · obtain ⟨v, k1, k2⟩ := R.slot j q e
    exact ⟨v, k1, RepV.mono x _ _ k2⟩
  · obtain ⟨c, v, k1, k2, k3, k4, k5, k6⟩ := R.own j ob e
    have ne : c ≠ a := fun y => k6 (y ▸ am)
    exact ⟨c, v, k1, by rw [L2.upd_ne ne]; exact k2, k3.mono x, k4, k5, k6⟩
  · rw [L2.upd_ne (fun (z : c = a) => n (by rw [z]; exact am))]; exact e
  · by_cases z : c = a
    · subst z; rw [upd_same] at e; cases e
    · rwa [L2.upd_ne z] at e
end
end HF


end
section
set_option Elab.async false
set_option linter.all false
set_option maxRecDepth 20000
set_option autoImplicit false
/-! HF2: what runs give, as functions of slots and cells; the judgements; names, operators, calls of what is built in. -/
namespace HF
open PySem PySem.Spec PyProof.Rows L2

inductive Res (α : Type) where
  | ok (a : α) (M : Mem)
  | exn (c : Str) (M : Mem)
  | bad
@[simp] def Res.bnd {α β : Type} (x : Res α) (f : α → Mem → Res β) : Res β := match x with
  | .ok a M => f a M
  | .exn c M => .exn c M
  | .bad => .bad
abbrev Sm (α : Type) := Mem → Res α

section
variable (X : Cx) (E : Ent) (W : WX)
/-- what is asked of a run's end -/
def OutP {α : Type} (s : L2.St) (G : Gh) (M : Mem) (H : Hp) (r : Res α) (k : Gh → Mem → Hp → α → Prop) : Prop := match r with
  | .ok a M' => ∀ G' H', Evo s G M H G' M' H' → StRep X.K E G' M' s H' → k G' M' H' a
  | .exn c M' => ∀ G' H' C, Ext G H G' H' → StRep X.K E G' M' s H' → X.mg c = some (.ref C) → W (.ref C) none s H'
  | .bad => False
def tE (f : Sm EV) : TE := fun s H Q => ∃ G M, StRep X.K E G M s H ∧ OutP X E W s G M H (f M) fun G' M' H' ev => ∀ u, RepE X.K E H G' M' s H' ev u → Q u H'
def tP (f : Sm PV) : TE := fun s H Q => ∃ G M, StRep X.K E G M s H ∧ OutP X E W s G M H (f M) fun G' _ H' p => ∀ u, RepV X.K G' H' p u → Q u H'
def tB' (f : Sm Bool) : TT := fun s H Q => ∃ G M, StRep X.K E G M s H ∧ OutP X E W s G M H (f M) fun _ _ H' b => Q b H'
def tL (f : Sm (List PV)) : TA := fun s H Q => ∃ G M, StRep X.K E G M s H ∧ OutP X E W s G M H (f M) fun G' _ H' ps => ∀ us, RepVs X.K G' H' ps us → Q us H'
structure FE (e : Expr) (f : Sm EV) : Prop where
  pe : PE X e (tE X E W f)
structure FP (e : Expr) (f : Sm PV) : Prop where
  pe : PE X e (tP X E W f)
structure FT (e : Expr) (f : Sm Bool) : Prop where
  pe : PT X e (tB' X E W f)
structure FW (e : Expr) (f : Sm Bool) : Prop where
  pe : PW X e (tB' X E W f)
structure FA (es : List Expr) (f : Sm (List PV)) : Prop where
  pe : PA X es (tL X E W f)
end
section
variable {X : Cx} {E : Ent} {W : WX}
theorem OutP.imp {α : Type} {s : L2.St} {G : Gh} {M : Mem} {H : Hp} {r : Res α} {k k' : Gh → Mem → Hp → α → Prop} (h : OutP X E W s G M H r k)
    (i : ∀ G' M' H' a, Evo s G M H G' M' H' → StRep X.K E G' M' s H' → k G' M' H' a → k' G' M' H' a) : OutP X E W s G M H r k' := by
  cases r with
  | ok a M' => exact fun G' H' V R => i G' M' H' a V R (h G' H' V R)
  | exn c M' => exact h
  | bad => exact h
/-- two runs in a row -/
theorem OutP.bnd {α β : Type} {s : L2.St} {G : Gh} {M : Mem} {H : Hp} {r : Res α} {f : α → Mem → Res β} {k : Gh → Mem → Hp → β → Prop} (h : OutP X E W s G M H (r.bnd f) k) :
    OutP X E W s G M H r fun G1 M1 H1 a => OutP X E W s G1 M1 H1 (f a M1) k := by
  cases r with
  | ok a M' =>
    intro G1 H1 V1 R1
    have h : OutP X E W s G M H (f a M') k := h
    show OutP X E W s G1 M' H1 (f a M') k
    generalize f a M' = q at h
    cases q with
    | ok b M2 => exact fun G2 H2 V2 R2 => h G2 H2 (V1.trans V2) R2
    | exn c M2 => exact fun G' H' C x R m => h G' H' C (V1.ext.trans x) R m
    | bad => exact h
  | exn c M' => exact h
  | bad => exact h
theorem PE.weak {e : Expr} {t t' : TE} (h : PE X e t) (i : ∀ s H Q, t' s H Q → t s H Q) : PE X e t' := ⟨fun pins s σ H Q I q => h.run pins s σ H Q I (i _ _ _ q)⟩
theorem PT.weak {e : Expr} {t t' : TT} (h : PT X e t) (i : ∀ s H Q, t' s H Q → t s H Q) : PT X e t' := ⟨fun pins s σ H Q I q => h.run pins s σ H Q I (i _ _ _ q)⟩
theorem PW.weak {e : Expr} {t t' : TT} (h : PW X e t) (i : ∀ s H Q, t' s H Q → t s H Q) : PW X e t' := ⟨fun w pins s σ H Q I q => h.run w pins s σ H Q I (i _ _ _ q)⟩
theorem PA.weak {e : List Expr} {t t' : TA} (h : PA X e t) (i : ∀ s H Q, t' s H Q → t s H Q) : PA X e t' := ⟨fun p pins s σ H Q I q => h.run p pins s σ H Q I (i _ _ _ q)⟩
theorem PS.weak {e : Stmt} {t t' : TS} (h : PS X e t) (i : ∀ D s H, t' D s H → t D s H) : PS X e t' := ⟨fun pins s σ H D I q => h.run pins s σ H D I (i _ _ _ q)⟩
theorem PSs.weak {e : List Stmt} {t t' : TS} (h : PSs X e t) (i : ∀ D s H, t' D s H → t D s H) : PSs X e t' := ⟨fun pins s σ H D I q => h.run pins s σ H D I (i _ _ _ q)⟩

/-! ### one, two operands -/
/-- after a first operand -/
theorem tE_one {f : Sm EV} {β : Type} {g : EV → Mem → Res β} {s : L2.St} {G : Gh} {M : Mem} {H : Hp} {k : Gh → Mem → Hp → β → Prop} {Q : V → Hp → Prop} (R : StRep X.K E G M s H) (h : OutP X E W s G M H ((f M).bnd g) k)
    (i : ∀ G1 M1 H1 a u, Evo s G M H G1 M1 H1 → StRep X.K E G1 M1 s H1 → RepE X.K E H G1 M1 s H1 a u → OutP X E W s G1 M1 H1 (g a M1) k → Q u H1) : tE X E W f s H Q :=
  ⟨G, M, R, h.bnd.imp fun G1 M1 H1 a V1 R1 q u ru => i G1 M1 H1 a u V1 R1 ru q⟩
theorem tP_one {f : Sm PV} {β : Type} {g : PV → Mem → Res β} {s : L2.St} {G : Gh} {M : Mem} {H : Hp} {k : Gh → Mem → Hp → β → Prop} {Q : V → Hp → Prop} (R : StRep X.K E G M s H) (h : OutP X E W s G M H ((f M).bnd g) k)
    (i : ∀ G1 M1 H1 a u, Evo s G M H G1 M1 H1 → StRep X.K E G1 M1 s H1 → RepV X.K G1 H1 a u → OutP X E W s G1 M1 H1 (g a M1) k → Q u H1) : tP X E W f s H Q :=
  ⟨G, M, R, h.bnd.imp fun G1 M1 H1 a V1 R1 q u ru => i G1 M1 H1 a u V1 R1 ru q⟩
theorem tL_one {f : Sm (List PV)} {β : Type} {g : List PV → Mem → Res β} {s : L2.St} {G : Gh} {M : Mem} {H : Hp} {k : Gh → Mem → Hp → β → Prop} {Q : List V → Hp → Prop} (R : StRep X.K E G M s H) (h : OutP X E W s G M H ((f M).bnd g) k)
    (i : ∀ G1 M1 H1 a u, Evo s G M H G1 M1 H1 → StRep X.K E G1 M1 s H1 → RepVs X.K G1 H1 a u → OutP X E W s G1 M1 H1 (g a M1) k → Q u H1) : tL X E W f s H Q :=
  ⟨G, M, R, h.bnd.imp fun G1 M1 H1 a V1 R1 q u ru => i G1 M1 H1 a u V1 R1 ru q⟩
theorem tB_one {f : Sm Bool} {β : Type} {g : Bool → Mem → Res β} {s : L2.St} {G : Gh} {M : Mem} {H : Hp} {k : Gh → Mem → Hp → β → Prop} {Q : Bool → Hp → Prop} (R : StRep X.K E G M s H) (h : OutP X E W s G M H ((f M).bnd g) k)
    (i : ∀ G1 M1 H1 a, Evo s G M H G1 M1 H1 → StRep X.K E G1 M1 s H1 → OutP X E W s G1 M1 H1 (g a M1) k → Q a H1) : tB' X E W f s H Q :=
  ⟨G, M, R, h.bnd.imp fun G1 M1 H1 a V1 R1 q => i G1 M1 H1 a V1 R1 q⟩
/-- an end at once -/
theorem OutP.now {α : Type} {s : L2.St} {G : Gh} {M : Mem} {H : Hp} {a : α} {k : Gh → Mem → Hp → α → Prop} (h : OutP X E W s G M H (.ok a M) k) (R : StRep X.K E G M s H) : k G M H a := h G H (Evo.refl _ _ _ _) R

/-! ### what things hold -/
@[simp] def cellAt (M : Mem) (r : Nat) : Option PO := M.h[r]?
@[simp] def slotAt (M : Mem) (i : Nat) : Option LV := match M.r[i]? with
  | some (some x) => some x
  | _ => none
/-- the list, where it is one -/
@[simp] def asLst (M : Mem) : EV → Option (List PV)
  | .v (.lst xs) => some xs
  | .v (.rol xs) => some xs
  | .v (.ref r) => match cellAt M r with
    | some (.lst xs) => some xs
    | _ => none
  | .fr (.lst xs) => some xs
  | .sl i => match slotAt M i with
    | some (.own (.lst xs)) => some xs
    | _ => none
  | _ => none
@[simp] def asDct (M : Mem) : EV → Option (List Key × List PV)
  | .v (.dct ks xs) => some (ks, xs)
  | .v (.ref r) => match cellAt M r with
    | some (.dct ks xs) => some (ks, xs)
    | _ => none
  | .fr (.dct ks xs) => some (ks, xs)
  | .sl i => match slotAt M i with
    | some (.own (.dct ks xs)) => some (ks, xs)
    | _ => none
  | _ => none
section
variable {K : PySem.W.Frag} {G : Gh} {M : Mem} {s : L2.St} {H H0 : Hp}
theorem slotAt_some {i : Nat} {x : LV} (h : slotAt M i = some x) : M.r[i]? = some (some x) := by
  unfold slotAt at h
  split at h
  · rename_i e; cases h; exact e
  · cases h
theorem StRep.cell (R : StRep K E G M s H) {r : Nat} {o : PO} {a : Addr} (h : cellAt M r = some o) (ha : G.al[r]? = some a) : ∃ u, H a = some u ∧ RepO K G H o u := (R.hp.obj r a o ha h).2
/-- a list that may be read -/
theorem lst_of (R : StRep K E G M s H) {e : EV} {u : V} {xs : List PV} (r : RepE K E H0 G M s H e u) (h : asLst M e = some xs) :
    ∃ a us, u = .ref a ∧ SqL K H a us ∧ RepVs K G H xs us ∧ us.length ≤ sizeLine := by
  cases e with
  | v p =>
    cases p with
    | lst ys =>
      cases h
      have r : RepV K G H (.lst xs) u := r
      simp only [RepV] at r
      obtain ⟨a, us, e, ⟨f0, f1, f2⟩, q⟩ := r
      exact ⟨a, us, e, .inl f2, q, f0⟩
    | rol ys =>
      cases h
      have r : RepV K G H (.rol xs) u := r
      simp only [RepV] at r
      obtain ⟨a, us, e, f, q⟩ := r
      exact ⟨a, us, e, f.sq, q, f.1⟩
    | ref c =>
      have r : RepV K G H (.ref c) u := r
      simp only [RepV] at r
      obtain ⟨a, e, q⟩ := r
      simp only [asLst] at h
      split at h
      · rename_i ec
        cases h
        obtain ⟨w, h1, us, rfl, z, rr⟩ := R.cell ec q
        exact ⟨a, us, e, SqL.of h1, rr, z⟩
      · cases h
    | non => cases h
    | bl b => cases h
    | int b => cases h
    | str b => cases h
    | tup b => cases h
    | dct b c => cases h
    | con b => cases h
    | exc b => cases h
    | fn b => cases h
  | fr o =>
    cases o with
    | lst ys =>
      cases h
      obtain ⟨a, w, e, h1, ⟨us, rfl, z, rr⟩, _⟩ := r
      exact ⟨a, us, e, SqL.of h1, rr, z⟩
    | dct b c => cases h
    | ins b c d => cases h
  | sl i =>
    simp only [asLst] at h
    split at h
    · rename_i ec
      cases h
      obtain ⟨a, w, e, h1, ⟨us, rfl, z, rr⟩, _⟩ := R.own i _ (slotAt_some ec)
      have r : s[i]? = some (some u) := r
      rw [e] at r
      cases r
      exact ⟨a, us, rfl, SqL.of h1, rr, z⟩
    · cases h
@[simp] def asLstR (M : Mem) : EV → Option (List PV)
  | .v (.rol _) => none
  | e => asLst M e
theorem lstR_of (R : StRep K E G M s H) {e : EV} {u : V} {xs : List PV} (r : RepE K E H0 G M s H e u) (h : asLstR M e = some xs) :
    ∃ a us, u = .ref a ∧ Rd H a (.lst us) ∧ RepVs K G H xs us ∧ us.length ≤ sizeLine := by
  cases e with
  | v p =>
    cases p with
    | lst ys =>
      cases h
      have r : RepV K G H (.lst xs) u := r
      simp only [RepV] at r
      obtain ⟨a, us, e, ⟨f0, f1, f2⟩, q⟩ := r
      exact ⟨a, us, e, f2, q, f0⟩
    | ref c =>
      have r : RepV K G H (.ref c) u := r
      simp only [RepV] at r
      obtain ⟨a, e, q⟩ := r
      simp only [asLstR, asLst] at h
      split at h
      · rename_i ec
        cases h
        obtain ⟨w, h1, us, rfl, z, rr⟩ := R.cell ec q
        exact ⟨a, us, e, .inl h1, rr, z⟩
      · cases h
    | non => cases h
    | bl b => cases h
    | int b => cases h
    | str b => cases h
    | tup b => cases h
    | dct b c => cases h
    | con b => cases h
    | exc b => cases h
    | fn b => cases h
    | rol b => cases h
  | fr o =>
    cases o with
    | lst ys =>
      cases h
      obtain ⟨a, w, e, h1, ⟨us, rfl, z, rr⟩, _⟩ := r
      exact ⟨a, us, e, .inl h1, rr, z⟩
    | dct b c => cases h
    | ins b c d => cases h
  | sl i =>
    simp only [asLstR, asLst] at h
    split at h
    · rename_i ec
      cases h
      obtain ⟨a, w, e, h1, ⟨us, rfl, z, rr⟩, _⟩ := R.own i _ (slotAt_some ec)
      have r : s[i]? = some (some u) := r
      rw [e] at r
      cases r
      exact ⟨a, us, rfl, .inl h1, rr, z⟩
    · cases h
theorem tup_of {p : List PV} {u : V} (r : RepV K G H (.tup p) u) : ∃ a us, u = .ref a ∧ SqT K H a us ∧ RepVs K G H p us ∧ us.length ≤ sizeLine := by
  simp only [RepV] at r
  obtain ⟨a, us, e, f, q⟩ := r
  exact ⟨a, us, e, f.sq, q, f.1⟩
theorem dct_of (R : StRep K E G M s H) {e : EV} {u : V} {ks : List Key} {xs : List PV} (r : RepE K E H0 G M s H e u) (h : asDct M e = some (ks, xs)) :
    ∃ a kvs, u = .ref a ∧ Rd H a (.dK kvs) ∧ kvs.map (·.1) = ks ∧ RepVs K G H xs (kvs.map (·.2)) ∧ kvs.length ≤ sizeLine := by
  cases e with
  | v p =>
    cases p with
    | dct ys zs =>
      cases h
      have r : RepV K G H (.dct ks xs) u := r
      simp only [RepV] at r
      obtain ⟨a, us, e, ⟨_, f⟩, z, q, rr⟩ := r
      exact ⟨a, us, e, f, q, rr, z⟩
    | ref c =>
      have r : RepV K G H (.ref c) u := r
      simp only [RepV] at r
      obtain ⟨a, e, q⟩ := r
      simp only [asDct] at h
      split at h
      · rename_i ec
        cases h
        obtain ⟨w, h1, us, rfl, z, k, rr⟩ := R.cell ec q
        exact ⟨a, us, e, .inl h1, k, rr, z⟩
      · cases h
    | non => cases h
    | bl b => cases h
    | int b => cases h
    | str b => cases h
    | tup b => cases h
    | lst c => cases h
    | con b => cases h
    | exc b => cases h
    | fn b => cases h
    | rol c => cases h
  | fr o =>
    cases o with
    | dct ys zs =>
      cases h
      obtain ⟨a, w, e, h1, ⟨us, rfl, z, k, rr⟩, _⟩ := r
      exact ⟨a, us, e, .inl h1, k, rr, z⟩
    | lst c => cases h
    | ins b c d => cases h
  | sl i =>
    simp only [asDct] at h
    split at h
    · rename_i ec
      cases h
      obtain ⟨a, w, e, h1, ⟨us, rfl, z, k, rr⟩, _⟩ := R.own i _ (slotAt_some ec)
      have r : s[i]? = some (some u) := r
      rw [e] at r
      cases r
      exact ⟨a, us, rfl, .inl h1, k, rr, z⟩
    · cases h
end

/-! ### a thing becomes a value -/
@[simp] def poV : PO → Option PV
  | .lst xs => some (.lst xs)
  | .dct ks xs => some (.dct ks xs)
  | .ins _ _ _ => none
@[simp] def toP1 (e : EV) (M : Mem) : Res PV := match e with
  | .v p => .ok p M
  | .fr o => match poV o with
    | some p => .ok p M
    | none => .bad
  | .sl i => match slotAt M i with
    | some (.own o) => match poV o with
      | some p => .ok p ⟨M.r.set i (some (.v p)), M.h⟩
      | none => .bad
    | _ => .bad
@[simp] def toP (f : Sm EV) : Sm PV := fun M => (f M).bnd toP1
theorem poV_rep {K : PySem.W.Frag} {G : Gh} {H : Hp} {o : PO} {p : PV} {w : HO} {a : Addr} (h : poV o = some p) (r : RepO K G H o w) (ha : H a = some w) : RepV K (G.fz a) H p (.ref a) := by
  have x := G.ext_fz H a
  cases o with
  | lst xs =>
    cases h
    obtain ⟨us, rfl, z, rr⟩ := r
    simp only [RepV]
    exact ⟨a, us, rfl, ⟨z, .inr rfl, .inl ha⟩, RepVs.mono x _ _ rr⟩
  | dct ks xs =>
    cases h
    obtain ⟨us, rfl, z, k, rr⟩ := r
    simp only [RepV]
    exact ⟨a, us, rfl, ⟨.inr rfl, .inl ha⟩, z, k, RepVs.mono x _ _ rr⟩
  | ins C ns xs => cases h
/-- the end of toP1, seen from the run's beginning -/
theorem OutP.toP1 {s : L2.St} {G G1 : Gh} {M M1 : Mem} {H H1 : Hp} {e : EV} {u : V} {k : Gh → Mem → Hp → PV → Prop} (V1 : Evo s G M H G1 M1 H1) (R1 : StRep X.K E G1 M1 s H1) (r : RepE X.K E H G1 M1 s H1 e u)
    (h : OutP X E W s G M H (HF.toP1 e M1) k) : ∃ G2 M2 p, Evo s G M H G2 M2 H1 ∧ StRep X.K E G2 M2 s H1 ∧ RepV X.K G2 H1 p u ∧ k G2 M2 H1 p := by
  cases e with
  | v p => exact ⟨G1, M1, p, V1, R1, r, h G1 H1 V1 R1⟩
  | fr o =>
    obtain ⟨a, w, rfl, h1, ro, n, nf, nl, no, z⟩ := r
    simp only [HF.toP1] at h
    split at h
    · rename_i p ep
      have R2 := R1.frozen h1 n nl no ro.nox
      have V2 := V1.frozen (p := a) (.inl z)
      exact ⟨G1.fz a, M1, p, V2, R2, poV_rep ep ro h1, h _ _ V2 R2⟩
    · exact False.elim h
  | sl i =>
    simp only [HF.toP1] at h
    split at h
    · rename_i o eo
      split at h
      · rename_i p ep
        have ei := slotAt_some eo
        obtain ⟨a, w, e, h1, ro, n, nf, nl⟩ := R1.own i o ei
        have r : s[i]? = some (some u) := r
        rw [e] at r
        cases r
        have ow : OwnAt M.r s a := V1.own a ⟨i, o, ei, e⟩
        have lt : i < M1.r.length := (List.getElem?_eq_some_iff.mp ei).1
        have rv := poV_rep ep ro h1
        -- the slot first forgets, then the address is frozen, then the slot has the value
        have Rf : StRep X.K E G1 ⟨M1.r.set i none, M1.h⟩ s H1 := R1.slots (by simp) fun j x ej => by
          by_cases zj : i = j
          · subst zj; rw [List.getElem?_set_self lt] at ej; cases ej
          · rw [List.getElem?_set_ne zj] at ej; exact .inl ej
        have nof : ¬ OwnAt (M1.r.set i none) s a := fun ⟨j, o2, e1, e2⟩ => by
          by_cases zj : i = j
          · subst zj; rw [List.getElem?_set_self lt] at e1; cases e1
          · rw [List.getElem?_set_ne zj] at e1
            exact zj (R1.sep i j o o2 a ei e1 e e2)
        have Rz := Rf.frozen h1 n nl nof ro.nox
        have R2 : StRep X.K E (G1.fz a) ⟨M1.r.set i (some (.v p)), M1.h⟩ s H1 := Rz.slots (r' := M1.r.set i (some (.v p))) (by simp) fun j x ej => by
          by_cases zj : i = j
          · subst zj; rw [List.getElem?_set_self lt] at ej; cases ej
            exact .inr ⟨p, .ref a, rfl, e, rv⟩
          · rw [List.getElem?_set_ne zj] at ej
            exact .inl (by show (M1.r.set i none)[j]? = _; rw [List.getElem?_set_ne zj]; exact ej)
        have V2 : Evo s G M H (G1.fz a) ⟨M1.r.set i (some (.v p)), M1.h⟩ H1 := by
          have V3 := V1.frozen (p := a) (.inr ow)
          refine ⟨V3.ext, V3.keep, fun b ⟨j, o2, e1, e2⟩ => V1.own b ?_, V3.dom⟩
          by_cases zj : i = j
          · subst zj; rw [List.getElem?_set_self lt] at e1; cases e1
          · rw [List.getElem?_set_ne zj] at e1; exact ⟨j, o2, e1, e2⟩
        exact ⟨_, _, p, V2, R2, rv, h _ _ V2 R2⟩
      · exact False.elim h
    · exact False.elim h
theorem FE.toP {e : Expr} {f : Sm EV} (h : FE X E W e f) : FP X E W e (HF.toP f) := by
  refine ⟨PE.weak h.pe ?_⟩
  rintro s H Q ⟨G, M, R, h⟩
  refine ⟨G, M, R, ?_⟩
  simp only [HF.toP] at h
  generalize f M = q at h
  cases q with
  | ok ev M1 =>
    intro G1 H1 V1 R1 u ru
    obtain ⟨G2, M2, p, _, _, rv, q⟩ := OutP.toP1 V1 R1 ru (k := fun G' _ H' p => ∀ u, RepV X.K G' H' p u → Q u H') h
    exact q u rv
  | exn c M1 => exact h
  | bad => exact h
end
end HF


end
section
set_option Elab.async false
set_option linter.all false
set_option maxRecDepth 20000
set_option autoImplicit false
/-! HF3: names, constants, operators, comparisons, and, or, not, displays, subscripts, slices. -/
namespace HF
open PySem PySem.Spec PyProof.Rows L2

/-- what is known of the place where code runs -/
structure Wd where
  P : Program
  w : World
  K : PySem.W.Frag
  mg : Str → Option Value
  base : Heap
  T : List NdefX.NTab := []
structure Amb (Z : Wd) (X : Cx) (W : WX) (N : List Str) (sc : Scope) (fs : Str → Bool) (k : Nat) : Prop where
  hN : X.N = N
  fn : X.fn = fs
  same : X.prog = Z.P ∧ X.w = Z.w ∧ X.K = Z.K ∧ X.mg = Z.mg ∧ X.base = Z.base
  hs : X.env.scope = sc
  nd : N.Nodup
  calm : X.calm = true
  room : Room k X.A
  tk : Takes X W
  po : PassesOwn (model X.prog X.w) X.A X.env X.xe
def visB (sc : Scope) (x : Str) : Bool := match sc.names.lookup x with
  | some .local => true
  | some .cell => true
  | some .free => true
  | _ => false
theorem vis_of {sc : Scope} {x : Str} (h : visB sc x = true) : Vis sc x := by
  unfold visB at h
  split at h
  · rename_i e; exact .inl e
  · rename_i e; exact .inr (.inl e)
  · rename_i e; exact .inr (.inr e)
  · cases h
section
variable {X : Cx} {E : Ent} {W : WX} {N : List Str} {sc : Scope} {fs : Str → Bool} {k : Nat} {Z : Wd}
theorem Amb.u64 (A : Amb Z X W N sc fs k) : X.A.units + 64 < cLine := A.room.units
theorem Amb.u65 (A : Amb Z X W N sc fs k) : X.A.units + 65 < cLine := by have := A.room.un; omega
theorem Amb.u1 (A : Amb Z X W N sc fs k) : X.A.units + 1 < cLine := by have := A.room.un; omega
theorem Amb.gl (A : Amb Z X W N sc fs k) {x : Str} (h : sc.names.lookup x = some .globalImplicit) : Gl X x := by
  show X.env.scope.names.lookup x = _
  rw [A.hs]; exact h

/-! ### names and constants -/
@[simp] def eVar (i : Nat) : Sm EV := fun M => match slotAt M i with
  | some (.v p) => .ok (.v p) M
  | some (.own _) => .ok (.sl i) M
  | none => .bad
theorem fe_var (A : Amb Z X W N sc fs k) {i : Nat} {x : Str} {pos : Pos} (hN : N[i]? = some x) (hv : visB sc x = true) (hd : (x == ("__debug__" : Str)) = false := by decide) (hcd : (x == ("__classdict__" : Str)) = false := by decide) : FE X E W (.Name x pos) (eVar i) := by
  refine ⟨PE.weak (pe_var (i := i) (by rw [A.hN]; exact hN) (by rw [A.hs]; exact vis_of hv) hd hcd) ?_⟩
  rintro s H Q ⟨G, M, R, h⟩
  simp only [eVar] at h
  split at h
  · rename_i p e
    obtain ⟨u, e1, r⟩ := R.slot i p (slotAt_some e)
    exact ⟨u, e1, h.now R u r⟩
  · rename_i o e
    obtain ⟨a, u, e1, h1, _⟩ := R.own i o (slotAt_some e)
    exact ⟨.ref a, e1, h.now R (.ref a) e1⟩
  · exact False.elim h
@[simp] def eC (p : PV) : Sm EV := fun M => .ok (.v p) M
theorem fe_const {e : Expr} {v : V} {p : PV} (h : PE X e (tC v)) (r : ∀ G H, RepV X.K G H p v) : FE X E W e (eC p) := by
  refine ⟨PE.weak h ?_⟩
  rintro s H Q ⟨G, M, R, h⟩
  exact h.now R v (r G H)
theorem fe_int {i : Int} {j pos} : FE X E W (.Constant (.int i) j pos) (eC (.int i)) := fe_const pe_int fun _ _ => by simp only [RepV]
theorem fe_bl {b : Bool} {j pos} : FE X E W (.Constant (.bool b) j pos) (eC (.bl b)) := fe_const pe_bl fun _ _ => by simp only [RepV]
theorem fe_non {j pos} : FE X E W (.Constant .none j pos) (eC .non) := fe_const pe_non fun _ _ => by simp only [RepV]
theorem fe_str {x : Str} {j pos} : FE X E W (.Constant (.str x) j pos) (eC (.str x)) := fe_const pe_str fun _ _ => by simp only [RepV]
/-! ### two operands -/
abbrev Op2 := EV → EV → Mem → Option EV
@[simp] def optR {α : Type} (x : Option α) (M : Mem) : Res α := match x with
  | some a => .ok a M
  | none => .bad
@[simp] def e2 (op : Op2) (f g : Sm EV) : Sm EV := fun M => (f M).bnd fun x M1 => (g M1).bnd fun y M2 => optR (op x y M2) M2
def Op2Ok (X : Cx) (r : R2) (op : Op2) : Prop := ∀ (E : Ent) (s : L2.St) (G : Gh) (M : Mem) (H H0 : Hp) (x y : EV) (u v : V) (ev : EV) (Q : VK), StRep X.K E G M s H → (∀ a, H a = none → H0 a = none) →
  RepE X.K E H0 G M s H x u → RepE X.K E H0 G M s H y v → op x y M = some ev → (∀ G' H' w, Evo s G M H G' M H' → StRep X.K E G' M s H' → RepE X.K E H0 G' M s H' ev w → Q w H') → r u v H Q
theorem tE_two {f g : Sm EV} {r : R2} {op : Op2} (ok : Op2Ok X r op) {s : L2.St} {H : Hp} {Q : VK} (h : tE X E W (e2 op f g) s H Q) : tOp r (tE X E W f) (tE X E W g) s H Q := by
  obtain ⟨G, M, R, h⟩ := h
  refine tE_one R h fun G1 M1 H1 x u V1 R1 rx h1 => ?_
  refine tE_one R1 h1 fun G2 M2 H2 y v V2 R2 ry h2 => ?_
  have V := V1.trans V2
  simp only [optR] at h2
  split at h2
  · rename_i ev eo
    refine ok E s G2 M2 H2 H x y u v ev Q R2 V.dom (rx.evo V2) (ry.old V1.dom) eo fun G' H' w V3 R3 rw' => ?_
    exact h2 G' H' V3 R3 w (rw'.old fun _ z => z)
  · exact False.elim h2
section
variable {a b : Expr} {f g : Sm EV} {pos : Pos}
theorem fe_bin {op : Operator} {r : R2} {o : Op2} (ho : OpR X (binaryOp op) r) (k : Op2Ok X r o) (ha : FE X E W a f) (hb : FE X E W b g) : FE X E W (.BinOp a op b pos) (e2 o f g) :=
  ⟨PE.weak (pe_op ho ha.pe hb.pe) fun _ _ _ h => tE_two k h⟩
end
theorem Op2Ok.or {r r' : R2} {o o' : Op2} (h : Op2Ok X r o) (h' : Op2Ok X r' o') : Op2Ok X (fun x y H Q => r x y H Q ∨ r' x y H Q) (fun x y M => (o x y M).or (o' x y M)) := by
  intro E s G M H H0 x y u v ev Q R d rx ry e q
  simp only at e
  cases e1 : o x y M with
  | some w =>
    rw [e1] at e
    cases e
    exact .inl (h E s G M H H0 x y u v _ Q R d rx ry e1 q)
  | none =>
    rw [e1] at e
    exact .inr (h' E s G M H H0 x y u v ev Q R d rx ry e q)
theorem repE_int {E : Ent} {H0 : Hp} {G : Gh} {M : Mem} {s : L2.St} {H : Hp} {i : Int} {u : V} (h : RepE X.K E H0 G M s H (.v (.int i)) u) : u = .int i := by
  have h : RepV X.K G H (.int i) u := h
  simpa only [RepV] using h
theorem repE_str {E : Ent} {H0 : Hp} {G : Gh} {M : Mem} {s : L2.St} {H : Hp} {i : Str} {u : V} (h : RepE X.K E H0 G M s H (.v (.str i)) u) : u = .str i := by
  have h : RepV X.K G H (.str i) u := h
  simpa only [RepV] using h
theorem repE_bl {E : Ent} {H0 : Hp} {G : Gh} {M : Mem} {s : L2.St} {H : Hp} {i : Bool} {u : V} (h : RepE X.K E H0 G M s H (.v (.bl i)) u) : u = .bl i := by
  have h : RepV X.K G H (.bl i) u := h
  simpa only [RepV] using h
theorem repE_tup {E : Ent} {H0 : Hp} {G : Gh} {M : Mem} {s : L2.St} {H : Hp} {p : List PV} {u : V} (h : RepE X.K E H0 G M s H (.v (.tup p)) u) : ∃ a us, u = .ref a ∧ SqT X.K H a us ∧ RepVs X.K G H p us ∧ us.length ≤ sizeLine := tup_of h
/-- two ints to an int -/
@[simp] def opI2 (c : Int → Int → Bool) (f : Int → Int → Int) : Op2 := fun x y _ => match x, y with
  | .v (.int i), .v (.int j) => if c i j then some (.v (.int (f i j))) else none
  | _, _ => none
theorem opI2_ok {C : Int → Int → Prop} {c : Int → Int → Bool} {f : Int → Int → Int} (hc : ∀ i j, c i j = true → C i j) : Op2Ok X (rI C fun i j => .int (f i j)) (opI2 c f) := by
  intro E s G M H H0 x y u v ev Q R d rx ry e q
  simp only [opI2] at e
  split at e
  · split at e
    · rename_i i j z
      cases e
      exact ⟨i, j, repE_int rx, repE_int ry, hc i j z, q G H _ (Evo.refl _ _ _ _) R (show RepV X.K G H (.int (f i j)) _ by simp only [RepV])⟩
    · cases e
  · cases e
@[simp] def opI2' (f : Int → Int → Int) : Op2 := fun x y _ => match x, y with
  | .v (.int i), .v (.int j) => some (.v (.int (f i j)))
  | _, _ => none
theorem opI2'_ok {f : Int → Int → Int} : Op2Ok X (rI0 fun i j => .int (f i j)) (opI2' f) := by
  intro E s G M H H0 x y u v ev Q R d rx ry e q
  simp only [opI2'] at e
  split at e
  · rename_i i j
    cases e
    exact ⟨i, j, repE_int rx, repE_int ry, q G H _ (Evo.refl _ _ _ _) R (show RepV X.K G H (.int (f i j)) _ by simp only [RepV])⟩
  · cases e
@[simp] def opStrCat : Op2 := fun x y _ => match x, y with
  | .v (.str i), .v (.str j) => if i.length + j.length ≤ sizeLine then some (.v (.str (i ++ j))) else none
  | _, _ => none
@[simp] def opTupCat : Op2 := fun x y _ => match x, y with
  | .v (.tup i), .v (.tup j) => if i.length + j.length ≤ sizeLine then some (.v (.tup (i ++ j))) else none
  | _, _ => none
@[simp] def opLstCat : Op2 := fun x y M => match asLstR M x, asLstR M y with
  | some i, some j => if i.length + j.length ≤ sizeLine then some (.fr (.lst (i ++ j))) else none
  | _, _ => none
theorem opStrCat_ok : Op2Ok X (fun x y H Q => ∃ i j, x = .str i ∧ y = .str j ∧ i.length + j.length ≤ sizeLine ∧ Q (.str (i ++ j)) H) opStrCat := by
  intro E s G M H H0 x y u v ev Q R d rx ry e q
  simp only [opStrCat] at e
  split at e
  · rename_i i j
    split at e
    · rename_i z
      cases e
      exact ⟨i, j, repE_str rx, repE_str ry, z, q G H _ (Evo.refl _ _ _ _) R (show RepV X.K G H (.str (i ++ j)) _ by simp only [RepV])⟩
    · cases e
  · cases e
/-- a new tuple -/
theorem rep_newtup {E : Ent} {s : L2.St} {G : Gh} {M : Mem} {H : Hp} {ps : List PV} {us : List V} (R : StRep X.K E G M s H) (r : RepVs X.K G H ps us) (z : us.length ≤ sizeLine) {p : Addr} (hp : H p = none) :
    Evo s G M H (G.fz p) M (upd H p (.tup us)) ∧ StRep X.K E (G.fz p) M s (upd H p (.tup us)) ∧ RepV X.K (G.fz p) (upd H p (.tup us)) (.tup ps) (.ref p) := by
  obtain ⟨R1, V1, eh, nf, na, no⟩ := R.laid (.tup us) hp
  refine ⟨V1.frozen (.inl hp), R1.frozen upd_same eh na no, ?_⟩
  simp only [RepV]
  exact ⟨p, us, rfl, ⟨z, .inl ⟨.inr rfl, .inl upd_same⟩⟩, RepVs.mono (V1.ext.trans (G.ext_fz _ p)) _ _ r⟩
/-- a new list -/
theorem rep_newlst {E : Ent} {s : L2.St} {G : Gh} {M : Mem} {H H0 : Hp} {ps : List PV} {us : List V} (R : StRep X.K E G M s H) (d : ∀ a, H a = none → H0 a = none) (r : RepVs X.K G H ps us) (z : us.length ≤ sizeLine) {p : Addr} (hp : H p = none) :
    Evo s G M H G M (upd H p (.lst us)) ∧ StRep X.K E G M s (upd H p (.lst us)) ∧ RepE X.K E H0 G M s (upd H p (.lst us)) (.fr (.lst ps)) (.ref p) := by
  obtain ⟨R1, V1, eh, nf, na, no⟩ := R.laid (.lst us) hp
  exact ⟨V1, R1, p, _, rfl, upd_same, ⟨us, rfl, z, RepVs.mono V1.ext _ _ r⟩, eh, nf, na, no, d p hp⟩
end
end HF


end
section
set_option Elab.async false
set_option linter.all false
set_option maxRecDepth 20000
set_option autoImplicit false
/-! HF4: tuples, lists, comparisons, tests, displays, subscripts, slices. -/
namespace HF
open PySem PySem.Spec PyProof.Rows L2
section
variable {X : Cx} {E : Ent} {W : WX} {N : List Str} {sc : Scope} {fs : Str → Bool} {k : Nat} {Z : Wd}
theorem opTupCat_ok : Op2Ok X (rCatA X.K) opTupCat := by
  intro E s G M H H0 x y u v ev Q R d rx ry e q
  simp only [opTupCat] at e
  split at e
  · rename_i i j
    split at e
    · rename_i z
      cases e
      obtain ⟨a, us, rfl, ha, ra, za⟩ := repE_tup rx
      obtain ⟨b, vs, rfl, hb, rb, zb⟩ := repE_tup ry
      have l1 := ra.length
      have l2 := rb.length
      refine ⟨a, b, us, vs, rfl, rfl, ha, hb, by omega, fun e => ?_, fun e e' => ?_, fun e e' p hp => ?_⟩
      · subst e
        have ei : i = [] := List.length_eq_zero_iff.mp (by rw [l1]; rfl)
        subst ei
        exact q G H _ (Evo.refl _ _ _ _) R (by simpa using ry)
      · subst e'
        have ei : j = [] := List.length_eq_zero_iff.mp (by rw [l2]; rfl)
        subst ei
        exact q G H _ (Evo.refl _ _ _ _) R (by simpa using rx)
      · obtain ⟨V1, R1, r1⟩ := rep_newtup R (ra.append rb) (by rw [List.length_append]; omega) hp
        exact q _ _ _ V1 R1 r1
    · cases e
  · cases e
/-- a list and a list, known ones too -/
def rCatR : R2 := fun x y H Q => ∃ l b xs zs, x = .ref l ∧ y = .ref b ∧ Rd H l (.lst xs) ∧ Rd H b (.lst zs) ∧ xs.length + zs.length ≤ sizeLine ∧ ∀ p, H p = none → Q (.ref p) (upd H p (.lst (xs ++ zs)))
theorem op_catR : OpR X (binaryOp .Add) rCatR := by
  intro pins s σ H x y v u Q I rx ry h
  obtain ⟨l, b, xs, zs, rfl, rfl, hH, hB, hz, q⟩ := h
  cases rx
  cases ry
  obtain ⟨z, its, n, r, e⟩ : ObjOk X.prog X.w H s.heap l (.lst xs) := hH.ok I.hok
  obtain ⟨z2, its2, n2, r2, e2⟩ : ObjOk X.prog X.w H s.heap b (.lst zs) := hB.ok I.hok
  have hl := r.length
  have hl2 := r2.length
  refine PySem.P.add_list e e2 ?_ (by rw [List.size_toArray, List.size_toArray]; omega)
  have ea : its.toArray ++ its2.toArray = (its ++ its2).toArray := by simp
  rw [ea]
  exact ⟨.ref _, _, I.lnew (t' := s.toks) (r.append r2) (by rw [List.length_append]; omega), rfl, q _ I.fresh⟩
theorem opLstCat_ok : Op2Ok X rCatR opLstCat := by
  intro E s G M H H0 x y u v ev Q R d rx ry e q
  simp only [opLstCat] at e
  split at e
  · rename_i i j e1 e2
    split at e
    · rename_i z
      cases e
      obtain ⟨a, us, rfl, ha, ra, za⟩ := lstR_of R rx e1
      obtain ⟨b, vs, rfl, hb, rb, zb⟩ := lstR_of R ry e2
      have l1 := ra.length
      have l2 := rb.length
      refine ⟨a, b, us, vs, rfl, rfl, ha, hb, by omega, fun p hp => ?_⟩
      obtain ⟨V1, R1, r1⟩ := rep_newlst (H0 := H0) R d (ra.append rb) (by rw [List.length_append]; omega) hp
      exact q _ _ _ V1 R1 r1
    · cases e
  · cases e
/-- + -/
@[simp] def opAdd : Op2 := fun x y M => (opI2' (fun i j => i + j) x y M).or ((opStrCat x y M).or ((opTupCat x y M).or (opLstCat x y M)))
theorem opAdd_ok : Op2Ok X (fun x y H Q => rI0 (fun i j => .int (i + j)) x y H Q ∨ (∃ i j, x = .str i ∧ y = .str j ∧ i.length + j.length ≤ sizeLine ∧ Q (.str (i ++ j)) H) ∨ rCatA X.K x y H Q ∨ rCatR x y H Q) opAdd :=
  opI2'_ok.or (opStrCat_ok.or (opTupCat_ok.or opLstCat_ok))
theorem op_addA : OpR X (binaryOp .Add) (fun x y H Q => rI0 (fun i j => .int (i + j)) x y H Q ∨ (∃ i j, x = .str i ∧ y = .str j ∧ i.length + j.length ≤ sizeLine ∧ Q (.str (i ++ j)) H) ∨ rCatA X.K x y H Q ∨ rCatR x y H Q) :=
  op_add.or (op_add_str.or (op_catA.or op_catR))
/-- a list so many times -/
@[simp] def opRep : Op2 := fun x y M => match asLst M x, y with
  | some xs, .v (.int n) => if decide (n.natAbs < 2 ^ 62) && decide (xs.length * n.toNat ≤ sizeLine) then some (.fr (.lst (List.replicate n.toNat xs).flatten)) else none
  | _, _ => none
@[simp] def mulOk (i j : Int) : Bool := decide (i.natAbs < 2 ^ 64) || decide (j.natAbs < 2 ^ 64)
theorem mulOk_of {i j : Int} (h : mulOk i j = true) : CMul i j := by
  simp only [mulOk, Bool.or_eq_true, decide_eq_true_eq] at h
  rcases h with h | h
  · exact .inl (by omega)
  · exact .inr (by omega)
def opSub : Op2 := opI2' fun i j => i - j
@[simp] theorem opSub_at (x y : EV) (M : Mem) : opSub x y M = (opI2' fun i j => i - j) x y M := rfl
def opMul : Op2 := opI2 mulOk fun i j => i * j
@[simp] theorem opMul_at (x y : EV) (M : Mem) : opMul x y M = (opI2 mulOk fun i j => i * j) x y M := rfl
@[simp] def divOk (_ j : Int) : Bool := decide (0 < j) && decide (j < 1073741824)
def opDiv : Op2 := opI2 divOk fun i j => i / j
@[simp] theorem opDiv_at (x y : EV) (M : Mem) : opDiv x y M = (opI2 divOk fun i j => i / j) x y M := rfl
@[simp] def modOk (_ j : Int) : Bool := decide (0 < j)
def opMod : Op2 := opI2 modOk fun i j => i % j
@[simp] theorem opMod_at (x y : EV) (M : Mem) : opMod x y M = (opI2 modOk fun i j => i % j) x y M := rfl
@[simp] def powOk (i j : Int) : Bool := decide (0 ≤ j) && decide (j ≤ 1000000) && decide (i.natAbs < 2 ^ 64)
def opPow : Op2 := opI2 powOk fun i j => i ^ j.toNat
@[simp] theorem opPow_at (x y : EV) (M : Mem) : opPow x y M = (opI2 powOk fun i j => i ^ j.toNat) x y M := rfl
section
variable {a b : Expr} {f g : Sm EV} {pos : Pos}
theorem fe_add (ha : FE X E W a f) (hb : FE X E W b g) : FE X E W (.BinOp a .Add b pos) (e2 opAdd f g) := fe_bin op_addA opAdd_ok ha hb
theorem fe_sub (ha : FE X E W a f) (hb : FE X E W b g) : FE X E W (.BinOp a .Sub b pos) (e2 opSub f g) := fe_bin op_sub opI2'_ok ha hb
theorem fe_mul (ha : FE X E W a f) (hb : FE X E W b g) : FE X E W (.BinOp a .Mult b pos) (e2 opMul f g) := fe_bin op_mul (opI2_ok fun _ _ h => mulOk_of h) ha hb
theorem fe_div (ha : FE X E W a f) (hb : FE X E W b g) : FE X E W (.BinOp a .FloorDiv b pos) (e2 opDiv f g) := fe_bin op_fdiv (opI2_ok fun _ _ h => by simpa [divOk, CDiv] using h) ha hb
theorem fe_mod (ha : FE X E W a f) (hb : FE X E W b g) : FE X E W (.BinOp a .Mod b pos) (e2 opMod f g) := fe_bin op_mod (opI2_ok fun _ _ h => by simpa [modOk] using h) ha hb
theorem fe_pow (ha : FE X E W a f) (hb : FE X E W b g) : FE X E W (.BinOp a .Pow b pos) (e2 opPow f g) := fe_bin op_pow (opI2_ok fun _ _ h => by simpa [powOk, CPow, and_assoc] using h) ha hb
end

/-! ### comparisons -/
abbrev Cp2 := EV → EV → Mem → Option Bool
def Cp2Ok (X : Cx) (r : R2) (op : Cp2) : Prop := ∀ (E : Ent) (s : L2.St) (G : Gh) (M : Mem) (H H0 : Hp) (x y : EV) (u v : V) (b : Bool) (Q : VK), StRep X.K E G M s H →
  RepE X.K E H0 G M s H x u → RepE X.K E H0 G M s H y v → op x y M = some b → Q (.bl b) H → r u v H Q
@[simp] def b2 (op : Cp2) (f g : Sm EV) : Sm Bool := fun M => (f M).bnd fun x M1 => (g M1).bnd fun y M2 => optR (op x y M2) M2
@[simp] def eB (f : Sm Bool) : Sm EV := fun M => (f M).bnd fun b M1 => .ok (.v (.bl b)) M1
theorem Cp2Ok.or {r r' : R2} {o o' : Cp2} (h : Cp2Ok X r o) (h' : Cp2Ok X r' o') : Cp2Ok X (fun x y H Q => r x y H Q ∨ r' x y H Q) (fun x y M => (o x y M).or (o' x y M)) := by
  intro E s G M H H0 x y u v b Q R rx ry e q
  simp only at e
  cases e1 : o x y M with
  | some w =>
    rw [e1] at e
    cases e
    exact .inl (h E s G M H H0 x y u v _ Q R rx ry e1 q)
  | none =>
    rw [e1] at e
    exact .inr (h' E s G M H H0 x y u v b Q R rx ry e q)
theorem repE_blI {E : Ent} {H0 : Hp} {G : Gh} {M : Mem} {s : L2.St} {H : Hp} {b : Bool} : RepE X.K E H0 G M s H (.v (.bl b)) (.bl b) := show RepV X.K G H (.bl b) _ by simp only [RepV]
theorem tB_two {f g : Sm EV} {r : R2} {op : Cp2} (ok : Cp2Ok X r op) {s : L2.St} {H : Hp} {Q : VK} (h : tB' X E W (b2 op f g) s H fun b H' => Q (.bl b) H') : tOp r (tE X E W f) (tE X E W g) s H Q := by
  obtain ⟨G, M, R, h⟩ := h
  refine tE_one R h fun G1 M1 H1 x u V1 R1 rx h1 => ?_
  refine tE_one R1 h1 fun G2 M2 H2 y v V2 R2 ry h2 => ?_
  have V := V1.trans V2
  simp only [optR] at h2
  split at h2
  · rename_i b eo
    exact ok E s G2 M2 H2 H x y u v b Q R2 (rx.evo V2) (ry.old V1.dom) eo (h2.now R2)
  · exact False.elim h2
theorem tE_eB {f : Sm Bool} {s : L2.St} {H : Hp} {Q : VK} (h : tE X E W (eB f) s H Q) : tB' X E W f s H fun b H' => Q (.bl b) H' := by
  obtain ⟨G, M, R, h⟩ := h
  refine tB_one R h fun G1 M1 H1 b V1 R1 h1 => ?_
  exact h1.now R1 _ repE_blI
section
variable {a b c : Expr} {f g l : Sm EV} {pos : Pos}
theorem fe_cmp {op : CmpOp} {r : R2} {o : Cp2} (ho : OpR X (compareOp op) r) (k : Cp2Ok X r o) (ha : FE X E W a f) (hb : FE X E W b g) (hm : behindInMarks op b = false) : FE X E W (.Compare a [op] [b] pos) (eB (b2 o f g)) :=
  ⟨PE.weak (pe_cmpR ho ha.pe hb.pe hm) fun _ _ _ h => tB_two k (tE_eB h)⟩
theorem ft_cmp {op : CmpOp} {r : R2} {o : Cp2} (ho : OpR X (compareOp op) r) (k : Cp2Ok X r o) (ha : FE X E W a f) (hb : FE X E W b g) (hm : behindInMarks op b = false) : FT X E W (.Compare a [op] [b] pos) (b2 o f g) :=
  ⟨PT.weak (pt_cmpR ho ha.pe hb.pe hm) fun s H Q h => tB_two (Q := fun x H' => ∃ k, x = .bl k ∧ Q k H') k (by
    obtain ⟨G, M, R, h⟩ := h
    exact ⟨G, M, R, h.imp fun _ _ _ b _ _ q => ⟨b, rfl, q⟩⟩)⟩
/-- a chain of two -/
@[simp] def b3 (o o' : Cp2) (f g l : Sm EV) : Sm Bool := fun M => (f M).bnd fun x M1 => (g M1).bnd fun y M2 => (optR (o x y M2) M2).bnd fun b M3 => if b = true then (l M3).bnd fun z M4 => optR (o' y z M4) M4 else .ok false M3
theorem tB_three {r r' : R2} {o o' : Cp2} (k : Cp2Ok X r o) (k' : Cp2Ok X r' o') {s : L2.St} {H : Hp} {Q : VK} (h : tB' X E W (b3 o o' f g l) s H fun b H' => Q (.bl b) H') : tChain r r' (tE X E W f) (tE X E W g) (tE X E W l) s H Q := by
  obtain ⟨G, M, R, h⟩ := h
  refine tE_one R h fun G1 M1 H1 x u V1 R1 rx h1 => ?_
  refine tE_one R1 h1 fun G2 M2 H2 y v V2 R2 ry h2 => ?_
  have V := V1.trans V2
  cases eo : o x y M2 with
  | none => simp only [eo, optR, Res.bnd] at h2; exact False.elim h2
  | some b =>
    simp only [eo, optR, Res.bnd] at h2
    refine k E s G2 M2 H2 H x y u v b _ R2 (rx.evo V2) (ry.old V1.dom) eo ⟨b, rfl, ?_⟩
    cases b with
    | false => exact iteF (h2.now R2)
    | true =>
      rw [if_pos rfl] at h2
      refine iteT (tE_one R2 h2 fun G3 M3 H3 z w V3 R3 rz h3 => ?_)
      cases eo' : o' y z M3 with
      | none => rw [eo'] at h3; exact False.elim h3
      | some b =>
        rw [eo'] at h3
        exact k' E s G3 M3 H3 H1 y z v w b Q R3 (ry.evo V3) (rz.old V2.dom) eo' (OutP.now h3 R3)
theorem ft_chain {op op' : CmpOp} {r r' : R2} {o o' : Cp2} (ho : OpR X (compareOp op) r) (ho' : OpR X (compareOp op') r') (k : Cp2Ok X r o) (k' : Cp2Ok X r' o') (ha : FE X E W a f) (hb : FE X E W b g) (hc : FE X E W c l)
    (hm : lastMarks [op, op'] [b, c] = false := by with_unfolding_all rfl) : FT X E W (.Compare a [op, op'] [b, c] pos) (b3 o o' f g l) :=
  ⟨PT.weak (pt_chain ho ho' ha.pe hb.pe hc.pe hm) fun s H Q h => tB_three (Q := fun x H' => ∃ k, x = .bl k ∧ Q k H') k k' (by
    obtain ⟨G, M, R, h⟩ := h
    exact ⟨G, M, R, h.imp fun _ _ _ b _ _ q => ⟨b, rfl, q⟩⟩)⟩
end
@[simp] def cpI (p : Int → Int → Bool) : Cp2 := fun x y _ => match x, y with
  | .v (.int i), .v (.int j) => some (p i j)
  | _, _ => none
theorem cpI_ok {p : Int → Int → Bool} : Cp2Ok X (rI0 fun i j => .bl (p i j)) (cpI p) := by
  intro E s G M H H0 x y u v b Q R rx ry e q
  simp only [cpI] at e
  split at e
  · rename_i i j
    cases e
    exact ⟨i, j, repE_int rx, repE_int ry, q⟩
  · cases e
def cpLt : Cp2 := cpI fun i j => decide (i < j)
@[simp] theorem cpLt_at (x y : EV) (M : Mem) : cpLt x y M = (cpI fun i j => decide (i < j)) x y M := rfl
def cpLe : Cp2 := cpI fun i j => decide (i ≤ j)
@[simp] theorem cpLe_at (x y : EV) (M : Mem) : cpLe x y M = (cpI fun i j => decide (i ≤ j)) x y M := rfl
def cpGt : Cp2 := cpI fun i j => decide (j < i)
@[simp] theorem cpGt_at (x y : EV) (M : Mem) : cpGt x y M = (cpI fun i j => decide (j < i)) x y M := rfl
def cpGe : Cp2 := cpI fun i j => decide (j ≤ i)
@[simp] theorem cpGe_at (x y : EV) (M : Mem) : cpGe x y M = (cpI fun i j => decide (j ≤ i)) x y M := rfl
/-! equality of data -/
mutual
def PV.toD : PV → Option PyData
  | .non => some .none
  | .bl b => some (.bool b)
  | .int i => some (.int i)
  | .str x => some (.str x)
  | .tup xs => (toDs xs).map .tuple
  | .lst xs => (toDs xs).map .list
  | .rol xs => (toDs xs).map .list
  | _ => none
def toDs : List PV → Option (List PyData)
  | [] => some []
  | x :: xs => match x.toD, toDs xs with
    | some d, some ds => some (d :: ds)
    | _, _ => none
end
@[simp] def evD (M : Mem) (e : EV) : Option PyData := match e with
  | .v (.ref r) => ((asLst M (.v (.ref r))).bind toDs).map .list
  | .v p => p.toD
  | e => ((asLst M e).bind toDs).map .list
mutual
theorem toD_rep {K : PySem.W.Frag} {G : Gh} {H : Hp} : ∀ (p : PV) (d : PyData) (v : V), p.toD = some d → RepV K G H p v → Dp K H v d
  | .non, d, v, e, h => by simp only [PV.toD] at e; cases e; simp only [RepV] at h; subst h; exact .non
  | .bl b, d, v, e, h => by simp only [PV.toD] at e; cases e; simp only [RepV] at h; subst h; exact .bl b
  | .int b, d, v, e, h => by simp only [PV.toD] at e; cases e; simp only [RepV] at h; subst h; exact .int b
  | .str b, d, v, e, h => by simp only [PV.toD] at e; cases e; simp only [RepV] at h; subst h; exact .str b
  | .tup xs, d, v, e, h => by
    simp only [PV.toD] at e
    cases e1 : toDs xs with
    | none => rw [e1] at e; cases e
    | some ds =>
      rw [e1] at e; cases e
      obtain ⟨a, us, rfl, q, r, z⟩ := tup_of h
      exact .tup q (toDs_rep xs ds us e1 r)
  | .lst xs, d, v, e, h => by
    simp only [PV.toD] at e
    cases e1 : toDs xs with
    | none => rw [e1] at e; cases e
    | some ds =>
      rw [e1] at e; cases e
      simp only [RepV] at h
      obtain ⟨a, us, rfl, ⟨_, _, q⟩, r⟩ := h
      exact .lst (.inl q) (toDs_rep xs ds us e1 r)
  | .rol xs, d, v, e, h => by
    simp only [PV.toD] at e
    cases e1 : toDs xs with
    | none => rw [e1] at e; cases e
    | some ds =>
      rw [e1] at e; cases e
      simp only [RepV] at h
      obtain ⟨a, us, rfl, q, r⟩ := h
      exact .lst q.sq (toDs_rep xs ds us e1 r)
  | .dct _ _, d, v, e, h => by simp only [PV.toD] at e; cases e
  | .ref _, d, v, e, h => by simp only [PV.toD] at e; cases e
  | .con _, d, v, e, h => by simp only [PV.toD] at e; cases e
  | .exc _, d, v, e, h => by simp only [PV.toD] at e; cases e
  | .fn _, d, v, e, h => by simp only [PV.toD] at e; cases e
theorem toDs_rep {K : PySem.W.Frag} {G : Gh} {H : Hp} : ∀ (ps : List PV) (ds : List PyData) (vs : List V), toDs ps = some ds → RepVs K G H ps vs → DpAll K H vs ds
  | [], ds, vs, e, h => by simp only [toDs] at e; cases e; rw [RepVs.nil_iff.mp h]; exact .nil
  | p :: ps, ds, vs, e, h => by
    obtain ⟨u, us, rfl, r, t⟩ := RepVs.cons_iff.mp h
    simp only [toDs] at e
    split at e
    · rename_i d ds' e1 e2
      cases e
      exact .cons (toD_rep p d u e1 r) (toDs_rep ps ds' us e2 t)
    · cases e
end
theorem evD_rep {E : Ent} {H0 : Hp} {G : Gh} {M : Mem} {s : L2.St} {H : Hp} {e : EV} {u : V} {d : PyData} (R : StRep X.K E G M s H) (r : RepE X.K E H0 G M s H e u) (h : evD M e = some d) : Dp X.K H u d := by
  have viaL : ∀ {e : EV}, RepE X.K E H0 G M s H e u → ((asLst M e).bind toDs).map .list = some d → Dp X.K H u d := fun {e} r h => by
    cases e1 : asLst M e with
    | none => rw [e1] at h; cases h
    | some xs =>
      rw [e1] at h
      have h : (toDs xs).map PyData.list = some d := h
      cases e2 : toDs xs with
      | none => rw [e2] at h; cases h
      | some ds =>
        rw [e2] at h; cases h
        obtain ⟨a, us, rfl, q, rr, z⟩ := lst_of R r e1
        exact .lst q (toDs_rep xs ds us e2 rr)
  cases e with
  | v p =>
    cases p with
    | ref c => exact viaL r h
    | non => exact toD_rep (G := G) _ _ _ h r
    | bl b => exact toD_rep (G := G) _ _ _ h r
    | int b => exact toD_rep (G := G) _ _ _ h r
    | str b => exact toD_rep (G := G) _ _ _ h r
    | tup b => exact toD_rep (G := G) _ _ _ h r
    | lst b => exact toD_rep (G := G) _ _ _ h r
    | dct b c => exact toD_rep (G := G) _ _ _ h r
    | con b => exact toD_rep (G := G) _ _ _ h r
    | rol b => exact toD_rep (G := G) _ _ _ h r
    | exc b => exact toD_rep (G := G) _ _ _ h r
    | fn b => exact toD_rep (G := G) _ _ _ h r
  | fr o => exact viaL r h
  | sl i => exact viaL r h
/-- == of scalars -/
@[simp] def eqS : Cp2 := fun x y _ => match x, y with
  | .v (.int i), .v (.int j) => some (decide (i = j))
  | .v (.str i), .v (.str j) => some (decide (i = j))
  | .v (.bl i), .v (.bl j) => some (decide (i = j))
  | .v .non, .v .non => some true
  | .v .non, .v (.int _) => some false
  | .v .non, .v (.str _) => some false
  | .v (.int _), .v .non => some false
  | .v (.str _), .v .non => some false
  | _, _ => none
theorem eqS_ok {E : Ent} {H0 : Hp} {G : Gh} {M : Mem} {s : L2.St} {H : Hp} {x y : EV} {u v : V} {b : Bool} (rx : RepE X.K E H0 G M s H x u) (ry : RepE X.K E H0 G M s H y v) (h : eqS x y M = some b) : scal u v = true ∧ decide (u = v) = b := by
  have non : ∀ {u : V}, RepE X.K E H0 G M s H (.v .non) u → u = .non := fun {u} h => by
    have h : RepV X.K G H .non u := h
    simpa only [RepV] using h
  simp only [eqS] at h
  split at h
  · cases h; rw [repE_int rx, repE_int ry]; exact ⟨rfl, by simp⟩
  · cases h; rw [repE_str rx, repE_str ry]; exact ⟨rfl, by simp⟩
  · cases h; rw [repE_bl rx, repE_bl ry]; exact ⟨rfl, by simp⟩
  · cases h; rw [non rx, non ry]; exact ⟨rfl, by simp⟩
  · cases h; rw [non rx, repE_int ry]; exact ⟨rfl, by simp⟩
  · cases h; rw [non rx, repE_str ry]; exact ⟨rfl, by simp⟩
  · cases h; rw [repE_int rx, non ry]; exact ⟨rfl, by simp⟩
  · cases h; rw [repE_str rx, non ry]; exact ⟨rfl, by simp⟩
  · cases h
@[simp] def eqD : Cp2 := fun x y M => match evD M x, evD M y with
  | some d, some e => if SeqAt.shaped d && SeqAt.shaped e then some (PyData.eqv d e) else none
  | _, _ => none
theorem eqD_ok {E : Ent} {H0 : Hp} {G : Gh} {M : Mem} {s : L2.St} {H : Hp} {x y : EV} {u v : V} {b : Bool} (R : StRep X.K E G M s H) (rx : RepE X.K E H0 G M s H x u) (ry : RepE X.K E H0 G M s H y v) (h : eqD x y M = some b) :
    ∃ d e, Dp X.K H u d ∧ Dp X.K H v e ∧ SeqAt.shaped d = true ∧ SeqAt.shaped e = true ∧ PyData.eqv d e = b := by
  simp only [eqD] at h
  split at h
  · rename_i d e e1 e2
    split at h
    · rename_i z
      rw [Bool.and_eq_true] at z
      cases h
      exact ⟨d, e, evD_rep R rx e1, evD_rep R ry e2, z.1, z.2, rfl⟩
    · cases h
  · cases h
@[simp] def cpEq : Cp2 := fun x y M => (eqS x y M).or (eqD x y M)
@[simp] def cpNe : Cp2 := fun x y M => ((eqS x y M).map (!·)).or ((eqD x y M).map (!·))
theorem cpEq_ok : Cp2Ok X (fun x y H Q => rEq x y H Q ∨ rEqD X.K x y H Q) cpEq := by
  refine Cp2Ok.or (fun E s G M H H0 x y u v b Q R rx ry e q => ?_) fun E s G M H H0 x y u v b Q R rx ry e q => ?_
  · obtain ⟨h1, h2⟩ := eqS_ok rx ry e
    exact ⟨h1, by rw [h2]; exact q⟩
  · obtain ⟨d, d', h1, h2, h3, h4, h5⟩ := eqD_ok R rx ry e
    exact ⟨d, d', h1, h2, h3, h4, by rw [h5]; exact q⟩
theorem cpNe_ok : Cp2Ok X (fun x y H Q => rNe x y H Q ∨ rNeD X.K x y H Q) cpNe := by
  refine Cp2Ok.or (o := fun x y M => (eqS x y M).map (!·)) (o' := fun x y M => (eqD x y M).map (!·)) (fun E s G M H H0 x y u v b Q R rx ry e q => ?_) fun E s G M H H0 x y u v b Q R rx ry e q => ?_
  · cases e1 : eqS x y M with
    | none => simp only [e1] at e; cases e
    | some c =>
      simp only [e1] at e; cases e
      obtain ⟨h1, h2⟩ := eqS_ok rx ry e1
      exact ⟨h1, by rw [h2]; exact q⟩
  · cases e1 : eqD x y M with
    | none => simp only [e1] at e; cases e
    | some c =>
      simp only [e1] at e; cases e
      obtain ⟨d, d', h1, h2, h3, h4, h5⟩ := eqD_ok R rx ry e1
      exact ⟨d, d', h1, h2, h3, h4, by rw [h5]; exact q⟩
theorem op_eqA (A : Amb Z X W N sc fs k) : OpR X (compareOp .Eq) (fun x y H Q => rEq x y H Q ∨ rEqD X.K x y H Q) := op_eq.or (op_eqD A.u64)
theorem op_neA (A : Amb Z X W N sc fs k) : OpR X (compareOp .NotEq) (fun x y H Q => rNe x y H Q ∨ rNeD X.K x y H Q) := op_ne.or (op_neD A.u64)
section
variable {a b c : Expr} {f g l : Sm EV} {pos : Pos}
theorem fe_eq (A : Amb Z X W N sc fs k) (ha : FE X E W a f) (hb : FE X E W b g) : FE X E W (.Compare a [.Eq] [b] pos) (eB (b2 cpEq f g)) := fe_cmp (op_eqA A) cpEq_ok ha hb (nomark _)
theorem ft_eq (A : Amb Z X W N sc fs k) (ha : FE X E W a f) (hb : FE X E W b g) : FT X E W (.Compare a [.Eq] [b] pos) (b2 cpEq f g) := ft_cmp (op_eqA A) cpEq_ok ha hb (nomark _)
theorem ft_ne (A : Amb Z X W N sc fs k) (ha : FE X E W a f) (hb : FE X E W b g) : FT X E W (.Compare a [.NotEq] [b] pos) (b2 cpNe f g) := ft_cmp (op_neA A) cpNe_ok ha hb (nomark _)
theorem ft_lt (ha : FE X E W a f) (hb : FE X E W b g) : FT X E W (.Compare a [.Lt] [b] pos) (b2 cpLt f g) := ft_cmp op_lt cpI_ok ha hb (nomark _)
theorem ft_gt (ha : FE X E W a f) (hb : FE X E W b g) : FT X E W (.Compare a [.Gt] [b] pos) (b2 cpGt f g) := ft_cmp op_gt cpI_ok ha hb (nomark _)
end
/-! is None -/
@[simp] def isN (M : Mem) (e : EV) : Option Bool := match e with
  | .v .non => some true
  | .sl i => match slotAt M i with
    | some (.own _) => some false
    | _ => none
  | _ => some false
@[simp] def bNon (f : Sm EV) : Sm Bool := fun M => (f M).bnd fun x M1 => optR (isN M1 x) M1
@[simp] def bNot (f : Sm Bool) : Sm Bool := fun M => (f M).bnd fun x M1 => .ok (!x) M1
theorem isN_rep {E : Ent} {H0 : Hp} {G : Gh} {M : Mem} {s : L2.St} {H : Hp} {x : EV} {u : V} {b : Bool} (R : StRep X.K E G M s H) (rx : RepE X.K E H0 G M s H x u) (hx : isN M x = some b) : decide (u = .non) = b := by
  cases x with
  | v p =>
    have rx : RepV X.K G H p u := rx
    cases p <;> simp only [RepV] at rx <;> simp only [isN, Option.some.injEq] at hx <;> subst hx
    case non => subst rx; rfl
    case bl => subst rx; rfl
    case int => subst rx; rfl
    case str => subst rx; rfl
    case con => subst rx; rfl
    case ref => obtain ⟨a, z, _⟩ := rx; subst z; rfl
    case exc => obtain ⟨a, z, _⟩ := rx; subst z; rfl
    case fn => obtain ⟨a, z, _⟩ := rx; subst z; rfl
    all_goals (obtain ⟨a, us, z, _⟩ := rx; subst z; rfl)
  | fr o => obtain ⟨a, w, z, _⟩ := rx; subst z; cases hx; rfl
  | sl i =>
    simp only [isN] at hx
    split at hx
    · rename_i o ho
      cases hx
      obtain ⟨a, w, z, _⟩ := R.own i o (slotAt_some ho)
      have rx : s[i]? = some (some u) := rx
      rw [z] at rx
      cases rx
      rfl
    · cases hx
theorem tB_not {f : Sm Bool} {s : L2.St} {H : Hp} {Q : Bool → Hp → Prop} (h : tB' X E W (bNot f) s H Q) : tB' X E W f s H fun b H' => Q (!b) H' := by
  obtain ⟨G, M, R, h⟩ := h
  exact tB_one R h fun G1 M1 H1 b V1 R1 h1 => h1.now R1
section
variable {a b : Expr} {f g : Sm EV} {pos : Pos}
theorem tNotN_of {s : L2.St} {H : Hp} {Q : VK} (h : tB' X E W (bNot (bNon f)) s H fun b H' => Q (.bl b) H') : tNotN (tE X E W f) s H Q := by
  obtain ⟨G, M, R, h⟩ := tB_not h
  refine tE_one R h fun G1 M1 H1 x u V1 R1 rx h1 => ?_
  cases eo : isN M1 x with
  | none => rw [eo] at h1; exact False.elim h1
  | some b =>
    rw [eo] at h1
    rw [isN_rep R1 rx eo]
    exact OutP.now h1 R1
theorem ft_notN {j pos'} (ha : FE X E W a f) : FT X E W (.Compare a [.IsNot] [.Constant .none j pos'] pos) (bNot (bNon f)) :=
  ⟨PT.weak (pt_cmp (pc_notN ha.pe) (nomark _)) fun s H Q h => tNotN_of (Q := fun x H' => ∃ k, x = .bl k ∧ Q k H') (by
    obtain ⟨G, M, R, h⟩ := h
    exact ⟨G, M, R, h.imp fun _ _ _ b _ _ q => ⟨b, rfl, q⟩⟩)⟩
end
end
end HF


end
section
set_option Elab.async false
set_option linter.all false
set_option maxRecDepth 20000
set_option autoImplicit false
/-! HF5: and, or, not, displays, subscripts, slices, built-in functions of one or two arguments. -/
namespace HF
open PySem PySem.Spec PyProof.Rows L2
section
variable {X : Cx} {E : Ent} {W : WX} {N : List Str} {sc : Scope} {fs : Str → Bool} {k : Nat} {Z : Wd}
/-! ### and, or, not, if else -/
@[simp] def bAnd (f g : Sm Bool) : Sm Bool := fun M => (f M).bnd fun b M1 => if b = true then g M1 else .ok false M1
@[simp] def bOr (f g : Sm Bool) : Sm Bool := fun M => (f M).bnd fun b M1 => if b = true then .ok true M1 else g M1
theorem tB_and {f g : Sm Bool} {s : L2.St} {H : Hp} {Q : Bool → Hp → Prop} (h : tB' X E W (bAnd f g) s H Q) : tAnd (tB' X E W f) (tB' X E W g) s H Q := by
  obtain ⟨G, M, R, h⟩ := h
  refine tB_one R h fun G1 M1 H1 b V1 R1 h1 => ?_
  cases b with
  | true =>
    rw [if_pos rfl] at h1
    exact iteT ⟨G1, M1, R1, h1⟩
  | false => exact iteF (OutP.now h1 R1)
theorem tB_or {f g : Sm Bool} {s : L2.St} {H : Hp} {Q : Bool → Hp → Prop} (h : tB' X E W (bOr f g) s H Q) : tOr (tB' X E W f) (tB' X E W g) s H Q := by
  obtain ⟨G, M, R, h⟩ := h
  refine tB_one R h fun G1 M1 H1 b V1 R1 h1 => ?_
  cases b with
  | true => exact iteT (OutP.now h1 R1)
  | false =>
    rw [if_neg Bool.false_ne_true] at h1
    exact iteF ⟨G1, M1, R1, h1⟩
section
variable {a b : Expr} {rest : List Expr} {f g : Sm Bool} {pos : Pos}
theorem FW.ft (h : FW X E W a f) : FT X E W a f := ⟨h.pe.pt⟩
theorem fw_and1 (h : FT X E W a f) : FW X E W (.BoolOp .And [a] pos) f := ⟨pw_and1 h.pe⟩
theorem fw_or1 (h : FT X E W a f) : FW X E W (.BoolOp .Or [a] pos) f := ⟨pw_or1 h.pe⟩
theorem fw_and (h : FT X E W a f) (h' : FW X E W (.BoolOp .And (b :: rest) pos) g) : FW X E W (.BoolOp .And (a :: b :: rest) pos) (bAnd f g) := ⟨PW.weak (pw_and h.pe h'.pe) fun _ _ _ => tB_and⟩
theorem fw_or (h : FT X E W a f) (h' : FW X E W (.BoolOp .Or (b :: rest) pos) g) : FW X E W (.BoolOp .Or (a :: b :: rest) pos) (bOr f g) := ⟨PW.weak (pw_or h.pe h'.pe) fun _ _ _ => tB_or⟩
theorem ft_not (h : FT X E W a f) : FT X E W (.UnaryOp .Not a pos) (bNot f) := ⟨PT.weak (pt_not h.pe) fun _ _ _ => tB_not⟩
end
/-- the truth of a truth -/
@[simp] def bVal (f : Sm EV) : Sm Bool := fun M => (f M).bnd fun x M1 => match x with
  | .v (.bl b) => .ok b M1
  | _ => .bad
theorem tB_val {f : Sm EV} {s : L2.St} {H : Hp} {Q : Bool → Hp → Prop} (h : tB' X E W (bVal f) s H Q) : tE X E W f s H fun x H' => ∃ c, x = .bl c ∧ Q c H' := by
  obtain ⟨G, M, R, h⟩ := h
  refine tE_one R h fun G1 M1 H1 x u V1 R1 rx h1 => ?_
  split at h1
  · exact ⟨_, repE_bl rx, OutP.now h1 R1⟩
  · exact False.elim h1
section
variable {a b c : Expr} {rest : List Expr} {f g l : Sm EV} {pos : Pos}
theorem ft_val (h : FE X E W a f) (he : ∀ whole, isTrue a X.env whole = (do let v ← whole; standAt a.pos; holding [v] (truthy v)) := by intro _; rfl) : FT X E W a (bVal f) := ⟨PT.weak (pt_val h.pe he) fun _ _ _ => tB_val⟩
@[simp] def eAnd (f g : Sm EV) : Sm EV := fun M => (bVal f M).bnd fun b M1 => if b = true then g M1 else .ok (.v (.bl false)) M1
@[simp] def eOr (f g : Sm EV) : Sm EV := fun M => (bVal f M).bnd fun b M1 => if b = true then .ok (.v (.bl true)) M1 else g M1
theorem tE_re {s : L2.St} {G G1 : Gh} {M M1 : Mem} {H H1 : Hp} {Q : VK} {r : Res EV} (V1 : Evo s G M H G1 M1 H1) (h : OutP X E W s G1 M1 H1 r fun G' M' H' ev => ∀ u, RepE X.K E H G' M' s H' ev u → Q u H') :
    OutP X E W s G1 M1 H1 r fun G' M' H' ev => ∀ u, RepE X.K E H1 G' M' s H' ev u → Q u H' := h.imp fun _ _ _ _ _ _ q u ru => q u (ru.old V1.dom)
theorem fe_one {op} (h : FE X E W a f) : FE X E W (.BoolOp op [a] pos) f := ⟨pe_one h.pe⟩
theorem fe_and (h : FE X E W a f) (h' : FE X E W (.BoolOp .And (b :: rest) pos) g) : FE X E W (.BoolOp .And (a :: b :: rest) pos) (eAnd f g) := by
  refine ⟨PE.weak (pe_and h.pe h'.pe) ?_⟩
  rintro s H Q ⟨G, M, R, h⟩
  refine tB_val (Q := fun c H1 => if c = true then tE X E W g s H1 Q else Q (.bl false) H1) (tB_one R h fun G1 M1 H1 b V1 R1 h1 => ?_)
  cases b with
  | true =>
    rw [if_pos rfl] at h1
    exact iteT ⟨G1, M1, R1, tE_re V1 h1⟩
  | false => exact iteF (OutP.now h1 R1 _ repE_blI)
theorem fe_not (h : FE X E W a f) : FE X E W (.UnaryOp .Not a pos) (eB (bNot (bVal f))) := by
  refine ⟨PE.weak (pe_not h.pe) fun s H Q h => ?_⟩
  exact tB_val (tB_not (tE_eB h))
@[simp] def eIf (c : Sm Bool) (f g : Sm EV) : Sm EV := fun M => (c M).bnd fun b M1 => if b = true then f M1 else g M1
end

/-! ### arguments, displays -/
@[simp] def aNil : Sm (List PV) := fun M => .ok [] M
@[simp] def aCons (f : Sm PV) (g : Sm (List PV)) : Sm (List PV) := fun M => (f M).bnd fun p M1 => (g M1).bnd fun ps M2 => .ok (p :: ps) M2
structure FL (X : Cx) (E : Ent) (W : WX) (es : List Expr) (f : Sm (List PV)) : Prop where
  fa : FA X E W es f
  len : ∀ M ps M', f M = .ok ps M' → ps.length = es.length
section
variable {e : Expr} {es : List Expr} {f : Sm PV} {g : Sm (List PV)} {pos : Pos}
theorem fl_nil : FL X E W [] aNil := by
  refine ⟨⟨PA.weak pa_nil ?_⟩, fun M ps M' h => by cases h; rfl⟩
  rintro s H Q ⟨G, M, R, h⟩
  exact h.now R [] RepVs.nil
theorem fl_cons (he : FP X E W e f) (hr : FL X E W es g) (hs : starEach (e :: es) X.env = (false, eval e X.env) :: starEach es X.env := by rfl) : FL X E W (e :: es) (aCons f g) := by
  refine ⟨⟨PA.weak (pa_cons he.pe hr.fa.pe hs) ?_⟩, fun M ps M' h => ?_⟩
  · rintro s H Q ⟨G, M, R, h⟩
    refine tP_one R h fun G1 M1 H1 p u V1 R1 rp h1 => ?_
    refine tL_one R1 h1 fun G2 M2 H2 ps us V2 R2 rps h2 => ?_
    exact OutP.now h2 R2 _ (RepVs.cons (RepV.mono V2.ext _ _ rp) rps)
  · simp only [aCons] at h
    cases h1 : f M with
    | ok p M1 =>
      rw [h1] at h
      simp only [Res.bnd] at h
      cases h2 : g M1 with
      | ok ps' M2 =>
        rw [h2] at h
        cases h
        rw [List.length_cons, List.length_cons, hr.len _ _ _ h2]
      | exn c M2 => rw [h2] at h; cases h
      | bad => rw [h2] at h; cases h
    | exn c M1 => rw [h1] at h; cases h
    | bad => rw [h1] at h; cases h
@[simp] def eTup (g : Sm (List PV)) : Sm EV := fun M => (g M).bnd fun ps M1 => .ok (.v (.tup ps)) M1
@[simp] def eLst (g : Sm (List PV)) : Sm EV := fun M => (g M).bnd fun ps M1 => .ok (.fr (.lst ps)) M1
theorem fe_tup {x1} (h : FL X E W es g) (z : es.length ≤ 1000 := by decide) : FE X E W (.Tuple es x1 pos) (eTup g) := by
  refine ⟨PE.weak (pe_tup h.fa.pe) ?_⟩
  rintro s H Q ⟨G, M, R, hh⟩
  refine ⟨G, M, R, ?_⟩
  cases hg : g M with
  | exn c M1 => simp only [eTup, hg, Res.bnd] at hh; exact hh
  | bad => simp only [eTup, hg, Res.bnd] at hh; exact hh
  | ok ps M1 =>
    simp only [eTup, hg, Res.bnd] at hh
    intro G1 H1 V1 R1 us rr
    have zz : us.length ≤ sizeLine := by rw [← rr.length, h.len M ps M1 hg, sizeLine_eq]; omega
    refine ⟨zz, fun p hp => ?_⟩
    obtain ⟨V2, R2, r2⟩ := rep_newtup R1 rr zz hp
    exact hh _ _ (V1.trans V2) R2 _ r2
theorem fe_lst (h : FL X E W es g) (z : es.length ≤ 1000 := by decide) : FE X E W (.List es pos) (eLst g) := by
  refine ⟨PE.weak (pe_lst h.fa.pe) ?_⟩
  rintro s H Q ⟨G, M, R, hh⟩
  refine ⟨G, M, R, ?_⟩
  cases hg : g M with
  | exn c M1 => simp only [eLst, hg, Res.bnd] at hh; exact hh
  | bad => simp only [eLst, hg, Res.bnd] at hh; exact hh
  | ok ps M1 =>
    simp only [eLst, hg, Res.bnd] at hh
    intro G1 H1 V1 R1 us rr
    have zz : us.length ≤ sizeLine := by rw [← rr.length, h.len M ps M1 hg, sizeLine_eq]; omega
    refine ⟨zz, fun p hp => ?_⟩
    obtain ⟨V2, R2, r2⟩ := rep_newlst (H0 := H) R1 V1.dom rr zz hp
    exact hh _ _ (V1.trans V2) R2 _ r2
/-- {} -/
@[simp] def eDct0 : Sm EV := fun M => .ok (.fr (.dct [] [])) M
end

/-! ### dicts by keys -/
@[simp] def keyOf : EV → Option Key
  | .v (.int i) => some (.inl i)
  | .v (.str x) => some (.inr x)
  | _ => none
theorem key_rep {H0 : Hp} {G : Gh} {M : Mem} {s : L2.St} {H : Hp} {e : EV} {u : V} {q : Key} (r : RepE X.K E H0 G M s H e u) (h : keyOf e = some q) : u = kV q := by
  unfold keyOf at h
  split at h
  · cases h; exact repE_int r
  · cases h; exact repE_str r
  · cases h
@[simp] def dGet : List Key → List PV → Key → Option PV
  | q :: ks, x :: xs, k => if q = k then some x else dGet ks xs k
  | _, _, _ => none
theorem dGet_rep {K : PySem.W.Frag} {G : Gh} {H : Hp} : ∀ {kvs : List (Key × V)} {ks : List Key} {xs : List PV} (k : Key), kvs.map (·.1) = ks → RepVs K G H xs (kvs.map (·.2)) →
    (match dGet ks xs k with | some p => ∃ v, valV kvs k = some v ∧ RepV K G H p v | none => valV kvs k = none)
  | [], ks, xs, k, e, r => by
    cases e
    have e2 : xs = [] := List.length_eq_zero_iff.mp r.length
    subst e2
    simp [dGet, valV]
  | (q, v) :: kvs, ks, xs, k, e, r => by
    cases e
    cases xs with
    | nil => have := r.length; simp at this
    | cons x xs =>
      obtain ⟨u, us, e2, r1, r2⟩ := RepVs.cons_iff.mp r
      cases e2
      simp only [List.map_cons, dGet]
      by_cases h : q = k
      · rw [if_pos h]
        exact ⟨v, valV_pos h, r1⟩
      · rw [if_neg h, valV_neg (p := (q, v)) h]
        exact dGet_rep k rfl r2

/-! ### subscripts -/
theorem ix_dict (hu : X.A.units + 1 < cLine) : IxR X (fun x y H Q => ∃ a v, x = .ref a ∧ DGet H a y (some v) ∧ Q v H) := by
  intro value slice pins s σ H x y v u Q I rx ry h hs
  obtain ⟨a, z, rfl, g, q⟩ := h
  cases rx
  exact tail_any (dict_typeIs I g) PySem.F.slot_dict_getitem.lookup (d_getItem hu I g ry fun w' s3 I3 rw' => ⟨z, H, I3, rw', q⟩) hs
theorem atI_rep {K : PySem.W.Frag} {G : Gh} {H : Hp} {xs : List PV} {us : List V} {i : Int} {p : PV} (r : RepVs K G H xs us) (h : atI xs i = some p) : ∃ v, atI us i = some v ∧ RepV K G H p v := by
  unfold atI at h ⊢
  rw [← r.length]
  cases e : ixN xs.length i with
  | none => rw [e] at h; cases h
  | some j =>
    rw [e] at h
    exact r.get h
@[simp] def opIx : Op2 := fun x y M => match y with
  | .v (.int i) => match x with
    | .v (.tup xs) => (atI xs i).map .v
    | .v (.str z) => if z.length ≤ sizeLine then (atI z.cps.toList i).map fun c => .v (.str ⟨#[c]⟩) else none
    | x => match asLst M x with
      | some xs => (atI xs i).map .v
      | none => match asDct M x with
        | some (ks, xs) => (dGet ks xs (.inl i)).map .v
        | none => none
  | .v (.str t) => match asDct M x with
    | some (ks, xs) => (dGet ks xs (.inr t)).map .v
    | none => none
  | _ => none
theorem rd_dget {H : Hp} {a : Addr} {kvs : List (Key × V)} {k : Key} (e : Rd H a (.dK kvs)) : DGet H a (kV k) (valV kvs k) := .inl ⟨kvs, k, e, rfl, rfl⟩
theorem opIx_ok : Op2Ok X (fun x y H Q => rIx X.K x y H Q ∨ ∃ a v, x = .ref a ∧ DGet H a y (some v) ∧ Q v H) opIx := by
  intro E s G M H H0 x y u v ev Q R d rx ry e q
  have fin : ∀ {p : PV} {w : V}, ev = .v p → RepV X.K G H p w → Q w H := fun {p w} e r => q G H w (Evo.refl _ _ _ _) R (by subst e; exact r)
  have dict : ∀ {ks xs k}, asDct M x = some (ks, xs) → (dGet ks xs k).map EV.v = some ev → v = kV k → rIx X.K u v H Q ∨ ∃ a w, u = .ref a ∧ DGet H a v (some w) ∧ Q w H := fun {ks xs k} e1 e2 ev' => by
    obtain ⟨a, kvs, rfl, hr, hk, rr, z⟩ := dct_of R rx e1
    have g := dGet_rep k hk rr
    cases e3 : dGet ks xs k with
    | none => rw [e3] at e2; cases e2
    | some p =>
      rw [e3] at e2 g
      cases e2
      obtain ⟨w, h1, h2⟩ := g
      exact .inr ⟨a, w, rfl, by rw [ev', ← h1]; exact rd_dget hr, fin rfl h2⟩
  simp only [opIx] at e
  split at e
  · rename_i i
    have ey := repE_int ry
    split at e
    · rename_i xs
      obtain ⟨a, us, rfl, ha, ra, za⟩ := repE_tup rx
      cases e3 : atI xs i with
      | none => rw [e3] at e; cases e
      | some p =>
        rw [e3] at e; cases e
        obtain ⟨w, h1, h2⟩ := atI_rep ra e3
        exact .inl (.inr (.inl ⟨a, us, i, w, rfl, ey, ha, h1, fin rfl h2⟩))
    · rename_i z
      split at e
      · rename_i hz
        cases e3 : atI z.cps.toList i with
        | none => rw [e3] at e; cases e
        | some c =>
          rw [e3] at e; cases e
          exact .inl (.inr (.inr ⟨z, i, c, repE_str rx, ey, hz, e3, fin rfl (by simp only [RepV])⟩))
      · cases e
    · split at e
      · rename_i xs e1
        obtain ⟨a, us, rfl, ha, ra, za⟩ := lst_of R rx e1
        cases e3 : atI xs i with
        | none => rw [e3] at e; cases e
        | some p =>
          rw [e3] at e; cases e
          obtain ⟨w, h1, h2⟩ := atI_rep ra e3
          exact .inl (.inl ⟨a, us, i, w, rfl, ey, ha, h1, fin rfl h2⟩)
      · split at e
        · rename_i e1
          exact dict e1 e ey
        · cases e
  · rename_i t
    split at e
    · rename_i e1
      exact dict e1 e (repE_str ry)
    · cases e
  · cases e
theorem fe_ix (A : Amb Z X W N sc fs k) {a b : Expr} {f g : Sm EV} {pos : Pos} (ha : FE X E W a f) (hb : FE X E W b g) (hs : PlainIx b := by exact fun _ _ => rfl) : FE X E W (.Subscript a b pos) (e2 opIx f g) :=
  ⟨PE.weak (pe_ix (ix_seq.or (ix_dict A.u1)) ha.pe hb.pe hs) fun _ _ _ h => tE_two opIx_ok h⟩

/-! ### slices -/
@[simp] def oNo : Sm (Option Int) := fun M => .ok none M
@[simp] def oSome (f : Sm EV) : Sm (Option Int) := fun M => (f M).bnd fun x M1 => match x with
  | .v (.int i) => .ok (some i) M1
  | _ => .bad
def tO (X : Cx) (E : Ent) (W : WX) (f : Sm (Option Int)) : TO := fun s H Q => ∃ G M, StRep X.K E G M s H ∧ OutP X E W s G M H (f M) fun _ _ H' b => Q b H'
structure FO (X : Cx) (E : Ent) (W : WX) (e : Option Expr) (f : Sm (Option Int)) : Prop where
  run : ∃ t, L2.PO X e t ∧ ∀ s H Q, tO X E W f s H Q → t s H Q
theorem fo_none : FO X E W none oNo := ⟨_, po_none, fun s H Q ⟨G, M, R, h⟩ => h.now R⟩
theorem fo_some {e : Expr} {f : Sm EV} (h : FE X E W e f) : FO X E W (some e) (oSome f) := by
  refine ⟨_, po_some h.pe, ?_⟩
  rintro s H Q ⟨G, M, R, h⟩
  refine tE_one R h fun G1 M1 H1 x u V1 R1 rx h1 => ?_
  split at h1
  · exact ⟨_, repE_int rx, OutP.now h1 R1⟩
  · exact False.elim h1
def cutP {α : Type} (xs : List α) (lo hi : Option Int) : List α := (xs.drop (HT.sIx xs.length 0 lo)).take (HT.sIx xs.length xs.length hi - HT.sIx xs.length 0 lo)
theorem cutP_rep {K : PySem.W.Frag} {G : Gh} {H : Hp} {xs : List PV} {us : List V} (r : RepVs K G H xs us) (lo hi : Option Int) : RepVs K G H (cutP xs lo hi) (cutV us lo hi) := by
  unfold cutP cutV
  rw [r.length]
  exact (r.drop _).take _
@[simp] def opSl (x : EV) (lo hi : Option Int) (M : Mem) : Option EV := match x with
  | .v (.tup xs) => some (.v (.tup (cutP xs lo hi)))
  | .v (.str z) => if z.length ≤ sizeLine then some (.v (.str (cutS z lo hi))) else none
  | x => match asLst M x with
    | some xs => some (.fr (.lst (cutP xs lo hi)))
    | none => none
@[simp] def eSl (f : Sm EV) (l h : Sm (Option Int)) : Sm EV := fun M => (f M).bnd fun x M1 => (l M1).bnd fun lo M2 => (h M2).bnd fun hi M3 => optR (opSl x lo hi M3) M3
theorem fe_slice {a : Expr} {lo hi : Option Expr} {f : Sm EV} {l h : Sm (Option Int)} {pos p2 : Pos} (ha : FE X E W a f) (hl : FO X E W lo l) (hh : FO X E W hi h) : FE X E W (.Subscript a (.Slice lo hi none p2) pos) (eSl f l h) := by
  obtain ⟨tl, pl, il⟩ := hl.run
  obtain ⟨th, ph, ih⟩ := hh.run
  refine ⟨PE.weak (pe_slice (sl_list.or (sl_tupA.or sl_str)) ha.pe pl ph) ?_⟩
  rintro s H Q ⟨G, M, R, h⟩
  refine tE_one R h fun G1 M1 H1 x u V1 R1 rx h1 => ?_
  refine il _ _ _ ⟨G1, M1, R1, h1.bnd.imp fun G2 M2 H2 lo V2 R2 h2 => ?_⟩
  refine ih _ _ _ ⟨G2, M2, R2, h2.bnd.imp fun G3 M3 H3 hi V3 R3 h3 => ?_⟩
  replace rx := (rx.evo V2).evo V3
  have V := (V1.trans V2).trans V3
  clear h1 h2
  cases e : opSl x lo hi M3 with
  | none => rw [e] at h3; exact False.elim h3
  | some ev =>
    rw [e] at h3
    simp only [opSl] at e
    split at e
    · rename_i xs
      cases e
      obtain ⟨a, us, rfl, ha, ra, za⟩ := repE_tup rx
      refine .inr (.inl ⟨a, us, rfl, ha, fun hw => ?_, fun hw p hp => ?_⟩)
      · refine OutP.now h3 R3 _ ?_
        have e2 : cutP xs lo hi = xs := by
          unfold cutP
          rw [ra.length, hw.1, hw.2, ← ra.length]
          simp
        rw [e2]
        exact rx
      · obtain ⟨V4, R4, r4⟩ := rep_newtup R3 (cutP_rep ra lo hi) (Nat.le_trans (cutV_length _ _ _) za) hp
        exact h3 _ _ V4 R4 _ r4
    · split at e
      · rename_i z hz
        cases e
        exact .inr (.inr ⟨z, repE_str rx, hz, OutP.now h3 R3 _ (show RepV X.K G3 H3 (.str (cutS z lo hi)) _ by simp only [RepV])⟩)
      · cases e
    · split at e
      · rename_i xs e1
        cases e
        obtain ⟨a, us, rfl, ha, ra, za⟩ := lst_of R3 rx e1
        refine .inl ⟨a, us, rfl, ha, fun p hp => ?_⟩
        obtain ⟨V4, R4, r4⟩ := rep_newlst (H0 := H) R3 V.dom (cutP_rep ra lo hi) (Nat.le_trans (cutV_length _ _ _) za) hp
        exact h3 _ _ V4 R4 _ r4
      · cases e
end
end HF


end
section
set_option Elab.async false
set_option linter.all false
set_option maxRecDepth 20000
set_option autoImplicit false
/-! HF6: statements, targets, loops, a def by its body, the call of a def. -/
namespace HF
open PySem PySem.Spec PyProof.Rows L2

/-- a statement's end -/
inductive SR where
  | nx (M : Mem)
  | ret (e : EV) (M : Mem)
  | brk (M : Mem)
  | cnt (M : Mem)
  | exn (c : Str) (M : Mem)
  | bad
abbrev Ss := Mem → SR
@[simp] def Res.st {α : Type} (x : Res α) (f : α → Mem → SR) : SR := match x with
  | .ok a M => f a M
  | .exn c M => .exn c M
  | .bad => .bad
@[simp] def SR.sq (x : SR) (f : Ss) : SR := match x with
  | .nx M => f M
  | .ret e M => .ret e M
  | .brk M => .brk M
  | .cnt M => .cnt M
  | .exn c M => .exn c M
  | .bad => .bad
section
variable (X : Cx) (E : Ent) (W : WX)
def SOut (D : Ends) (G : Gh) (H : Hp) (r : SR) : Prop := match r with
  | .nx M' => ∀ G' s' H', Ext G H G' H' → StRep X.K E G' M' s' H' → D.nx s' H'
  | .ret e M' => ∀ G' s' H' u, StRep X.K E G' M' s' H' → RepE X.K E E.H G' M' s' H' e u → D.rt u H'
  | .brk M' => ∀ G' s' H', Ext G H G' H' → StRep X.K E G' M' s' H' → D.bk s' H'
  | .cnt M' => ∀ G' s' H', Ext G H G' H' → StRep X.K E G' M' s' H' → D.ct s' H'
  | .exn c M' => ∀ G' s' H' C, Ext G H G' H' → StRep X.K E G' M' s' H' → X.mg c = some (.ref C) → W (.ref C) none s' H'
  | .bad => False
def tS (f : Ss) : TS := fun D s H => ∃ G M, StRep X.K E G M s H ∧ SOut X E W D G H (f M)
structure FS (st : Stmt) (f : Ss) : Prop where
  ps : PS X st (tS X E W f)
structure FSs (st : List Stmt) (f : Ss) : Prop where
  ps : PSs X st (tS X E W f)
end
section
variable {X : Cx} {E : Ent} {W : WX} {N : List Str} {sc : Scope} {fs : Str → Bool} {k : Nat} {Z : Wd}
theorem SOut.nxt {D : Ends} {M : Mem} {G : Gh} {H : Hp} (h : SOut X E W D G H (.nx M)) {s : L2.St} (R : StRep X.K E G M s H) : D.nx s H := h G s H (Ext.refl _ _) R
/-- from a later place -/
theorem SOut.late {D : Ends} {r : SR} {G G1 : Gh} {H H1 : Hp} (h : SOut X E W D G H r) (x : Ext G H G1 H1) : SOut X E W D G1 H1 r := by
  cases r with
  | nx M1 => exact fun G' s' H' x' R => h G' s' H' (x.trans x') R
  | ret e M1 => exact h
  | brk M1 => exact fun G' s' H' x' R => h G' s' H' (x.trans x') R
  | cnt M1 => exact fun G' s' H' x' R => h G' s' H' (x.trans x') R
  | exn c M1 => exact fun G' s' H' C x' R m => h G' s' H' C (x.trans x') R m
  | bad => exact h
/-- an expression's run within a statement -/
theorem OutP.st {α : Type} {D : Ends} {s : L2.St} {G : Gh} {M : Mem} {H : Hp} {r : Res α} {f : α → Mem → SR} (h : SOut X E W D G H (r.st f)) : OutP X E W s G M H r fun G1 M1 H1 a => SOut X E W D G1 H1 (f a M1) := by
  cases r with
  | ok a M1 => exact fun G' H' V R => SOut.late h V.ext
  | exn c M1 => exact fun G' H' C x R m => h G' s H' C x R m
  | bad => exact h
theorem tE_st {D : Ends} {f : Sm EV} {g : EV → Mem → SR} {s : L2.St} {G : Gh} {M : Mem} {H : Hp} {Q : V → Hp → Prop} (R : StRep X.K E G M s H) (h : SOut X E W D G H ((f M).st g))
    (i : ∀ G1 M1 H1 a u, Evo s G M H G1 M1 H1 → StRep X.K E G1 M1 s H1 → RepE X.K E H G1 M1 s H1 a u → SOut X E W D G1 H1 (g a M1) → Q u H1) : tE X E W f s H Q :=
  ⟨G, M, R, (OutP.st h).imp fun G1 M1 H1 a V1 R1 q u ru => i G1 M1 H1 a u V1 R1 ru q⟩
theorem tP_st {D : Ends} {f : Sm PV} {g : PV → Mem → SR} {s : L2.St} {G : Gh} {M : Mem} {H : Hp} {Q : V → Hp → Prop} (R : StRep X.K E G M s H) (h : SOut X E W D G H ((f M).st g))
    (i : ∀ G1 M1 H1 a u, Evo s G M H G1 M1 H1 → StRep X.K E G1 M1 s H1 → RepV X.K G1 H1 a u → SOut X E W D G1 H1 (g a M1) → Q u H1) : tP X E W f s H Q :=
  ⟨G, M, R, (OutP.st h).imp fun G1 M1 H1 a V1 R1 q u ru => i G1 M1 H1 a u V1 R1 ru q⟩
theorem tB_st {D : Ends} {f : Sm Bool} {g : Bool → Mem → SR} {s : L2.St} {G : Gh} {M : Mem} {H : Hp} {Q : Bool → Hp → Prop} (R : StRep X.K E G M s H) (h : SOut X E W D G H ((f M).st g))
    (i : ∀ G1 M1 H1 a, Evo s G M H G1 M1 H1 → StRep X.K E G1 M1 s H1 → SOut X E W D G1 H1 (g a M1) → Q a H1) : tB' X E W f s H Q :=
  ⟨G, M, R, (OutP.st h).imp fun G1 M1 H1 a V1 R1 q => i G1 M1 H1 a V1 R1 q⟩

/-! ### rows of statements -/
@[simp] def sNop : Ss := fun M => .nx M
@[simp] def sSeq (f g : Ss) : Ss := fun M => (f M).sq g
theorem fss_nil : FSs X E W [] sNop := by
  refine ⟨PSs.weak pss_nil ?_⟩
  rintro D s H ⟨G, M, R, h⟩
  exact h.nxt R
theorem SOut.sq {D : Ends} {r : SR} {g : Ss} {G : Gh} {H : Hp} (h : SOut X E W D G H (r.sq g)) : SOut X E W { D with nx := tS X E W g D } G H r := by
  cases r with
  | nx M1 => exact fun G' s' H' x R => ⟨G', M1, R, SOut.late h x⟩
  | ret e M1 => exact h
  | brk M1 => exact h
  | cnt M1 => exact h
  | exn c M1 => exact h
  | bad => exact h
theorem fss_cons {st : Stmt} {rest : List Stmt} {f g : Ss} (h : FS X E W st f) (h' : FSs X E W rest g) : FSs X E W (st :: rest) (sSeq f g) := by
  refine ⟨PSs.weak (pss_cons h.ps h'.ps) ?_⟩
  rintro D s H ⟨G, M, R, hh⟩
  exact ⟨G, M, R, hh.sq⟩
theorem fss_one {st : Stmt} {f : Ss} (h : FS X E W st f) : FSs X E W [st] f := ⟨pss_one h.ps⟩
/-- slots that nothing asks any more -/
@[simp] def forget (ws : List Nat) (M : Mem) : Mem := ⟨ws.foldl (fun r i => r.set i none) M.r, M.h⟩
theorem StRep.forget {K : PySem.W.Frag} {G : Gh} {M : Mem} {s : L2.St} {H : Hp} (R : StRep K E G M s H) (ws : List Nat) : StRep K E G (HF.forget ws M) s H := by
  obtain ⟨r, h⟩ := M
  show StRep K E G ⟨ws.foldl (fun r i => r.set i none) r, h⟩ s H
  induction ws generalizing r with
  | nil => exact R
  | cons w ws ih =>
    refine ih (r.set w none) ?_
    refine R.slots (by simp) fun i x e => ?_
    by_cases z : w = i
    · subst z
      by_cases lt : w < r.length
      · rw [List.getElem?_set_self lt] at e; cases e
      · rw [List.getElem?_eq_none (by simpa using lt)] at e; cases e
    · rw [List.getElem?_set_ne z] at e; exact .inl e
@[simp] def sFor (ws : List Nat) (f : Ss) : Ss := fun M => (f M).sq fun M1 => .nx (forget ws M1)
/-! ### stores -/
theorem StRep.setV {K : PySem.W.Frag} {G : Gh} {M : Mem} {s : L2.St} {H : Hp} (R : StRep K E G M s H) (i : Nat) {p : PV} {u : V} (r : RepV K G H p u) : StRep K E G ⟨M.r.set i (some (.v p)), M.h⟩ (s.set i (some u)) H := by
  have lk : ∀ (j : Nat) (x : LV), (M.r.set i (some (.v p)))[j]? = some (some x) → (j = i ∧ x = .v p ∧ (s.set i (some u))[j]? = some (some u)) ∨ (M.r[j]? = some (some x) ∧ (s.set i (some u))[j]? = s[j]?) := fun j x e => by
    by_cases z : i = j
    · subst z
      by_cases lt : i < M.r.length
      · rw [List.getElem?_set_self lt] at e; cases e
        exact .inl ⟨rfl, rfl, List.getElem?_set_self (by rw [← R.len]; exact lt)⟩
      · rw [List.getElem?_eq_none (by simpa using lt)] at e; cases e
    · rw [List.getElem?_set_ne z] at e
      exact .inr ⟨e, List.getElem?_set_ne z⟩
  refine ⟨R.post, R.hp, by simp [R.len], fun j q e => ?_, fun j o e => ?_, fun j l o o' a e e' h h' => ?_⟩
  · rcases lk j _ e with ⟨_, z, z'⟩ | ⟨z, z'⟩
    · cases z; exact ⟨u, z', r⟩
    · rw [z']; exact R.slot j q z
  · rcases lk j _ e with ⟨_, z, z'⟩ | ⟨z, z'⟩
    · cases z
    · rw [z']; exact R.own j o z
  · rcases lk j _ e with ⟨_, z, z'⟩ | ⟨z, z'⟩
    · cases z
    · rcases lk l _ e' with ⟨_, y, y'⟩ | ⟨y, y'⟩
      · cases y
      · rw [z'] at h; rw [y'] at h'; exact R.sep j l o o' a z y h h'
theorem StRep.setO {K : PySem.W.Frag} {G : Gh} {M : Mem} {s : L2.St} {H : Hp} (R : StRep K E G M s H) (i : Nat) {o : PO} {a : Addr} {w : HO} (h1 : H a = some w) (ro : RepO K G H o w) (n : E.H a = none) (nf : ¬ G.F a) (nl : a ∉ G.al) (no : ¬ OwnAt M.r s a) :
    StRep K E G ⟨M.r.set i (some (.own o)), M.h⟩ (s.set i (some (.ref a))) H := by
  have lk : ∀ (j : Nat) (x : LV), (M.r.set i (some (.own o)))[j]? = some (some x) → (j = i ∧ x = .own o ∧ (s.set i (some (V.ref a)))[j]? = some (some (V.ref a))) ∨ (j ≠ i ∧ M.r[j]? = some (some x) ∧ (s.set i (some (V.ref a)))[j]? = s[j]?) := fun j x e => by
    by_cases z : i = j
    · subst z
      by_cases lt : i < M.r.length
      · rw [List.getElem?_set_self lt] at e; cases e
        exact .inl ⟨rfl, rfl, List.getElem?_set_self (by rw [← R.len]; exact lt)⟩
      · rw [List.getElem?_eq_none (by simpa using lt)] at e; cases e
    · rw [List.getElem?_set_ne z] at e
      exact .inr ⟨fun y => z y.symm, e, List.getElem?_set_ne z⟩
  refine ⟨R.post, R.hp, by simp [R.len], fun j q e => ?_, fun j o2 e => ?_, fun j l o2 o' b e e' h h' => ?_⟩
  · rcases lk j _ e with ⟨_, z, z'⟩ | ⟨_, z, z'⟩
    · cases z
    · rw [z']; exact R.slot j q z
  · rcases lk j _ e with ⟨_, z, z'⟩ | ⟨_, z, z'⟩
    · cases z; exact ⟨a, w, z', h1, ro, n, nf, nl⟩
    · rw [z']; exact R.own j o2 z
  · rcases lk j _ e with ⟨zi, z, z'⟩ | ⟨zi, z, z'⟩
    · rcases lk l _ e' with ⟨yi, y, y'⟩ | ⟨yi, y, y'⟩
      · rw [zi, yi]
      · rw [z'] at h; cases h
        rw [y'] at h'
        exact absurd ⟨l, o', y, h'⟩ no
    · rcases lk l _ e' with ⟨yi, y, y'⟩ | ⟨yi, y, y'⟩
      · rw [y'] at h'; cases h'
        rw [z'] at h
        exact absurd ⟨j, o2, z, h⟩ no
      · rw [z'] at h; rw [y'] at h'; exact R.sep j l o2 o' b z y h h'
def locB (sc : Scope) (fs : Str → Bool) (x : Str) : Bool := match sc.names.lookup x with
  | some .local => true
  | some .cell => fs x
  | _ => false
theorem locB_loc {x : Str} (h : locB sc fs x = true) : Loc sc x := by
  unfold locB at h
  split at h
  · rename_i e; exact .inl e
  · rename_i e; exact .inr e
  · cases h
theorem locB_fn (A : Amb Z X W N sc fs k) {x : Str} (h : locB sc fs x = true) : X.fn x = true ∨ X.env.scope.names.lookup x = some .local := by
  unfold locB at h
  split at h
  · rename_i e; exact .inr (by rw [A.hs]; exact e)
  · exact .inl (by rw [A.fn]; exact h)
  · cases h
/-- name = value -/
@[simp] def sSet (i : Nat) (f : Sm PV) : Ss := fun M => (f M).st fun p M1 => .nx ⟨M1.r.set i (some (.v p)), M1.h⟩
/-- name = a new thing, to be this name's alone -/
@[simp] def sOwn (i : Nat) (f : Sm EV) : Ss := fun M => (f M).st fun e M1 => match e with
  | .fr o => .nx ⟨M1.r.set i (some (.own o)), M1.h⟩
  | .v p => .nx ⟨M1.r.set i (some (.v p)), M1.h⟩
  | .sl _ => .bad
theorem set_tP {i : Nat} {f : Sm PV} {D : Ends} {s : L2.St} {H : Hp} (h : tS X E W (sSet i f) D s H) : tAsg (tP X E W f) (gName i) D s H := by
  obtain ⟨G, M, R, h⟩ := h
  exact tP_st R h fun G1 M1 H1 p u V1 R1 rp q => q.nxt (R1.setV i rp)
theorem set_tE {i : Nat} {f : Sm EV} {D : Ends} {s : L2.St} {H : Hp} (h : tS X E W (sOwn i f) D s H) : tAsg (tE X E W f) (gName i) D s H := by
  obtain ⟨G, M, R, h⟩ := h
  refine tE_st R h fun G1 M1 H1 e u V1 R1 re q => ?_
  cases e with
  | v p => exact SOut.nxt q (R1.setV i re)
  | fr o =>
    obtain ⟨a, w, rfl, h1, ro, n, nf, nl, no, _⟩ := re
    exact SOut.nxt q (R1.setO i h1 ro n nf nl no)
  | sl j => exact False.elim q
section
variable {e : Expr} {f : Sm EV} {pos pos' : Pos} {x : Str} {i : Nat}
theorem fs_set (A : Amb Z X W N sc fs k) {f : Sm PV} (hN : N[i]? = some x) (hl : locB sc fs x = true) (he : FP X E W e f) (hs : swapsWith e (some (.Name x pos')) pos.line X.env = pure false := by rfl) : FS X E W (.Assign [.Name x pos'] e pos) (sSet i f) :=
  ⟨PS.weak (ps_set (by rw [A.hN]; exact A.nd) (by rw [A.hN]; exact hN) (by rw [A.hs]; exact locB_loc hl) he.pe hs (locB_fn A hl)) fun _ _ _ h => set_tP h⟩
theorem fs_own (A : Amb Z X W N sc fs k) (hN : N[i]? = some x) (hl : locB sc fs x = true) (he : FE X E W e f) (hs : swapsWith e (some (.Name x pos')) pos.line X.env = pure false := by rfl) : FS X E W (.Assign [.Name x pos'] e pos) (sOwn i f) :=
  ⟨PS.weak (ps_set (by rw [A.hN]; exact A.nd) (by rw [A.hN]; exact hN) (by rw [A.hs]; exact locB_loc hl) he.pe hs (locB_fn A hl)) fun _ _ _ h => set_tE h⟩
end

/-! ### targets: a name, a tuple of names -/
inductive Pat where
  | nm (i : Nat)
  | tp (is : List Nat)
  | tn (i : Nat) (is : List Nat)
def gNames : List Nat → TGs
  | [] => gNil
  | i :: is => gCons (gName i) (gNames is)
def gPat (K : PySem.W.Frag) : Pat → TG
  | .nm i => gName i
  | .tp is => gTup K is.length (gNames is)
  | .tn i is => gTup K 2 (gCons (gName i) (gCons (gTup K is.length (gNames is)) gNil))
def Pat.slots : Pat → List Nat
  | .nm i => [i]
  | .tp is => is
  | .tn i is => i :: is
structure FG (X : Cx) (tg : Expr) (pt : Pat) : Prop where
  pg : PG X tg (gPat X.K pt)
structure FGs (X : Cx) (tgs : List Expr) (is : List Nat) : Prop where
  pg : PGs X tgs (gNames is)
  len : tgs.length = is.length
@[simp] def setAll : List Nat → List PV → List (Option LV) → Option (List (Option LV))
  | [], [], r => some r
  | i :: is, p :: ps, r => setAll is ps (r.set i (some (.v p)))
  | _, _, _ => none
@[simp] def asgPat : Pat → PV → List (Option LV) → Option (List (Option LV))
  | .nm i, p, r => some (r.set i (some (.v p)))
  | .tp is, .tup ps, r => setAll is ps r
  | .tn i is, .tup [p, .tup ps], r => setAll is ps (r.set i (some (.v p)))
  | _, _, _ => none
section
variable {e : Expr} {es : List Expr} {pos : Pos} {x : Str} {i : Nat} {is : List Nat}
theorem fg_name (A : Amb Z X W N sc fs k) (hN : N[i]? = some x) (hl : locB sc fs x = true) : FG X (.Name x pos) (.nm i) := ⟨pg_name (by rw [A.hN]; exact A.nd) (by rw [A.hN]; exact hN) (by rw [A.hs]; exact locB_loc hl) (locB_fn A hl)⟩
theorem fgs_nil : FGs X [] [] := ⟨pgs_nil, rfl⟩
theorem fgs_cons (h : FG X e (.nm i)) (h' : FGs X es is) (hs : (assignEach (e :: es) X.env).map (·.2) = assign e X.env :: (assignEach es X.env).map (·.2) := by rfl) : FGs X (e :: es) (i :: is) := ⟨pgs_cons h.pg h'.pg hs, by simp [h'.len]⟩
theorem fg_tup (A : Amb Z X W N sc fs k) {kk} (h : FGs X es is) (hn : (assignEach es X.env).length = is.length := by rfl) (hst : (assignEach es X.env).findIdx? (·.1) = none := by rfl) : FG X (.Tuple es kk pos) (.tp is) := ⟨pg_tup A.calm h.pg hn hst⟩
end
theorem gNames_ok {G : Gh} {H : Hp} {K : PySem.W.Frag} : ∀ {is : List Nat} {ps : List PV} {us : List V} {M : Mem} {s : L2.St} {r' : List (Option LV)}, StRep K E G M s H → RepVs K G H ps us → setAll is ps M.r = some r' →
    ∃ s', StRep K E G ⟨r', M.h⟩ s' H ∧ (∀ Q : L2.St → Hp → Prop, Q s' H → gNames is us s H Q) ∧ ∀ j, j ∉ is → s'[j]? = s[j]?
  | [], ps, us, M, s, r', R, r, e => by
    cases ps with
    | cons p ps => cases e
    | nil =>
      cases e
      rw [RepVs.nil_iff.mp r]
      exact ⟨s, R, fun Q q => ⟨rfl, q⟩, fun j _ => rfl⟩
  | i :: is, ps, us, M, s, r', R, r, e => by
    cases ps with
    | nil => cases e
    | cons p ps =>
      obtain ⟨u, ws, rfl, rp, rs⟩ := RepVs.cons_iff.mp r
      obtain ⟨s', R', h1, h2⟩ := gNames_ok (R.setV i rp) rs e
      exact ⟨s', R', fun Q q => ⟨u, ws, rfl, h1 Q q⟩, fun j hj => by
        simp only [List.mem_cons, not_or] at hj
        rw [h2 j hj.2, List.getElem?_set_ne (fun z => hj.1 z.symm)]⟩
theorem setAll_len : ∀ {is : List Nat} {ps : List PV} {r r' : List (Option LV)}, setAll is ps r = some r' → is.length = ps.length
  | [], [], _, _, _ => rfl
  | i :: is, p :: ps, r, r', e => by simp [setAll_len (is := is) (ps := ps) e]
  | [], p :: ps, _, _, e => by cases e
  | i :: is, [], _, _, e => by cases e
theorem asgTn {i : Nat} {is : List Nat} {p : PV} {r r' : List (Option LV)} (e : asgPat (.tn i is) p r = some r') : ∃ p1 ps, p = .tup [p1, .tup ps] ∧ setAll is ps (r.set i (some (.v p1))) = some r' := by
  cases p <;> try cases e
  rename_i xs
  match xs, e with
  | [p1, .tup ps], e => exact ⟨p1, ps, rfl, e⟩
theorem gPat_ok {G : Gh} {H : Hp} {K : PySem.W.Frag} {pt : Pat} {p : PV} {u : V} {M : Mem} {s : L2.St} {r' : List (Option LV)} (R : StRep K E G M s H) (r : RepV K G H p u) (e : asgPat pt p M.r = some r') :
    ∃ s', StRep K E G ⟨r', M.h⟩ s' H ∧ (∀ Q : L2.St → Hp → Prop, Q s' H → gPat K pt u s H Q) ∧ ∀ j, j ∉ pt.slots → s'[j]? = s[j]? := by
  cases pt with
  | nm i =>
    cases e
    exact ⟨_, R.setV i r, fun Q q => q, fun j hj => List.getElem?_set_ne (fun z => hj (by simp [Pat.slots, z]))⟩
  | tp is =>
    cases p with
    | tup ps =>
      obtain ⟨a, us, rfl, ht, rs, z⟩ := tup_of r
      obtain ⟨s', R', h1, h2⟩ := gNames_ok R rs e
      exact ⟨s', R', fun Q q => ⟨a, us, rfl, ht, by rw [← rs.length, ← setAll_len e], h1 Q q⟩, h2⟩
    | _ => cases e
  | tn i is =>
    obtain ⟨p1, ps, rfl, e⟩ := asgTn e
    obtain ⟨a, us, rfl, ht, rs, z⟩ := tup_of r
    obtain ⟨u1, ws, rfl, rp1, rs2⟩ := RepVs.cons_iff.mp rs
    obtain ⟨u2, ws2, rfl, rp2, rs3⟩ := RepVs.cons_iff.mp rs2
    have := RepVs.nil_iff.mp rs3
    subst this
    obtain ⟨b, vs, rfl, hb, rv, zb⟩ := tup_of rp2
    obtain ⟨s', R', h1, h2⟩ := gNames_ok (R.setV i rp1) rv e
    refine ⟨s', R', fun Q q => ⟨a, _, rfl, ht, rfl, u1, _, rfl, .ref b, [], rfl, b, vs, rfl, hb, by rw [← rv.length, ← setAll_len e], h1 _ ⟨rfl, q⟩⟩, fun j hj => ?_⟩
    simp only [Pat.slots, List.mem_cons, not_or] at hj
    rw [h2 j hj.2, List.getElem?_set_ne (fun z => hj.1 z.symm)]
/-- a, b = value -/
@[simp] def sPat (pt : Pat) (f : Sm PV) : Ss := fun M => (f M).st fun p M1 => match asgPat pt p M1.r with
  | some r' => .nx ⟨r', M1.h⟩
  | none => .bad
theorem fs_pat {tg e : Expr} {pt : Pat} {f : Sm PV} {pos : Pos} (hg : FG X tg pt) (he : FP X E W e f) (hs : swapsWithSole [tg] e pos.line X.env = pure false := by rfl) (hw : swappedStores [tg] e X.env = pure none := by rfl)
    (h1 : (assignEach [tg] X.env).map (·.2) = [assign tg X.env] := by rfl) : FS X E W (.Assign [tg] e pos) (sPat pt f) := by
  refine ⟨PS.weak (ps_asg he.pe hg.pg hs hw h1) ?_⟩
  rintro D s H ⟨G, M, R, h⟩
  refine tP_st R h fun G1 M1 H1 p u V1 R1 rp q => ?_
  cases e1 : asgPat pt p M1.r with
  | none => simp only [e1] at q; exact False.elim q
  | some r' =>
    simp only [e1] at q
    obtain ⟨s', R', h1, _⟩ := gPat_ok R1 rp e1
    exact h1 _ (q.nxt R')

/-! ### return, if, expressions, pass -/
@[simp] def sRet (f : Sm EV) : Ss := fun M => (f M).st fun e M1 => match e with
  | .sl i => match slotAt M1 i with
    | some (.own o) => .ret (.fr o) ⟨M1.r.set i none, M1.h⟩
    | _ => .bad
  | e => .ret e M1
theorem sl_free {K : PySem.W.Frag} {G : Gh} {M : Mem} {s : L2.St} {H : Hp} {i : Nat} {o : PO} (R : StRep K E G M s H) (ei : M.r[i]? = some (some (.own o))) :
    StRep K E G ⟨M.r.set i none, M.h⟩ s H ∧ ∀ a, s[i]? = some (some (.ref a)) → ¬ OwnAt (M.r.set i none) s a := by
  have lt : i < M.r.length := (List.getElem?_eq_some_iff.mp ei).1
  refine ⟨R.slots (by simp) fun j x ej => ?_, fun a e ⟨j, o2, e1, e2⟩ => ?_⟩
  · by_cases zj : i = j
    · subst zj; rw [List.getElem?_set_self lt] at ej; cases ej
    · rw [List.getElem?_set_ne zj] at ej; exact .inl ej
  · by_cases zj : i = j
    · subst zj; rw [List.getElem?_set_self lt] at e1; cases e1
    · rw [List.getElem?_set_ne zj] at e1
      exact zj (R.sep i j o o2 a ei e1 e e2)
section
variable {e : Expr} {f : Sm EV} {pos : Pos}
theorem fs_ret (he : FE X E W e f) : FS X E W (.Return (some e) pos) (sRet f) := by
  refine ⟨PS.weak (ps_ret he.pe) ?_⟩
  rintro D s H ⟨G, M, R, h⟩
  refine tE_st R h fun G1 M1 H1 x u V1 R1 rx q => ?_
  cases x with
  | v p => exact q G1 s H1 u R1 rx
  | fr o =>
    have hd : ∀ a, H a = none → E.H a = none := fun a z => R.post.dom a z
    exact q G1 s H1 u R1 (rx.old hd)
  | sl i =>
    simp only at q
    split at q
    · rename_i o eo
      have ei := slotAt_some eo
      obtain ⟨a, w, e1, h1, ro, n, nf, nl⟩ := R1.own i o ei
      have rx : s[i]? = some (some u) := rx
      rw [e1] at rx; cases rx
      obtain ⟨Rf, no⟩ := sl_free R1 ei
      exact q G1 s H1 _ Rf ⟨a, w, rfl, h1, ro, n, nf, nl, no a e1, n⟩
    · exact False.elim q
@[simp] def sIf (c : Sm Bool) (f g : Ss) : Ss := fun M => (c M).st fun b M1 => if b = true then f M1 else g M1
theorem fs_if {c : Expr} {a b : List Stmt} {t : Sm Bool} {f g : Ss} (hc : FT X E W c t) (ha : FSs X E W a f) (hb : FSs X E W b g) : FS X E W (.If c a b pos) (sIf t f g) := by
  refine ⟨PS.weak (ps_if hc.pe ha.ps hb.ps) ?_⟩
  rintro D s H ⟨G, M, R, h⟩
  refine tB_st R h fun G1 M1 H1 b V1 R1 q => ?_
  cases b with
  | true =>
    rw [if_pos rfl] at q
    exact iteT ⟨G1, M1, R1, q⟩
  | false =>
    rw [if_neg Bool.false_ne_true] at q
    exact iteF ⟨G1, M1, R1, q⟩
@[simp] def sExp (f : Sm EV) : Ss := fun M => (f M).st fun _ M1 => .nx M1
theorem fs_exp (he : FE X E W e f) (hs : swapsWith e none pos.line X.env = pure false := by rfl) : FS X E W (.Expr e pos) (sExp f) := by
  refine ⟨PS.weak (ps_expr he.pe hs) ?_⟩
  rintro D s H ⟨G, M, R, h⟩
  exact tE_st R h fun G1 M1 H1 x u V1 R1 rx q => q.nxt R1
end

/-! ### while -/
def whileL (c : Sm Bool) (b : Ss) (ws : List Nat) : Nat → Ss
  | 0, _ => .bad
  | n + 1, M => (c M).st fun t M1 => if t = true then (match b M1 with
      | .nx M2 => whileL c b ws n (forget ws M2)
      | .cnt M2 => whileL c b ws n (forget ws M2)
      | .brk M2 => .nx (forget ws M2)
      | r => r) else .nx M1
@[simp] def sWhile (c : Sm Bool) (b : Ss) (ws : List Nat) (n : Nat) : Ss := fun M => whileL c b ws n (forget ws M)
theorem fs_while (A : Amb Z X W N sc fs k) {c : Expr} {body : List Stmt} {t : Sm Bool} {b : Ss} {pos : Pos} (ws : List Nat) (n : Nat) (hc : FT X E W c t) (hb : FSs X E W body b) : FS X E W (.While c body [] pos) (sWhile t b ws n) := by
  refine ⟨PS.weak (ps_while A.po hc.pe hb.ps) ?_⟩
  rintro D s H ⟨G, M, R, h⟩
  refine ⟨fun m s H => ∃ G M, StRep X.K E G M s H ∧ SOut X E W D G H (whileL t b ws m M), ⟨n, G, _, R.forget ws, h⟩, ?_⟩
  rintro m s H ⟨G, M, R, h⟩
  cases m with
  | zero => exact False.elim h
  | succ m =>
    unfold whileL at h
    refine tB_st R h fun G1 M1 H1 t V1 R1 q => ?_
    cases t with
    | false =>
      rw [if_neg Bool.false_ne_true] at q
      exact iteF (q.nxt R1)
    | true =>
      rw [if_pos rfl] at q
      refine iteT ⟨fun s H => ∃ G M, StRep X.K E G M s H ∧ SOut X E W D G H (whileL t b ws m M), fun s' H' h' => ⟨m, Nat.lt_succ_self m, h'⟩, G1, M1, R1, ?_⟩
      generalize b M1 = r at q
      cases r with
      | nx M2 => exact fun G' s' H' x R' => ⟨G', _, R'.forget ws, SOut.late q x⟩
      | cnt M2 => exact fun G' s' H' x R' => ⟨G', _, R'.forget ws, SOut.late q x⟩
      | brk M2 => exact fun G' s' H' x R' => q G' s' H' x (R'.forget ws)
      | ret e M2 => exact q
      | exn c M2 => exact q
      | bad => exact q
end
end HF


end
section
set_option Elab.async false
set_option linter.all false
set_option maxRecDepth 20000
set_option autoImplicit false
/-! HF7: what is walked; for; list comprehensions. -/
namespace HF
open PySem PySem.Spec PyProof.Rows L2

/-- that what is walked stands as it stood -/
@[simp] def Chk (e : EV) (xs : List PV) (M : Mem) : Prop := match e with
  | .sl i => slotAt M i = some (.own (.lst xs))
  | .v (.ref r) => cellAt M r = some (.lst xs)
  | _ => True
def SameAt (e : EV) (s0 s : L2.St) : Prop := match e with
  | .sl i => s[i]? = s0[i]?
  | _ => True
structure Wk (K : PySem.W.Frag) (E : Ent) (e : EV) (xs : List PV) (s0 : L2.St) (J : It) (G0 : Gh) (H0 : Hp) : Prop where
  go : ∀ (i : Nat) G M s H, StRep K E G M s H → Ext G0 H0 G H → Chk e xs M → SameAt e s0 s → i < xs.length → J.go i H
  yld : ∀ (i : Nat) G M s H x H' p, StRep K E G M s H → Ext G0 H0 G H → Chk e xs M → SameAt e s0 s → xs[i]? = some p → J.yld i H x H' → ∃ G', Evo s G M H G' M H' ∧ StRep K E G' M s H' ∧ RepV K G' H' p x
  stop : ∀ (i : Nat) G M s H, StRep K E G M s H → Ext G0 H0 G H → Chk e xs M → SameAt e s0 s → xs.length ≤ i → J.stop i H
  sz : xs.length ≤ sizeLine
abbrev Src := EV × List PV
section
variable (X : Cx) (E : Ent) (W : WX)
def tI (f : Sm Src) : TI := fun s H R => ∃ G M, StRep X.K E G M s H ∧ OutP X E W s G M H (f M) fun G1 _ H1 sr => ∀ J, Wk X.K E sr.1 sr.2 s J G1 H1 → R J H1
structure FI (tg iter : Expr) (f : Sm Src) : Prop where
  pi : PI X tg iter (tI X E W f)
end
section
variable {X : Cx} {E : Ent} {W : WX} {N : List Str} {sc : Scope} {fs : Str → Bool} {k : Nat} {Z : Wd}
theorem PI.weak {tg iter : Expr} {t t' : TI} (h : PI X tg iter t) (i : ∀ s H R, t' s H R → t s H R) : PI X tg iter t' := ⟨fun pins s σ H R I q => h.run pins s σ H R I (i _ _ _ q)⟩
theorem PI.or {tg iter : Expr} {t t' : TI} (h : PI X tg iter t) (h' : PI X tg iter t') : PI X tg iter (fun s H R => t s H R ∨ t' s H R) :=
  ⟨fun pins s σ H R I q => q.elim (h.run pins s σ H R I) (h'.run pins s σ H R I)⟩

/-! ### sources -/
/-- a list that is seen in every later state -/
theorem wk_list {K : PySem.W.Frag} {e : EV} {xs : List PV} {s0 : L2.St} {G0 : Gh} {H0 : Hp} {a : Addr} (hz : xs.length ≤ sizeLine) (v : ∀ G M s H, StRep K E G M s H → Ext G0 H0 G H → Chk e xs M → SameAt e s0 s → ∃ us, SqL K H a us ∧ RepVs K G H xs us) : Wk K E e xs s0 (Itl K a) G0 H0 where
  go := fun i G M s H R x c sa lt => by
    obtain ⟨us, q, r⟩ := v G M s H R x c sa
    have lt' : i < us.length := by rw [← r.length]; exact lt
    exact ⟨us, us[i], q, List.getElem?_eq_getElem lt'⟩
  yld := fun i G M s H y H' p R x c sa e1 e2 => by
    obtain ⟨us, q, r⟩ := v G M s H R x c sa
    obtain ⟨rfl, h2⟩ := e2
    obtain ⟨w, h3, h4⟩ := r.get e1
    have := h2 us q
    rw [h3] at this; cases this
    exact ⟨G, Evo.refl _ _ _ _, R, h4⟩
  stop := fun i G M s H R x c sa le => by
    obtain ⟨us, q, r⟩ := v G M s H R x c sa
    exact ⟨us, q, by rw [← r.length]; exact le⟩
  sz := hz
theorem wk_tup {K : PySem.W.Frag} {e : EV} {xs : List PV} {s0 : L2.St} {G0 : Gh} {H0 : Hp} {a : Addr} (hz : xs.length ≤ sizeLine) (v : ∀ G M s H, StRep K E G M s H → Ext G0 H0 G H → ∃ us, SqT K H a us ∧ RepVs K G H xs us) : Wk K E e xs s0 (Itt K a) G0 H0 where
  go := fun i G M s H R x c sa lt => by
    obtain ⟨us, q, r⟩ := v G M s H R x
    have lt' : i < us.length := by rw [← r.length]; exact lt
    exact ⟨us, us[i], q, List.getElem?_eq_getElem lt'⟩
  yld := fun i G M s H y H' p R x c sa e1 e2 => by
    obtain ⟨us, q, r⟩ := v G M s H R x
    obtain ⟨rfl, h2⟩ := e2
    obtain ⟨w, h3, h4⟩ := r.get e1
    have := h2 us q
    rw [h3] at this; cases this
    exact ⟨G, Evo.refl _ _ _ _, R, h4⟩
  stop := fun i G M s H R x c sa le => by
    obtain ⟨us, q, r⟩ := v G M s H R x
    exact ⟨us, q, by rw [← r.length]; exact le⟩
  sz := hz
@[simp] def signsOf (z : Str) : List PV := z.cps.toList.map fun c => .str ⟨#[c]⟩
theorem wk_str {K : PySem.W.Frag} {e : EV} {z : Str} {s0 : L2.St} {G0 : Gh} {H0 : Hp} (hz : z.length ≤ sizeLine) : Wk K E e (signsOf z) s0 (Its z) G0 H0 where
  go := fun i G M s H R x c sa lt => by
    show i < z.cps.size
    simpa using lt
  yld := fun i G M s H y H' p R x c sa e1 e2 => by
    obtain ⟨rfl, c, h1, rfl⟩ := e2
    simp only [signsOf, List.getElem?_map, Array.getElem?_toList] at e1
    rw [h1] at e1; cases e1
    exact ⟨G, Evo.refl _ _ _ _, R, by simp only [RepV]⟩
  stop := fun i G M s H R x c sa le => by
    show z.cps.size ≤ i
    simpa using le
  sz := by simpa [Str.length] using hz
/-- of an expression: a list, a tuple, a text; a slot's own list stays the slot's -/
@[simp] def srcOf (f : Sm EV) : Sm Src := fun M => (f M).bnd fun e M1 => match e with
  | .v (.tup xs) => .ok (.v .non, xs) M1
  | .v (.str z) => if z.length ≤ sizeLine then .ok (.v .non, signsOf z) M1 else .bad
  | .v (.lst xs) => .ok (.v .non, xs) M1
  | .v (.rol xs) => .ok (.v .non, xs) M1
  | .fr (.lst xs) => .ok (.v .non, xs) M1
  | .v (.ref r) => match cellAt M1 r with
    | some (.lst xs) => .ok (.v (.ref r), xs) M1
    | _ => .bad
  | .sl i => match slotAt M1 i with
    | some (.own (.lst xs)) => .ok (.sl i, xs) M1
    | _ => .bad
  | _ => .bad
theorem fi_of {tg e : Expr} {f : Sm EV} (h : FE X E W e f) : FI X E W tg e (srcOf f) := by
  refine ⟨PI.weak (PI.or (pi_list h.pe) (PI.or (pi_tup h.pe) (pi_str h.pe))) ?_⟩
  rintro s H Q ⟨G, M, R, hh⟩
  cases hf : f M with
  | exn c M1 =>
    refine .inl ⟨G, M, R, ?_⟩
    rw [hf]
    simp only [srcOf, hf, Res.bnd] at hh
    exact hh
  | bad => simp only [srcOf, hf, Res.bnd] at hh; exact hh.elim
  | ok e M1 =>
    simp only [srcOf, hf, Res.bnd] at hh
    have lst : ∀ {e' : EV} {xs : List PV}, OutP X E W s G M H (.ok (e', xs) M1) (fun G1 _ H1 sr => ∀ J, Wk X.K E sr.1 sr.2 s J G1 H1 → Q J H1) →
        (∀ G1 H1 u, Evo s G M H G1 M1 H1 → StRep X.K E G1 M1 s H1 → RepE X.K E H G1 M1 s H1 e u → ∃ a us G2, u = .ref a ∧ SqL X.K H1 a us ∧ Evo s G M H G2 M1 H1 ∧ StRep X.K E G2 M1 s H1 ∧ Wk X.K E e' xs s (Itl X.K a) G2 H1) → iList X.K (tE X E W f) s H Q := fun {e' xs} h1 h2 => by
      refine ⟨G, M, R, ?_⟩
      rw [hf]
      intro G1 H1 V1 R1 u ru
      obtain ⟨a, us, G2, rfl, h3, V2, R2, w⟩ := h2 G1 H1 u V1 R1 ru
      exact ⟨a, rfl, ⟨us, h3⟩, h1 G2 H1 V2 R2 _ w⟩
    split at hh
    · rename_i xs
      refine .inr (.inl ⟨G, M, R, ?_⟩)
      rw [hf]
      intro G1 H1 V1 R1 u ru
      have ru : RepV X.K G1 H1 (.tup xs) u := ru
      simp only [RepV] at ru
      obtain ⟨a, us, rfl, ft, rr⟩ := ru
      exact ⟨a, rfl, ⟨us, ft.sq⟩, hh G1 H1 V1 R1 _ (wk_tup (by rw [rr.length]; exact ft.1) fun G' M' s' H' R' x => ⟨us, (ft.mono x).sq, RepVs.mono x _ _ rr⟩)⟩
    · rename_i z
      split at hh
      · rename_i hz
        refine .inr (.inr ⟨G, M, R, ?_⟩)
        rw [hf]
        intro G1 H1 V1 R1 u ru
        exact ⟨z, repE_str ru, hh G1 H1 V1 R1 _ (wk_str hz)⟩
      · exact hh.elim
    · rename_i xs
      refine .inl (lst hh fun G1 H1 u V1 R1 ru => ?_)
      have ru : RepV X.K G1 H1 (.lst xs) u := ru
      simp only [RepV] at ru
      obtain ⟨a, us, rfl, ⟨z, f1, f2⟩, rr⟩ := ru
      exact ⟨a, us, G1, rfl, .inl f2, V1, R1, wk_list (by rw [rr.length]; exact z) fun G' M' s' H' R' x _ _ => ⟨us, .inl (x.rd a _ f1 trivial f2), RepVs.mono x _ _ rr⟩⟩
    · rename_i xs
      refine .inl (lst hh fun G1 H1 u V1 R1 ru => ?_)
      have ru : RepV X.K G1 H1 (.rol xs) u := ru
      simp only [RepV] at ru
      obtain ⟨a, us, rfl, fl, rr⟩ := ru
      exact ⟨a, us, G1, rfl, fl.sq, V1, R1, wk_list (by rw [rr.length]; exact fl.1) fun G' M' s' H' R' x _ _ => ⟨us, (fl.mono x).sq, RepVs.mono x _ _ rr⟩⟩
    · rename_i xs
      refine .inl (lst hh fun G1 H1 u V1 R1 ru => ?_)
      obtain ⟨a, w, rfl, h1, ⟨us, rfl, z, rr⟩, n, nf, nl, no, ho⟩ := ru
      have x0 := G1.ext_fz H1 a
      exact ⟨a, us, G1.fz a, rfl, SqL.of h1, V1.frozen (.inl ho), R1.frozen h1 n nl no, wk_list (by rw [rr.length]; exact z) fun G' M' s' H' R' x _ _ => ⟨us, .inl (x.rd a _ (.inr rfl) trivial (.inl h1)), RepVs.mono (x0.trans x) _ _ rr⟩⟩
    · rename_i r
      split at hh
      · rename_i xs ec
        refine .inl (lst hh fun G1 H1 u V1 R1 ru => ?_)
        have ru : RepV X.K G1 H1 (.ref r) u := ru
        simp only [RepV] at ru
        obtain ⟨a, rfl, ha⟩ := ru
        obtain ⟨w, h1, us, rfl, z, rr⟩ := R1.cell ec ha
        exact ⟨a, us, G1, rfl, SqL.of h1, V1, R1, wk_list (by rw [rr.length]; exact z) fun G' M' s' H' R' x c _ => by
          obtain ⟨w, h1, us, rfl, z, rr⟩ := R'.cell (show cellAt M' r = some (.lst xs) from c) (x.al r a ha)
          exact ⟨us, SqL.of h1, rr⟩⟩
      · exact hh.elim
    · rename_i i
      split at hh
      · rename_i xs ec
        refine .inl (lst hh fun G1 H1 u V1 R1 ru => ?_)
        obtain ⟨a, w, e1, h1, ⟨us, rfl, z, rr⟩, _⟩ := R1.own i _ (slotAt_some ec)
        have ru : s[i]? = some (some u) := ru
        rw [e1] at ru; cases ru
        exact ⟨a, us, G1, rfl, SqL.of h1, V1, R1, wk_list (by rw [rr.length]; exact z) fun G' M' s' H' R' x c sa => by
          obtain ⟨b, w, e2, h1, ⟨us, rfl, z, rr⟩, _⟩ := R'.own i _ (slotAt_some (show slotAt M' i = some (.own (.lst xs)) from c))
          have sa : s'[i]? = s[i]? := sa
          rw [sa, e1] at e2; cases e2
          exact ⟨us, SqL.of h1, rr⟩⟩
      · exact hh.elim
    · exact hh.elim
/-! ranges -/
theorem wk_range {K : PySem.W.Frag} {s0 : L2.St} {lo : Int} {n : Nat} {G0 : Gh} {H0 : Hp} (hz : n ≤ sizeLine) : Wk K E (.v .non) ((List.range n).map fun (i : Nat) => .int (lo + (i : Int))) s0 (Itr lo n) G0 H0 where
  go := fun i G M s H R x _ sa lt => by
    show i < n
    simpa using lt
  yld := fun i G M s H y H' p R x _ sa e1 e2 => by
    obtain ⟨rfl, rfl⟩ := e2
    have lt : i < n := by
      have := (List.getElem?_eq_some_iff.mp e1).1
      simpa using this
    rw [List.getElem?_map, List.getElem?_range lt] at e1
    cases e1
    exact ⟨G, Evo.refl _ _ _ _, R, by simp only [RepV]⟩
  stop := fun i G M s H R x _ sa le => by
    show n ≤ i
    simpa using le
  sz := by simpa using hz
theorem wk_rangeC {K : PySem.W.Frag} {s0 : L2.St} {lo c : Int} {n : Nat} {G0 : Gh} {H0 : Hp} (hz : n ≤ sizeLine) : Wk K E (.v .non) ((List.range n).map fun (i : Nat) => .int (lo + (i : Int) * c)) s0 (Itc lo c n) G0 H0 where
  go := fun i G M s H R x _ sa lt => by
    show i < n
    simpa using lt
  yld := fun i G M s H y H' p R x _ sa e1 e2 => by
    obtain ⟨rfl, rfl⟩ := e2
    have lt : i < n := by
      have := (List.getElem?_eq_some_iff.mp e1).1
      simpa using this
    rw [List.getElem?_map, List.getElem?_range lt] at e1
    cases e1
    exact ⟨G, Evo.refl _ _ _ _, R, by simp only [RepV]⟩
  stop := fun i G M s H R x _ sa le => by
    show n ≤ i
    simpa using le
  sz := by simpa using hz
@[simp] def rgOk (i : Int) : Bool := decide (i.natAbs < 2 ^ 62)
theorem rgOk_of {i : Int} (h : rgOk i = true) : -(2 ^ 62) ≤ i ∧ i < 2 ^ 62 := by
  simp only [rgOk, decide_eq_true_eq] at h
  omega
@[simp] def srcR1 (f : Sm (List PV)) : Sm Src := fun M => (f M).bnd fun ps M1 => match ps with
  | [.int j] => if (rgOk j && decide (j.toNat ≤ sizeLine)) = true then .ok (.v .non, (List.range j.toNat).map fun (i : Nat) => .int (0 + (i : Int))) M1 else .bad
  | _ => .bad
@[simp] def srcR2 (f : Sm (List PV)) : Sm Src := fun M => (f M).bnd fun ps M1 => match ps with
  | [.int i, .int j] => if (rgOk i && rgOk j && decide ((j - i).toNat ≤ sizeLine)) = true then .ok (.v .non, (List.range (j - i).toNat).map fun (m : Nat) => .int (i + (m : Int))) M1 else .bad
  | _ => .bad
/-- how many turns a range upward has -/
def rgLen (i j c : Int) : Nat := (Builtin.Range.rangeSize i j c).toNat
def rg3Ok (i j c : Int) : Bool := rgOk i && rgOk j && decide (c ≠ 0) && decide (c.natAbs < 1073741824) && Builtin.Range.small i j c && decide (0 ≤ Builtin.Range.rangeSize i j c) && decide (rgLen i j c ≤ sizeLine)
@[simp] def srcR3 (f : Sm (List PV)) : Sm Src := fun M => (f M).bnd fun ps M1 => match ps with
  | [.int i, .int j, .int c] => if rg3Ok i j c = true then .ok (.v .non, (List.range (rgLen i j c)).map fun (m : Nat) => .int (i + (m : Int) * c)) M1 else .bad
  | _ => .bad
theorem ints_rep {K : PySem.W.Frag} {G : Gh} {H : Hp} {i : Int} {v : V} : RepV K G H (.int i) v ↔ v = .int i := by simp only [RepV]
section
variable {a b c : Expr} {tg : Expr} {p pos : Pos} {f : Sm (List PV)}
theorem fi_range1 (A : Amb Z X W N sc fs k) (hm : X.mg ("range" : Str) = none) (ha : FL X E W [a] f) (hg : sc.names.lookup ("range" : Str) = some .globalImplicit := by rfl) (hs : starEach [a] X.env = [(false, eval a X.env)] := by rfl) : FI X E W tg (.Call (.Name "range" p) [a] [] pos) (srcR1 f) := by
  refine ⟨PI.weak (pi_range1 (A.gl hg) hm ha.fa.pe hs) ?_⟩
  rintro s H Q ⟨G, M, R, h⟩
  refine ⟨G, M, R, h.bnd.imp fun G1 M1 H1 ps V1 R1 q us rr => ?_⟩
  split at q
  · rename_i j
    obtain ⟨u, ws, rfl, r1, r2⟩ := RepVs.cons_iff.mp rr
    rw [RepVs.nil_iff.mp r2, ints_rep.mp r1]
    split at q
    · rename_i z
      rw [Bool.and_eq_true] at z
      have zr := rgOk_of z.1
      refine ⟨j, rfl, zr.1, zr.2, ?_⟩
      exact q.now R1 _ (wk_range (of_decide_eq_true z.2))
    · exact False.elim q
  · exact False.elim q
theorem fi_range3 (A : Amb Z X W N sc fs k) (hm : X.mg ("range" : Str) = none) (ha : FL X E W [a, b, c] f) (hg : sc.names.lookup ("range" : Str) = some .globalImplicit := by rfl)
    (hs : starEach [a, b, c] X.env = (false, eval a X.env) :: starEach [b, c] X.env := by rfl) (hpl : (backTo pos (starEach [b, c] X.env)).any (fun x => x.1) = false := by rfl) :
    FI X E W tg (.Call (.Name "range" p) [a, b, c] [] pos) (srcR3 f) := by
  refine ⟨PI.weak (pi_range3 (A.gl hg) hm ha.fa.pe hs hpl) ?_⟩
  rintro s H Q ⟨G, M, R, h⟩
  refine ⟨G, M, R, h.bnd.imp fun G1 M1 H1 ps V1 R1 q us rr => ?_⟩
  split at q
  · rename_i i j c
    obtain ⟨u, ws, rfl, r1, r2⟩ := RepVs.cons_iff.mp rr
    obtain ⟨u2, ws, rfl, q2, r3⟩ := RepVs.cons_iff.mp r2
    obtain ⟨u3, ws, rfl, q3, r4⟩ := RepVs.cons_iff.mp r3
    rw [RepVs.nil_iff.mp r4, ints_rep.mp r1, ints_rep.mp q2, ints_rep.mp q3]
    split at q
    · rename_i z
      simp only [rg3Ok, Bool.and_eq_true, decide_eq_true_eq] at z
      obtain ⟨⟨⟨⟨⟨⟨z1, z2⟩, z3⟩, z4⟩, z5⟩, z6⟩, z7⟩ := z
      exact ⟨i, j, c, rgLen i j c, rfl, ⟨z3, z4, z5, by simp only [rgLen]; omega⟩, q.now R1 _ (wk_rangeC z7)⟩
    · exact False.elim q
  · exact False.elim q
end

/-! ### for -/
/-- what a turn comes to -/
inductive TR where
  | go (M : Mem)
  | out (r : SR)
@[simp] def forTurn (pt : Pat) (b : Ss) (ws : List Nat) (x : PV) (M : Mem) : TR := match asgPat pt x M.r with
  | none => .out .bad
  | some r' => match b ⟨r', M.h⟩ with
    | .nx M2 => .go (forget ws M2)
    | .cnt M2 => .go (forget ws M2)
    | .brk M2 => .out (.nx (forget ws M2))
    | z => .out z
open Classical in
noncomputable def forL (e : EV) (all : List PV) (pt : Pat) (b : Ss) (ws : List Nat) : List PV → Ss
  | [], M => if Chk e all M then .nx M else .bad
  | x :: r, M => if Chk e all M then (match forTurn pt b ws x M with
      | .go M' => forL e all pt b ws r M'
      | .out z => z) else .bad
@[simp] noncomputable def sForIn (f : Sm Src) (pt : Pat) (b : Ss) (ws : List Nat) : Ss := fun M => (f M).st fun sr M1 => forL sr.1 sr.2 pt b ws sr.2 (forget ws M1)
@[simp] def notSl (e : EV) : Bool := match e with
  | .sl _ => false
  | _ => true
theorem SameAt.of_not {e : EV} {s0 s : L2.St} (h : notSl e = true) : SameAt e s0 s := by
  cases e <;> first | trivial | cases h
/-- the source of a for: a slot's own list is frozen -/
@[simp] def srcP (f : Sm PV) : Sm Src := srcOf fun M => (f M).bnd fun p M1 => .ok (.v p) M1
theorem FP.fe {e : Expr} {f : Sm PV} (h : FP X E W e f) : FE X E W e (fun M => (f M).bnd fun p M1 => .ok (.v p) M1) := by
  refine ⟨PE.weak h.pe ?_⟩
  rintro s H Q ⟨G, M, R, hh⟩
  exact tP_one R hh fun G1 M1 H1 p u V1 R1 rp q => OutP.now q R1 u rp
structure NoSlot (f : Sm Src) : Prop where
  out : ∀ M a M', f M = .ok a M' → notSl a.1 = true
theorem srcP_ns {f : Sm PV} : NoSlot (srcP f) := by
  refine ⟨fun M a M' h => ?_⟩
  simp only [srcP, srcOf] at h
  cases hf : f M with
  | exn c M1 => rw [hf] at h; cases h
  | bad => rw [hf] at h; cases h
  | ok p M1 =>
    rw [hf] at h
    simp only [Res.bnd] at h
    cases p <;> simp only at h <;> first | (cases h; rfl) | (split at h <;> first | (cases h; rfl) | cases h) | cases h
theorem srcR1_ns {f : Sm (List PV)} : NoSlot (srcR1 f) := by
  refine ⟨fun M a M' h => ?_⟩
  simp only [srcR1] at h
  cases hf : f M with
  | exn c M1 => rw [hf] at h; cases h
  | bad => rw [hf] at h; cases h
  | ok p M1 =>
    rw [hf] at h
    simp only [Res.bnd] at h
    split at h
    · split at h
      · cases h; rfl
      · cases h
    · cases h
theorem srcR3_ns {f : Sm (List PV)} : NoSlot (srcR3 f) := by
  refine ⟨fun M a M' h => ?_⟩
  simp only [srcR3] at h
  cases hf : f M with
  | exn c M1 => rw [hf] at h; cases h
  | bad => rw [hf] at h; cases h
  | ok p M1 =>
    rw [hf] at h
    simp only [Res.bnd] at h
    split at h
    · split at h
      · cases h; rfl
      · cases h
    · cases h
theorem fs_for (A : Amb Z X W N sc fs k) {tg iter : Expr} {body : List Stmt} {f : Sm Src} {pt : Pat} {b : Ss} {pos : Pos} (ws : List Nat) (hi : FI X E W tg iter f) (hn : NoSlot f) (hg : FG X tg pt) (hb : FSs X E W body b)
    (hs : ∀ x, foldedSetIterable iter X.env x = pure x := by intro _; rfl) : FS X E W (.For tg iter body [] pos) (sForIn f pt b ws) := by
  refine ⟨PS.weak (ps_for A.po A.calm hi.pi hg.pg hb.ps hs) ?_⟩
  rintro D s H ⟨G, M, R, h⟩
  refine ⟨G, M, R, ?_⟩
  cases hf : f M with
  | exn c M1 => simp only [sForIn, hf, Res.st] at h; exact fun G' H' C x R' m => h G' s H' C x R' m
  | bad => simp only [sForIn, hf, Res.st] at h; exact h
  | ok sr M1 =>
    obtain ⟨e, all⟩ := sr
    have ns := hn.out M _ M1 hf
    simp only [sForIn, hf, Res.st] at h
    intro G1 H1 V1 R1 J w
    have h1 : SOut X E W D G1 H1 (forL e all pt b ws all (forget ws M1)) := SOut.late h V1.ext
    refine ⟨fun i m s' H' => m = all.length - i ∧ i ≤ all.length ∧ ∃ G' M', StRep X.K E G' M' s' H' ∧ Ext G1 H1 G' H' ∧ SOut X E W D G' H' (forL e all pt b ws (all.drop i) M'), ⟨all.length, by simp, Nat.zero_le _, G1, _, R1.forget ws, Ext.refl _ _, by simpa using h1⟩, ?_⟩
    rintro i m s2 H2 ⟨rfl, hi, G2, M2, R2, x2, h2⟩
    by_cases lt : i < all.length
    · rw [List.drop_eq_getElem_cons lt] at h2
      unfold forL at h2
      split at h2
      · rename_i c
        refine .inr ⟨w.go i G2 M2 s2 H2 R2 x2 c (SameAt.of_not ns) lt, fun s' H' => ∃ G' M', StRep X.K E G' M' s' H' ∧ Ext G1 H1 G' H' ∧ SOut X E W D G' H' (forL e all pt b ws (all.drop (i + 1)) M'), fun s' H' h' => ⟨all.length - (i + 1), by omega, rfl, lt, h'⟩, fun y H' hy => ?_⟩
        obtain ⟨G3, V3, R3, r3⟩ := w.yld i G2 M2 s2 H2 y H' all[i] R2 x2 c (SameAt.of_not ns) (List.getElem?_eq_getElem lt) hy
        have h3 := SOut.late h2 V3.ext
        cases er : asgPat pt all[i] M2.r with
        | none => simp only [forTurn, er] at h3; exact h3.elim
        | some r' =>
          simp only [forTurn, er] at h3
          obtain ⟨s', R5, k1, _⟩ := gPat_ok R3 r3 er
          refine k1 _ ⟨G3, _, R5, ?_⟩
          have x3 := x2.trans V3.ext
          generalize b ⟨r', M2.h⟩ = q at h3 ⊢
          have key : ∀ {M5}, SOut X E W D G3 H' (forL e all pt b ws (all.drop (i + 1)) (forget ws M5)) → ∀ G' s' H2', Ext G3 H' G' H2' → StRep X.K E G' M5 s' H2' → ∃ G' M', StRep X.K E G' M' s' H2' ∧ Ext G1 H1 G' H2' ∧ SOut X E W D G' H2' (forL e all pt b ws (all.drop (i + 1)) M') :=
            fun hh G' s' H2' x R' => ⟨G', _, R'.forget ws, x3.trans x, SOut.late hh x⟩
          cases q with
          | nx M5 => exact fun G' s' H2' x R' => key h3 G' s' H2' x R'
          | cnt M5 => exact fun G' s' H2' x R' => key h3 G' s' H2' x R'
          | brk M5 => exact fun G' s' H2' x R' => h3 G' s' H2' x (R'.forget ws)
          | ret e M5 => exact h3
          | exn c M5 => exact h3
          | bad => exact h3
      · exact h2.elim
    · have e1 : i = all.length := by omega
      subst e1
      rw [List.drop_length] at h2
      unfold forL at h2
      split at h2
      · rename_i c
        exact .inl ⟨w.stop _ G2 M2 s2 H2 R2 x2 c (SameAt.of_not ns) (Nat.le_refl _), SOut.nxt h2 R2⟩
      · exact h2.elim

/-! ### list comprehensions -/
/-- a turn of a comprehension: what is added, the state behind it -/
@[simp] def lcStep (pt : Pat) (vs : List Nat) (t : Sm Bool) (f : Sm PV) (x : PV) (M : Mem) : Option (Option PV × Mem) := match asgPat pt x M.r with
  | none => none
  | some r' => match t ⟨r', M.h⟩ with
    | .ok true M1 => (match f M1 with
      | .ok p M2 => some (some p, forget vs M2)
      | _ => none)
    | .ok false M1 => some (none, forget vs M1)
    | _ => none
open Classical in
noncomputable def lcL (e : EV) (all : List PV) (pt : Pat) (vs : List Nat) (t : Sm Bool) (f : Sm PV) : List PV → List PV → Mem → Option (List PV × Mem)
  | [], acc, M => if Chk e all M then some (acc, M) else none
  | x :: r, acc, M => if Chk e all M then (match lcStep pt vs t f x M with
      | some (some p, M') => lcL e all pt vs t f r (acc ++ [p]) M'
      | some (none, M') => lcL e all pt vs t f r acc M'
      | none => none) else none
@[simp] noncomputable def eLc (s : Sm Src) (pt : Pat) (vs : List Nat) (t : Sm Bool) (f : Sm PV) : Sm EV := fun M => (s M).bnd fun sr M1 => match lcL sr.1 sr.2 pt vs t f sr.2 [] (forget vs M1) with
  | some (ps, M2) => .ok (.fr (.lst ps)) M2
  | none => .bad
@[simp] def bYes : Sm Bool := fun M => .ok true M
/-- the block's tests -/
structure FTs (X : Cx) (E : Ent) (W : WX) (ifs : List Expr) (f : Sm Bool) : Prop where
  pe : PTs X ifs (tB' X E W f)
theorem fts_nil : FTs X E W [] bYes := by
  refine ⟨⟨fun pins s σ H Q I h => pts_nil.run pins s σ H Q I ?_⟩⟩
  obtain ⟨G, M, R, h⟩ := h
  exact h.now R
abbrev W0 : WX := fun _ _ _ _ => False
/-- the block's place -/
theorem Amb.blk (A : Amb Z X W N sc fs k) (s : Shared) (H : Hp) (scope : Scope) (C : Addr) (cl : List (Str × Addr)) (fp : List Addr) :
    Amb Z (X.blk s H scope (compEnvC scope cl C X.env) fp) W0 N (relS scope sc) (fun x => scope.names.lookup x == some .cell) k := by
  refine ⟨A.hN, rfl, A.same, ?_, A.nd, A.calm, A.room, takes0, PassesOwn.never⟩
  show relabel scope X.env = _
  rw [← A.hs]
  rfl
theorem OwnAt.agree {r : List (Option LV)} {s s' : L2.St} {a : Addr} (h : ∀ (i : Nat) (x : LV), r[i]? = some (some x) → s'[i]? = s[i]?) : OwnAt r s' a ↔ OwnAt r s a :=
  ⟨fun ⟨i, o, e, e'⟩ => ⟨i, o, e, by rw [← h i _ e]; exact e'⟩, fun ⟨i, o, e, e'⟩ => ⟨i, o, e, by rw [h i _ e]; exact e'⟩⟩
theorem StRep.agree {K : PySem.W.Frag} {G : Gh} {M : Mem} {s s' : L2.St} {H : Hp} (R : StRep K E G M s H) (hl : s'.length = s.length) (h : ∀ (i : Nat) (x : LV), M.r[i]? = some (some x) → s'[i]? = s[i]?) : StRep K E G M s' H := by
  refine ⟨R.post, R.hp, by rw [hl]; exact R.len, fun i p e => ?_, fun i o e => ?_, fun i j o o' a e e' h1 h2 => ?_⟩
  · rw [h i _ e]; exact R.slot i p e
  · rw [h i _ e]; exact R.own i o e
  · rw [h i _ e] at h1; rw [h j _ e'] at h2; exact R.sep i j o o' a e e' h1 h2
theorem forget_get {vs : List Nat} {r : List (Option LV)} : ∀ {i : Nat} {x : LV}, (vs.foldl (fun r i => r.set i none) r)[i]? = some (some x) → r[i]? = some (some x) ∧ i ∉ vs := by
  induction vs generalizing r with
  | nil => intro i x h; exact ⟨h, by simp⟩
  | cons v vs ih =>
    intro i x h
    obtain ⟨h1, h2⟩ := ih h
    by_cases z : v = i
    · subst z
      by_cases lt : v < r.length
      · rw [List.getElem?_set_self lt] at h1; cases h1
      · rw [List.getElem?_eq_none (by simpa using lt)] at h1; cases h1
    · rw [List.getElem?_set_ne z] at h1
      exact ⟨h1, by simp only [List.mem_cons, not_or]; exact ⟨fun e => z e.symm, h2⟩⟩
theorem forget_agree {vs : List Nat} {M : Mem} {s : L2.St} : ∀ (i : Nat) (x : LV), (forget vs M).r[i]? = some (some x) → (wipe s vs)[i]? = s[i]? := fun i x h => wipe_out (forget_get h).2
/-- an upd at an address that nothing holds -/
theorem StRep.upd {K : PySem.W.Frag} {G : Gh} {M : Mem} {s : L2.St} {H : Hp} (R : StRep K E G M s H) {p : Addr} (o : HO) (eh : E.H p = none) (nf : ¬ G.F p) (na : p ∉ G.al) (no : ¬ OwnAt M.r s p) (nx : ∀ u, H p = some u → NoX u) : StRep K E G M s (L2.upd H p o) := by
  have x := ext_upd (H := H) (o := o) nf
  refine ⟨post_upd R.post nf (.inr eh) nx, hprep_upd R.hp nf na, R.len, fun i q e => ?_, fun i ob e => ?_, R.sep⟩
  · obtain ⟨u, h1, h2⟩ := R.slot i q e
    exact ⟨u, h1, RepV.mono x _ _ h2⟩
  · obtain ⟨a, u, h1, h2, h3, h4⟩ := R.own i ob e
    exact ⟨a, u, h1, by rw [L2.upd_ne (fun (z : a = p) => no ⟨i, ob, e, by rw [← z]; exact h1⟩)]; exact h2, h3.mono x, h4⟩
theorem Evo.upd {s : L2.St} {G0 G : Gh} {M0 M : Mem} {H0 H : Hp} (V : Evo s G0 M0 H0 G M H) {p : Addr} (o : HO) (h : H0 p = none) (nf : ¬ G.F p) : Evo s G0 M0 H0 G M (L2.upd H p o) := by
  refine ⟨V.ext.trans (ext_upd nf), fun a u e n f ow nt => ?_, V.own, fun a e => ?_⟩
  · obtain ⟨h1, h2, h3⟩ := V.keep a u e n f ow nt
    exact ⟨by rw [L2.upd_ne (ne_of_none e h)]; exact h1, h2, h3⟩
  · by_cases z : a = p
    · subst z; rw [upd_same] at e; cases e
    · rw [L2.upd_ne z] at e; exact V.dom a e
theorem wipe_agree {s s' : L2.St} {vs : List Nat} (hl : s'.length = s.length) (h : ∀ j, j ∉ vs → s'[j]? = s[j]?) : wipe s' vs = wipe s vs := by
  apply List.ext_getElem?
  intro j
  by_cases hj : j ∈ vs
  · have none_at : ∀ (t : L2.St) (vs : List Nat), j ∈ vs → (wipe t vs)[j]? = if j < t.length then some none else none := fun t vs => by
      induction vs with
      | nil => intro h; simp at h
      | cons v vs ih =>
        intro h
        unfold wipe
        by_cases z : v = j
        · subst z
          rw [List.getElem?_set]
          simp [wipe_length]
        · rw [List.getElem?_set_ne z]
          exact ih ((List.mem_cons.mp h).resolve_left fun e => z e.symm)
    rw [none_at _ _ hj, none_at _ _ hj, hl]
  · rw [wipe_out hj, wipe_out hj, h j hj]
theorem wipe_wipe (s : L2.St) (vs : List Nat) : wipe (wipe s vs) vs = wipe s vs := wipe_agree (wipe_length _ _) fun j hj => wipe_out hj
theorem setAll_own : ∀ {is : List Nat} {ps : List PV} {r r' : List (Option LV)} {j : Nat} {o : PO}, setAll is ps r = some r' → r'[j]? = some (some (.own o)) → r[j]? = some (some (.own o))
  | [], [], r, r', j, o, e, h => by cases e; exact h
  | i :: is, p :: ps, r, r', j, o, e, h => by
    have h1 := setAll_own (is := is) (ps := ps) e h
    by_cases z : i = j
    · subst z
      by_cases lt : i < r.length
      · rw [List.getElem?_set_self lt] at h1; cases h1
      · rw [List.getElem?_eq_none (by simpa using lt)] at h1; cases h1
    · rw [List.getElem?_set_ne z] at h1; exact h1
  | [], p :: ps, _, _, _, _, e, _ => by cases e
  | i :: is, [], _, _, _, _, e, _ => by cases e
theorem asgPat_own {pt : Pat} {p : PV} {r r' : List (Option LV)} {j : Nat} {o : PO} (e : asgPat pt p r = some r') (h : r'[j]? = some (some (.own o))) : r[j]? = some (some (.own o)) := by
  cases pt with
  | nm i => exact setAll_own (is := [i]) (ps := [p]) (by simpa using e) h
  | tp is =>
    cases p with
    | tup ps => exact setAll_own e h
    | _ => cases e
  | tn i is =>
    obtain ⟨p1, ps, rfl, e⟩ := asgTn e
    exact setAll_own (is := [i]) (ps := [p1]) rfl (setAll_own e h)
theorem setAll_size : ∀ {is : List Nat} {ps : List PV} {r r' : List (Option LV)}, setAll is ps r = some r' → r'.length = r.length
  | [], [], r, r', e => by cases e; rfl
  | i :: is, p :: ps, r, r', e => by rw [setAll_size (is := is) (ps := ps) e, List.length_set]
  | [], p :: ps, _, _, e => by cases e
  | i :: is, [], _, _, e => by cases e
theorem asgPat_len {pt : Pat} {p : PV} {r r' : List (Option LV)} (e : asgPat pt p r = some r') : r'.length = r.length := by
  cases pt with
  | nm i => exact setAll_size (is := [i]) (ps := [p]) (by simpa using e)
  | tp is =>
    cases p with
    | tup ps => exact setAll_size e
    | _ => cases e
  | tn i is =>
    obtain ⟨p1, ps, rfl, e⟩ := asgTn e
    rw [setAll_size e, List.length_set]
/-- the reading of a comprehension, from its meaning -/
theorem lc_ok {vs : List Nat} {f : Sm Src} {pt : Pat} {t : Sm Bool} {el : Sm PV} {s : L2.St} {H : Hp} {Q : VK} (X' : Cx) (hK : X'.K = X.K) (hp : ∀ i ∈ pt.slots, i ∈ vs) (h : tE X E W (eLc f pt vs t el) s H Q) :
    tLc (tI X E W f) (gPat X.K pt) (tB' X' E W0 t) (tP X' E W0 el) vs s H Q := by
  obtain ⟨G, M, R, h⟩ := h
  refine ⟨G, M, R, ?_⟩
  cases hf : f M with
  | exn c M1 => simp only [eLc, hf, Res.bnd] at h; exact h
  | bad => simp only [eLc, hf, Res.bnd] at h; exact h
  | ok sr M1 =>
    obtain ⟨e, all⟩ := sr
    simp only [eLc, hf, Res.bnd] at h
    intro G1 H1 V1 R1 J w D hD
    cases hl : lcL e all pt vs t el all [] (forget vs M1) with
    | none => rw [hl] at h; exact h.elim
    | some z =>
      obtain ⟨ps, Mf⟩ := z
      rw [hl] at h
      have sz : all.length ≤ all.length := Nat.le_refl _
      -- the block's start
      have Rw : StRep X.K E G1 (forget vs M1) (wipe s vs) H1 := (R1.forget vs).agree (wipe_length _ _) forget_agree
      obtain ⟨R2, _, eD, nfD, naD, noD⟩ := Rw.laid (.lst []) hD
      have V2 : Evo (wipe s vs) G1 (forget vs M1) H1 G1 (forget vs M1) (L2.upd H1 D (.lst [])) := (Evo.refl _ _ _ _).upd _ hD nfD
      refine ⟨fun i m H' => m = all.length - i ∧ i ≤ all.length ∧ ∃ G' M' acc us, StRep X.K E G' M' (wipe s vs) H' ∧ Evo (wipe s vs) G1 (forget vs M1) H1 G' M' H' ∧ H' D = some (.lst us) ∧ RepVs X.K G' H' acc us ∧ us.length ≤ i ∧
          E.H D = none ∧ ¬ G'.F D ∧ D ∉ G'.al ∧ ¬ OwnAt M'.r (wipe s vs) D ∧ (∀ j x, M'.r[j]? = some (some x) → j ∉ vs) ∧ lcL e all pt vs t el (all.drop i) acc M' = some (ps, Mf),
        ⟨all.length, by simp, Nat.zero_le _, G1, forget vs M1, [], [], R2, V2, upd_same, RepVs.nil, Nat.le_refl _, eD, nfD, naD, noD, fun j x e => (forget_get e).2, by simpa using hl⟩, ?_⟩
      rintro i m H3 ⟨rfl, hi, G3, M3, acc, us, R3, V3, hD3, racc, hus, eD3, nf3, na3, no3, out3, hl3⟩
      by_cases lt : i < all.length
      · rw [List.drop_eq_getElem_cons lt] at hl3
        unfold lcL at hl3
        split at hl3
        · rename_i c
          have sa : SameAt e s (wipe s vs) := by
            cases e with
            | sl j =>
              have c : slotAt M3 j = some (.own (.lst all)) := c
              exact wipe_out (out3 j _ (slotAt_some c))
            | v p => trivial
            | fr o => trivial
          have x3 : Ext G1 H1 G3 H3 := V3.ext
          refine .inr ⟨w.go i G3 M3 _ H3 R3 x3 c sa lt, fun H' => ∃ G' M' acc us, StRep X.K E G' M' (wipe s vs) H' ∧ Evo (wipe s vs) G1 (forget vs M1) H1 G' M' H' ∧ H' D = some (.lst us) ∧ RepVs X.K G' H' acc us ∧ us.length ≤ i + 1 ∧
            E.H D = none ∧ ¬ G'.F D ∧ D ∉ G'.al ∧ ¬ OwnAt M'.r (wipe s vs) D ∧ (∀ j x, M'.r[j]? = some (some x) → j ∉ vs) ∧ lcL e all pt vs t el (all.drop (i + 1)) acc M' = some (ps, Mf),
            fun H' h' => ⟨all.length - (i + 1), by omega, rfl, lt, h'⟩, fun y H' hy => ?_⟩
          obtain ⟨G4, V4, R4, r4⟩ := w.yld i G3 M3 _ H3 y H' all[i] R3 x3 c sa (List.getElem?_eq_getElem lt) hy
          cases er : asgPat pt all[i] M3.r with
          | none => simp only [lcStep, er] at hl3; cases hl3
          | some r' =>
            simp only [lcStep, er] at hl3
            obtain ⟨s', R5, k1, k2⟩ := gPat_ok R4 r4 er
            have ls : s'.length = (wipe s vs).length := by
              rw [← R5.len, ← R3.len]
              exact asgPat_len er
            have kk : ∀ j, j ∉ vs → s'[j]? = (wipe s vs)[j]? := fun j hj => k2 j fun z => hj (hp j z)
            have ws : wipe s' vs = wipe s vs := by rw [wipe_agree ls kk, wipe_wipe]
            refine k1 _ ⟨by first | exact ws | rw [ws, wipe_wipe], ?_⟩
            -- D is nobody's
            obtain ⟨hD4, na4, nf4⟩ := V4.keep D _ hD3 na3 nf3 no3 (fun _ z => (nomatch z))
            have no4 : ¬ OwnAt M3.r (wipe s vs) D := no3
            have no5 : ¬ OwnAt r' s' D := fun ⟨j, o, e1, e2⟩ => by
              have z := R5.own j o e1
              obtain ⟨a, u, z1, z2, z3, z4, z5, z6⟩ := z
              have := asgPat_own er e1
              exact no3 ⟨j, o, this, by rw [← kk j (out3 j _ this)]; exact e2⟩
            have R5' : StRep X'.K E G4 ⟨r', M3.h⟩ s' H' := by rw [hK]; exact R5
            -- behind the test, and the element, back to the block's slots
            have back : ∀ {G6 M6 H6}, Evo s' G4 ⟨r', M3.h⟩ H' G6 M6 H6 → StRep X.K E G6 M6 s' H6 →
                StRep X.K E G6 (forget vs M6) (wipe s vs) H6 ∧ Evo (wipe s vs) G1 (forget vs M1) H1 G6 (forget vs M6) H6 ∧ H6 D = some (.lst us) ∧ Ext G3 H3 G6 H6 ∧ ¬ G6.F D ∧ D ∉ G6.al ∧ ¬ OwnAt (forget vs M6).r (wipe s vs) D := fun {G6 M6 H6} V6 R6 => by
              obtain ⟨hD6, na6, nf6⟩ := V6.keep D _ hD4 na4 nf4 no5 (fun _ z => (nomatch z))
              have R7 : StRep X.K E G6 (forget vs M6) (wipe s vs) H6 := (R6.forget vs).agree ls.symm fun j x e => (kk j (forget_get e).2).symm
              have own7 : ∀ a, OwnAt (forget vs M6).r (wipe s vs) a → OwnAt M3.r (wipe s vs) a := fun a ⟨j, o, e1, e2⟩ => by
                obtain ⟨e3, e4⟩ := forget_get e1
                have e5 : s'[j]? = some (some (.ref a)) := by rw [kk j e4]; exact e2
                obtain ⟨j', o', e6, e7⟩ := V6.own a ⟨j, o, e3, e5⟩
                have e8 := asgPat_own er e6
                exact ⟨j', o', e8, by rw [← kk j' (out3 j' _ e8)]; exact e7⟩
              refine ⟨R7, V3.trans ⟨V4.ext.trans V6.ext, fun a u e1 e2 e3 e4 nt => ?_, own7, fun a e => V4.dom a (V6.dom a e)⟩, hD6, V4.ext.trans V6.ext, nf6, na6, fun z => no3 (own7 _ z)⟩
              obtain ⟨z1, z2, z3⟩ := V4.keep a u e1 e2 e3 e4 nt
              exact V6.keep a u z1 z2 z3 (fun ⟨j, o, f1, f2⟩ => by
                have f3 := asgPat_own er f1
                exact e4 ⟨j, o, f3, by rw [← kk j (out3 j _ f3)]; exact f2⟩) nt
            refine ⟨G4, _, R5', ?_⟩
            cases ht : t ⟨r', M3.h⟩ with
            | exn c M6 => simp only [ht] at hl3; cases hl3
            | bad => simp only [ht] at hl3; cases hl3
            | ok b M6 =>
              simp only [ht] at hl3
              intro G6 H6 V6 R6
              have R6 : StRep X.K E G6 M6 s' H6 := by rw [← hK]; exact R6
              cases b with
              | false =>
                obtain ⟨q1, q2, q3, q4, q5, q6, q7⟩ := back V6 R6
                exact iteF ⟨G6, _, acc, us, q1, q2, q3, RepVs.mono q4 _ _ racc, by omega, eD3, q5, q6, q7, fun j x e => (forget_get e).2, hl3⟩
              | true =>
                refine iteT ⟨G6, M6, by rw [hK]; exact R6, ?_⟩
                cases he : el M6 with
                | exn c M7 => simp only [he] at hl3; cases hl3
                | bad => simp only [he] at hl3; cases hl3
                | ok p M7 =>
                  simp only [he] at hl3
                  intro G7 H7 V7 R7 u ru
                  rw [hK] at R7 ru
                  obtain ⟨q1, q2, q3, q4, q5, q6, q7⟩ := back (V6.trans V7) R7
                  have x8 := ext_upd (H := H7) (o := .lst (us ++ [u])) q5
                  have lu : us.length < sizeLine := Nat.lt_of_le_of_lt hus (Nat.lt_of_lt_of_le lt w.sz)
                  exact ⟨us, q3, lu, G7, _, acc ++ [p], us ++ [u], q1.upd _ eD3 q5 q6 q7 (fun v z => by rw [q3] at z; cases z; exact ⟨fun _ y => (nomatch y), fun _ y => (nomatch y)⟩), q2.upd _ hD q5, upd_same, RepVs.mono x8 _ _ ((RepVs.mono q4 _ _ racc).snoc ru), by simp; omega, eD3, q5, q6, q7, fun j x e => (forget_get e).2, hl3⟩
        · cases hl3
      · have e1 : i = all.length := by omega
        subst e1
        rw [List.drop_length] at hl3
        unfold lcL at hl3
        split at hl3
        · rename_i c
          cases hl3
          have sa : SameAt e s (wipe s vs) := by
            cases e with
            | sl j =>
              have c : slotAt Mf j = some (.own (.lst all)) := c
              exact wipe_out (out3 j _ (slotAt_some c))
            | v p => trivial
            | fr o => trivial
          refine .inl ⟨w.stop _ G3 Mf _ H3 R3 V3.ext c sa (Nat.le_refl _), ?_⟩
          -- back to the def's slots
          have ag : ∀ (j : Nat) (x : LV), Mf.r[j]? = some (some x) → s[j]? = (wipe s vs)[j]? := fun j x e => (wipe_out (out3 j x e)).symm
          have Rf : StRep X.K E G3 Mf s H3 := R3.agree (wipe_length _ _).symm ag
          have Vf : Evo s G1 M1 H1 G3 Mf H3 := by
            refine ⟨V3.ext, fun a u e1 e2 e3 e4 nt => V3.keep a u e1 e2 e3 (fun ⟨j, o, f1, f2⟩ => ?_) nt, fun a ⟨j, o, f1, f2⟩ => ?_, V3.dom⟩
            · obtain ⟨f3, f4⟩ := forget_get f1
              exact e4 ⟨j, o, f3, by rw [← wipe_out (σ := s) f4]; exact f2⟩
            · obtain ⟨j', o', f3, f4⟩ := V3.own a ⟨j, o, f1, by rw [← ag j _ f1]; exact f2⟩
              obtain ⟨f5, f6⟩ := forget_get f3
              exact ⟨j', o', f5, by rw [← wipe_out (σ := s) f6]; exact f4⟩
          have noF : ¬ OwnAt Mf.r s D := fun z => no3 ((OwnAt.agree ag).mp z)
          exact h G3 H3 (V1.trans Vf) Rf _ ⟨D, _, rfl, hD3, ⟨us, rfl, Nat.le_trans hus w.sz, racc⟩, eD3, nf3, na3, noF, V1.dom _ hD⟩
        · cases hl3
end
end HF


end
section
set_option Elab.async false
set_option linter.all false
set_option maxRecDepth 20000
set_option autoImplicit false
/-! HF8: comprehensions as expressions and as stored values; defs and their calls; built-in functions and methods. -/
namespace HF
open PySem PySem.Spec PyProof.Rows L2
section
variable {X : Cx} {E : Ent} {W : WX} {N : List Str} {sc : Scope} {fs : Str → Bool} {k : Nat} {Z : Wd}

/-! ### list comprehensions -/
section
variable {elt tg iter : Expr} {ifs : List Expr} {scope : Scope} {pos : Pos} {f : Sm Src} {pt : Pat} {t : Sm Bool} {el : Sm PV}
theorem lc_rule (A : Amb Z X W N sc fs k) (own : List (Str × Nat)) (hi : FI X E W tg iter f) (hok : blkC N sc scope own = true) (hp : ∀ i ∈ pt.slots, i ∈ own.map (·.2))
    (hg : ∀ X', Amb Z X' W0 N (relS scope sc) (fun x => scope.names.lookup x == some .cell) k → FG X' tg pt)
    (ht : ∀ X', Amb Z X' W0 N (relS scope sc) (fun x => scope.names.lookup x == some .cell) k → FTs X' E W0 ifs t)
    (he : ∀ X', Amb Z X' W0 N (relS scope sc) (fun x => scope.names.lookup x == some .cell) k → FP X' E W0 elt el)
    (hs : ∀ x, foldedSetIterable iter X.env x = pure x := by intro _; rfl) : FE X E W (.ListComp elt [⟨tg, iter, ifs, 0⟩] scope pos) (eLc f pt (own.map (·.2)) t el) := by
  have bk : BlkOk X.N X.env.scope scope own := by rw [A.hN, A.hs]; exact blkOk_by hok
  refine ⟨PE.weak (pe_lc (te := tP X E W0 el) (tt := tB' X E W0 t) (g := gPat X.K pt) A.calm (by rw [A.hN]; exact A.nd) hi.pi bk (fun s H C cl fp => (hg _ (A.blk s H scope C cl fp)).pg) (fun s H C cl fp => (ht _ (A.blk s H scope C cl fp)).pe) (fun s H C cl fp => (he _ (A.blk s H scope C cl fp)).pe) hs) ?_⟩
  intro s H Q h
  exact lc_ok X rfl hp h
theorem lcset (A : Amb Z X W N sc fs k) {i : Nat} {y : Str} {py spos : Pos} (own : List (Str × Nat)) (hy : N[i]? = some y) (hyl : sc.names.lookup y = some .local) (hsw : swapsWith (.ListComp elt [⟨tg, iter, ifs, 0⟩] scope pos) (some (.Name y py)) spos.line X.env = pure true)
    (hi : FI X E W tg iter f) (hok : blkC N sc scope own = true) (hp : ∀ i ∈ pt.slots, i ∈ own.map (·.2))
    (hg : ∀ X', Amb Z X' W0 N (relS scope sc) (fun x => scope.names.lookup x == some .cell) k → FG X' tg pt)
    (ht : ∀ X', Amb Z X' W0 N (relS scope sc) (fun x => scope.names.lookup x == some .cell) k → FTs X' E W0 ifs t)
    (he : ∀ X', Amb Z X' W0 N (relS scope sc) (fun x => scope.names.lookup x == some .cell) k → FP X' E W0 elt el)
    (hs : ∀ x, foldedSetIterable iter X.env x = pure x) : PS X (.Assign [.Name y py] (.ListComp elt [⟨tg, iter, ifs, 0⟩] scope pos) spos) (tAsg (tE X E W (eLc f pt (own.map (·.2)) t el)) (gName i)) := by
  have bk : BlkOk X.N X.env.scope scope own := by rw [A.hN, A.hs]; exact blkOk_by hok
  refine PS.weak (ps_setLc (te := tP X E W0 el) (tt := tB' X E W0 t) (g := gPat X.K pt) A.calm (by rw [A.hN]; exact A.nd) (by rw [A.hN]; exact hy) (by rw [A.hs]; exact hyl) hsw hi.pi bk (fun s H C cl fp => (hg _ (A.blk s H scope C cl fp)).pg) (fun s H C cl fp => (ht _ (A.blk s H scope C cl fp)).pe) (fun s H C cl fp => (he _ (A.blk s H scope C cl fp)).pe) hs) ?_
  intro D s H h
  exact lc_ok X rfl hp h
end
theorem tAsg_toP {i : Nat} {f : Sm EV} {D : Ends} {s : L2.St} {H : Hp} (h : tS X E W (sSet i (toP f)) D s H) : tAsg (tE X E W f) (gName i) D s H := by
  obtain ⟨G, M, R, h⟩ := h
  refine ⟨G, M, R, ?_⟩
  simp only [sSet, toP] at h
  generalize f M = q at h
  cases q with
  | ok ev M1 =>
    intro G1 H1 V1 R1 u ru
    have h : SOut X E W D G H ((toP1 ev M1).st fun p M1 => .nx ⟨M1.r.set i (some (.v p)), M1.h⟩) := h
    have h2 := OutP.st (s := s) (M := M) h
    obtain ⟨G2, M2, p, V2, R2, rv, q⟩ := OutP.toP1 V1 R1 ru h2
    exact SOut.nxt q (R2.setV i rv)
  | exn c M1 => exact fun G' H' C x R m => h G' s H' C x R m
  | bad => exact h
/-- name = [..], a value -/
theorem fs_lcSet (A : Amb Z X W N sc fs k) {elt tg iter : Expr} {ifs : List Expr} {scope : Scope} {pos : Pos} {f : Sm Src} {pt : Pat} {t : Sm Bool} {el : Sm PV} {i : Nat} {y : Str} {py spos : Pos} (own : List (Str × Nat)) (hy : N[i]? = some y) (hyl : sc.names.lookup y = some .local) (hl : (py.line == pos.line) = true)
    (hnc : (scope.names.any fun (n, k) => n == y && (k == .local || k == .cell)) = false) (hk : sc.kind = .function)
    (hi : FI X E W tg iter f) (hok : blkC N sc scope own = true) (hp : ∀ i ∈ pt.slots, i ∈ own.map (·.2))
    (hg : ∀ X', Amb Z X' W0 N (relS scope sc) (fun x => scope.names.lookup x == some .cell) k → FG X' tg pt)
    (ht : ∀ X', Amb Z X' W0 N (relS scope sc) (fun x => scope.names.lookup x == some .cell) k → FTs X' E W0 ifs t)
    (he : ∀ X', Amb Z X' W0 N (relS scope sc) (fun x => scope.names.lookup x == some .cell) k → FP X' E W0 elt el)
    (hs : ∀ x, foldedSetIterable iter X.env x = pure x := by intro _; rfl) : FS X E W (.Assign [.Name y py] (.ListComp elt [⟨tg, iter, ifs, 0⟩] scope pos) spos) (sSet i (toP (eLc f pt (own.map (·.2)) t el))) :=
  ⟨PS.weak (lcset A own hy hyl (sw_true (by rw [A.hs]; exact hk) (by rw [A.hs]; exact hyl) hl hnc) hi hok hp hg ht he hs) fun _ _ _ h => tAsg_toP h⟩

/-! ### defs -/
inductive FR where
  | ok (e : EV) (h : List PO)
  | exn (c : Str) (h : List PO)
  | bad
abbrev Fn := List PV → List PO → FR
def spOf (T : List NdefX.NTab) (K : PySem.W.Frag) (mg : Str → Option Value) (φ : Fn) : Sp := fun vs H Q Ex => ∃ G h ps, HpRep K G h H ∧ TabsOk T G H ∧ RepVs K G H ps vs ∧ match φ ps h with
  | .ok e h' => ∀ G' H' u, Post T G H G' H' → HpRep K G' h' H' → RepR K H G' H' e u → Q u H'
  | .exn c h' => ∀ G' H' C, Post T G H G' H' → HpRep K G' h' H' → mg c = some (.ref C) → Ex (.ref C) none H'
  | .bad => False
/-- a def of the module that keeps φ; ds: the values of the parameters that are left out, at the end -/
structure Known (Z : Wd) (k : Nat) (x : Str) (ds : List PV) (φ : Fn) : Prop where
  ok : ∃ (f : Addr) (fd : FuncData) (ps : List Str) (dvs : List V) (dus : List Value), FnOk Z.P Z.w Z.K Z.mg Z.base (L2.CX Z.P Z.w) k f fd ps (spOf Z.T Z.K Z.mg φ) ∧ Z.mg x = some (.ref f) ∧ PySem.W.keepIn Z.K (.ref f) = true ∧ Binds Z.K fd ps dus ∧ Vals dvs dus ∧ ∀ G H, RepVs Z.K G H ds dvs
theorem Known.mono {x : Str} {ds : List PV} {φ : Fn} {j : Nat} (h : Known Z j x ds φ) (l : j ≤ k) : Known Z k x ds φ := by
  obtain ⟨f, fd, ps, dvs, dus, F, r⟩ := h.ok
  exact ⟨f, fd, ps, dvs, dus, F.mono l, r⟩
/-- behind a call -/
theorem StRep.called {K : PySem.W.Frag} {G G' : Gh} {M : Mem} {s : L2.St} {H H' : Hp} {h' : List PO} (R : StRep K E G M s H) (p : Post E.T G H G' H') (hr : HpRep K G' h' H') : StRep K E G' ⟨M.r, h'⟩ s H' ∧ Evo s G M H G' ⟨M.r, h'⟩ H' := by
  refine ⟨⟨R.post.trans p, hr, R.len, fun i q e => ?_, fun i o e => ?_, R.sep⟩, p.ext, fun a u e n f _ nt => ⟨p.keep a u e n f nt, p.noal e n, p.nof e f⟩, fun _ h => h, p.dom⟩
  · obtain ⟨u, h1, h2⟩ := R.slot i q e
    exact ⟨u, h1, RepV.mono p.ext _ _ h2⟩
  · obtain ⟨a, u, h1, h2, h3, h4, h5, h6⟩ := R.own i o e
    exact ⟨a, u, h1, p.keep a u h2 h6 h5 h3.nox.2, h3.mono p.ext, h4, p.nof h2 h5, p.noal h2 h6⟩
@[simp] def eCall (φ : Fn) (ds : List PV) (g : Sm (List PV)) : Sm EV := fun M => (g M).bnd fun ps M1 => match φ (ps ++ ds) M1.h with
  | .ok (.sl _) _ => .bad
  | .ok e h' => .ok e ⟨M1.r, h'⟩
  | .exn c h' => .exn c ⟨M1.r, h'⟩
  | .bad => .bad
theorem run_fnD {f : Addr} {fd : FuncData} {ps : List Str} {sp : Sp} {dvs : List V} {ds : List Value} {pins : List (Addr × Obj)} {σ : L2.St} {H : Hp} {s : Shared} {Q : VK} {us : List Value} {vs : List V}
    (F : FnOk X.prog X.w X.K X.mg X.base (L2.CX X.prog X.w) k f fd ps sp) (hr : Room k X.A) (hb : Binds X.K fd ps ds) (hd : Vals dvs ds) (tk : Takes X W)
    (I : Inv X pins σ H s) (r : Vals vs us) (h : sp (vs ++ dvs) H Q (WE W σ)) : wpAny (model X.prog X.w) X.A (call (.ref f) us) (EP X pins σ Q) X.xe s := by
  have r2 := r.append hd
  have hl : (us ++ ds).length = ps.length := r2.length.symm.trans (F.len _ _ _ _ h)
  have go := F.run X.A X.stack s H ⟨us, []⟩ (us ++ ds) (vs ++ dvs) Q (WE W σ) hr I.env0 (hb s us I.kIn hl) r2 h
  refine wpAny_call (codeAny_mono go fun z s' hq => ?_)
  cases z with
  | error e => exact passAt tk σ pins H s e s' I hq
  | ok fl =>
    cases fl with
    | ret u => exact I.after hq
    | next => exact hq.elim
    | brk => exact hq.elim
    | cont => exact hq.elim
section
variable {x : Str} {e : Expr} {es : List Expr} {p pos : Pos} {g : Sm (List PV)} {φ : Fn} {ds : List PV}
theorem fe_call (A : Amb Z X W N sc fs k) (hT : E.T = Z.T) (hK : Known Z k x ds φ) (ha : FL X E W (e :: es) g) (hg : sc.names.lookup x = some .globalImplicit := by rfl) (hdb : (x == ("__debug__" : Str)) = false := by decide)
    (he : starEach (e :: es) X.env = (false, eval e X.env) :: starEach es X.env := by rfl) (hpl : (backTo pos (starEach es X.env)).any (fun z => z.1) = false := by rfl) : FE X E W (.Call (.Name x p) (e :: es) [] pos) (eCall φ ds g) := by
  obtain ⟨f, fd, ps, dvs, dus, F, hm, hk, hb, hd, hr⟩ := hK.ok
  obtain ⟨s1, s2, s3, s4, s5⟩ := A.same
  rw [← s1, ← s2, ← s3, ← s4, ← s5] at F
  rw [← s3] at hk hb hr
  rw [← s4] at hm
  refine ⟨⟨fun pins s σ H Q I h => ?_⟩⟩
  obtain ⟨G, M, R, h⟩ := h
  refine wpAny_Call_Name_kw (ld_glob I (A.gl hg) hm ?_ hdb)
  refine PySem.W.callWith_K (h₀ := X.base) I.ok.mod.kin hk (thn (ha.fa.pe.run pos pins s σ H (fun vs H1 => spOf Z.T X.K X.mg φ (vs ++ dvs) H1 Q (WE W σ)) I ?_) fun us s1 ⟨vs, H1, I1, r, q⟩ => ⟨I1.kIn, run_fnD F A.room hb hd A.tk I1 r q⟩) he hpl
  refine tL_one R h fun G1 M1 H1 ps us V1 R1 rr q => ?_
  refine ⟨G1, M1.h, ps ++ ds, R1.hp, hT ▸ R1.post.tabs E.ok, rr.append (hr G1 H1), ?_⟩
  cases hφ : φ (ps ++ ds) M1.h with
  | bad => rw [hφ] at q; exact q
  | exn c h' =>
    rw [hφ] at q
    intro G2 H2 C p2 r2 m
    obtain ⟨R3, V3⟩ := R1.called (hT ▸ p2) r2
    exact q G2 H2 C V3.ext R3 m
  | ok ev h' =>
    rw [hφ] at q
    intro G2 H2 u p2 r2 ru
    obtain ⟨R3, V3⟩ := R1.called (hT ▸ p2) r2
    cases ev with
    | v pv => exact q G2 H2 V3 R3 u ru
    | sl i => exact q.elim
    | fr o =>
      obtain ⟨a, w, rfl, h1, ro, hn, nf, nl⟩ := ru
      have no : ¬ OwnAt M1.r σ a := fun ⟨i, o2, e1, e2⟩ => by
        obtain ⟨b, w2, z1, z2, _⟩ := R1.own i o2 e1
        rw [e2] at z1; cases z1
        rw [hn] at z2; cases z2
      exact q G2 H2 V3 R3 _ ⟨a, w, rfl, h1, ro, R1.post.dom a hn, nf, nl, no, V1.dom a hn⟩
end
/-- a def's run -/
def runDef (n m : Nat) (fb : Ss) : Fn := fun args h => if args.length = n then (match fb ⟨args.map (fun p => some (LV.v p)) ++ List.replicate (m - n) none, h⟩ with
  | .nx M => .ok (.v .non) M.h
  | .ret (.sl _) _ => .bad
  | .ret e M => .ok e M.h
  | .exn c M => .exn c M.h
  | _ => .bad) else .bad
theorem start_rep {K : PySem.W.Frag} {G : Gh} {H : Hp} {h : List PO} {ps : List PV} {vs : List V} {n m : Nat} (hp : HpRep K G h H) (r : RepVs K G H ps vs) {N : List Str} {T : List NdefX.NTab} (tb : TabsOk T G H) (hn : ps.length = n) (hm : N.length = m) : StRep K ⟨G, H, T, tb⟩ G ⟨ps.map (fun p => some (LV.v p)) ++ List.replicate (m - n) none, h⟩ (L2.start N vs) H := by
  have lv := r.length
  have get : ∀ (i : Nat) (x : LV), (ps.map (fun p => some (LV.v p)) ++ List.replicate (m - n) none)[i]? = some (some x) → ∃ p, ps[i]? = some p ∧ x = .v p := fun i x e => by
    by_cases lt : i < ps.length
    · rw [List.getElem?_append_left (by simpa using lt), List.getElem?_map, List.getElem?_eq_getElem lt] at e
      cases e
      exact ⟨_, List.getElem?_eq_getElem lt, rfl⟩
    · rw [List.getElem?_append_right (by simpa using lt), List.getElem?_replicate] at e
      split at e <;> cases e
  refine ⟨Post.refl _ _ _, hp, ?_, fun i p e => ?_, fun i o e => ?_, fun i j o o' a e => ?_⟩
  · show (ps.map _ ++ List.replicate _ _).length = (L2.start N vs).length
    unfold L2.start
    simp [hm, lv, ← hn]
  · obtain ⟨q, e1, e2⟩ := get i _ e
    cases e2
    obtain ⟨v, e3, e4⟩ := r.get e1
    refine ⟨v, ?_, e4⟩
    unfold L2.start
    rw [List.getElem?_append_left (by simpa using (List.getElem?_eq_some_iff.mp e3).1), List.getElem?_map, e3]
    rfl
  · obtain ⟨q, e1, e2⟩ := get i _ e; cases e2
  · obtain ⟨q, e1, e2⟩ := get i _ e; cases e2
theorem def_ok {x qual : Str} {st : Stmt} {f : Addr} {fd : FuncData} {ps : List Str} {fb : Ss} (F : Fun Z.K x qual st f fd) (S : FnScope N ps (defScope st))
    (hb : ∀ X E W, Amb Z X W N (defScope st) (fun _ => true) k → E.T = Z.T → FSs X E W (defBody st) fb) : FnOk Z.P Z.w Z.K Z.mg Z.base (L2.CX Z.P Z.w) (k + 1) f fd ps (spOf Z.T Z.K Z.mg (runDef ps.length N.length fb)) := by
  refine F.okX S (fun vs H Q Ex h => ?_) fun cdv A outer s H vs Q Ex hr h => ?_
  · obtain ⟨G, h, ps', hp, tb, r, q⟩ := h
    unfold runDef at q
    split at q
    · rename_i hl
      split at hl
      · rename_i z; rw [← r.length]; exact z
      · cases hl
    · rename_i hl
      split at hl
      · rename_i z; rw [← r.length]; exact z
      · cases hl
    · exact q.elim
  · obtain ⟨G, h, ps', hp, tb, r, q⟩ := h
    have hx : (cxOf (L2.CX Z.P Z.w) Z.P Z.w Z.K Z.mg Z.base N qual (defScope st) f cdv A outer s H Ex).xe = _ := rfl
    have amb : Amb Z (cxOf (L2.CX Z.P Z.w) Z.P Z.w Z.K Z.mg Z.base N qual (defScope st) f cdv A outer s H Ex) (fun c d _ H' => Ex c d H') N (defScope st) (fun _ => true) k :=
      ⟨rfl, rfl, ⟨rfl, rfl, rfl, rfl, rfl⟩, rfl, S.nd, rfl, hr, takes_of rfl rfl rfl rfl, passes_of rfl⟩
    refine ⟨_, (hb _ ⟨G, H, Z.T, tb⟩ _ amb rfl).ps, ?_⟩
    by_cases hl : ps'.length = ps.length
    · refine ⟨G, ⟨ps'.map (fun p => some (LV.v p)) ++ List.replicate (N.length - ps.length) none, h⟩, start_rep hp r tb hl rfl, ?_⟩
      unfold runDef at q
      rw [if_pos hl] at q
      generalize fb ⟨ps'.map (fun p => some (LV.v p)) ++ List.replicate (N.length - ps.length) none, h⟩ = z at q
      cases z with
      | nx M => exact fun G' s' H' x R' => q G' H' _ R'.post R'.hp (show RepV Z.K G' H' .non .non by simp only [RepV])
      | ret e M =>
        intro G' s' H' u R' ru
        cases e with
        | v p => exact q G' H' u R'.post R'.hp ru
        | fr o =>
          obtain ⟨a, w, e, h1, ro, hn, nf, nl, no, _⟩ := ru
          exact q G' H' u R'.post R'.hp ⟨a, w, e, h1, ro, hn, nf, nl⟩
        | sl i => exact q.elim
      | exn c M => exact fun G' s' H' C _ R' m => q G' H' C R'.post R'.hp m
      | brk M => exact q.elim
      | cnt M => exact q.elim
      | bad => exact q.elim
    · unfold runDef at q
      rw [if_neg hl] at q
      exact q.elim
end
end HF


end
section
set_option Elab.async false
set_option linter.all false
set_option maxRecDepth 20000
set_option autoImplicit false
/-! HF9: built-in functions; methods of lists and texts. -/
namespace HF
open PySem PySem.Spec PyProof.Rows L2
section
variable {X : Cx} {E : Ent} {W : WX} {N : List Str} {sc : Scope} {fs : Str → Bool} {k : Nat} {Z : Wd}
theorem Amb.no (A : Amb Z X W N sc fs k) {x : Str} (h : Z.mg x = none) : X.mg x = none := by rw [A.same.2.2.2.1]; exact h

/-! ### one argument -/
abbrev Op1 := EV → Mem → Option EV
@[simp] def e1 (op : Op1) (f : Sm EV) : Sm EV := fun M => (f M).bnd fun x M1 => optR (op x M1) M1
def Op1Ok (X : Cx) (r : V → Hp → VK → Prop) (op : Op1) : Prop := ∀ (E : Ent) (s : L2.St) (G : Gh) (M : Mem) (H H0 : Hp) (x : EV) (u : V) (ev : EV) (Q : VK), StRep X.K E G M s H → (∀ a, H a = none → H0 a = none) →
  RepE X.K E H0 G M s H x u → op x M = some ev → (∀ G' H' w, Evo s G M H G' M H' → StRep X.K E G' M s H' → RepE X.K E H0 G' M s H' ev w → Q w H') → r u H Q
theorem Op1Ok.or {r r' : V → Hp → VK → Prop} {o o' : Op1} (h : Op1Ok X r o) (h' : Op1Ok X r' o') : Op1Ok X (fun x H Q => r x H Q ∨ r' x H Q) (fun x M => (o x M).or (o' x M)) := by
  intro E s G M H H0 x u ev Q R d rx e q
  simp only at e
  cases e1 : o x M with
  | some w =>
    rw [e1] at e
    cases e
    exact .inl (h E s G M H H0 x u _ Q R d rx e1 q)
  | none =>
    rw [e1] at e
    exact .inr (h' E s G M H H0 x u ev Q R d rx e q)
theorem tE_op1 {f : Sm EV} {r : V → Hp → VK → Prop} {op : Op1} (ok : Op1Ok X r op) {s : L2.St} {H : Hp} {Q : VK} (h : tE X E W (e1 op f) s H Q) : tE X E W f s H fun x H1 => r x H1 Q := by
  obtain ⟨G, M, R, h⟩ := h
  refine tE_one R h fun G1 M1 H1 x u V1 R1 rx h1 => ?_
  cases eo : op x M1 with
  | none => rw [eo] at h1; exact h1.elim
  | some ev =>
    rw [eo] at h1
    exact ok E s G1 M1 H1 H x u ev Q R1 V1.dom rx eo fun G' H' w V3 R3 rw' => h1 G' H' V3 R3 w rw'
section
variable {e e' : Expr} {f g : Sm EV} {x : Str} {id T : String} {p pos : Pos}
theorem fe_b1 (A : Amb Z X W N sc fs k) {r : List V → Hp → VK → Prop} {op : Op1} (hc : CallR X (.builtin id) r) (ok : Op1Ok X (fun u => r [u]) op) (hm : Z.mg x = none) (hv : bootBuiltins x = some (.builtin id)) (he : FE X E W e f)
    (hg : sc.names.lookup x = some .globalImplicit) (hn : x ≠ "__name__") (hdb : (x == ("__debug__" : Str)) = false) (h1 : starEach [e] X.env = (false, eval e X.env) :: starEach [] X.env := by rfl) : FE X E W (.Call (.Name x p) [e] [] pos) (e1 op f) :=
  ⟨PE.weak (pe_callB hc (A.gl hg) (A.no hm) hv (pa_cons he.pe pa_nil h1) hn hdb h1) fun _ _ _ h => tE_op1 ok h⟩
theorem fe_t1 (A : Amb Z X W N sc fs k) {r : List V → Hp → VK → Prop} {op : Op1} (hc : CallR X (.type T) r) (ok : Op1Ok X (fun u => r [u]) op) (hm : Z.mg x = none) (hv : bootBuiltins x = some (.type T)) (he : FE X E W e f)
    (hg : sc.names.lookup x = some .globalImplicit) (hn : x ≠ "__name__") (hdb : (x == ("__debug__" : Str)) = false) (h1 : starEach [e] X.env = (false, eval e X.env) :: starEach [] X.env := by rfl) : FE X E W (.Call (.Name x p) [e] [] pos) (e1 op f) :=
  ⟨PE.weak (pe_callTy hc (A.gl hg) (A.no hm) hv (pa_cons he.pe pa_nil h1) hn hdb h1) fun _ _ _ h => tE_op1 ok h⟩
theorem tE_op2 {r : R2} {op : Op2} (ok : Op2Ok X r op) {s : L2.St} {H : Hp} {Q : VK} (h : tE X E W (e2 op f g) s H Q) : tE X E W f s H fun x H1 => tE X E W g s H1 fun y H2 => r x y H2 Q := tE_two ok h
theorem fe_b2 (A : Amb Z X W N sc fs k) {r : List V → Hp → VK → Prop} {op : Op2} (hc : CallR X (.builtin id) r) (ok : Op2Ok X (fun u v => r [u, v]) op) (hm : Z.mg x = none) (hv : bootBuiltins x = some (.builtin id)) (he : FE X E W e f) (he' : FE X E W e' g)
    (hg : sc.names.lookup x = some .globalImplicit) (hn : x ≠ "__name__") (hdb : (x == ("__debug__" : Str)) = false) (h1 : starEach [e, e'] X.env = (false, eval e X.env) :: starEach [e'] X.env := by rfl) (h2 : starEach [e'] X.env = (false, eval e' X.env) :: starEach [] X.env := by rfl)
    (hpl : (backTo pos (starEach [e'] X.env)).any (fun z => z.1) = false := by rfl) : FE X E W (.Call (.Name x p) [e, e'] [] pos) (e2 op f g) :=
  ⟨PE.weak (pe_callB hc (A.gl hg) (A.no hm) hv (pa_cons he.pe (pa_cons he'.pe pa_nil h2) h1) hn hdb h1 hpl) fun _ _ _ h => tE_op2 ok h⟩
end
/-! len -/
@[simp] def opLen : Op1 := fun x M => match x with
  | .v (.tup xs) => some (.v (.int xs.length))
  | .v (.str z) => if z.length ≤ sizeLine then some (.v (.int z.length)) else none
  | x => match asLst M x with
    | some xs => some (.v (.int xs.length))
    | none => match asDct M x with
      | some (ks, _) => some (.v (.int ks.length))
      | none => none
def rLenR (K : PySem.W.Frag) : List V → Hp → VK → Prop := fun xs H Q => (∃ p ys, xs = [.ref p] ∧ (SqL K H p ys ∨ SqT K H p ys) ∧ Q (.int ys.length) H) ∨ (∃ z, xs = [.str z] ∧ z.length ≤ sizeLine ∧ Q (.int z.length) H) ∨ ∃ a kvs, xs = [V.ref a] ∧ Rd H a (.dK kvs) ∧ Q (.int kvs.length) H
theorem call_lenR : CallR X (.builtin "len") (rLenR X.K) := by
  refine CallR.or call_len_seq (CallR.or call_len_str ?_)
  intro pins s σ H xs us Q I r h
  obtain ⟨a, kvs, rfl, ha, q⟩ := h
  obtain ⟨u, rfl, ru⟩ := vals1 r
  cases ru
  exact d_len I ha fun t s' I' => ⟨.int kvs.length, H, I', ⟨t, rfl⟩, q⟩
theorem repV_int {E : Ent} {H0 : Hp} {G : Gh} {M : Mem} {s : L2.St} {H : Hp} {i : Int} : RepE X.K E H0 G M s H (.v (.int i)) (.int i) := show RepV X.K G H (.int i) _ by simp only [RepV]
theorem opLen_ok : Op1Ok X (fun u => rLenR X.K [u]) opLen := by
  intro E s G M H H0 x u ev Q R d rx e q
  have fin : ∀ {n m : Nat}, ev = .v (.int n) → n = m → Q (.int m) H := fun {n m} e h => q G H _ (Evo.refl _ _ _ _) R (by subst e; subst h; exact repV_int)
  simp only [opLen] at e
  split at e
  · cases e
    obtain ⟨a, us, rfl, ha, ra, za⟩ := repE_tup rx
    exact .inl ⟨a, us, rfl, .inr ha, fin rfl ra.length⟩
  · split at e
    · rename_i z hz
      cases e
      exact .inr (.inl ⟨_, by rw [repE_str rx], hz, fin rfl rfl⟩)
    · cases e
  · split at e
    · rename_i xs e1
      cases e
      obtain ⟨a, us, rfl, ha, ra, za⟩ := lst_of R rx e1
      exact .inl ⟨a, us, rfl, .inl ha, fin rfl ra.length⟩
    · split at e
      · rename_i ks xs e1
        cases e
        obtain ⟨a, kvs, rfl, hr, hk, rr, z⟩ := dct_of R rx e1
        exact .inr (.inr ⟨a, kvs, rfl, hr, fin rfl (by rw [← hk]; simp)⟩)
      · cases e
/-! list, tuple -/
@[simp] def opLst : Op1 := fun x M => match x with
  | .v (.tup xs) => some (.fr (.lst xs))
  | x => (asLst M x).map fun xs => .fr (.lst xs)
theorem opLst_ok : Op1Ok X (fun u H Q => ∃ p ys, [u] = [V.ref p] ∧ (SqL X.K H p ys ∨ SqT X.K H p ys) ∧ ∀ l, H l = none → Q (.ref l) (upd H l (.lst ys))) opLst := by
  intro E s G M H H0 x u ev Q R d rx e q
  have go : ∀ {xs a us}, ev = .fr (.lst xs) → RepVs X.K G H xs us → us.length ≤ sizeLine → u = .ref a → (SqL X.K H a us ∨ SqT X.K H a us) → ∃ p ys, [u] = [V.ref p] ∧ (SqL X.K H p ys ∨ SqT X.K H p ys) ∧ ∀ l, H l = none → Q (.ref l) (upd H l (.lst ys)) := fun {xs a us} e rr z eu h =>
    ⟨a, us, by rw [eu], h, fun l hl => by
      obtain ⟨V1, R1, r1⟩ := rep_newlst (H0 := H0) R d rr z hl
      exact q G _ _ V1 R1 (by rw [e]; exact r1)⟩
  simp only [opLst] at e
  split at e
  · cases e
    obtain ⟨a, us, eu, ha, ra, za⟩ := repE_tup rx
    exact go rfl ra za eu (.inr ha)
  · cases e1 : asLst M x with
    | none => rw [e1] at e; cases e
    | some xs =>
      rw [e1] at e; cases e
      obtain ⟨a, us, eu, ha, ra, za⟩ := lst_of R rx e1
      exact go rfl ra za eu (.inl ha)
@[simp] def opTupOf : Op1 := fun x M => match x with
  | .v (.tup xs) => some (.v (.tup xs))
  | x => (asLst M x).map fun xs => .v (.tup xs)
theorem opTupOf_ok : Op1Ok X (fun u H Q => ∃ p ys, [u] = [V.ref p] ∧ ((SqL X.K H p ys ∧ ∀ l, H l = none → Q (.ref l) (upd H l (.tup ys))) ∨ (SqT X.K H p ys ∧ Q (.ref p) H))) opTupOf := by
  intro E s G M H H0 x u ev Q R d rx e q
  simp only [opTupOf] at e
  split at e
  · cases e
    obtain ⟨a, us, rfl, ha, ra, za⟩ := repE_tup rx
    exact ⟨a, us, rfl, .inr ⟨ha, q G H _ (Evo.refl _ _ _ _) R rx⟩⟩
  · cases e1 : asLst M x with
    | none => rw [e1] at e; cases e
    | some xs =>
      rw [e1] at e; cases e
      obtain ⟨a, us, rfl, ha, ra, za⟩ := lst_of R rx e1
      refine ⟨a, us, rfl, .inl ⟨ha, fun l hl => ?_⟩⟩
      obtain ⟨V1, R1, r1⟩ := rep_newtup R ra za hl
      exact q _ _ _ V1 R1 r1
/-! max, min of two; of a list; sum; all, any -/
def opMax2 : Op2 := opI2' fun i j => if j > i then j else i
@[simp] theorem opMax2_at (x y : EV) (M : Mem) : opMax2 x y M = (opI2' fun i j => if j > i then j else i) x y M := rfl
def opMin2 : Op2 := opI2' fun i j => if j < i then j else i
@[simp] theorem opMin2_at (x y : EV) (M : Mem) : opMin2 x y M = (opI2' fun i j => if j < i then j else i) x y M := rfl
theorem opI2b_ok {f : Int → Int → Int} : Op2Ok X (fun u v H Q => ∃ i j, [u, v] = [V.int i, V.int j] ∧ Q (.int (f i j)) H) (opI2' f) := by
  intro E s G M H H0 x y u v ev Q R d rx ry e q
  obtain ⟨i, j, h1, h2, h3⟩ := opI2'_ok E s G M H H0 x y u v ev Q R d rx ry e q
  exact ⟨i, j, by rw [h1, h2], h3⟩
@[simp] def asInts : List PV → Option (List Int)
  | [] => some []
  | .int i :: r => (asInts r).map (i :: ·)
  | _ => none
theorem asInts_map (ns : List Int) : asInts (ns.map PV.int) = some ns := by
  induction ns with
  | nil => rfl
  | cons n ns ih => simp [ih]
theorem asInts_rep {G : Gh} {H : Hp} : ∀ {xs : List PV} {us : List V} {ns : List Int}, asInts xs = some ns → RepVs X.K G H xs us → us = ns.map V.int
  | [], us, ns, e, r => by cases e; rw [RepVs.nil_iff.mp r]; rfl
  | x :: xs, us, ns, e, r => by
    obtain ⟨u, ws, rfl, r1, r2⟩ := RepVs.cons_iff.mp r
    cases x <;> simp only [asInts] at e <;> try cases e
    rename_i i
    cases e1 : asInts xs with
    | none => rw [e1] at e; cases e
    | some ms =>
      rw [e1] at e; cases e
      rw [asInts_rep e1 r2, ints_rep.mp r1]
      rfl
@[simp] def asBls : List PV → Option (List Bool)
  | [] => some []
  | .bl i :: r => (asBls r).map (i :: ·)
  | _ => none
theorem asBls_rep {G : Gh} {H : Hp} : ∀ {xs : List PV} {us : List V} {ns : List Bool}, asBls xs = some ns → RepVs X.K G H xs us → us = ns.map V.bl
  | [], us, ns, e, r => by cases e; rw [RepVs.nil_iff.mp r]; rfl
  | x :: xs, us, ns, e, r => by
    obtain ⟨u, ws, rfl, r1, r2⟩ := RepVs.cons_iff.mp r
    cases x <;> simp only [asBls] at e <;> try cases e
    rename_i i
    cases e1 : asBls xs with
    | none => rw [e1] at e; cases e
    | some ms =>
      rw [e1] at e; cases e
      simp only [RepV] at r1
      rw [asBls_rep e1 r2, r1]
      rfl
@[simp] def asStrs : List PV → Option (List Str)
  | [] => some []
  | .str i :: r => (asStrs r).map (i :: ·)
  | _ => none
theorem asStrs_rep {G : Gh} {H : Hp} : ∀ {xs : List PV} {us : List V} {ns : List Str}, asStrs xs = some ns → RepVs X.K G H xs us → us = ns.map V.str
  | [], us, ns, e, r => by cases e; rw [RepVs.nil_iff.mp r]; rfl
  | x :: xs, us, ns, e, r => by
    obtain ⟨u, ws, rfl, r1, r2⟩ := RepVs.cons_iff.mp r
    cases x <;> simp only [asStrs] at e <;> try cases e
    rename_i i
    cases e1 : asStrs xs with
    | none => rw [e1] at e; cases e
    | some ms =>
      rw [e1] at e; cases e
      simp only [RepV] at r1
      rw [asStrs_rep e1 r2, r1]
      rfl
/-- the greatest -/
def maxOf : List Int → Int
  | [] => 0
  | [n] => n
  | n :: m :: r => max n (maxOf (m :: r))
@[simp] def opMax1 : Op1 := fun x M => match (asLst M x).bind asInts with
  | some (n :: ns) => some (.v (.int (maxOf (n :: ns))))
  | _ => none
@[simp] def opSum : Op1 := fun x M => ((asLst M x).bind asInts).map fun ns => .v (.int ns.sum)
theorem opSum_ok : Op1Ok X (fun u => rSum X.K [u]) opSum := by
  intro E s G M H H0 x u ev Q R d rx e q
  simp only [opSum] at e
  cases e1 : asLst M x with
  | none => rw [e1] at e; cases e
  | some xs =>
    rw [e1] at e
    simp only [Option.bind_some] at e
    cases e2 : asInts xs with
    | none => rw [e2] at e; cases e
    | some ns =>
      rw [e2] at e; cases e
      obtain ⟨a, us, rfl, ha, ra, za⟩ := lst_of R rx e1
      have eu := asInts_rep e2 ra
      subst eu
      exact ⟨a, ns, rfl, ha, q G H _ (Evo.refl _ _ _ _) R repV_int⟩
@[simp] def opAll : Op1 := fun x M => ((asLst M x).bind asBls).map fun ns => .v (.bl (ns.all id))
@[simp] def opAny : Op1 := fun x M => ((asLst M x).bind asBls).map fun ns => .v (.bl (ns.any id))
theorem opAll_ok : Op1Ok X (fun u => rAll X.K [u]) opAll := by
  intro E s G M H H0 x u ev Q R d rx e q
  simp only [opAll] at e
  cases e1 : asLst M x with
  | none => rw [e1] at e; cases e
  | some xs =>
    rw [e1] at e
    simp only [Option.bind_some] at e
    cases e2 : asBls xs with
    | none => rw [e2] at e; cases e
    | some ns =>
      rw [e2] at e; cases e
      obtain ⟨a, us, rfl, ha, ra, za⟩ := lst_of R rx e1
      have eu := asBls_rep e2 ra
      subst eu
      exact ⟨a, ns, rfl, ha, q G H _ (Evo.refl _ _ _ _) R repE_blI⟩
section
variable {e e' : Expr} {f g : Sm EV} {p pos : Pos}
theorem fe_len (A : Amb Z X W N sc fs k) (hm : Z.mg ("len" : Str) = none) (he : FE X E W e f) (hg : sc.names.lookup ("len" : Str) = some .globalImplicit := by rfl) (h1 : starEach [e] X.env = (false, eval e X.env) :: starEach [] X.env := by rfl) : FE X E W (.Call (.Name "len" p) [e] [] pos) (e1 opLen f) :=
  fe_b1 A call_lenR opLen_ok hm PySem.boot_len he hg (by decide) (by decide) h1
theorem fe_list (A : Amb Z X W N sc fs k) (hm : Z.mg ("list" : Str) = none) (he : FE X E W e f) (hg : sc.names.lookup ("list" : Str) = some .globalImplicit := by rfl) (h1 : starEach [e] X.env = (false, eval e X.env) :: starEach [] X.env := by rfl) : FE X E W (.Call (.Name "list" p) [e] [] pos) (e1 opLst f) :=
  fe_t1 A call_list_of opLst_ok hm PyProof.Rows.boot_list he hg (by decide) (by decide) h1
theorem fe_tuple (A : Amb Z X W N sc fs k) (hm : Z.mg ("tuple" : Str) = none) (he : FE X E W e f) (hg : sc.names.lookup ("tuple" : Str) = some .globalImplicit := by rfl) (h1 : starEach [e] X.env = (false, eval e X.env) :: starEach [] X.env := by rfl) : FE X E W (.Call (.Name "tuple" p) [e] [] pos) (e1 opTupOf f) :=
  fe_t1 A call_tuple_of opTupOf_ok hm PyProof.Rows.boot_tuple he hg (by decide) (by decide) h1
theorem fe_sum (A : Amb Z X W N sc fs k) (hm : Z.mg ("sum" : Str) = none) (he : FE X E W e f) (hg : sc.names.lookup ("sum" : Str) = some .globalImplicit := by rfl) (h1 : starEach [e] X.env = (false, eval e X.env) :: starEach [] X.env := by rfl) : FE X E W (.Call (.Name "sum" p) [e] [] pos) (e1 opSum f) :=
  fe_b1 A (cr_sum A.calm) opSum_ok hm PyProof.Rows.boot_sum he hg (by decide) (by decide) h1
theorem fe_all (A : Amb Z X W N sc fs k) (hm : Z.mg ("all" : Str) = none) (he : FE X E W e f) (hg : sc.names.lookup ("all" : Str) = some .globalImplicit := by rfl) (h1 : starEach [e] X.env = (false, eval e X.env) :: starEach [] X.env := by rfl) : FE X E W (.Call (.Name "all" p) [e] [] pos) (e1 opAll f) :=
  fe_b1 A (cr_all A.calm) opAll_ok hm (by decide +kernel) he hg (by decide) (by decide) h1
theorem fe_max2 (A : Amb Z X W N sc fs k) (hm : Z.mg ("max" : Str) = none) (he : FE X E W e f) (he' : FE X E W e' g) (hg : sc.names.lookup ("max" : Str) = some .globalImplicit := by rfl) (h1 : starEach [e, e'] X.env = (false, eval e X.env) :: starEach [e'] X.env := by rfl) (h2 : starEach [e'] X.env = (false, eval e' X.env) :: starEach [] X.env := by rfl)
    (hpl : (backTo pos (starEach [e'] X.env)).any (fun z => z.1) = false := by rfl) : FE X E W (.Call (.Name "max" p) [e, e'] [] pos) (e2 opMax2 f g) :=
  fe_b2 A (call_max2 A.calm) opI2b_ok hm PyProof.Rows.boot_max he he' hg (by decide) (by decide) h1 h2 hpl
theorem fe_min2 (A : Amb Z X W N sc fs k) (hm : Z.mg ("min" : Str) = none) (he : FE X E W e f) (he' : FE X E W e' g) (hg : sc.names.lookup ("min" : Str) = some .globalImplicit := by rfl) (h1 : starEach [e, e'] X.env = (false, eval e X.env) :: starEach [e'] X.env := by rfl) (h2 : starEach [e'] X.env = (false, eval e' X.env) :: starEach [] X.env := by rfl)
    (hpl : (backTo pos (starEach [e'] X.env)).any (fun z => z.1) = false := by rfl) : FE X E W (.Call (.Name "min" p) [e, e'] [] pos) (e2 opMin2 f g) :=
  fe_b2 A (call_min2 A.calm) opI2b_ok hm PyProof.Rows.boot_min he he' hg (by decide) (by decide) h1 h2 hpl
end
/-! isinstance with a built-in class -/
@[simp] def tyName (M : Mem) : EV → Option String
  | .v .non => some "NoneType"
  | .v (.bl _) => some "bool"
  | .v (.int _) => some "int"
  | .v (.str _) => some "str"
  | .v (.tup _) => some "tuple"
  | .v (.lst _) => some "list"
  | .v (.rol _) => some "list"
  | .v (.dct _ _) => some "dict"
  | .v (.con _) => none
  | e => match asLst M e with
    | some _ => some "list"
    | none => match asDct M e with
      | some _ => some "dict"
      | none => none
theorem tyName_rep {E : Ent} {H0 : Hp} {G : Gh} {M : Mem} {s : L2.St} {H : Hp} {e : EV} {u : V} {t : String} (R : StRep X.K E G M s H) (r : RepE X.K E H0 G M s H e u) (h : tyName M e = some t) : TyX X.K H u (.type t) := by
  have lst : ∀ {a us}, SqL X.K H a us → TyX X.K H (.ref a) (.type "list") := fun {a us} q => by
    rcases q with (q | ⟨o, q⟩) | ⟨o, its, n, q, c, _⟩
    · exact .base (.lst q)
    · exact .base (.frz q)
    · exact .kList q c
  have dct : ∀ {a kvs}, Rd H a (.dK kvs) → TyX X.K H (.ref a) (.type "dict") := fun {a kvs} q => by
    rcases q with q | ⟨o, q⟩
    · exact .base (.dK q)
    · exact .fDict q
  have oth : ∀ {e : EV}, RepE X.K E H0 G M s H e u → (match asLst M e with | some _ => some "list" | none => match asDct M e with | some _ => some "dict" | none => none) = some t → TyX X.K H u (.type t) := fun {e} r h => by
    split at h
    · rename_i xs e1
      cases h
      obtain ⟨a, us, rfl, ha, _⟩ := lst_of R r e1
      exact lst ha
    · split at h
      · rename_i z e1
        cases h
        obtain ⟨ks, xs⟩ := z
        obtain ⟨a, us, rfl, ha, _⟩ := dct_of R r e1
        exact dct ha
      · cases h
  cases e with
  | v p =>
    have rv : RepV X.K G H p u := r
    cases p with
    | non => simp only [RepV] at rv; subst rv; cases h; exact .base .non
    | bl b => simp only [RepV] at rv; subst rv; cases h; exact .base (.bl b)
    | int b => simp only [RepV] at rv; subst rv; cases h; exact .base (.int b)
    | str b => simp only [RepV] at rv; subst rv; cases h; exact .base (.str b)
    | tup b =>
      cases h
      obtain ⟨a, us, rfl, q, _⟩ := tup_of rv
      rcases q with (q | ⟨o, q⟩) | ⟨o, its, n, q, c, _⟩
      · exact .base (.tup q)
      · exact .fTuple q
      · exact .kTuple q c
    | lst b => cases h; obtain ⟨a, us, rfl, ha, _⟩ := lst_of (xs := b) R r rfl; exact lst ha
    | rol b => cases h; obtain ⟨a, us, rfl, ha, _⟩ := lst_of (xs := b) R r rfl; exact lst ha
    | dct b c => cases h; obtain ⟨a, us, rfl, ha, _⟩ := dct_of (ks := b) (xs := c) R r rfl; exact dct ha
    | con a => cases h
    | exc a => cases h
    | fn a => cases h
    | ref c => exact oth r h
  | fr o => exact oth r h
  | sl i => exact oth r h
@[simp] def opIsi (T : String) : Op1 := fun x M => match tyName M x with
  | some t => (kitB t T).map fun b => .v (.bl b)
  | none => none
theorem fe_isi (A : Amb Z X W N sc fs k) {T : String} {x : Str} {e : Expr} {f : Sm EV} {p p2 pos : Pos} (hm : Z.mg ("isinstance" : Str) = none) (hmT : Z.mg x = none) (hv : bootBuiltins x = some (.type T)) (he : FE X E W e f) (hg : sc.names.lookup ("isinstance" : Str) = some .globalImplicit := by rfl) (hgT : sc.names.lookup x = some .globalImplicit := by rfl)
    (hn : x ≠ "__name__" := by decide) (hdb : (x == ("__debug__" : Str)) = false := by decide) (h1 : starEach [e, .Name x p2] X.env = (false, eval e X.env) :: starEach [.Name x p2] X.env := by rfl) : FE X E W (.Call (.Name "isinstance" p) [e, .Name x p2] [] pos) (e1 (opIsi T) f) := by
  refine ⟨PE.weak (pe_callB call_isi (A.gl hg) (A.no hm) PyProof.Rows.boot_isinstance (pa_cons he.pe (pa_cons (pe_bltn (v := .ty T) (A.gl hgT) (A.no hmT) hv rfl hn hdb) pa_nil) h1) (by decide) (by decide) h1) ?_⟩
  intro s H Q h
  refine tE_op1 (r := fun u H Q => rIsi X.K [u, .ty T] H Q) (fun E s G M H H0 x u ev Q R d rx e q => ?_) h
  simp only [opIsi] at e
  cases e1 : tyName M x with
  | none => rw [e1] at e; cases e
  | some t =>
    rw [e1] at e
    cases e2 : kitB t T with
    | none => simp only [e2] at e; cases e
    | some b =>
      simp only [e2] at e; cases e
      exact ⟨u, .ty T, .type t, .type T, b, rfl, .ty T, tyName_rep R rx e1, kit_ty e2, q G H _ (Evo.refl _ _ _ _) R repE_blI⟩
theorem boot_tint : bootBuiltins ("int" : Str) = some (.type "int") := PyProof.Rows.boot_int
theorem boot_tbool : bootBuiltins ("bool" : Str) = some (.type "bool") := PyProof.Rows.boot_bool
theorem boot_ttuple : bootBuiltins ("tuple" : Str) = some (.type "tuple") := PyProof.Rows.boot_tuple
theorem boot_tlist : bootBuiltins ("list" : Str) = some (.type "list") := PyProof.Rows.boot_list
end
end HF


end
section
set_option Elab.async false
set_option linter.all false
set_option maxRecDepth 20000
set_option autoImplicit false
/-! HF10: things that change; join; the end of a law. -/
namespace HF
open PySem PySem.Spec PyProof.Rows L2
section
variable {X : Cx} {E : Ent} {W : WX} {N : List Str} {sc : Scope} {fs : Str → Bool} {k : Nat} {Z : Wd}
@[simp] def mutAt (M : Mem) : EV → Option PO
  | .sl i => match slotAt M i with
    | some (.own o) => some o
    | _ => none
  | .v (.ref r) => cellAt M r
  | _ => none
@[simp] def mutPut (x : EV) (o : PO) (M : Mem) : Mem := match x with
  | .sl i => ⟨M.r.set i (some (.own o)), M.h⟩
  | .v (.ref r) => ⟨M.r, M.h.set r o⟩
  | _ => M
theorem mut_ok {E : Ent} {s : L2.St} {G : Gh} {M : Mem} {H H0 : Hp} {x : EV} {u : V} {o : PO} (R : StRep X.K E G M s H) (rx : RepE X.K E H0 G M s H x u) (h : mutAt M x = some o) :
    ∃ a w, u = .ref a ∧ H a = some w ∧ RepO X.K G H o w ∧ ¬ G.F a ∧ ∀ o' w', RepO X.K G H o' w' → StRep X.K E G (mutPut x o' M) s (upd H a w') ∧ Evo s G M H G (mutPut x o' M) (upd H a w') := by
  cases x with
  | v p =>
    cases p <;> simp only [mutAt] at h <;> try cases h
    rename_i r
    have rx : RepV X.K G H (.ref r) u := rx
    simp only [RepV] at rx
    obtain ⟨a, rfl, ha⟩ := rx
    have hr : M.h[r]? = some o := h
    obtain ⟨nf, w, h1, h2⟩ := R.hp.obj r a o ha hr
    exact ⟨a, w, rfl, h1, h2, nf, fun o' w' ro => R.celled hr ha ro⟩
  | fr o => cases h
  | sl i =>
    simp only [mutAt] at h
    split at h
    · rename_i eo
      cases h
      have ei := slotAt_some eo
      obtain ⟨a, w, e1, h1, h2, h3, h4, h5⟩ := R.own i o ei
      have rx : s[i]? = some (some u) := rx
      rw [e1] at rx; cases rx
      exact ⟨a, w, rfl, h1, h2, h4, fun o' w' ro => R.wrote ei e1 ro⟩
    · cases h
/-! ### methods of lists -/
/-- a list's method of one argument: the list behind it, what is told -/
@[simp] def eM1 (op : List PV → EV → Mem → Option (List PV × PV)) (f g : Sm EV) : Sm EV := fun M => (f M).bnd fun x M1 => match asLst M1 x with
  | none => .bad
  | some _ => (g M1).bnd fun y M2 => match mutAt M2 x with
    | some (.lst xs) => match op xs y M2 with
      | some (ys, p) => .ok (.v p) (mutPut x (.lst ys) M2)
      | none => .bad
    | _ => .bad
def M1Ok (X : Cx) (r : V → List V → Hp → VK → Prop) (op : List PV → EV → Mem → Option (List PV × PV)) : Prop := ∀ (E : Ent) (s : L2.St) (G : Gh) (M : Mem) (H H0 : Hp) (a : Addr) (us : List V) (xs ys : List PV) (y : EV) (v : V) (p : PV) (Q : VK), StRep X.K E G M s H →
  H a = some (.lst us) → us.length ≤ sizeLine → RepVs X.K G H xs us → RepE X.K E H0 G M s H y v → op xs y M = some (ys, p) → (∀ ws w, RepVs X.K G H ys ws → ws.length ≤ sizeLine → RepV X.K G H p w → Q w (upd H a (.lst ws))) → r (.ref a) [v] H Q
theorem tyL {K : PySem.W.Frag} {H : Hp} {a : Addr} {us : List V} (h : SqL K H a us) : tyV K "list" (.ref a) H := .inl ⟨rfl, us, h⟩
theorem tE_m1 {f g : Sm EV} {r : V → List V → Hp → VK → Prop} {op : List PV → EV → Mem → Option (List PV × PV)} (ok : M1Ok X r op) {s : L2.St} {H : Hp} {Q : VK} (h : tE X E W (eM1 op f g) s H Q) : tBM X.K "list" r (tE X E W f) (tCons (tE X E W g) tNil) s H Q := by
  obtain ⟨G, M, R, h⟩ := h
  refine tE_one R h fun G1 M1 H1 x u V1 R1 rx h1 => ?_
  split at h1
  · exact h1.elim
  · rename_i zs ez
    obtain ⟨b, bs, rfl, hb, _⟩ := lst_of R1 rx ez
    refine ⟨tyL hb, tE_one R1 h1 fun G2 M2 H2 y v V2 R2 ry h2 => ?_⟩
    split at h2
    · rename_i xs em
      obtain ⟨a, w, ea, h3, ⟨us, rfl, z, rr⟩, nf, wr⟩ := mut_ok R2 (rx.evo V2) em
      cases ea
      cases eo : op xs y M2 with
      | none => rw [eo] at h2; exact h2.elim
      | some q =>
        obtain ⟨ys, p⟩ := q
        rw [eo] at h2
        refine ok E s G2 M2 H2 H1 b us xs ys y v p Q R2 h3 z rr ry eo fun ws w rw' zw rp => ?_
        obtain ⟨R3, V3⟩ := wr (.lst ys) (.lst ws) ⟨ws, rfl, zw, rw'⟩
        exact h2 G2 _ V3 R3 w (RepV.mono V3.ext _ _ rp)
    · exact h2.elim
section
variable {o e : Expr} {f g : Sm EV} {apos cpos : Pos} {name : Str} {id : String}
theorem fe_m1 {r : V → List V → Hp → VK → Prop} {op : List PV → EV → Mem → Option (List PV × PV)} (slot : Slot "list" name id) (hty : typeOf (.builtin id) = pure (.type "method_descriptor")) (hm : MtR X id r) (ok : M1Ok X r op) (ho : FE X E W o f) (he : FE X E W e g)
    (hbase : attributeBase o name X.env (eval o X.env) = eval o X.env)
    (hfew : ((backTo cpos (starEach [e] X.env)).all (fun x => !x.1) && (backToKw cpos (keywordEach [] X.env)).all (fun x => x.1.isSome)
      && decide ([e].length + ([] : List Keyword).length + (if ([] : List Keyword).isEmpty then 0 else 1) < 30)) = true)
    (hline : (apos.endLine == cpos.line) = true) (hs : starEach [e] X.env = (false, eval e X.env) :: starEach [] X.env) : FE X E W (.Call (.Attribute o name apos) [e] [] cpos) (eM1 op f g) :=
  ⟨PE.weak (pe_bm PySem.F.plainAttrs_list slot hty hm ho.pe (pa_cons he.pe pa_nil hs) hbase hfew hline hs) fun _ _ _ h => tE_m1 ok h⟩
end
/-- a value beside: frozen or at once -/
@[simp] def evP (M : Mem) (y : EV) : Option PV := match y with
  | .v p => some p
  | _ => none
@[simp] def opApp : List PV → EV → Mem → Option (List PV × PV) := fun xs y M => match evP M y with
  | some p => if xs.length < sizeLine then some (xs ++ [p], .non) else none
  | none => none
theorem opApp_ok : M1Ok X rAppend opApp := by
  intro E s G M H H0 a us xs ys y v p Q R h z rr ry e q
  simp only [opApp] at e
  split at e
  · rename_i p' ep
    split at e
    · rename_i lt
      cases e
      cases y <;> simp only [evP] at ep <;> cases ep
      have lt' : us.length < sizeLine := by rw [← rr.length]; exact lt
      exact ⟨a, us, v, rfl, rfl, h, lt', q _ _ (rr.snoc ry) (by simp; omega) (by simp only [RepV])⟩
    · cases e
  · cases e
/-- extend, by a list that may be known -/
def rExtR : V → List V → Hp → VK → Prop := fun x vs H Q => ∃ l b xs zs, x = .ref l ∧ vs = [.ref b] ∧ H l = some (.lst xs) ∧ Rd H b (.lst zs) ∧ xs.length + zs.length ≤ sizeLine ∧ Q .non (upd H l (.lst (xs ++ zs)))
theorem mt_extR : MtR X "list.extend" rExtR := by
  intro pins s σ H x vs v us Q I rx rv h
  obtain ⟨l, b, xs, zs, rfl, rfl, hH, hB, hz, q⟩ := h
  cases rx
  obtain ⟨u, rfl, ru⟩ := rv.one
  cases ru
  obtain ⟨z, its, n, r, hl, e⟩ := I.lstM hH
  obtain ⟨z2, its2, n2, r2, e2⟩ : ObjOk X.prog X.w H s.heap b (.lst zs) := hB.ok I.hok
  have hl2 := r2.length
  have hsz : its.toArray.size + its2.toArray.size ≤ sizeLine := by rw [List.size_toArray, List.size_toArray]; omega
  have hlong : ¬ (!its.toArray.isEmpty && Builtin.List.listTooLong (its.toArray.size + its2.toArray.size)) = true := by
    rw [notLongL hsz, Bool.and_false]; exact Bool.false_ne_true
  refine call_meets F.slot_list_extend ⟨_, e, rfl⟩ F.entry_list_extend (F.args_list_extend_2 _ _) (AutoSeq1.list_extend_list_list_0 l its.toArray n b its2.toArray n2 hlong (by rw [List.size_toArray]; omega) (by omega)) ⟨e, e2, ?_⟩
  exact ⟨.non, _, I.lset (its' := its ++ its2) hH e (by simp) (r.append r2) (by rw [List.length_append]; omega), rfl, q⟩
@[simp] def opExt : List PV → EV → Mem → Option (List PV × PV) := fun xs y M => match asLstR M y with
  | some zs => if xs.length + zs.length ≤ sizeLine then some (xs ++ zs, .non) else none
  | none => none
theorem opExt_ok : M1Ok X rExtR opExt := by
  intro E s G M H H0 a us xs ys y v p Q R h z rr ry e q
  simp only [opExt] at e
  split at e
  · rename_i zs ez
    split at e
    · rename_i lt
      cases e
      obtain ⟨b, bs, rfl, hb, rb, zb⟩ := lstR_of R ry ez
      have l1 := rr.length
      have l2 := rb.length
      exact ⟨a, b, us, bs, rfl, rfl, h, hb, by omega, q _ _ (rr.append rb) (by rw [List.length_append]; omega) (by simp only [RepV])⟩
    · cases e
  · cases e
/-- pop(i) -/
@[simp] def opPopAt : List PV → EV → Mem → Option (List PV × PV) := fun xs y _ => match y with
  | .v (.int i) => if decide (i.natAbs < 2 ^ 62) = true then (match seqIndex? i xs.length with
    | some k => (xs[k]?).map fun p => (xs.eraseIdx k, p)
    | none => none) else none
  | _ => none
section
variable {o e : Expr} {f g : Sm EV} {apos cpos : Pos}
end
end
end HF


end
section
set_option Elab.async false
set_option linter.all false
set_option maxRecDepth 20000
set_option autoImplicit false
/-! HF11: the methods by name; stores by subscript; join; a law's end. -/
namespace HF
open PySem PySem.Spec PyProof.Rows L2
section
variable {X : Cx} {E : Ent} {W : WX} {N : List Str} {sc : Scope} {fs : Str → Bool} {k : Nat} {Z : Wd}
section
variable {o e : Expr} {f g : Sm EV} {h : Sm PV} {apos cpos : Pos}
@[simp] def pV (f : Sm PV) : Sm EV := fun M => (f M).bnd fun p M1 => .ok (.v p) M1
theorem fe_append (ho : FE X E W o f) (he : FP X E W e h) (hbase : attributeBase o "append" X.env (eval o X.env) = eval o X.env := by rfl)
    (hfew : ((backTo cpos (starEach [e] X.env)).all (fun x => !x.1) && (backToKw cpos (keywordEach [] X.env)).all (fun x => x.1.isSome) && decide ([e].length + ([] : List Keyword).length + (if ([] : List Keyword).isEmpty then 0 else 1) < 30)) = true := by rfl)
    (hline : (apos.endLine == cpos.line) = true := by rfl) (hs : starEach [e] X.env = (false, eval e X.env) :: starEach [] X.env := by rfl) : FE X E W (.Call (.Attribute o "append" apos) [e] [] cpos) (eM1 opApp f (pV h)) :=
  fe_m1 PySem.F.slot_list_append PySem.F.type_list_append mt_append opApp_ok ho he.fe hbase hfew hline hs
theorem fe_extend (ho : FE X E W o f) (he : FE X E W e g) (hbase : attributeBase o "extend" X.env (eval o X.env) = eval o X.env := by rfl)
    (hfew : ((backTo cpos (starEach [e] X.env)).all (fun x => !x.1) && (backToKw cpos (keywordEach [] X.env)).all (fun x => x.1.isSome) && decide ([e].length + ([] : List Keyword).length + (if ([] : List Keyword).isEmpty then 0 else 1) < 30)) = true := by rfl)
    (hline : (apos.endLine == cpos.line) = true := by rfl) (hs : starEach [e] X.env = (false, eval e X.env) :: starEach [] X.env := by rfl) : FE X E W (.Call (.Attribute o "extend" apos) [e] [] cpos) (eM1 opExt f g) :=
  fe_m1 PySem.F.slot_list_extend PySem.F.type_list_extend mt_extR opExt_ok ho he hbase hfew hline hs
/-- pop() -/
@[simp] def ePop (f : Sm EV) : Sm EV := fun M => (f M).bnd fun x M1 => match mutAt M1 x with
  | some (.lst xs) => match xs[xs.length - 1]? with
    | some p => .ok (.v p) (mutPut x (.lst xs.dropLast) M1)
    | none => .bad
  | _ => .bad
theorem fe_pop (ho : FE X E W o f) (hbase : attributeBase o "pop" X.env (eval o X.env) = eval o X.env := by rfl) (hline : (apos.endLine == cpos.line) = true := by rfl) : FE X E W (.Call (.Attribute o "pop" apos) [] [] cpos) (ePop f) := by
  refine ⟨PE.weak (pe_bm0 PySem.F.plainAttrs_list PySem.F.slot_list_pop PySem.F.type_list_pop mt_pop ho.pe hbase hline) ?_⟩
  rintro s H Q ⟨G, M, R, h⟩
  refine tE_one R h fun G1 M1 H1 x u V1 R1 rx h1 => ?_
  split at h1
  · rename_i xs em
    obtain ⟨a, w, rfl, h3, ⟨us, rfl, z, rr⟩, nf, wr⟩ := mut_ok R1 rx em
    split at h1
    · rename_i p ep
      obtain ⟨w, e2, rw'⟩ := rr.get ep
      rw [rr.length] at e2
      obtain ⟨R3, V3⟩ := wr (.lst xs.dropLast) (.lst us.dropLast) ⟨_, rfl, by simp; omega, rr.dropLast⟩
      exact ⟨tyL (SqL.of h3), a, us, w, rfl, rfl, h3, e2, h1 G1 _ V3 R3 w (RepV.mono V3.ext _ _ rw')⟩
    · exact h1.elim
  · exact h1.elim
/-- sep.join(texts) -/
@[simp] def strsIn (M : Mem) (y : EV) : Option (List Str) := match y with
  | .v (.tup xs) => asStrs xs
  | y => (asLst M y).bind asStrs
@[simp] def eJoin (f g : Sm EV) : Sm EV := fun M => (f M).bnd fun x M1 => match x with
  | .v (.str a) => (g M1).bnd fun y M2 => match strsIn M2 y with
    | some ys => if (ys.map (·.length)).sum + ys.length * a.length ≤ 16777216 then .ok (.v (.str (Txt.join a ys))) M2 else .bad
    | none => .bad
  | _ => .bad
theorem repE_strI {E : Ent} {H0 : Hp} {G : Gh} {M : Mem} {s : L2.St} {H : Hp} {z : Str} : RepE X.K E H0 G M s H (.v (.str z)) (.str z) := show RepV X.K G H (.str z) _ by simp only [RepV]
theorem fe_join (ho : FE X E W o f) (he : FE X E W e g) (hs : starEach [e] X.env = [(false, eval e X.env)] := by rfl) (hbase : attributeBase o "join" X.env (eval o X.env) = eval o X.env := by rfl) (hline : (apos.endLine == cpos.line) = true := by rfl) : FE X E W (.Call (.Attribute o "join" apos) [e] [] cpos) (eJoin f g) := by
  refine ⟨PE.weak (pe_join ho.pe he.pe hs hbase hline) ?_⟩
  rintro s H Q ⟨G, M, R, h⟩
  refine tE_one R h fun G1 M1 H1 x u V1 R1 rx h1 => ?_
  split at h1
  · rename_i a
    have eu := repE_str rx
    subst eu
    refine ⟨⟨a, rfl⟩, tE_one R1 h1 fun G2 M2 H2 y v V2 R2 ry h2 => ?_⟩
    split at h2
    · rename_i ys ey
      split at h2
      · rename_i hz
        have fin := OutP.now h2 R2 _ repE_strI
        simp only [strsIn] at ey
        split at ey
        · obtain ⟨b, us, rfl, hb, rb, zb⟩ := repE_tup ry
          have eu := asStrs_rep ey rb
          subst eu
          exact ⟨a, b, ys, rfl, rfl, .inr hb, hz, fin⟩
        · cases e1 : asLst M2 y with
          | none => rw [e1] at ey; cases ey
          | some xs =>
            rw [e1] at ey
            obtain ⟨b, us, rfl, hb, rb, zb⟩ := lst_of R2 ry e1
            have eu := asStrs_rep ey rb
            subst eu
            exact ⟨a, b, ys, rfl, rfl, .inl hb, hz, fin⟩
      · exact h2.elim
    · exact h2.elim
  · exact h1.elim
end

/-! ### o[i] = value -/
def dPutV : List Key → List PV → Key → PV → List PV
  | q :: ks, x :: xs, k, p => (if q = k then p else x) :: dPutV ks xs k p
  | _, _, _, _ => []
def dStore (ks : List Key) (xs : List PV) (k : Key) (p : PV) : List Key × List PV := if (ks.any fun q => decide (q = k)) = true then (ks, dPutV ks xs k p) else (ks ++ [k], xs ++ [p])
theorem dPutV_rep {K : PySem.W.Frag} {G : Gh} {H : Hp} {k : Key} {p : PV} {v : V} (rp : RepV K G H p v) : ∀ {kvs : List (Key × V)} {xs : List PV}, RepVs K G H xs (kvs.map (·.2)) →
    RepVs K G H (dPutV (kvs.map (·.1)) xs k p) ((kvs.map fun kv => if kv.1 = k then (kv.1, v) else kv).map (·.2))
  | [], xs, r => by simpa [dPutV] using RepVs.nil
  | (q, w) :: kvs, xs, r => by
    cases xs with
    | nil => have := r.length; simp at this
    | cons x xs =>
      obtain ⟨u, us, e2, r1, r2⟩ := RepVs.cons_iff.mp r
      cases e2
      simp only [List.map_cons, dPutV]
      by_cases h : q = k
      · rw [if_pos h, if_pos h]; exact RepVs.cons rp (dPutV_rep rp r2)
      · rw [if_neg h, if_neg h]; exact RepVs.cons r1 (dPutV_rep rp r2)
theorem dStore_rep {K : PySem.W.Frag} {G : Gh} {H : Hp} {k : Key} {p : PV} {v : V} {kvs : List (Key × V)} {xs : List PV} (rp : RepV K G H p v) (r : RepVs K G H xs (kvs.map (·.2))) (z : kvs.length < sizeLine) :
    RepO K G H (.dct (dStore (kvs.map (·.1)) xs k p).1 (dStore (kvs.map (·.1)) xs k p).2) (.dK (putK kvs k v)) := by
  have ek : ((kvs.map (·.1)).any fun q => decide (q = k)) = kvs.any fun kv => decide (kv.1 = k) := by rw [List.any_map]; rfl
  refine ⟨_, rfl, Nat.le_trans (length_putK kvs k v) z, ?_, ?_⟩
  · unfold putK dStore
    rw [ek]
    by_cases h' : (kvs.any fun kv => decide (kv.1 = k)) = true
    · rw [if_pos h', if_pos h', List.map_map]
      apply List.map_congr_left
      intro a _
      simp only [Function.comp]
      split <;> rfl
    · rw [if_neg h', if_neg h']
      simp
  · unfold putK dStore
    rw [ek]
    by_cases h' : (kvs.any fun kv => decide (kv.1 = k)) = true
    · rw [if_pos h', if_pos h']
      exact dPutV_rep rp r
    · rw [if_neg h', if_neg h', List.map_append]
      exact r.snoc rp
def rSetA : V → V → V → Hp → (Hp → Prop) → Prop := fun o i v H Q => rSetL o i v H Q ∨ ∃ a H4, o = .ref a ∧ DPut H a i v H4 ∧ Q H4
theorem set_any (hu : X.A.units + 1 < cLine) : PSet X rSetA := by
  intro pins s σ H o i v ov iv u Q I ro ri rv h
  rcases h with h | ⟨a, H4, rfl, g, q⟩
  · exact set_list pins s σ H o i v ov iv u Q I ro ri rv h
  · cases ro
    exact d_setItem hu I g ri rv fun s4 I4 => ⟨H4, I4, q⟩
@[simp] def sSub (fv : Sm PV) (fo fi : Sm EV) : Ss := fun M => (fv M).st fun p M1 => (fo M1).st fun x M2 => (fi M2).st fun y M3 => match mutAt M3 x with
  | some (.lst xs) => match y with
    | .v (.int i) => match ixN xs.length i with
      | some j => .nx (mutPut x (.lst (xs.set j p)) M3)
      | none => .bad
    | _ => .bad
  | some (.dct ks xs) => match keyOf y with
    | some q => if ks.length < sizeLine then .nx (mutPut x (.dct (dStore ks xs q p).1 (dStore ks xs q p).2) M3) else .bad
    | none => .bad
  | _ => .bad
theorem fs_sub (A : Amb Z X W N sc fs k) {o i e : Expr} {fv : Sm PV} {fo fi : Sm EV} {pos p2 : Pos} (he : FP X E W e fv) (ho : FE X E W o fo) (hi : FE X E W i fi) (hg : PSet X rSetA → PG X (.Subscript o i p2) (gSub (tE X E W fo) (tE X E W fi) rSetA))
    (hs : swapsWithSole [.Subscript o i p2] e pos.line X.env = pure false := by rfl) (hw : swappedStores [.Subscript o i p2] e X.env = pure none := by rfl) (h1 : (assignEach [.Subscript o i p2] X.env).map (·.2) = [assign (.Subscript o i p2) X.env] := by rfl) :
    FS X E W (.Assign [.Subscript o i p2] e pos) (sSub fv fo fi) := by
  refine ⟨PS.weak (ps_asg he.pe (hg (set_any A.u1)) hs hw h1) ?_⟩
  rintro D s H ⟨G, M, R, h⟩
  refine tP_st R h fun G1 M1 H1 p u V1 R1 rp q => ?_
  refine tE_st R1 q fun G2 M2 H2 x v V2 R2 rx q2 => ?_
  refine tE_st R2 q2 fun G3 M3 H3 y w V3 R3 ry q3 => ?_
  have rp3 := RepV.mono (V2.trans V3).ext _ _ rp
  split at q3
  · rename_i xs em
    obtain ⟨a, t, rfl, h3, ⟨us, rfl, z, rr⟩, nf, wr⟩ := mut_ok R3 (rx.evo V3) em
    split at q3
    · rename_i j
      split at q3
      · rename_i n en
        rw [rr.length] at en
        obtain ⟨R4, V4⟩ := wr (.lst (xs.set n p)) (.lst (us.set n u)) ⟨_, rfl, by simpa using z, rr.set n rp3⟩
        exact .inl ⟨a, us, j, n, rfl, repE_int ry, h3, en, q3 G3 s _ V4.ext R4⟩
      · exact q3.elim
    · exact q3.elim
  · rename_i ks xs em
    obtain ⟨a, t, rfl, h3, ⟨kvs, rfl, z, hk, rr⟩, nf, wr⟩ := mut_ok R3 (rx.evo V3) em
    split at q3
    · rename_i q eq
      split at q3
      · rename_i lt
        subst hk
        have lt' : kvs.length < sizeLine := by simpa using lt
        obtain ⟨R4, V4⟩ := wr _ _ (dStore_rep rp3 rr lt' (k := q))
        refine .inr ⟨a, _, rfl, ?_, q3 G3 s _ V4.ext R4⟩
        rw [key_rep ry eq]
        exact DPut.k h3 lt'
      · exact q3.elim
    · exact q3.elim
  · exact q3.elim
end

/-! ### a law's end -/
theorem law_sp {T : List NdefX.NTab} {K : PySem.W.Frag} {mg : Str → Option Value} {φ : Fn} (hφ : ∀ ns : List Int, ns.length ≤ 63 → ∃ h', φ [.rol (ns.map .int)] [] = .ok (.v (.bl true)) h') (H : Hp) (a : Addr) (ns : List Int) (hn : ns.length ≤ 63) (hS : SqL K H a (ns.map V.int)) (hT : ∀ p ∈ T, H p.1 = some (.tbl #[])) :
    spOf T K mg φ [.ref a] H (fun v _ => v = .bl true) fun _ _ _ => False := by
  obtain ⟨h', e⟩ := hφ ns hn
  have nn : ∀ (b : Addr) (us : List V), Rd H b (.lst us) → (∃ u, H b = some u ∧ NoX u) ∧ ∀ ps, H b ≠ some (.tbl ps) := fun b us h => by
    rcases h with h | ⟨o, h⟩ <;> exact ⟨⟨_, h, fun _ z => (nomatch z), fun _ z => (nomatch z)⟩, fun ps z => (by rw [z] at h; cases h)⟩
  have reps : ∀ ms : List Int, RepVs K ⟨fun b => b = a ∧ ∃ us, Rd H b (.lst us), []⟩ H (ms.map .int) (ms.map V.int) := fun ms => by
    induction ms with
    | nil => exact RepVs.nil
    | cons m ms ih => exact RepVs.cons (by simp only [RepV]) ih
  refine ⟨⟨fun b => b = a ∧ ∃ us, Rd H b (.lst us), []⟩, [], [.rol (ns.map .int)], ⟨fun b hb => ?_, List.nodup_nil, rfl, fun r b o hb => by simp at hb⟩, fun p hp => ⟨#[], hT p hp, True.intro, by simp, fun ⟨_, us, z⟩ => (nn _ _ z).2 _ (hT p hp), fun pos cv z => by simp [codeAmong] at z⟩, RepVs.cons ?_ RepVs.nil, ?_⟩
  · obtain ⟨_, us, z⟩ := hb
    exact (nn _ _ z).1
  · simp only [RepV]
    refine ⟨a, ns.map V.int, rfl, ⟨by rw [List.length_map, sizeLine_eq]; omega, ?_⟩, reps ns⟩
    rcases hS with h | h
    · exact .inl ⟨⟨rfl, _, h⟩, h⟩
    · exact .inr (.inr h)
  · rw [e]
    intro G' H' u _ _ ru
    have ru : RepV K G' H' (.bl true) u := ru
    simpa only [RepV] using ru
theorem CX_false {P : Program} {w : World} {H : Hp} {s : Shared} {e : Value} {s' : Shared} (h : L2.CX P w [] H s (fun _ _ _ => False) e s') : False := by
  obtain ⟨_, _, _, _, _, _, _, _, _, _, _, _, z⟩ := h
  exact z
end HF


end
section
set_option Elab.async false
set_option linter.all false
set_option maxRecDepth 20000
set_option autoImplicit false
/-! HF12: a def as the top has left it. -/
namespace HF
open PySem PySem.Spec PyProof.Rows L2
structure DefAt (Z : Wd) (x : Str) (st : Stmt) (ps : List Str) : Prop where
  ok : ∃ f fd, Fun Z.K x x st f fd ∧ Z.mg x = some (.ref f) ∧ Binds Z.K fd ps []
theorem DefAt.known {Z : Wd} {x : Str} {st : Stmt} {ps : List Str} {k : Nat} {φ : Fn} (h : DefAt Z x st ps) (d : ∀ f fd, Fun Z.K x x st f fd → FnOk Z.P Z.w Z.K Z.mg Z.base (L2.CX Z.P Z.w) k f fd ps (spOf Z.T Z.K Z.mg φ)) : Known Z k x [] φ := by
  obtain ⟨f, fd, F, m, b⟩ := h.ok
  exact ⟨f, fd, ps, [], [], d f fd F, m, F.kp, b, .nil, fun _ _ => RepVs.nil⟩
/-- nothing is promised without levels -/
theorem DefAt.none {Z : Wd} {x : Str} {st : Stmt} {ps : List Str} {k : Nat} (h : DefAt Z x st ps) : Known Z k x [] (fun _ _ => .bad) := by
  refine h.known fun f fd F => ⟨fun vs H Q Ex ⟨G, hh, p, _, _, _, z⟩ => z.elim, fun A outer s H args us vs Q Ex _ _ _ _ ⟨G, hh, p, _, _, _, z⟩ => z.elim⟩
/-! ### from the facts of the top -/
theorem defAt_mk {P : Program} {w : World} {K : PySem.W.Frag} {mg : Str → Option Value} {base h : Heap} {x : Str} {st : Stmt} {ps : List Str} {f : Addr} {oc kV doc pm cdv ct : Value} {od an : Option Addr} {osl : Array (Option Value)} {T : List NdefX.NTab}
    (X : K.In h) (G : h.Ns mainGlobals mg) (a : PySem.W.nsIn K mainGlobals x = some (some (.ref f)))
    (l : K.lookup f = some ⟨oc, od, .func (PySem.W.fnOf x x (defArgs st) (defBody st) (defScope st) .none kV doc pm an cdv ct), osl⟩)
    (c : PySem.W.codeIn K cdv x = true) (k : PySem.W.keepIn K (.ref f) = true)
    (hb : ∀ (kV doc pm : Value) (an : Option Addr) (cdv ct : Value) (us : List Value), us.length = ps.length → bindArgs (PySem.W.fnOf x x (defArgs st) (defBody st) (defScope st) .none kV doc pm an cdv ct) ⟨us, []⟩ = pure (ps.zip us)) : DefAt ⟨P, w, K, mg, base, T⟩ x st ps :=
  have F := fun_mk (st := st) l c k
  ⟨f, _, F, PySem.W.mg_of X G a, F.binds hb⟩
/-- a law's promise, whatever the module's names stand for -/
def spTop (K : PySem.W.Frag) (T : List NdefX.NTab) (φ : Fn) : Sp := fun vs H Q Ex => ∀ mg, spOf T K mg φ vs H Q Ex
end HF


end
section
set_option Elab.async false
set_option linter.all false
set_option maxRecDepth 20000
set_option autoImplicit false
/-! HF13: in, not in; -x; x += y; a list so many times; divmod; enumerate. -/
namespace HF
open PySem PySem.Spec PyProof.Rows L2
section
variable {X : Cx} {E : Ent} {W : WX} {N : List Str} {sc : Scope} {fs : Str → Bool} {k : Nat} {Z : Wd}

/-! ### in -/
/-- what is walked: the items of a tuple or a list -/
@[simp] def asSeq (M : Mem) (e : EV) : Option (List PV) := match e with
  | .v (.tup xs) => some xs
  | e => asLst M e
@[simp] def inI : Cp2 := fun x y M => match x with
  | .v (.int i) => ((asSeq M y).bind asInts).map fun ns => decide (i ∈ ns)
  | _ => none
@[simp] def inT : Cp2 := fun x y M => match x with
  | .v (.str i) => ((asSeq M y).bind asStrs).map fun ns => decide (i ∈ ns)
  | _ => none
@[simp] def inC : Cp2 := fun x y _ => match x, y with
  | .v (.str i), .v (.str z) => match i.cps.toList with
    | [c] => some (decide (c ∈ z.cps.toList))
    | _ => none
  | _, _ => none
@[simp] def inK : Cp2 := fun x y M => match keyOf x, asDct M y with
  | some q, some (ks, _) => some (ks.any fun p => decide (p = q))
  | _, _ => none
@[simp] def inD : Cp2 := fun x y M => match evD M x, evD M y with
  | some d, some (.list ds) => if SeqAt.shaped d && SeqAt.shaped (.list ds) then some (ds.any fun z => PyData.eqv z d) else none
  | _, _ => none
@[simp] def cpIn : Cp2 := fun x y M => (inI x y M).or ((inT x y M).or ((inC x y M).or ((inK x y M).or (inD x y M))))
@[simp] def cpNi : Cp2 := fun x y M => (cpIn x y M).map (!·)
section
variable {a b : Expr} {f g : Sm EV} {pos : Pos}
end

/-! ### -x -/
@[simp] def opNeg : Op1 := fun x _ => match x with
  | .v (.int i) => some (.v (.int (-i)))
  | _ => none
theorem opNeg_ok : Op1Ok X (rU fun i => .int (-i)) opNeg := by
  intro E s G M H H0 x u ev Q R d rx e q
  simp only [opNeg] at e
  split at e
  · cases e
    exact ⟨_, repE_int rx, q G H _ (Evo.refl _ _ _ _) R (show RepV X.K G H (.int _) _ by simp only [RepV])⟩
  · cases e
theorem fe_neg {a : Expr} {f : Sm EV} {pos : Pos} (ha : FE X E W a f) : FE X E W (.UnaryOp .USub a pos) (e1 opNeg f) :=
  ⟨PE.weak (pe_un un_neg ha.pe) fun _ _ _ h => tE_op1 opNeg_ok h⟩

/-! ### x += y: whole numbers -/
@[simp] def sAugAdd (i : Nat) (f : Sm EV) : Ss := fun M => match slotAt M i with
  | some (.v (.int a)) => (f M).st fun y M1 => match y with
    | .v (.int b) => .nx ⟨M1.r.set i (some (.v (.int (a + b)))), M1.h⟩
    | _ => .bad
  | _ => .bad
theorem fs_augadd (A : Amb Z X W N sc fs k) {x : Str} {i : Nat} {e : Expr} {f : Sm EV} {pos pos' : Pos} (hN : N[i]? = some x) (hl : locB sc fs x = true) (he : FE X E W e f) : FS X E W (.AugAssign (.Name x pos') .Add e pos) (sAugAdd i f) := by
  refine ⟨PS.weak (ps_aug (by rw [A.hN]; exact A.nd) (by rw [A.hN]; exact hN) (by rw [A.hs]; exact locB_loc hl) he.pe ip_add (locB_fn A hl)) ?_⟩
  rintro D s H ⟨G, M, R, h⟩
  simp only [sAugAdd] at h
  split at h
  · rename_i a ea
    obtain ⟨u, e1, r1⟩ := R.slot i _ (slotAt_some ea)
    simp only [RepV] at r1
    subst r1
    refine ⟨_, e1, tE_st R h fun G1 M1 H1 y v V1 R1 ry q => ?_⟩
    split at q
    · rename_i b
      exact ⟨a, b, rfl, repE_int ry, SOut.nxt q (R1.setV i (show RepV X.K G1 H1 (.int (a + b)) (.int (a + b)) by simp only [RepV]))⟩
    · exact q.elim
  · exact h.elim

/-! ### a list so many times -/
@[simp] def opRepN : Op2 := fun x y _ => match x, y with
  | .fr (.lst xs), .v (.int n) => if (decide (n.natAbs < 2 ^ 62) && decide (xs.length * n.toNat ≤ sizeLine)) = true then some (.fr (.lst (List.replicate n.toNat xs).flatten)) else none
  | _, _ => none
theorem RepVs.rep {K : PySem.W.Frag} {G : Gh} {H : Hp} {xs : List PV} {us : List V} (r : RepVs K G H xs us) : ∀ n : Nat, RepVs K G H (List.replicate n xs).flatten (List.replicate n us).flatten
  | 0 => RepVs.nil
  | n + 1 => by
    rw [List.replicate_succ, List.replicate_succ, List.flatten_cons, List.flatten_cons]
    exact r.append (RepVs.rep r n)
theorem opRepN_ok : Op2Ok X rRep opRepN := by
  intro E s G M H H0 x y u v ev Q R d rx ry e q
  simp only [opRepN] at e
  split at e
  · rename_i xs n
    split at e
    · rename_i z
      simp only [Bool.and_eq_true, decide_eq_true_eq] at z
      cases e
      obtain ⟨a, w, rfl, h1, ⟨us, rfl, zz, rr⟩, _⟩ := rx
      have l1 := rr.length
      refine ⟨a, n, us, rfl, repE_int ry, h1, by omega, by omega, by rw [← l1]; exact z.2, fun p hp => ?_⟩
      obtain ⟨V1, R1, r1⟩ := rep_newlst (H0 := H0) R d (rr.rep n.toNat) (by rw [List.length_flatten, List.map_replicate, List.sum_replicate_nat]; rw [l1] at z; rw [Nat.mul_comm]; exact z.2) hp
      exact q _ _ _ V1 R1 r1
    · cases e
  · cases e
theorem fe_rep {a b : Expr} {f g : Sm EV} {pos : Pos} (ha : FE X E W a f) (hb : FE X E W b g) : FE X E W (.BinOp a .Mult b pos) (e2 opRepN f g) := fe_bin op_rep opRepN_ok ha hb

/-! ### divmod -/
@[simp] def opDvm : Op2 := fun x y _ => match x, y with
  | .v (.int i), .v (.int j) => if divOk i j then some (.v (.tup [.int (i / j), .int (i % j)])) else none
  | _, _ => none
end
end HF


end
section
set_option Elab.async false
set_option linter.all false
set_option maxRecDepth 20000
set_option autoImplicit false
/-! HF14: divmod, enumerate; a slot's new thing as a cell; o[i], x = pair. -/
namespace HF
open PySem PySem.Spec PyProof.Rows L2
section
variable {X : Cx} {E : Ent} {W : WX} {N : List Str} {sc : Scope} {fs : Str → Bool} {k : Nat} {Z : Wd}
/-! ### enumerate -/
def enumP (xs : List PV) : List PV := xs.zipIdx.map fun p => .tup [.int (p.2 : Nat), p.1]
theorem enumP_get (xs : List PV) (i : Nat) : (enumP xs)[i]? = xs[i]?.map fun x => .tup [.int (i : Nat), x] := by
  unfold enumP
  rw [List.getElem?_map, List.getElem?_zipIdx]
  cases xs[i]? <;> simp
theorem enumP_len (xs : List PV) : (enumP xs).length = xs.length := by simp [enumP]
theorem enumP_map {α : Type} (k : α → PV) (ys : List α) : enumP (ys.map k) = ys.zipIdx.map fun p => .tup [.int (p.2 : Nat), k p.1] := by
  unfold enumP
  rw [List.zipIdx_map, List.map_map]
  rfl
@[simp] def srcEn (f : Sm EV) : Sm Src := fun M => (f M).bnd fun e M1 => match e with
  | .v (.lst xs) => .ok (.v .non, enumP xs) M1
  | .v (.rol xs) => .ok (.v .non, enumP xs) M1
  | .fr (.lst xs) => .ok (.v .non, enumP xs) M1
  | _ => .bad
theorem wk_enum {K : PySem.W.Frag} {e : EV} {xs : List PV} {s0 : L2.St} {G0 : Gh} {H0 : Hp} {a : Addr} (hz : xs.length ≤ sizeLine) (v : ∀ G M s H, StRep K E G M s H → Ext G0 H0 G H → ∃ us, SqL K H a us ∧ RepVs K G H xs us) {X : Cx} (hK : X.K = K) : Wk K E (.v .non) (enumP xs) s0 (Ite K a) G0 H0 where
  go := fun i G M s H R x c sa lt => by
    obtain ⟨us, q, r⟩ := v G M s H R x
    rw [enumP_len] at lt
    have lt' : i < us.length := by rw [← r.length]; exact lt
    exact ⟨us, us[i], q, List.getElem?_eq_getElem lt'⟩
  yld := fun i G M s H y H' p R x c sa e1 e2 => by
    subst hK
    obtain ⟨us, q, r⟩ := v G M s H R x
    obtain ⟨T, z, rfl, hT, rfl, h2⟩ := e2
    have h2 := h2 us q
    rw [enumP_get] at e1
    obtain ⟨p', h3, h4⟩ := r.getV h2
    rw [h3] at e1
    cases e1
    obtain ⟨V1, R1, r1⟩ := rep_newtup (X := X) R (ps := [.int (i : Nat), p']) (us := [.int (i : Nat), z]) (RepVs.cons (by simp only [RepV]) (RepVs.cons h4 RepVs.nil)) (by rw [sizeLine_eq]; simp) hT
    exact ⟨_, V1, R1, r1⟩
  stop := fun i G M s H R x c sa le => by
    obtain ⟨us, q, r⟩ := v G M s H R x
    rw [enumP_len] at le
    exact ⟨us, q, by rw [← r.length]; exact le⟩
  sz := by rw [enumP_len]; exact hz
theorem fi_enum (A : Amb Z X W N sc fs k) {elts : List Expr} {kk : Nat} {tpos p pos : Pos} {e : Expr} {f : Sm EV} (hm : X.mg ("enumerate" : Str) = none) (h : FE X E W e f) (hg : sc.names.lookup ("enumerate" : Str) = some .globalImplicit := by rfl) (hs : starEach [e] X.env = [(false, eval e X.env)] := by rfl) : FI X E W (.Tuple elts kk tpos) (.Call (.Name "enumerate" p) [e] [] pos) (srcEn f) := by
  refine ⟨PI.weak (pi_enum (A.gl hg) hm (pa_cons h.pe pa_nil (by rw [hs]; rfl)) hs) ?_⟩
  rintro s H Q ⟨G, M, R, hh⟩
  show tE X E W f s H fun x H1 => ∃ a xs, [x] = [V.ref a] ∧ SqL X.K H1 a xs ∧ Q (Ite X.K a) H1
  refine ⟨G, M, R, ?_⟩
  simp only [srcEn] at hh
  cases hf : f M with
  | exn c M1 => rw [hf] at hh; exact hh
  | bad => rw [hf] at hh; exact hh
  | ok x M1 =>
    rw [hf] at hh
    simp only [Res.bnd] at hh
    intro G1 H1 V1 R1 u rx
    split at hh
    · rename_i xs
      have ru : RepV X.K G1 H1 (.lst xs) u := rx
      simp only [RepV] at ru
      obtain ⟨a, us, rfl, ⟨z, f1, f2⟩, rr⟩ := ru
      exact ⟨a, us, rfl, .inl f2, hh G1 H1 V1 R1 _ (wk_enum (e := .v .non) (X := X) (by rw [rr.length]; exact z) (fun G' M' s' H' R' x => ⟨us, .inl (x.rd a _ f1 trivial f2), RepVs.mono x _ _ rr⟩) rfl)⟩
    · rename_i xs
      have ru : RepV X.K G1 H1 (.rol xs) u := rx
      simp only [RepV] at ru
      obtain ⟨a, us, rfl, fl, rr⟩ := ru
      exact ⟨a, us, rfl, fl.sq, hh G1 H1 V1 R1 _ (wk_enum (e := .v .non) (X := X) (by rw [rr.length]; exact fl.1) (fun G' M' s' H' R' x => ⟨us, (fl.mono x).sq, RepVs.mono x _ _ rr⟩) rfl)⟩
    · rename_i xs
      obtain ⟨a, w, rfl, h2, ⟨us, rfl, z, rr⟩, n, nf, nl, no, ho⟩ := rx
      have x0 := G1.ext_fz H1 a
      exact ⟨a, us, rfl, SqL.of h2, hh (G1.fz a) H1 (V1.frozen (.inl ho)) (R1.frozen h2 n nl no) _ (wk_enum (e := .v .non) (X := X) (by rw [rr.length]; exact z) (fun G' M' s' H' R' x => ⟨us, .inl (x.rd a _ (.inr rfl) trivial (.inl h2)), RepVs.mono (x0.trans x) _ _ rr⟩) rfl)⟩
    · exact hh.elim
theorem srcEn_ns {f : Sm EV} : NoSlot (srcEn f) := by
  refine ⟨fun M a M' h => ?_⟩
  simp only [srcEn] at h
  cases hf : f M with
  | exn c M1 => rw [hf] at h; cases h
  | bad => rw [hf] at h; cases h
  | ok e M1 =>
    rw [hf] at h
    simp only [Res.bnd] at h
    split at h <;> first | (cases h; rfl) | cases h

/-! ### a new thing that more than one name may hold -/
theorem StRep.cellNew {K : PySem.W.Frag} {G : Gh} {M : Mem} {s : L2.St} {H : Hp} (R : StRep K E G M s H) {a : Addr} {w : HO} {o : PO} (h1 : H a = some w) (ro : RepO K G H o w) (hn : E.H a = none) (nf : ¬ G.F a) (nl : a ∉ G.al) (no : ¬ OwnAt M.r s a) :
    StRep K E ⟨G.F, G.al ++ [a]⟩ ⟨M.r, M.h ++ [o]⟩ s H ∧ Ext G H ⟨G.F, G.al ++ [a]⟩ H := by
  have x : Ext G H ⟨G.F, G.al ++ [a]⟩ H := ⟨fun _ h => h, fun _ _ _ _ h => h, fun r b h => by
    show (G.al ++ [a])[r]? = some b
    rw [List.getElem?_append_left (List.getElem?_eq_some_iff.mp h).1]; exact h, fun _ _ _ _ h => h⟩
  have x' : ∀ {p : PV} {u : V}, RepV K G H p u → RepV K ⟨G.F, G.al ++ [a]⟩ H p u := fun {p u} r => RepV.mono x _ _ r
  refine ⟨⟨⟨R.post.f, R.post.fnew, ?_, R.post.keep, fun t => (R.post.tabs t).step fun b u e nn n m => ⟨e, fun z => ?_, m⟩, R.post.rd, R.post.dom, R.post.fz⟩, ⟨R.hp.fdom, ?_, ?_, fun r b ob e e' => ?_⟩, R.len, fun i q e => ?_, fun i ob e => ?_, R.sep⟩, x⟩
  · obtain ⟨l, e1, e2⟩ := R.post.al
    refine ⟨l ++ [a], by simp [e1], fun b hb => ?_⟩
    rcases List.mem_append.mp hb with hb | hb
    · exact e2 b hb
    · simp at hb; subst hb; exact hn
  · rcases List.mem_append.mp z with z | z
    · exact n z
    · simp at z; subst z; rw [h1] at e; cases e; exact nn ro.nox
  · exact List.nodup_append.mpr ⟨R.hp.nd, by simp, fun b hb c hc => by simp at hc; subst hc; exact fun z => nl (z ▸ hb)⟩
  · simp [R.hp.len]
  · have lenE := R.hp.len
    by_cases lt : r < G.al.length
    · have e : (G.al ++ [a])[r]? = some b := e
      rw [List.getElem?_append_left lt] at e
      have e' : (M.h ++ [o])[r]? = some ob := e'
      rw [List.getElem?_append_left (by omega)] at e'
      obtain ⟨f, u, q, rr⟩ := R.hp.obj r b ob e e'
      exact ⟨f, u, q, rr.mono x⟩
    · have e : (G.al ++ [a])[r]? = some b := e
      rw [List.getElem?_append_right (by omega)] at e
      have e' : (M.h ++ [o])[r]? = some ob := e'
      rw [List.getElem?_append_right (by omega)] at e'
      have z : r - G.al.length = 0 := by
        have := (List.getElem?_eq_some_iff.mp e).1
        simp at this; omega
      rw [lenE] at e'
      rw [z] at e e'
      simp at e e'
      subst e e'
      exact ⟨nf, w, h1, ro.mono x⟩
  · obtain ⟨u, k1, k2⟩ := R.slot i q e
    exact ⟨u, k1, x' k2⟩
  · obtain ⟨b, u, k1, k2, k3, k4, k5, k6⟩ := R.own i ob e
    refine ⟨b, u, k1, k2, k3.mono x, k4, k5, fun z => ?_⟩
    rcases List.mem_append.mp z with z | z
    · exact k6 z
    · simp at z; subst z; exact no ⟨i, ob, e, k1⟩
/-- name = a new thing that is handed on by its address -/
@[simp] def sCell (i : Nat) (f : Sm EV) : Ss := fun M => (f M).st fun e M1 => match e with
  | .fr o => .nx ⟨M1.r.set i (some (.v (.ref M1.h.length))), M1.h ++ [o]⟩
  | .v p => .nx ⟨M1.r.set i (some (.v p)), M1.h⟩
  | .sl _ => .bad
/-! ### o[i], x = a pair -/
@[simp] def sPatSub (fv : Sm PV) (fo fi : Sm EV) (j : Nat) : Ss := fun M => (fv M).st fun p M1 => match p with
  | .tup [p1, p2] => (sSub (fun M => .ok p1 M) fo fi M1).sq fun M2 => .nx ⟨M2.r.set j (some (.v p2)), M2.h⟩
  | _ => .bad
end
end HF


end
section
set_option Elab.async false
set_option linter.all false
set_option maxRecDepth 20000
set_option autoImplicit false
/-! HF15: len(set(whole numbers)). -/
namespace HF
open PySem PySem.Spec PyProof.Rows L2
/-- the unlike ones, as first met -/
def unlike (ns : List Int) : List Int := ns.foldl step_dedup []
section
variable {X : Cx} {E : Ent} {W : WX} {N : List Str} {sc : Scope} {fs : Str → Bool} {k : Nat} {Z : Wd}
@[simp] def opLenSet : Op1 := fun x M => match (asLst M x).bind asInts with
  | some ns => if ns.length ≤ 4000 then some (.v (.int ((unlike ns).length : Nat))) else none
  | none => none
end
end HF


end
section
set_option Elab.async false
set_option linter.all false
set_option maxRecDepth 20000
set_option autoImplicit false
/-! HF16: closures: cells that are told exactly, for a while. -/
namespace HF
open PySem PySem.Spec PyProof.Rows L2
/-- the object at c is o -/
def CellX (c : Addr) (o : Obj) : HO := .ext fun h => h.get? c = some o
abbrev Cells := List (Addr × Obj)
/-- the cells told -/
def wc (H : Hp) (cs : Cells) : Hp := fun a => match cs.lookup a with
  | some o => some (CellX a o)
  | none => H a
/-- .. and no longer -/
def wo (H : Hp) (cs : Cells) : Hp := fun a => match cs.lookup a with
  | some _ => none
  | none => H a
/-- H tells them -/
def Tells (H : Hp) (cs : Cells) : Prop := ∀ c o, cs.lookup c = some o → H c = some (CellX c o)
theorem wo_none {H : Hp} {cs : Cells} {a : Addr} (h : H a = none) : wo H cs a = none := by unfold wo; split <;> first | rfl | exact h
theorem wo_at {H : Hp} {cs : Cells} {a : Addr} {o : Obj} (h : cs.lookup a = some o) : wo H cs a = none := by unfold wo; rw [h]
theorem wo_out {H : Hp} {cs : Cells} {a : Addr} (h : cs.lookup a = none) : wo H cs a = H a := by unfold wo; rw [h]
theorem wc_at {H : Hp} {cs : Cells} {a : Addr} {o : Obj} (h : cs.lookup a = some o) : wc H cs a = some (CellX a o) := by unfold wc; rw [h]
theorem wc_out {H : Hp} {cs : Cells} {a : Addr} (h : cs.lookup a = none) : wc H cs a = H a := by unfold wc; rw [h]
theorem Tells.wc (H : Hp) (cs : Cells) : Tells (wc H cs) cs := fun c o h => wc_at h
/-- what is no cell is told in both -/
theorem Tells.out {H : Hp} {cs : Cells} (t : Tells H cs) {a : Addr} {u : HO} (h : H a = some u) (n : ∀ φ, u ≠ .ext φ) : cs.lookup a = none := by
  cases e : cs.lookup a with
  | none => rfl
  | some o => rw [t a o e] at h; cases h; exact absurd rfl (n _)
theorem objOk_mono {P : Program} {w : World} {H H' : Hp} {h : Heap} {a : Addr} {u : HO} (x : ObjOk P w H h a u) (k : ∀ b v, (∀ φ, v ≠ .ext φ) → H b = some v → H' b = some v) : ObjOk P w H' h a u := by
  induction u generalizing a with
  | frz o u ih => exact ⟨x.1, ih x.2⟩
  | dT kvs =>
    obtain ⟨h1, h2, xs, h3, h4⟩ := x
    exact ⟨h1, h2, xs, L2.Paired.mapP h3 fun p q ⟨e1, e2, e3⟩ => ⟨e1, k _ _ (fun _ z => nomatch z) e2, e3⟩, h4⟩
  | ins C dx fs =>
    obtain ⟨h1, h2⟩ := x
    exact ⟨k _ _ (fun _ z => nomatch z) h1, h2⟩
  | _ => exact x
theorem hok_wo {P : Program} {w : World} {H : Hp} {h : Heap} {cs : Cells} (x : HOk P w H h) (t : Tells H cs) : HOk P w (wo H cs) h := fun a u e => by
  cases l : cs.lookup a with
  | some o => rw [wo_at l] at e; cases e
  | none =>
    rw [wo_out l] at e
    exact objOk_mono (x a u e) fun b v n hb => by rw [wo_out (t.out hb n)]; exact hb
theorem cellX_ok {P : Program} {w : World} {H : Hp} {h : Heap} {c : Addr} {o : Obj} (e : h.get? c = some o) : ObjOk P w H h c (CellX c o) := ⟨e, ⟨o, e⟩, fun h1 h2 z k => k _ z⟩
theorem hok_wc {P : Program} {w : World} {H : Hp} {h : Heap} {cs : Cells} (x : HOk P w H h) (g : ∀ c o, cs.lookup c = some o → h.get? c = some o ∧ H c = none) : HOk P w (wc H cs) h := fun a u e => by
  cases l : cs.lookup a with
  | some o => rw [wc_at l] at e; cases e; exact cellX_ok (g a o l).1
  | none =>
    rw [wc_out l] at e
    refine objOk_mono (x a u e) fun b v n hb => ?_
    cases l2 : cs.lookup b with
    | some o => rw [(g b o l2).2] at hb; cases hb
    | none => rw [wc_out l2]; exact hb
theorem hok_at {P : Program} {w : World} {H : Hp} {h : Heap} {cs : Cells} (x : HOk P w H h) (t : Tells H cs) {c : Addr} {o : Obj} (l : cs.lookup c = some o) : h.get? c = some o := (x c _ (t c o l)).1
/-- a call for which the cells are told: seen from where they aren't -/
theorem CE.drop {outer : List Env} {P : Program} {w : World} {H : Hp} {s s' : Shared} {Q : VK} {u : Value} {cs : Cells} (g : ∀ c o, cs.lookup c = some o → s.heap.get? c = some o ∧ H c = none) (ff : ∀ c o, cs.lookup c = some o → c ∉ frs outer)
    (h : CE outer P w (wc H cs) s (fun v H' => Tells H' cs ∧ Q v (wo H' cs)) u s') : CE outer P w H s Q u s' := by
  obtain ⟨v, H', os, bare, un, hok, r, t, q⟩ := h
  refine ⟨v, wo H' cs, os, bare, ⟨fun b o e n f x => ?_, fun b o e n f x => ?_, fun b o e n x => ?_, un.there, fun b xs e => ?_, fun b o v e => ?_, fun b ps e => ?_⟩, hok_wo hok t, r, q⟩
  · cases l : cs.lookup b with
    | some o2 =>
      have e2 := (g b o2 l).1
      rw [e] at e2; cases e2
      exact hok_at hok t l
    | none => exact un.keep b o e (by rw [wc_out l]; exact n) f x
  · cases l : cs.lookup b with
    | some o2 => exact absurd f (ff b o2 l)
    | none => exact un.slot b o e (by rw [wc_out l]; exact n) f x
  · cases l : cs.lookup b with
    | some o2 => exact wo_at l
    | none => rw [wo_out l]; exact un.free b o e (by rw [wc_out l]; exact n) x
  · have l : cs.lookup b = none := by
      cases l : cs.lookup b with
      | none => rfl
      | some o2 => rw [(g b o2 l).2] at e; cases e
    rw [wo_out l]; exact un.tups b xs (by rw [wc_out l]; exact e)
  · have l : cs.lookup b = none := by
      cases l : cs.lookup b with
      | none => rfl
      | some o2 => rw [(g b o2 l).2] at e; cases e
    rw [wo_out l]; exact un.frzs b o v (by rw [wc_out l]; exact e)
  · have l : cs.lookup b = none := by
      cases l : cs.lookup b with
      | none => rfl
      | some o2 => rw [(g b o2 l).2] at e; cases e
    obtain ⟨m, z⟩ := un.tbls b ps (by rw [wc_out l]; exact e)
    exact ⟨m, by rw [wo_out l]; exact z⟩
/-- a call for which they are not told: seen from where they are -/
theorem CE.back {outer : List Env} {P : Program} {w : World} {H : Hp} {s s' : Shared} {Q : VK} {u : Value} {cs : Cells} (hok0 : HOk P w H s.heap) (t0 : Tells H cs) (ff : ∀ c o, cs.lookup c = some o → c ∉ frs outer)
    (h : CE outer P w (wo H cs) s (fun v H' => (∀ c o, cs.lookup c = some o → H' c = none) → Q v (wc H' cs)) u s') : CE outer P w H s Q u s' := by
  obtain ⟨v, H', os, bare, un, hok, r, q⟩ := h
  have at0 : ∀ c o, cs.lookup c = some o → s.heap.get? c = some o := fun c o l => hok_at hok0 t0 l
  have fr : ∀ c o, cs.lookup c = some o → H' c = none := fun c o l => un.free c o (at0 c o l) (wo_at l) (by simp)
  have kp : ∀ c o, cs.lookup c = some o → s'.heap.get? c = some o := fun c o l => un.keep c o (at0 c o l) (wo_at l) (ff c o l) (by simp)
  have nl : ∀ {b v}, H b = some v → (∀ φ, v ≠ .ext φ) → cs.lookup b = none := fun e n => t0.out e n
  have no : ∀ {b}, H b = none → cs.lookup b = none := fun {b} e => by
    cases l : cs.lookup b with
    | none => rfl
    | some o2 => rw [t0 b o2 l] at e; cases e
  refine ⟨v, wc H' cs, os, bare, ⟨fun b o e n f x => ?_, fun b o e n f x => ?_, fun b o e n x => ?_, un.there, fun b xs e => ?_, fun b o v e => ?_, fun b ps e => ?_⟩, hok_wc hok (fun c o l => ⟨kp c o l, fr c o l⟩), r, q fr⟩
  · exact un.keep b o e (wo_none n) f x
  · exact un.slot b o e (wo_none n) f x
  · rw [wc_out (no n)]; exact un.free b o e (wo_none n) x
  · have l := nl e fun _ z => nomatch z
    rw [wc_out l]; exact un.tups b xs (by rw [wo_out l]; exact e)
  · have l := nl e fun _ z => nomatch z
    rw [wc_out l]; exact un.frzs b o v (by rw [wo_out l]; exact e)
  · have l := nl e fun _ z => nomatch z
    obtain ⟨m, z⟩ := un.tbls b ps (by rw [wo_out l]; exact e)
    exact ⟨m, by rw [wc_out l]; exact z⟩
end HF


end
section
set_option Elab.async false
set_option linter.all false
set_option maxRecDepth 20000
set_option autoImplicit false
/-! HF17: closures: what is known of one, its call. -/
namespace HF
open PySem PySem.Spec PyProof.Rows L2 NdefX LamX
/-- a closure: its object, its words, its cells, what they hold -/
structure Clo where
  d : Addr
  F : NF
  cs : Cells
  ws : List V
  caps : List PV
structure CloAt (K : PySem.W.Frag) (fr : List Str) (G : Gh) (H : Hp) (C : Clo) : Prop where
  fn : H C.d = some (FnO C.d C.F)
  code : H C.F.c = some (CodeO C.F.c C.F.qual)
  tell : Tells H C.cs
  sepc : ∀ c o, C.cs.lookup c = some o → c ∉ G.al ∧ ¬ G.F c
  sepd : C.d ∉ G.al ∧ ¬ G.F C.d
  sepk : C.F.c ∉ G.al ∧ ¬ G.F C.F.c
  nd : C.cs.lookup C.d = none
  nc : C.cs.lookup C.F.c = none
  caps : RepVs K G H C.caps C.ws
  wlen : C.ws.length = fr.length
  cell : ∀ c o, C.cs.lookup c = some o → ∃ v, o.data = .cell v
  cin : ∀ y c, C.F.cl.lookup y = some c → ∃ o, C.cs.lookup c = some o
  inj : ∀ x y c, C.F.cl.lookup x = some c → C.F.cl.lookup y = some c → x = y
  has : ∀ (i : Nat) (y : Str), fr[i]? = some y → ∃ c o u v, C.F.cl.lookup y = some c ∧ C.cs.lookup c = some o ∧ o.data = .cell (some u) ∧ C.ws[i]? = some v ∧ L2.RelV v u
section
variable {K : PySem.W.Frag} {T : List NTab} {fr : List Str} {G G' : Gh} {H H' : Hp} {C : Clo}
theorem CloAt.step (c : CloAt K fr G H C) (p : Post T G H G' H') : CloAt K fr G' H' C where
  fn := p.keep _ _ c.fn c.sepd.1 c.sepd.2 fun _ z => nomatch z
  code := p.keep _ _ c.code c.sepk.1 c.sepk.2 fun _ z => nomatch z
  tell := fun a o l => p.keep _ _ (c.tell a o l) (c.sepc a o l).1 (c.sepc a o l).2 fun _ z => nomatch z
  sepc := fun a o l => ⟨p.noal (c.tell a o l) (c.sepc a o l).1, p.nof (c.tell a o l) (c.sepc a o l).2⟩
  sepd := ⟨p.noal c.fn c.sepd.1, p.nof c.fn c.sepd.2⟩
  sepk := ⟨p.noal c.code c.sepk.1, p.nof c.code c.sepk.2⟩
  nd := c.nd
  nc := c.nc
  caps := RepVs.mono p.ext _ _ c.caps
  wlen := c.wlen
  cell := c.cell
  cin := c.cin
  inj := c.inj
  has := c.has
end
end HF


end
section
set_option Elab.async false
set_option linter.all false
set_option maxRecDepth 20000
set_option autoImplicit false
/-! HF18: a closure's call; a closure's body; the def that is given one. -/
namespace HF
open PySem PySem.Spec PyProof.Rows L2 NdefX LamX
section
variable {X : Cx} {E : Ent} {W : WX} {N : List Str} {sc : Scope} {fs : Str → Bool} {k : Nat} {Z : Wd}
/-- a closure's call by the name of the slot that holds it -/
@[simp] def eClo (i : Nat) (d : Addr) (φ : Fn) (caps : List PV) (g : Sm (List PV)) : Sm EV := fun M => match slotAt M i with
  | some (.v (.con d')) => if d' = d then (g M).bnd fun ps M1 => match φ (ps ++ caps) M1.h with
      | .ok (.sl _) _ => .bad
      | .ok e h' => .ok e ⟨M1.r, h'⟩
      | _ => .bad
    else .bad
  | _ => .bad
end
end HF


end
section
set_option Elab.async false
set_option linter.all false
set_option maxRecDepth 20000
set_option autoImplicit false
/-! HF19: a closure's body; defs that ask more of their entry. -/
namespace HF
open PySem PySem.Spec PyProof.Rows L2 NdefX LamX
section
variable {X : Cx} {E : Ent} {W : WX} {N : List Str} {sc : Scope} {fs : Str → Bool} {k : Nat} {Z : Wd}
/-! ### defs that ask more of their entry -/
def spP (I : Gh → Hp → Prop) (T : List NTab) (K : PySem.W.Frag) (mg : Str → Option Value) (φ : Fn) : Sp := fun vs H Q Ex => ∃ G h ps, HpRep K G h H ∧ TabsOk T G H ∧ RepVs K G H ps vs ∧ I G H ∧ match φ ps h with
  | .ok e h' => ∀ G' H' u, Post T G H G' H' → HpRep K G' h' H' → RepR K H G' H' e u → Q u H'
  | .exn c h' => ∀ G' H' C, Post T G H G' H' → HpRep K G' h' H' → mg c = some (.ref C) → Ex (.ref C) none H'
  | .bad => False
structure KnownP (Z : Wd) (I : Gh → Hp → Prop) (k : Nat) (x : Str) (ds : List PV) (φ : Fn) : Prop where
  ok : ∃ (f : Addr) (fd : FuncData) (ps : List Str) (dvs : List V) (dus : List Value), FnOk Z.P Z.w Z.K Z.mg Z.base (L2.CX Z.P Z.w) k f fd ps (spP I Z.T Z.K Z.mg φ) ∧ Z.mg x = some (.ref f) ∧ PySem.W.keepIn Z.K (.ref f) = true ∧ Binds Z.K fd ps dus ∧ Vals dvs dus ∧ ∀ G H, RepVs Z.K G H ds dvs
theorem KnownP.mono {I : Gh → Hp → Prop} {x : Str} {ds : List PV} {φ : Fn} {j : Nat} (h : KnownP Z I j x ds φ) (l : j ≤ k) : KnownP Z I k x ds φ := by
  obtain ⟨f, fd, ps, dvs, dus, F, r⟩ := h.ok
  exact ⟨f, fd, ps, dvs, dus, F.mono l, r⟩
end
end HF


end
section
set_option Elab.async false
set_option linter.all false
set_option maxRecDepth 20000
set_option autoImplicit false
/-! HF20: a def that makes a closure and hands it on. -/
namespace HF
open PySem PySem.Spec PyProof.Rows L2 NdefX LamX
section
variable {X : Cx} {E : Ent} {W : WX} {N : List Str} {sc : Scope} {fs : Str → Bool} {k : Nat} {Z : Wd}
/-- what is known of a heap in which tables grew and things were laid -/
theorem StRep.grown {K : PySem.W.Frag} {G : Gh} {M : Mem} {s : L2.St} {H H1 : Hp} (R : StRep K E G M s H) (x : ExtN H H1) (dm : ∀ b, H1 b = none → H b = none) (tb : TabsN E.T H1) :
    StRep K E G M s H1 ∧ Evo s G M H G M H1 ∧ (∀ c φ, H1 c = some (.ext φ) → c ∉ G.al ∧ ¬ G.F c) := by
  have al : ∀ a, a ∈ G.al → ∃ u, H a = some u ∧ NoX u := fun a ha => by
    obtain ⟨i, hi⟩ := List.getElem?_of_mem ha
    have lt : i < M.h.length := by rw [R.hp.len]; exact (List.getElem?_eq_some_iff.mp hi).1
    obtain ⟨_, u, e, r⟩ := R.hp.obj i a M.h[i] hi (List.getElem?_eq_getElem lt)
    exact ⟨u, e, r.nox⟩
  have sep : ∀ c φ, H1 c = some (.ext φ) → c ∉ G.al ∧ ¬ G.F c := fun c φ e => by
    refine ⟨fun z => ?_, fun z => ?_⟩
    · obtain ⟨u, h, n⟩ := al c z
      have := x c u h n.2
      rw [e] at this; cases this
      exact n.1 _ rfl
    · obtain ⟨u, h, n⟩ := R.hp.fdom c z
      have := x c u h n.2
      rw [e] at this; cases this
      exact n.1 _ rfl
  have ex : Ext G H G H1 := ⟨fun _ h => h, fun a u _ pl r => by
    rcases r with r | ⟨o, r⟩
    · exact .inl (x a u r fun ps z => by subst z; exact pl)
    · exact .inr ⟨o, x a _ r fun _ z => nomatch z⟩, fun _ _ h => h, fun a o u _ r => x a _ r fun _ z => nomatch z⟩
  refine ⟨⟨⟨R.post.f, R.post.fnew, R.post.al, fun a u e n f nt => x a u (R.post.keep a u e n f nt) nt, fun _ => ?_, fun a u f pl r => ex.rd a u (R.post.f a f) pl (R.post.rd a u f pl r), fun a e => R.post.dom a (dm a e), fun a o u f r => ex.fz a o u (R.post.f a f) (R.post.fz a o u f r)⟩,
      ⟨fun a f => ?_, R.hp.nd, R.hp.len, fun r a o e e' => ?_⟩, R.len, fun i p e => ?_, fun i o e => ?_, R.sep⟩, ⟨ex, fun a u e n f ow nt => ⟨x a u e nt, n, f⟩, fun _ h => h, dm⟩, sep⟩
  · intro p hp
    obtain ⟨ps0, q1, q2, q3, q4, q5⟩ := R.post.tabs E.ok p hp
    obtain ⟨ps, h1, h2, h3⟩ := tb p hp
    refine ⟨ps, h1, h2, q3, q4, fun pos cv e => ?_⟩
    obtain ⟨c, e1, e2⟩ := h3 pos cv e
    exact ⟨c, e1, e2, (sep c _ e2).1, (sep c _ e2).2⟩
  · obtain ⟨u, h, n⟩ := R.hp.fdom a f
    exact ⟨u, x a u h n.2, n⟩
  · obtain ⟨f, u, q, rr⟩ := R.hp.obj r a o e e'
    exact ⟨f, u, x a u q rr.nox.2, rr.mono ex⟩
  · obtain ⟨u, h1, h2⟩ := R.slot i p e
    exact ⟨u, h1, RepV.mono ex _ _ h2⟩
  · obtain ⟨a, u, h1, h2, h3, h4⟩ := R.own i o e
    exact ⟨a, u, h1, x a u h2 h3.nox.2, h3.mono ex, h4⟩
end
end HF


end
section
set_option Elab.async false
set_option linter.all false
set_option maxRecDepth 20000
set_option autoImplicit false
/-! HF21: the call that hands a new closure on. -/
namespace HF
open PySem PySem.Spec PyProof.Rows L2 NdefX LamX
section
variable {X : Cx} {E : Ent} {W : WX} {N : List Str} {sc : Scope} {fs : Str → Bool} {k : Nat} {Z : Wd}
end
end HF


end
section
set_option Elab.async false
set_option linter.all false
set_option maxRecDepth 20000
set_option autoImplicit false
/-! HF22: the maker's two statements; its def. -/
namespace HF
open PySem PySem.Spec PyProof.Rows L2 NdefX LamX
section
variable {X : Cx} {E : Ent} {W : WX} {N : List Str} {sc : Scope} {fs : Str → Bool} {k : Nat} {Z : Wd}
end
end HF


end
section
set_option Elab.async false
set_option linter.all false
set_option maxRecDepth 20000
set_option autoImplicit false
/-! HF23: defs with defaults, makers, as the top has left them. -/
namespace HF
open PySem PySem.Spec PyProof.Rows L2 NdefX LamX
/-- a def with defaults (dvs) -/
structure DefAtD (Z : Wd) (x : Str) (st : Stmt) (ps : List Str) (dvs : List V) : Prop where
  ok : ∃ f fd, FunD Z.K x x (defArgs st) (defBody st) (defScope st) dvs [] f fd ∧ Z.mg x = some (.ref f) ∧ Binds Z.K fd ps [] ∧ ∃ ds, Vals dvs ds ∧ Binds Z.K fd ps ds
/-- a def that makes a closure, whose name behind it is q; dvs: its defaults (or none) -/
structure DefAtM (Z : Wd) (x : Str) (st : Stmt) (ps : List Str) (dvs : List V) (q : Str) : Prop where
  ok : ∃ (f c P : Addr) (oc dV kV doc pm ct : Value) (od an : Option Addr) (osl : Array (Option Value)), Z.K.lookup f = some ⟨oc, od, .func (PySem.W.fnOf x x (defArgs st) (defBody st) (defScope st) dV kV doc pm an (.ref c) ct), osl⟩ ∧
    PySem.W.codeIn Z.K (.ref c) x = true ∧ PySem.W.keepIn Z.K (.ref f) = true ∧ Z.mg x = some (.ref f) ∧ TabB Z.base Z.mg c P ∧ (P, fun _ _ => q) ∈ Z.T ∧ (∀ p ∈ Z.T, p.1 = P → p.2 = fun _ _ => q) ∧
    Binds Z.K (PySem.W.fnOf x x (defArgs st) (defBody st) (defScope st) dV kV doc pm an (.ref c) ct) ps [] ∧ ∃ ds, Vals dvs ds ∧ Binds Z.K (PySem.W.fnOf x x (defArgs st) (defBody st) (defScope st) dV kV doc pm an (.ref c) ct) ps ds
section
variable {N : List Str} {sc : Scope} {k : Nat} {Z : Wd}
theorem DefAtD.knownP {I : Gh → Hp → Prop} {x : Str} {st : Stmt} {ps : List Str} {dvs : List V} {φ : Fn} (h : DefAtD Z x st ps dvs)
    (d : ∀ f fd, FunD Z.K x x (defArgs st) (defBody st) (defScope st) dvs [] f fd → FnOk Z.P Z.w Z.K Z.mg Z.base (L2.CX Z.P Z.w) k f fd ps (spP I Z.T Z.K Z.mg φ)) : KnownP Z I k x [] φ := by
  obtain ⟨f, fd, F, m, b, _⟩ := h.ok
  exact ⟨f, fd, ps, [], [], d f fd F, m, F.kp, b, .nil, fun _ _ => RepVs.nil⟩
theorem KnownP.known {x : Str} {ds : List PV} {φ : Fn} (h : KnownP Z (fun _ _ => True) k x ds φ) : Known Z k x ds φ := by
  obtain ⟨f, fd, ps, dvs, dus, F, r⟩ := h.ok
  exact ⟨f, fd, ps, dvs, dus, F.imp fun vs H Q Ex ⟨G, h, p, h1, h2, h3, h4⟩ => ⟨G, h, p, h1, h2, h3, True.intro, h4⟩, r⟩
theorem spP_none {I : Gh → Hp → Prop} {T : List NTab} {K : PySem.W.Frag} {mg : Str → Option Value} {P : Program} {w : World} {base : Heap} {f : Addr} {fd : FuncData} {ps : List Str} : FnOk P w K mg base (L2.CX P w) k f fd ps (spP I T K mg (fun _ _ => .bad)) :=
  ⟨fun vs H Q Ex ⟨G, hh, p, _, _, _, _, z⟩ => z.elim, fun A outer s H args us vs Q Ex _ _ _ _ ⟨G, hh, p, _, _, _, _, z⟩ => z.elim⟩
/-- a maker's run -/
theorem defM_ok {x : Str} {st : Stmt} {ps : List Str} {f c : Addr} {oc dV kV doc pm ct : Value} {od an : Option Addr} {osl : Array (Option Value)} {fb : Ss} (lk : Z.K.lookup f = some ⟨oc, od, .func (PySem.W.fnOf x x (defArgs st) (defBody st) (defScope st) dV kV doc pm an (.ref c) ct), osl⟩)
    (hcd : PySem.W.codeIn Z.K (.ref c) x = true) (S : FnScope N ps (defScope st))
    (hb : ∀ X E W, Amb Z X W N (defScope st) (fun _ => true) k → E.T = Z.T → X.env.code = .ref c → X.env.qual = (envOfC x (defScope st) 0 f (.ref c)).qual → FSs X E W (defBody st) fb) :
    FnOk Z.P Z.w Z.K Z.mg Z.base (L2.CX Z.P Z.w) (k + 1) f (PySem.W.fnOf x x (defArgs st) (defBody st) (defScope st) dV kV doc pm an (.ref c) ct) ps (spOf Z.T Z.K Z.mg (runDef ps.length N.length fb)) := by
  refine fn_of lk hcd S (fun vs H Q Ex h => ?_) fun A outer s H vs Q Ex hr h => ?_
  · obtain ⟨G, h, ps', hp, tb, r, q⟩ := h
    by_cases hl : ps'.length = ps.length
    · rw [← r.length]; exact hl
    · unfold runDef at q
      rw [if_neg hl] at q
      exact q.elim
  · obtain ⟨G, h, ps', hp, tb, r, q⟩ := h
    have amb : Amb Z (cxOf (L2.CX Z.P Z.w) Z.P Z.w Z.K Z.mg Z.base N x (defScope st) f (.ref c) A outer s H Ex) (fun c d _ H' => Ex c d H') N (defScope st) (fun _ => true) k :=
      ⟨rfl, rfl, ⟨rfl, rfl, rfl, rfl, rfl⟩, rfl, S.nd, rfl, hr, takes_of rfl rfl rfl rfl, passes_of rfl⟩
    refine ⟨_, (hb _ ⟨G, H, Z.T, tb⟩ _ amb rfl rfl rfl).ps, ?_⟩
    by_cases hl : ps'.length = ps.length
    · refine ⟨G, ⟨ps'.map (fun p => some (LV.v p)) ++ List.replicate (N.length - ps.length) none, h⟩, start_rep hp r tb hl rfl, ?_⟩
      unfold runDef at q
      rw [if_pos hl] at q
      generalize fb ⟨ps'.map (fun p => some (LV.v p)) ++ List.replicate (N.length - ps.length) none, h⟩ = z at q
      cases z with
      | nx M => exact fun G' s' H' x R' => q G' H' _ R'.post R'.hp (show RepV Z.K G' H' .non .non by simp only [RepV])
      | ret e M =>
        intro G' s' H' u R' ru
        cases e with
        | v p => exact q G' H' u R'.post R'.hp ru
        | fr o =>
          obtain ⟨a, w, e, h1, ro, hn, nf, nl, no, _⟩ := ru
          exact q G' H' u R'.post R'.hp ⟨a, w, e, h1, ro, hn, nf, nl⟩
        | sl i => exact q.elim
      | exn c M => exact fun G' s' H' C _ R' m => q G' H' C R'.post R'.hp m
      | brk M => exact q.elim
      | cnt M => exact q.elim
      | bad => exact q.elim
    · unfold runDef at q
      rw [if_neg hl] at q
      exact q.elim
/-- it is known, by its body -/
theorem DefAtM.known {x : Str} {st : Stmt} {ps : List Str} {dvs : List V} {q : Str} {fb : Ss} (h : DefAtM Z x st ps dvs q) (S : FnScope N ps (defScope st))
    (hb : ∀ (c P : Addr), TabB Z.base Z.mg c P → (P, fun _ _ => q) ∈ Z.T → (∀ p ∈ Z.T, p.1 = P → p.2 = fun _ _ => q) → ∀ X E W f, Amb Z X W N (defScope st) (fun _ => true) k → E.T = Z.T → X.env.code = .ref c → X.env.qual = (envOfC x (defScope st) 0 f (.ref c)).qual → FSs X E W (defBody st) fb) :
    Known Z (k + 1) x [] (runDef ps.length N.length fb) ∧ ∀ ds : List PV, (∀ G H, RepVs Z.K G H ds dvs) → Known Z (k + 1) x ds (runDef ps.length N.length fb) := by
  obtain ⟨f, c, P, oc, dV, kV, doc, pm, ct, od, an, osl, lk, hcd, kp, m, tb, h1, h2, b0, us, r, b⟩ := h.ok
  have F := defM_ok (k := k) lk hcd S (fb := fb) fun X E W A hT e1 e2 => hb c P tb h1 h2 X E W f A hT e1 e2
  exact ⟨⟨f, _, ps, [], [], F, m, kp, b0, .nil, fun _ _ => RepVs.nil⟩, fun ds hr => ⟨f, _, ps, dvs, us, F, m, kp, b, r, hr⟩⟩
end
end HF


end
section
set_option Elab.async false
set_option linter.all false
set_option maxRecDepth 20000
set_option autoImplicit false
/-! HF24: defs with defaults and makers, from the facts of the top. -/
namespace HF
open PySem PySem.Spec PyProof.Rows L2 NdefX LamX
section
variable {P : Program} {w : World} {K : PySem.W.Frag} {mg : Str → Option Value} {base h : Heap} {T : List NTab} {x : Str} {st : Stmt} {ps : List Str} {f : Addr} {oc kV doc pm ct : Value} {od an : Option Addr} {osl : Array (Option Value)}
end
end HF


end
section
set_option Elab.async false
set_option linter.all false
set_option maxRecDepth 20000
set_option autoImplicit false
/-! HF25: int of a truth. -/
namespace HF
open PySem PySem.Spec PyProof.Rows L2
section
variable {X : Cx} {E : Ent} {W : WX} {N : List Str} {sc : Scope} {fs : Str → Bool} {k : Nat} {Z : Wd} {e : Expr} {f : Sm EV} {p pos : Pos}
@[simp] def opIntOf : Op1 := fun x M => match x with
  | .v (.int i) => some (.v (.int i))
  | .v (.bl b) => some (.v (.int (if b then 1 else 0)))
  | _ => none
end
end HF


end
section
set_option Elab.async false
set_option linter.all false
set_option maxRecDepth 20000
set_option autoImplicit false
/-! HF26: the module's texts and numbers; defs with defaults that are known. -/
namespace HF
open PySem PySem.Spec PyProof.Rows L2 NdefX LamX
section
variable {X : Cx} {E : Ent} {W : WX} {N : List Str} {sc : Scope} {fs : Str → Bool} {k : Nat} {Z : Wd} {pos : Pos}
theorem DefAtD.known {x : Str} {st : Stmt} {ps : List Str} {dvs : List V} {φ : Fn} (h : DefAtD Z x st ps dvs)
    (d : ∀ f fd, FunD Z.K x x (defArgs st) (defBody st) (defScope st) dvs [] f fd → FnOk Z.P Z.w Z.K Z.mg Z.base (L2.CX Z.P Z.w) k f fd ps (spP (fun _ _ => True) Z.T Z.K Z.mg φ)) : Known Z k x [] φ := (h.knownP d).known
theorem DefAtD.none {x : Str} {st : Stmt} {ps : List Str} {dvs : List V} (h : DefAtD Z x st ps dvs) : Known Z k x [] (fun _ _ => .bad) := h.known fun f fd _ => spP_none
end
end HF


end
section
set_option Elab.async false
set_option linter.all false
set_option maxRecDepth 20000
set_option autoImplicit false
/-! HF27: a comprehension's list to a name that is a cell (used within another comprehension). -/
namespace HF
open PySem PySem.Spec PyProof.Rows L2
section
variable {X : Cx} {E : Ent} {W : WX} {N : List Str} {sc : Scope} {fs : Str → Bool} {k : Nat} {Z : Wd}
end
end HF


end
section
set_option Elab.async false
set_option linter.all false
set_option maxRecDepth 20000
set_option autoImplicit false
/-! HF28: dicts walked: by keys, values, pairs. The dict is a value (it never changes any more), and stays locked. -/
namespace HF
open PySem PySem.Spec PyProof.Rows L2
section
variable {K : PySem.W.Frag} {E : Ent} {G : Gh} {M : Mem} {s : L2.St} {H : Hp}
theorem StRep.locked (R : StRep K E G M s H) {a : Addr} {kvs : List (Key × V)} (f : G.F a) (h : H a = some (.dK kvs)) (od : Obj) :
    StRep K E G M s (L2.upd H a (.frz od (.dK kvs))) ∧ Evo s G M H G M (L2.upd H a (.frz od (.dK kvs))) := by
  have ex : Ext G H G (L2.upd H a (.frz od (.dK kvs))) := by
    refine ⟨fun _ h => h, fun b u f p r => ?_, fun _ _ h => h, fun b o u f r => ?_⟩
    · by_cases z : b = a
      · subst z
        rcases r with r | ⟨o, r⟩
        · rw [h] at r; cases r; exact .inr ⟨od, L2.upd_same⟩
        · rw [h] at r; cases r
      · exact Rd.upd_ne z r
    · by_cases z : b = a
      · subst z; rw [h] at r; cases r
      · rw [L2.upd_ne z]; exact r
  have ne : ∀ {b}, ¬ G.F b → b ≠ a := fun n z => n (by rw [z]; exact f)
  refine ⟨⟨⟨R.post.f, R.post.fnew, R.post.al, fun b u e n m nt => ?_, fun t => (R.post.tabs t).step fun b u e nn n m => ⟨?_, n, m⟩, fun b u f pl r => ex.rd b u (R.post.f b f) pl (R.post.rd b u f pl r), fun b e => ?_, fun b o u f r => ex.fz b o u (R.post.f b f) (R.post.fz b o u f r)⟩,
      ⟨fun b g => ?_, R.hp.nd, R.hp.len, fun r b o e e' => ?_⟩, R.len, fun i p e => ?_, fun i o e => ?_, R.sep⟩, ⟨ex, fun b u e n g ow nt => ⟨?_, n, g⟩, fun _ h => h, fun b e => ?_⟩⟩
  · rw [L2.upd_ne (ne (R.post.nof e m))]; exact R.post.keep b u e n m nt
  · rw [L2.upd_ne (ne m)]; exact e
  · by_cases z : b = a
    · subst z; rw [L2.upd_same] at e; cases e
    · rw [L2.upd_ne z] at e; exact R.post.dom b e
  · by_cases z : b = a
    · subst z; exact ⟨.frz od (.dK kvs), L2.upd_same, ⟨fun φ (z : HO.frz od (.dK kvs) = .ext φ) => (nomatch z), fun ps (z : HO.frz od (.dK kvs) = .tbl ps) => (nomatch z)⟩⟩
    · rw [L2.upd_ne z]; exact R.hp.fdom b g
  · obtain ⟨g, u, q, rr⟩ := R.hp.obj r b o e e'
    exact ⟨g, u, by rw [L2.upd_ne (ne g)]; exact q, rr.mono ex⟩
  · obtain ⟨u, h1, h2⟩ := R.slot i p e
    exact ⟨u, h1, RepV.mono ex _ _ h2⟩
  · obtain ⟨b, u, h1, h2, h3, h4, h5, h6⟩ := R.own i o e
    exact ⟨b, u, h1, by rw [L2.upd_ne (ne h5)]; exact h2, h3.mono ex, h4, h5, h6⟩
  · rw [L2.upd_ne (ne g)]; exact e
  · by_cases z : b = a
    · subst z; rw [L2.upd_same] at e; cases e
    · rwa [L2.upd_ne z] at e
end
@[simp] def keyPV : Key → PV
  | .inl i => .int i
  | .inr x => .str x
@[simp] def kvTup (k : Key) (p : PV) : PV := .tup [keyPV k, p]
@[simp] def srcKeys (f : Sm PV) : Sm Src := fun M => (f M).bnd fun p M1 => match p with
  | .dct ks _ => .ok (.v .non, ks.map keyPV) M1
  | _ => .bad
@[simp] def srcVals (f : Sm PV) : Sm Src := fun M => (f M).bnd fun p M1 => match p with
  | .dct _ xs => .ok (.v .non, xs) M1
  | _ => .bad
@[simp] def srcItems (f : Sm PV) : Sm Src := fun M => (f M).bnd fun p M1 => match p with
  | .dct ks xs => .ok (.v .non, List.zipWith kvTup ks xs) M1
  | _ => .bad
section
variable {X : Cx} {E : Ent} {W : WX} {N : List Str} {sc : Scope} {fs : Str → Bool} {k : Nat} {Z : Wd}
section
variable {K : PySem.W.Frag} {s0 : L2.St} {G0 : Gh} {H0 : Hp} {d : Addr} {o : Obj} {kvs : List (Key × V)} {ks : List Key} {xs : List PV} {e : EV}
end
section
variable {e : Expr} {tg : Expr} {f : Sm PV} {apos cpos : Pos}
end
end
end HF


end
section
set_option Elab.async false
set_option linter.all false
set_option maxRecDepth 20000
set_option autoImplicit false
/-! HF29: get, setdefault, pop of a dict; dict(d). -/
namespace HF
open PySem PySem.Spec PyProof.Rows L2
@[simp] def eGet2 (f g : Sm EV) (h : Sm PV) : Sm EV := fun M => (f M).bnd fun x M1 => match asDct M1 x with
  | some _ => (g M1).bnd fun y M2 => (h M2).bnd fun z M3 => match asDct M3 x, keyOf y with
    | some (ks, xs), some k => .ok (.v ((dGet ks xs k).getD z)) M3
    | _, _ => .bad
  | none => .bad
@[simp] def eSetd (f g : Sm EV) (h : Sm PV) : Sm EV := fun M => (f M).bnd fun x M1 => match mutAt M1 x with
  | some (.dct _ _) => (g M1).bnd fun y M2 => (h M2).bnd fun z M3 => match mutAt M3 x with
    | some (.dct ks xs) => match keyOf y with
      | some k => if ks.length < sizeLine then (match dGet ks xs k with
        | some p => .ok (.v p) M3
        | none => .ok (.v z) (mutPut x (.dct (dStore ks xs k z).1 (dStore ks xs k z).2) M3)) else .bad
      | none => .bad
    | _ => .bad
  | _ => .bad
@[simp] def dDropV : List Key → List PV → Key → List PV
  | q :: ks, x :: xs, k => if q = k then dDropV ks xs k else x :: dDropV ks xs k
  | _, _, _ => []
@[simp] def dDropK (ks : List Key) (k : Key) : List Key := ks.filter fun q => decide (q ≠ k)
@[simp] def ePop2 (f g : Sm EV) (h : Sm PV) : Sm EV := fun M => (f M).bnd fun x M1 => match mutAt M1 x with
  | some (.dct _ _) => (g M1).bnd fun y M2 => (h M2).bnd fun z M3 => match mutAt M3 x with
    | some (.dct ks xs) => match keyOf y with
      | some k => (match dGet ks xs k with
        | some p => .ok (.v p) (mutPut x (.dct (dDropK ks k) (dDropV ks xs k)) M3)
        | none => .ok (.v z) M3)
      | none => .bad
    | _ => .bad
  | _ => .bad
section
variable {X : Cx} {E : Ent} {W : WX} {N : List Str} {sc : Scope} {fs : Str → Bool} {k : Nat} {Z : Wd}
section
variable {o e e2 : Expr} {f g : Sm EV} {h : Sm PV} {apos cpos : Pos}
end
/-! dict(d) -/
@[simp] def opDctOf : Op1 := fun x M => (asDct M x).map fun p => .fr (.dct p.1 p.2)
end
end HF


end
section
set_option Elab.async false
set_option linter.all false
set_option maxRecDepth 20000
set_option autoImplicit false
/-! HF30: is True, is False; index of a list. -/
namespace HF
open PySem PySem.Spec PyProof.Rows L2
section
variable {X : Cx} {E : Ent} {W : WX} {N : List Str} {sc : Scope} {fs : Str → Bool} {k : Nat} {Z : Wd}
@[simp] def cpIs : Cp2 := fun x y _ => match x, y with
  | .v (.bl a), .v (.bl b) => some (decide (a = b))
  | _, _ => none
@[simp] def cpIsn : Cp2 := fun x y _ => match x, y with
  | .v (.bl a), .v (.bl b) => some (!decide (a = b))
  | _, _ => none
section
variable {a b : Expr} {f g : Sm EV} {pos : Pos}
end
end
end HF


end
section
set_option Elab.async false
set_option linter.all false
set_option maxRecDepth 20000
set_option autoImplicit false
/-! HF31: index of a list. -/
namespace HF
open PySem PySem.Spec PyProof.Rows L2
def firstAt {α : Type} [DecidableEq α] (x : α) : List α → Option Nat
  | [] => none
  | y :: l => if y = x then some 0 else (firstAt x l).map (· + 1)
def idxPV (xs : List PV) (p : PV) : Option Nat := match p with
  | .int i => (asInts xs).bind (firstAt i)
  | .str z => (asStrs xs).bind (firstAt z)
  | _ => none
section
variable {X : Cx} {E : Ent} {W : WX} {N : List Str} {sc : Scope} {fs : Str → Bool} {k : Nat} {Z : Wd}
@[simp] def eIndex (f g : Sm EV) : Sm EV := fun M => (f M).bnd fun x M1 => match asLst M1 x with
  | none => .bad
  | some _ => (g M1).bnd fun y M2 => match asLst M2 x, y with
    | some xs, .v p => match idxPV xs p with
      | some j => .ok (.v (.int (j : Nat))) M2
      | none => .bad
    | _, _ => .bad
section
variable {o e : Expr} {f g : Sm EV} {apos cpos : Pos}
end
end
end HF


end
section
set_option Elab.async false
set_option linter.all false
set_option maxRecDepth 20000
set_option autoImplicit false
/-! HF32: == of dicts. -/
namespace HF
open PySem PySem.Spec PyProof.Rows L2
def dEq (ls : List Key) (ys : List PV) : List Key → List PV → Option Bool
  | [], [] => some true
  | k :: ks, x :: xs => match dGet ls ys k with
    | none => some false
    | some y => match x.toD, y.toD, dEq ls ys ks xs with
      | some d, some e, some b => if SeqAt.shaped d && SeqAt.shaped e then some (PyData.eqv d e && b) else none
      | _, _, _ => none
  | _, _ => none
@[simp] def cpEqK : Cp2 := fun x y M => match asDct M x, asDct M y with
  | some (ks, xs), some (ls, ys) => if ks.length = ls.length then dEq ls ys ks xs else some false
  | _, _ => none
@[simp] def cpNeK : Cp2 := fun x y M => (cpEqK x y M).map (!·)
section
variable {X : Cx} {E : Ent} {W : WX} {N : List Str} {sc : Scope} {fs : Str → Bool} {k : Nat} {Z : Wd}
section
variable {a b : Expr} {f g : Sm EV} {pos : Pos}
end
end
end HF


end
section
set_option Elab.async false
set_option linter.all false
set_option maxRecDepth 20000
set_option autoImplicit false
/-! HF33: dict(zip(a, b)). -/
namespace HF
open PySem PySem.Spec PyProof.Rows L2
/-- the keys -/
def asKeys : List PV → Option (List Key)
  | [] => some []
  | .int i :: r => (asKeys r).map (.inl i :: ·)
  | .str i :: r => (asKeys r).map (.inr i :: ·)
  | _ => none
section
variable {X : Cx} {E : Ent} {W : WX} {N : List Str} {sc : Scope} {fs : Str → Bool} {k : Nat} {Z : Wd}
@[simp] def eDctZip (f : Sm (List PV)) : Sm EV := fun M => (f M).bnd fun ps M1 => match ps with
  | [x, y] => match asLst M1 (.v x), asLst M1 (.v y) with
    | some xs, some ys => match asKeys xs with
      | some ks => if ks.Nodup ∧ ks.length = ys.length then .ok (.fr (.dct ks ys)) M1 else .bad
      | none => .bad
    | _, _ => .bad
  | _ => .bad
end
end HF


end
section
set_option Elab.async false
set_option linter.all false
set_option maxRecDepth 20000
set_option autoImplicit false
/-! HF34: zip walked; what is never reached. -/
namespace HF
open PySem PySem.Spec PyProof.Rows L2
def zipP (xs ys : List PV) : List PV := List.zipWith (fun x y => .tup [x, y]) xs ys
section
variable {X : Cx} {E : Ent} {W : WX} {N : List Str} {sc : Scope} {fs : Str → Bool} {k : Nat} {Z : Wd}
@[simp] def srcZip (f : Sm (List PV)) : Sm Src := fun M => (f M).bnd fun ps M1 => match ps with
  | [.tup xs, .tup ys] => .ok (.v .non, zipP xs ys) M1
  | [.lst xs, .lst ys] => .ok (.v .non, zipP xs ys) M1
  | _ => .bad
/-- what is never reached -/
@[simp] def sBad : Ss := fun _ => .bad
end
end HF


end
section
set_option Elab.async false
set_option linter.all false
set_option maxRecDepth 20000
set_option autoImplicit false
/-! HF35: a new thing handed on by its address. -/
namespace HF
open PySem PySem.Spec PyProof.Rows L2
theorem Evo.celled {s : L2.St} {G0 G : Gh} {M0 M : Mem} {H0 H : Hp} (x : Evo s G0 M0 H0 G M H) {p : Addr} {o : PO} (h : H0 p = none) : Evo s G0 M0 H0 ⟨G.F, G.al ++ [p]⟩ ⟨M.r, M.h ++ [o]⟩ H := by
  have e2 : Ext G H ⟨G.F, G.al ++ [p]⟩ H := ⟨fun _ h => h, fun _ _ _ _ h => h, fun r b h => by
    show (G.al ++ [p])[r]? = some b
    rw [List.getElem?_append_left (List.getElem?_eq_some_iff.mp h).1]; exact h, fun _ _ _ _ h => h⟩
  refine ⟨x.ext.trans e2, fun a u e n f ow nt => ?_, x.own, x.dom⟩
  obtain ⟨h1, h2, h3⟩ := x.keep a u e n f ow nt
  refine ⟨h1, fun z => ?_, h3⟩
  rcases List.mem_append.mp z with z | z
  · exact h2 z
  · simp at z; subst z; rw [h] at e; cases e
section
variable {X : Cx} {E : Ent} {W : WX} {N : List Str} {sc : Scope} {fs : Str → Bool} {k : Nat} {Z : Wd}
@[simp] def toC1 (e : EV) (M : Mem) : Res PV := match e with
  | .v p => .ok p M
  | .fr o => .ok (.ref M.h.length) ⟨M.r, M.h ++ [o]⟩
  | .sl _ => .bad
@[simp] def toC (f : Sm EV) : Sm PV := fun M => (f M).bnd toC1
theorem FE.toC {e : Expr} {f : Sm EV} (h : FE X E W e f) : FP X E W e (HF.toC f) := by
  refine ⟨PE.weak h.pe ?_⟩
  rintro s H Q ⟨G, M, R, h⟩
  refine ⟨G, M, R, ?_⟩
  simp only [HF.toC] at h
  generalize f M = q at h
  cases q with
  | ok ev M1 =>
    intro G1 H1 V1 R1 u ru
    simp only [Res.bnd] at h
    cases ev with
    | v p => exact h G1 H1 V1 R1 u ru
    | fr o =>
      obtain ⟨a, w, rfl, h1, ro, n, nf, nl, no, z⟩ := ru
      obtain ⟨R2, x2⟩ := R1.cellNew h1 ro n nf nl no
      have lenE := R1.hp.len
      refine h _ _ (V1.celled z) R2 (.ref a) ?_
      simp only [RepV]
      exact ⟨a, rfl, by rw [lenE]; simp⟩
    | sl i => exact h.elim
  | exn c M1 => exact h
  | bad => exact h
end
end HF


end
section
set_option Elab.async false
set_option linter.all false
set_option maxRecDepth 20000
set_option autoImplicit false
/-! HF36: max(list, default=d). -/
namespace HF
open PySem PySem.Spec PyProof.Rows L2
open Sem (wp)
section
variable {prog : Program} {w : World} {A : Around} {R : Result → Shared → Prop} {I : Addr} {fp wr : List Addr} {n : Nat} {P : Nat → Value → Prop} {St : Nat → Heap → Prop} {kw : List (Str × Value)}
end
section
variable {prog : Program} {w : World} {A : Around} {E : Value → Shared → Prop} {s : Shared}
end
section
variable {prog : Program} {w : World} {A : Around} {E : Value → Shared → Prop} {s : Shared} {l : Addr} {its : List Value} {ns : List Int}
end
section
variable {X : Cx} {E : Ent} {W : WX} {N : List Str} {sc : Scope} {fs : Str → Bool} {k : Nat} {Z : Wd}
@[simp] def opMaxD (d : Int) : Op1 := fun x M => match (asLst M x).bind asInts with
  | some [] => some (.v (.int d))
  | some (n :: ns) => some (.v (.int (maxOf (n :: ns))))
  | _ => none
end
end HF


end
section
set_option Elab.async false
set_option linter.all false
set_option maxRecDepth 20000
set_option autoImplicit false
/-! HF37: d.clear(); a dict held by address that is lent to an expression as a value. -/
namespace HF
open PySem PySem.Spec PyProof.Rows L2
@[simp] def eClear (f : Sm EV) : Sm EV := fun M => (f M).bnd fun x M1 => match mutAt M1 x with
  | some (.dct _ _) => .ok (.v .non) (mutPut x (.dct [] []) M1)
  | _ => .bad
mutual
/-- all addresses in a value are below r -/
def refsLt (r : Nat) : PV → Bool
  | .tup xs => refsLts r xs
  | .lst xs => refsLts r xs
  | .rol xs => refsLts r xs
  | .dct _ xs => refsLts r xs
  | .ref j => decide (j < r)
  | .exc _ => false
  | _ => true
def refsLts (r : Nat) : List PV → Bool
  | [] => true
  | x :: xs => refsLt r x && refsLts r xs
end
section
variable {X : Cx} {E : Ent} {W : WX} {N : List Str} {sc : Scope} {fs : Str → Bool} {k : Nat} {Z : Wd}
section
variable {K : PySem.W.Frag} {G G' : Gh} {H H' : Hp}
end
/-- from one state to one whose ghosts have fewer cells -/
structure Less (r : Nat) (G : Gh) (H : Hp) (G' : Gh) (H' : Hp) : Prop where
  f : ∀ a, G.F a → G'.F a
  rd : ∀ a u, G.F a → Plain u → Rd H a u → Rd H' a u
  al : ∀ (j : Nat) (a : Addr), j < r → G.al[j]? = some a → G'.al[j]? = some a
section
variable {K : PySem.W.Frag} {G G' : Gh} {H H' : Hp} {r : Nat}
mutual
theorem RepV.less (x : Less r G H G' H') : ∀ (p : PV) (v : V), refsLt r p = true → RepV K G H p v → RepV K G' H' p v
  | .non, v, _, h => h
  | .bl b, v, _, h => h
  | .int i, v, _, h => h
  | .str s, v, _, h => h
  | .tup xs, v, l, h => by
    simp only [RepV] at h ⊢
    simp only [refsLt] at l
    obtain ⟨a, us, e, f, r⟩ := h
    exact ⟨a, us, e, ⟨f.1, f.2.imp (fun ⟨f, r⟩ => ⟨x.f a f, x.rd a _ f trivial r⟩) id⟩, RepVs.less x xs us l r⟩
  | .lst xs, v, l, h => by
    simp only [RepV] at h ⊢
    simp only [refsLt] at l
    obtain ⟨a, us, e, ⟨f0, f1, f2⟩, r⟩ := h
    exact ⟨a, us, e, ⟨f0, x.f a f1, x.rd a _ f1 trivial f2⟩, RepVs.less x xs us l r⟩
  | .rol xs, v, l, h => by
    simp only [RepV] at h ⊢
    simp only [refsLt] at l
    obtain ⟨a, us, e, f, r⟩ := h
    exact ⟨a, us, e, ⟨f.1, f.2.imp (fun ⟨f, r⟩ => ⟨x.f a f, x.rd a _ f trivial r⟩) id⟩, RepVs.less x xs us l r⟩
  | .dct ks xs, v, l, h => by
    simp only [RepV] at h ⊢
    simp only [refsLt] at l
    obtain ⟨a, us, e, ⟨f1, f2⟩, z, k, r⟩ := h
    exact ⟨a, us, e, ⟨x.f a f1, x.rd a _ f1 trivial f2⟩, z, k, RepVs.less x xs _ l r⟩
  | .ref j, v, l, h => by
    simp only [RepV] at h ⊢
    simp only [refsLt, decide_eq_true_eq] at l
    obtain ⟨a, e, q⟩ := h
    exact ⟨a, e, x.al j a l q⟩
  | .con a, v, _, h => h
  | .exc c, v, l, h => by simp only [refsLt] at l; cases l
  | .fn c, v, _, h => by simp only [RepV] at h ⊢; exact h
theorem RepVs.less (x : Less r G H G' H') : ∀ (ps : List PV) (vs : List V), refsLts r ps = true → RepVs K G H ps vs → RepVs K G' H' ps vs
  | [], vs, _, h => h
  | p :: ps, vs, l, h => by
    simp only [RepVs] at h ⊢
    simp only [refsLts, Bool.and_eq_true] at l
    obtain ⟨u, ws, e, r, rs⟩ := h
    exact ⟨u, ws, e, RepV.less x p u l.1 r, RepVs.less x ps ws l.2 rs⟩
end
end
end
end HF


end
section
set_option Elab.async false
set_option linter.all false
set_option maxRecDepth 20000
set_option autoImplicit false
/-! HF40: defs handed on as values, and called by a parameter's name. -/
namespace HF
open PySem PySem.Spec PyProof.Rows L2
section
variable {X : Cx} {E : Ent} {W : WX} {N : List Str} {sc : Scope} {fs : Str → Bool} {k : Nat} {Z : Wd}
theorem pe_gfn {x : Str} {f : Addr} {pos : Pos} (hg : Gl X x) (hm : X.mg x = some (.ref f)) (hd : (x == ("__debug__" : Str)) = false) : PE X (.Name x pos) (tC (.ref f)) :=
  ⟨fun pins s σ H Q I h => ld_glob I hg hm ⟨.ref f, H, I, rfl, h⟩ hd⟩
end
/-! ### a default that is None -/
section
open NdefX LamX
variable {P : Program} {w : World} {K : PySem.W.Frag} {mg : Str → Option Value} {base h : Heap} {T : List NTab} {x : Str} {st : Stmt} {ps : List Str} {f : Addr} {oc kV doc pm ct : Value} {od an : Option Addr} {osl : Array (Option Value)} {k : Nat} {Z : Wd}
end
end HF


end
section
set_option Elab.async false
set_option linter.all false
set_option maxRecDepth 20000
set_option maxHeartbeats 1000000
set_option autoImplicit false
/-! HF41: xs[::-1] of lists and tuples; tuple.index of texts. -/
namespace HF
open PySem PySem.Spec PyProof.Rows L2 HT
section
variable {prog : Program} {w : World} {A : Around} {E : Value → Shared → Prop} {s : Shared}
end
section
variable {X : Cx} {E : Ent} {W : WX} {N : List Str} {sc : Scope} {fs : Str → Bool} {k : Nat} {Z : Wd}
@[simp] def opRev : Op1 := fun x M => match x with
  | .v (.tup xs) => some (.v (.tup xs.reverse))
  | x => (asLst M x).map fun xs => .fr (.lst xs.reverse)
/-! ### t[::-1].index(x), t a tuple of texts -/
def firstIx : List Str → Str → Option Nat
  | [], _ => none
  | y :: l, z => if y = z then some 0 else (firstIx l z).map (· + 1)
@[simp] def eRevIdx (f g : Sm EV) : Sm EV := fun M => (f M).bnd fun x M1 => match x with
  | .v (.tup xs) => match asStrs xs with
    | some ys => (g M1).bnd fun y M2 => match y with
      | .v (.str z) => match firstIx ys.reverse z with
        | some j => .ok (.v (.int (j : Nat))) M2
        | none => .bad
      | _ => .bad
    | none => .bad
  | _ => .bad
end
end HF


end
section
set_option Elab.async false
set_option linter.all false
set_option maxRecDepth 100000
set_option maxHeartbeats 4000000
set_option autoImplicit false
/-! HF38: sets of texts, made of a list or a tuple. -/
namespace HFS
open PySem PySem.Spec PyProof.Rows L2
def txtOf (e : Int × Value) : Str := match e.2 with | .str k _ => k | _ => Str.empty
def GoodT (w : World) (e : Int × Value) : Prop := ∃ k tk, e.2 = Value.str k tk ∧ e.1 = hashStr w k

/-- the set of ints at a: S its members, n their number; its table rises and can be walked -/
def SetW (w : World) (h : Heap) (a : Addr) (S : Str → Bool) (n : Nat) : Prop :=
  ∃ o es ep t, h.get? a = some o ∧ o.ExactSet ∧ o.data = .set es ep t ∧ (∀ e ∈ es.toList, GoodT w e) ∧ (es.toList.map txtOf).Nodup ∧ (∀ k, S k = true ↔ k ∈ es.toList.map txtOf) ∧
    es.size < scanBound ∧ t.fits es.size = true ∧ es.size = n ∧ Ris t.place.toList ∧ (w.params.followText "set-order" = true ∨ t.led = true)

section
variable {P : Program} {w : World} {h h' : Heap} {a : Addr} {S : Str → Bool} {n : Nat}

theorem SetW.at (R : SetW w h a S n) (k : ∀ o, h.get? a = some o → h'.get? a = some o) : SetW w h' a S n := by
  obtain ⟨o, es, ep, t, xo, r⟩ := R
  exact ⟨o, es, ep, t, k o xo, r⟩
theorem SetW.lt (R : SetW w h a S n) : a < h.objs.size := by
  obtain ⟨o, es, ep, t, xo, r⟩ := R
  exact Heap.lt_size xo
theorem SetW.congr {S' : Str → Bool} (R : SetW w h a S n) (e : ∀ k, S' k = S k) : SetW w h a S' n := by
  have q : S' = S := funext e
  rw [q]; exact R
end

section
variable {P : Program} {w : World} {A : Around} {E : Value → Shared → Prop} {s : Shared} {a : Addr} {S : Str → Bool} {n : Nat}

/-! ### add -/
section
variable {P : Program} {w : World} {A : Around} {E : Value → Shared → Prop} {s : Shared}
end
end
end HFS


end
section
set_option Elab.async false
set_option linter.all false
set_option maxRecDepth 100000
set_option maxHeartbeats 4000000
set_option autoImplicit false
/-! HF39: sorted(set(texts)), sorted(texts), len(set(texts)). -/
namespace HFS
open PySem PySem.Spec PyProof.Rows L2
/-! ### the order of texts -/
def leS (a b : Str) : Bool := !(ltCps b.cps.toList a.cps.toList)
def srtS (xs : List Str) : List Str := xs.mergeSort leS
/-- each once, as first met -/
def unlikeS (xs : List Str) : List Str := xs.foldl step_dedup []
/-! ### sorted of the set -/
section
variable {P : Program} {w : World} {A : Around} {E : Value → Shared → Prop} {s : Shared} {a : Addr}
end
end HFS
namespace HF
open PySem PySem.Spec PyProof.Rows L2 HFS
section
variable {X : Cx} {E : Ent} {W : WX} {N : List Str} {sc : Scope} {fs : Str → Bool} {k : Nat} {Z : Wd}
@[simp] def opSortSet : Op1 := fun x M => match (asLst M x).bind asStrs with
  | some xs => if xs.length ≤ 4000 then some (.fr (.lst ((srtS (unlikeS xs)).map .str))) else none
  | none => none
@[simp] def opSortS : Op1 := fun x M => match (asLst M x).bind asStrs with
  | some xs => if xs.length < 64 then some (.fr (.lst ((srtS xs).map .str))) else none
  | none => none
end
end HF


end
section
set_option Elab.async false
set_option linter.all false
set_option maxRecDepth 100000
set_option maxHeartbeats 4000000
set_option autoImplicit false
/-! HF42: len(set(tuple of texts)). -/
namespace HFS
open PySem PySem.Spec PyProof.Rows L2
section
variable {P : Program} {w : World} {A : Around} {E : Value → Shared → Prop} {s : Shared}
end
end HFS
namespace HF
open PySem PySem.Spec PyProof.Rows L2 HFS
section
variable {X : Cx} {E : Ent} {W : WX} {N : List Str} {sc : Scope} {fs : Str → Bool} {k : Nat} {Z : Wd}
@[simp] def opLenSetT : Op1 := fun x M => match x with
  | .v (.tup ps) => match asStrs ps with
    | some xs => if xs.length ≤ 4000 then some (.v (.int ((unlikeS xs).length : Nat))) else none
    | none => none
  | _ => none
end
end HF


end
section
set_option Elab.async false
set_option linter.all false
set_option maxRecDepth 20000
set_option maxHeartbeats 1000000
set_option autoImplicit false
/-! HF43: `x or y` where x is None or a tuple. -/
namespace HF
open PySem PySem.Spec PyProof.Rows L2 HT
variable {X : Cx} {E : Ent} {W : WX}
/-- `x or y`: None and the empty tuple give y -/
@[simp] def eOrT (f g : Sm EV) : Sm EV := fun M => (f M).bnd fun x M1 => match x with
  | .v .non => g M1
  | .v (.tup l) => if l.isEmpty then g M1 else .ok (.v (.tup l)) M1
  | _ => .bad
@[simp] def opStrRep : Op2 := fun x y _ => match x, y with
  | .v (.str z), .v (.int n) => if (decide (0 ≤ n) && decide (n ≤ 1000) && decide (z.length ≤ 1000)) = true then some (.v (.str (Txt.mul z n))) else none
  | _, _ => none
/-- a text within a text -/
@[simp] def cpNiS : Cp2 := fun x y _ => match x, y with
  | .v (.str i), .v (.str z) => some (!(!(Builtin.Str.occurrences z i 0 z.length 1).isEmpty))
  | _, _ => none
section
variable {a b c : Expr} {rest : List Expr} {f g l : Sm EV} {pos : Pos}
end
end HF


end
section
set_option Elab.async false
set_option linter.all false
set_option maxRecDepth 20000
set_option autoImplicit false
/-! HF44: try: body, except X as n: suite, where the exception caught is a value that stays. -/
namespace L2
open PySem PySem.Spec PyProof.Rows
section
variable {X : Cx} {pins : List (Addr × Obj)} {σ : St} {H : Hp} {s : Shared}
end
section
variable {X : Cx} {x n : Str} {c : Value} {i : Nat} {body suite : List Stmt} {b₀ : Stmt} {np pos pos' : Pos} {tb : WX → TS} {ts : Addr → TS} {Wout : WX}
end
end L2


end
section
set_option Elab.async false
set_option linter.all false
set_option maxRecDepth 20000
set_option autoImplicit false
/-! HF45: raise, try, isinstance of exceptions. -/
namespace HF
open PySem PySem.Spec PyProof.Rows L2
/-- a class's name -/
def ClsAt (Z : Wd) (x : Str) (u : Value) : Prop := (∃ D, u = .ref D ∧ Z.mg x = some (.ref D)) ∨ ∃ T, u = .type T ∧ Z.mg x = none ∧ bootBuiltins x = some (.type T)
/-- what is known where code runs behind an exception -/
structure AmbB (Z : Wd) (X : Cx) (N : List Str) (sc : Scope) (fs : Str → Bool) : Prop where
  hN : X.N = N
  fn : X.fn = fs
  same : X.prog = Z.P ∧ X.w = Z.w ∧ X.K = Z.K ∧ X.mg = Z.mg ∧ X.base = Z.base
  hs : X.env.scope = sc
  nd : N.Nodup
  room : X.A.units + 64 < cLine
section
variable {X : Cx} {E : Ent} {W : WX} {N : List Str} {sc : Scope} {fs : Str → Bool} {k : Nat} {Z : Wd}
theorem Amb.b (A : Amb Z X W N sc fs k) : AmbB Z X N sc fs := ⟨A.hN, A.fn, A.same, A.hs, A.nd, A.u64⟩
theorem AmbB.gl (A : AmbB Z X N sc fs) {x : Str} (h : sc.names.lookup x = some .globalImplicit) : Gl X x := by
  show X.env.scope.names.lookup x = _
  rw [A.hs]; exact h
/-- isinstance(e, C) of an exception; xs: the classes; tb: what it says of which -/
@[simp] def opIsx (tb : List (Str × Bool)) : Op1 := fun x _ => match x with
  | .v (.exc c) => (tb.find? fun p => decide (p.1 = c)).map fun p => .v (.bl p.2)
  | _ => none
theorem ClsAt.v {x : Str} {u : Value} (h : ClsAt Z x u) : ∃ v, ClsV v u := by
  rcases h with ⟨D, rfl, _⟩ | ⟨T, rfl, _⟩
  · exact ⟨.ref D, .own D⟩
  · exact ⟨.ty T, .ty T⟩
end
end HF


end
section
set_option Elab.async false
set_option linter.all false
set_option maxRecDepth 20000
set_option autoImplicit false
/-! HF46: sorted(d) and list(d) of a dict by words; a list unpacked; == of lists of dicts (they agree). -/
namespace HF
open PySem PySem.Spec PyProof.Rows L2 HFS
def keyStrs : List Key → Option (List Str)
  | [] => some []
  | .inr w :: ks => (keyStrs ks).map (w :: ·)
  | .inl _ :: _ => none
section
variable {X : Cx} {E : Ent} {W : WX} {N : List Str} {sc : Scope} {fs : Str → Bool} {k : Nat} {Z : Wd}
@[simp] def opSortD : Op1 := fun x M => match asDct M x with
  | some (ks, _) => match keyStrs ks with
    | some ws => if ws.length < 64 then some (.fr (.lst ((srtS ws).map .str))) else none
    | none => none
  | none => none
@[simp] def opLstD : Op1 := fun x M => match asDct M x with
  | some (ks, _) => (keyStrs ks).map fun ws => .fr (.lst (ws.map .str))
  | none => none
/-! a list unpacked -/
@[simp] def sPatL (is : List Nat) (f : Sm PV) : Ss := fun M => (f M).st fun p M1 => match p with
  | .lst ps => match setAll is ps M1.r with
    | some r' => .nx ⟨r', M1.h⟩
    | none => .bad
  | _ => .bad
end
/-! == of lists of dicts -/
def eqDs : List PV → List PV → Bool
  | [], [] => true
  | .dct ks xs :: l, .dct ls ys :: r => decide (ks.length = ls.length) && decide (dEq ls ys ks xs = some true) && eqDs l r
  | _, _ => false
@[simp] def cpEqDs : Cp2 := fun x y M => match asLst M x, asLst M y with
  | some xs, some ys => if eqDs xs ys = true then some true else none
  | _, _ => none
section
variable {X : Cx} {E : Ent} {W : WX} {N : List Str} {sc : Scope} {fs : Str → Bool} {k : Nat} {Z : Wd}
variable {a b : Expr} {f g : Sm EV} {pos : Pos}
end
end HF


end
section
set_option Elab.async false
set_option linter.all false
set_option maxRecDepth 100000
set_option maxHeartbeats 4000000
set_option autoImplicit false
/-! HF47: sorted(d.items()) of a dict of whole numbers by words. -/
namespace HFS
open PySem PySem.Spec PyProof.Rows L2
abbrev PI := Str × Int
def encI (b : PI) : PyData := .tuple [.str b.1, .int b.2]
def srtI (bs : List PI) : List PI := bs.mergeSort (PySem.W.dataLe false encI)
section
variable {X : Cx}
end
end HFS
namespace HF
open PySem PySem.Spec PyProof.Rows L2 HFS
section
variable {X : Cx} {E : Ent} {W : WX} {N : List Str} {sc : Scope} {fs : Str → Bool} {k : Nat} {Z : Wd}
def tupI (b : PI) : PV := .tup [.str b.1, .int b.2]
/-- the words and numbers of a dict -/
def itemsI : List Key → List PV → Option (List PI)
  | [], [] => some []
  | .inr w :: ks, .int i :: xs => (itemsI ks xs).map ((w, i) :: ·)
  | _, _ => none
@[simp] def opSortIt : Op1 := fun x M => match asDct M x with
  | some (ks, xs) => match itemsI ks xs with
    | some bs => if bs.length < 64 then some (.fr (.lst ((srtI bs).map tupI))) else none
    | none => none
  | none => none
@[simp] def opLstRg : Op1 := fun x _ => match x with
  | .v (.int n) => if 0 ≤ n ∧ n ≤ 16777216 then some (.fr (.lst ((List.range n.toNat).map fun i : Nat => .int (i : Int)))) else none
  | _ => none
end
end HF


end
section
set_option Elab.async false
set_option linter.all false
set_option maxRecDepth 100000
set_option maxHeartbeats 4000000
set_option autoImplicit false
/-! HF48: a tuple so many times. -/
namespace L2
open PySem PySem.Spec PyProof.Rows PySem.W PySem.Calls
section
variable {X : Cx}
end
end L2
namespace HF
open PySem PySem.Spec PyProof.Rows L2
section
variable {X : Cx} {E : Ent} {W : WX} {N : List Str} {sc : Scope} {fs : Str → Bool} {k : Nat} {Z : Wd}
@[simp] def opTupRep : Op2 := fun x y _ => match x, y with
  | .v (.tup xs), .v (.int n) => if xs ≠ [] ∧ xs.length ≤ 1000 ∧ 1 ≤ n ∧ n ≤ 1000 then some (.v (.tup (List.replicate n.toNat xs).flatten)) else none
  | _, _ => none
end
end HF


end
section
set_option Elab.async false
set_option linter.all false
set_option maxRecDepth 100000
set_option maxHeartbeats 4000000
set_option autoImplicit false
/-! HF49: for x in reversed(list); xs.insert(i, x). -/
namespace HF
open PySem PySem.Spec PyProof.Rows L2
section
variable {X : Cx} {E : Ent} {W : WX} {N : List Str} {sc : Scope} {fs : Str → Bool} {k : Nat} {Z : Wd}
/-- a list from behind -/
@[simp] def srcRev (f : Sm PV) : Sm Src := fun M => (f M).bnd fun p M1 => match p with
  | .lst xs => .ok (.v .non, xs.reverse) M1
  | .rol xs => .ok (.v .non, xs.reverse) M1
  | _ => .bad
/-! xs.insert(i, x) -/
@[simp] def eIns (f g : Sm EV) (h : Sm PV) : Sm EV := fun M => (f M).bnd fun x M1 => match asLst M1 x with
  | none => .bad
  | some _ => (g M1).bnd fun y M2 => (h M2).bnd fun z M3 => match mutAt M3 x with
    | some (.lst xs) => match y with
      | .v (.int i) => if xs.length < sizeLine ∧ 0 ≤ i ∧ i < 2 ^ 62 then .ok (.v .non) (mutPut x (.lst (xs.take i.toNat ++ [z] ++ xs.drop i.toNat)) M3) else .bad
      | _ => .bad
    | _ => .bad
end
end HF


end
section
set_option Elab.async false
set_option linter.all false
set_option maxRecDepth 100000
set_option maxHeartbeats 4000000
set_option autoImplicit false
/-! HF50: a tuple so many times, or not at all. -/
namespace L2
open PySem PySem.Spec PyProof.Rows PySem.W PySem.Calls
section
variable {X : Cx}
end
end L2
namespace HF
open PySem PySem.Spec PyProof.Rows L2
section
variable {X : Cx} {E : Ent} {W : WX} {N : List Str} {sc : Scope} {fs : Str → Bool} {k : Nat} {Z : Wd}
@[simp] def opTupRep0 : Op2 := fun x y _ => match x, y with
  | .v (.tup xs), .v (.int n) => if xs ≠ [] ∧ xs.length ≤ 1000 ∧ 0 ≤ n ∧ n ≤ 1000 then some (.v (.tup (List.replicate n.toNat xs).flatten)) else none
  | _, _ => none
end
end HF


end
section
set_option Elab.async false
set_option linter.all false
set_option maxRecDepth 100000
set_option maxHeartbeats 4000000
set_option autoImplicit false
/-! HF51: enumerate of a tuple, walked. -/
namespace PySem
open Sem (wp)
open AutoSeq1 (wpAny_loadPart')
section
variable {prog : Program} {w : World} {A : Around} {E : Value → Shared → Prop} {s : Shared}
end
end PySem
namespace L2
open PySem PySem.Spec PyProof.Rows
end L2
namespace HF
open PySem PySem.Spec PyProof.Rows L2
section
variable {X : Cx} {E : Ent} {W : WX} {N : List Str} {sc : Scope} {fs : Str → Bool} {k : Nat} {Z : Wd}
@[simp] def srcEnT (f : Sm EV) : Sm Src := fun M => (f M).bnd fun e M1 => match e with
  | .v (.tup xs) => .ok (.v .non, enumP xs) M1
  | _ => .bad
end
end HF


end
section
set_option Elab.async false
set_option linter.all false
set_option maxRecDepth 20000
set_option autoImplicit false
/-! HF52: list.clear. -/
namespace HF
open PySem PySem.Spec PyProof.Rows L2
section
variable {X : Cx} {E : Ent} {W : WX} {o : Expr} {f : Sm EV} {apos cpos : Pos}
@[simp] def eClearL (f : Sm EV) : Sm EV := fun M => (f M).bnd fun x M1 => match mutAt M1 x with
  | some (.lst _) => .ok (.v .non) (mutPut x (.lst []) M1)
  | _ => .bad
end
end HF


end
section
set_option Elab.async false
set_option linter.all false
set_option maxRecDepth 20000
set_option autoImplicit false
/-! HF53: objects of own classes: attributes, stores to attributes, methods, making. -/
namespace HF
open PySem PySem.Spec PyProof.Rows L2
/-- the attributes of an instance -/
@[simp] def fldAt : List Str → List PV → Str → Option PV
  | n :: ns, x :: xs, f => if n = f then some x else fldAt ns xs f
  | _, _, _ => none
@[simp] def putN (f : Str) : List Str → List Str
  | [] => [f]
  | n :: ns => if n = f then n :: ns else n :: putN f ns
@[simp] def putX (f : Str) (p : PV) : List Str → List PV → List PV
  | n :: ns, x :: xs => if n = f then p :: xs else x :: putX f p ns xs
  | _, _ => [p]
/-- the instance that a value tells -/
@[simp] def insAt (M : Mem) : EV → Option (Nat × Str × List Str × List PV)
  | .v (.ref r) => match cellAt M r with
    | some (.ins c ns xs) => some (r, c, ns, xs)
    | _ => none
  | _ => none
section
variable {X : Cx} {E : Ent} {W : WX} {N : List Str} {sc : Scope} {fs : Str → Bool} {k : Nat} {Z : Wd}
/-- what a class must have; an attribute that is no class's -/
structure ClsOk (Z : Wd) (c : Str) (C : Addr) : Prop where
  ns : PySem.W.nsIn Z.K mainGlobals c = some (some (.ref C))
  cl : Cls Z.K C
/-- o.f -/
@[simp] def eFld (c f : Str) (g : Sm EV) : Sm EV := fun M => (g M).bnd fun x M1 => match insAt M1 x with
  | some (_, c', ns, xs) => if c' = c then (match fldAt ns xs f with
    | some p => .ok (.v p) M1
    | none => .bad) else .bad
  | none => .bad
/-- o.f = value -/
@[simp] def sFld (c f : Str) (fv : Sm PV) (g : Sm EV) : Ss := fun M => (fv M).st fun p M1 => (g M1).st fun x M2 => match insAt M2 x with
  | some (r, c', ns, xs) => if c' = c ∧ ns.length < 100 then .nx ⟨M2.r, M2.h.set r (.ins c (putN f ns) (putX f p ns xs))⟩ else .bad
  | none => .bad
/-- a method that keeps φ; ds: defaults -/
structure KnownM (Z : Wd) (k : Nat) (c m : Str) (ds : List PV) (φ : Fn) : Prop where
  ok : ∃ (C f : Addr) (fd : FuncData) (ps : List Str) (dvs : List V) (dus : List Value), ClsOk Z c C ∧ Meth Z.K C m f ∧ FnOk Z.P Z.w Z.K Z.mg Z.base (L2.CX Z.P Z.w) k f fd ps (spOf Z.T Z.K Z.mg φ) ∧ Binds Z.K fd ps dus ∧ Vals dvs dus ∧ ∀ G H, RepVs Z.K G H ds dvs
theorem KnownM.mono {c m : Str} {ds : List PV} {φ : Fn} {j : Nat} (h : KnownM Z j c m ds φ) (l : j ≤ k) : KnownM Z k c m ds φ := by
  obtain ⟨C, f, fd, ps, dvs, dus, h1, h2, F, r⟩ := h.ok
  exact ⟨C, f, fd, ps, dvs, dus, h1, h2, F.mono l, r⟩
@[simp] def endCall (r : FR) (rs : List (Option LV)) : Res EV := match r with
  | .ok (.sl _) _ => .bad
  | .ok e h' => .ok e ⟨rs, h'⟩
  | .exn c h' => .exn c ⟨rs, h'⟩
  | .bad => .bad
/-- o.m(..) -/
@[simp] def eMeth (c m : Str) (φ : Fn) (ds : List PV) (f : Sm EV) (g : Sm (List PV)) : Sm EV := fun M => (f M).bnd fun x M1 => match insAt M1 x with
  | some (r, c', ns, _) => if c' = c ∧ m ∉ ns then (g M1).bnd fun ps M2 => endCall (φ (.ref r :: (ps ++ ds)) M2.h) M2.r else .bad
  | none => .bad
section
variable {c m : Str} {φ : Fn} {ds : List PV} {o e : Expr} {es : List Expr} {f : Sm EV} {g : Sm (List PV)} {pos apos : Pos}
end
end
end HF


end
section
set_option Elab.async false
set_option linter.all false
set_option maxRecDepth 20000
set_option autoImplicit false
/-! HF54: an object is made; the facts of classes; d.update(d2). -/
namespace HF
open PySem PySem.Spec PyProof.Rows L2
structure KnownI (Z : Wd) (k : Nat) (c : Str) (ds : List PV) (φ : Fn) : Prop where
  ok : ∃ (j : Nat) (C f : Addr) (fd : FuncData) (ps : List Str) (dvs : List V) (dus : List Value), j + 1 ≤ k ∧ PySem.W.nsIn Z.K mainGlobals c = some (some (.ref C)) ∧ Z.mg c = some (.ref C) ∧ Mk Z.K C f ∧
    FnOk Z.P Z.w Z.K Z.mg Z.base (L2.CX Z.P Z.w) j f fd ps (spOf Z.T Z.K Z.mg φ) ∧ Binds Z.K fd ps dus ∧ Vals dvs dus ∧ ∀ G H, RepVs Z.K G H ds dvs
theorem KnownI.mono {Z : Wd} {k : Nat} {c : Str} {ds : List PV} {φ : Fn} {j : Nat} (h : KnownI Z j c ds φ) (l : j ≤ k) : KnownI Z k c ds φ := by
  obtain ⟨i, C, f, fd, ps, dvs, dus, h1, r⟩ := h.ok
  exact ⟨i, C, f, fd, ps, dvs, dus, Nat.le_trans h1 l, r⟩
/-- C(..) -/
@[simp] def eMake (c : Str) (φ : Fn) (ds : List PV) (g : Sm (List PV)) : Sm EV := fun M => (g M).bnd fun ps M1 => match φ (.ref M1.h.length :: (ps ++ ds)) (M1.h ++ [.ins c [] []]) with
  | .ok (.v .non) h' => .ok (.v (.ref M1.h.length)) ⟨M1.r, h'⟩
  | .exn c h' => .exn c ⟨M1.r, h'⟩
  | _ => .bad
section
variable {X : Cx} {E : Ent} {W : WX} {N : List Str} {sc : Scope} {fs : Str → Bool} {k : Nat} {Z : Wd}
section
variable {c x : Str} {φ : Fn} {ds : List PV} {e : Expr} {es : List Expr} {g : Sm (List PV)} {p pos : Pos}
end
/-! the facts of a class -/
structure MthAt (Z : Wd) (c m q : Str) (st : Stmt) (ps : List Str) : Prop where
  ok : ∃ (C f : Addr) (fd : FuncData), ClsOk Z c C ∧ Meth Z.K C m f ∧ Fun Z.K m q st f fd ∧ Binds Z.K fd ps []
theorem MthAt.known {c m q : Str} {st : Stmt} {ps : List Str} {φ : Fn} (h : MthAt Z c m q st ps) (d : ∀ f fd, Fun Z.K m q st f fd → FnOk Z.P Z.w Z.K Z.mg Z.base (L2.CX Z.P Z.w) k f fd ps (spOf Z.T Z.K Z.mg φ)) : KnownM Z k c m [] φ := by
  obtain ⟨C, f, fd, h1, h2, F, b⟩ := h.ok
  exact ⟨C, f, fd, ps, [], [], h1, h2, d f fd F, b, .nil, fun _ _ => RepVs.nil⟩
structure IniAt (Z : Wd) (c q : Str) (st : Stmt) (ps : List Str) : Prop where
  ok : ∃ (C f : Addr) (fd : FuncData), PySem.W.nsIn Z.K mainGlobals c = some (some (.ref C)) ∧ Z.mg c = some (.ref C) ∧ Mk Z.K C f ∧ Fun Z.K "__init__" q st f fd ∧ Binds Z.K fd ps []
theorem IniAt.known {c q : Str} {st : Stmt} {ps : List Str} {φ : Fn} (h : IniAt Z c q st ps) (d : ∀ f fd, Fun Z.K "__init__" q st f fd → FnOk Z.P Z.w Z.K Z.mg Z.base (L2.CX Z.P Z.w) k f fd ps (spOf Z.T Z.K Z.mg φ)) : KnownI Z (k + 1) c [] φ := by
  obtain ⟨C, f, fd, h1, h2, M, F, b⟩ := h.ok
  exact ⟨k, C, f, fd, ps, [], [], Nat.le_refl _, h1, h2, M, d f fd F, b, .nil, fun _ _ => RepVs.nil⟩
end
/-! d.update(d2) -/
end HF


end
section
set_option Elab.async false
set_option linter.all false
set_option maxRecDepth 20000
set_option autoImplicit false
/-! HF55: d.update(d2); {k: v}; dict([(k, v) ..]). -/
namespace HF
open PySem PySem.Spec PyProof.Rows L2
def dMerge : List Key → List PV → List Key → List PV → List Key × List PV
  | ks, xs, q :: qs, y :: ys => dMerge (dStore ks xs q y).1 (dStore ks xs q y).2 qs ys
  | ks, xs, _, _ => (ks, xs)
section
variable {X : Cx} {E : Ent} {W : WX} {N : List Str} {sc : Scope} {fs : Str → Bool} {k : Nat} {Z : Wd}
@[simp] def dctNew : EV → Option (List Key × List PV)
  | .fr (.dct qs ys) => some (qs, ys)
  | .v (.dct qs ys) => some (qs, ys)
  | _ => none
@[simp] def isDct : Option PO → Bool
  | some (.dct _ _) => true
  | _ => false
@[simp] def eUpd (f g : Sm EV) : Sm EV := fun M => (f M).bnd fun x M1 => if isDct (mutAt M1 x) = true then (g M1).bnd fun y M2 => match mutAt M2 x, dctNew y with
  | some (.dct ks xs), some (qs, ys) => if ks.length + qs.length ≤ sizeLine then .ok (.v .non) (mutPut x (.dct (dMerge ks xs qs ys).1 (dMerge ks xs qs ys).2) M2) else .bad
  | _, _ => .bad else .bad
section
variable {o e : Expr} {f g : Sm EV} {apos cpos : Pos}
end
/-! {k: v} -/
@[simp] def eDisp1 (f : Sm EV) (h : Sm PV) : Sm EV := fun M => (f M).bnd fun x M1 => match keyOf x with
  | some q => (h M1).bnd fun p M2 => .ok (.fr (.dct [q] [p])) M2
  | none => .bad
/-! dict([(k, v) ..]) -/
def asPrs : List PV → Option (List Key × List PV)
  | [] => some ([], [])
  | .tup [x, y] :: r => match keyOf (.v x), asPrs r with
    | some q, some (qs, ys) => some (q :: qs, y :: ys)
    | _, _ => none
  | _ => none
@[simp] def opDctP : Op1 := fun x M => (asLst M x).bind fun xs => (asPrs xs).map fun p => .fr (.dct (dMerge [] [] p.1 p.2).1 (dMerge [] [] p.1 p.2).2)
end
end HF


end
section
set_option Elab.async false
set_option linter.all false
set_option maxRecDepth 20000
set_option autoImplicit false
/-! HF56: sorted(list) of alike data. -/
namespace HF
open PySem PySem.Spec PyProof.Rows L2
open PySem.W (EachIs AllAlike alike dataLe)
section
variable {X : Cx}
theorem each_back {R : V → PV → Prop} : ∀ {out : List Value} {bs : List (PV × PyData)}, EachIs (fun v b => ∃ u, RelV u v ∧ R u b.1) out bs → ∃ zs : List (V × (PV × PyData)), Vals (zs.map (·.1)) out ∧ zs.map (·.2) = bs ∧ ∀ z ∈ zs, R z.1 z.2.1
  | [], bs, h => by cases h; exact ⟨[], .nil, rfl, by simp⟩
  | v :: out, bs, h => by
    cases h with
    | @cons _ b _ bs h1 h2 =>
      obtain ⟨u, r1, r2⟩ := h1
      obtain ⟨zs, z1, z2, z3⟩ := each_back h2
      exact ⟨(u, b) :: zs, .cons r1 z1, by simp [z2], fun z hz => by
        rcases List.mem_cons.mp hz with rfl | hz
        · exact r2
        · exact z3 z hz⟩
end
section
variable {X : Cx} {E : Ent} {W : WX} {N : List Str} {sc : Scope} {fs : Str → Bool} {k : Nat} {Z : Wd}
def tup1 : PyData → Bool
  | .tuple (_ :: _) => true
  | _ => false
def sortOk (ds : List PyData) : Bool := ds.all (fun d => ds.all (alike d)) && ds.all tup1 && ds.all fun d => decide (d.depth ≤ 60)
def srtD (xs : List PV) (ds : List PyData) : List PV := ((xs.zip ds).mergeSort (dataLe false (·.2))).map (·.1)
@[simp] def opSortDt : Op1 := fun x M => (asLst M x).bind fun xs => (toDs xs).bind fun ds => if sortOk ds = true then some (.fr (.lst (srtD xs ds))) else none
theorem zs_rep {K : PySem.W.Frag} {G : Gh} {H : Hp} : ∀ {zs : List (V × (PV × PyData))}, (∀ z ∈ zs, RepV K G H z.2.1 z.1) → RepVs K G H ((zs.map (·.2)).map (·.1)) (zs.map (·.1))
  | [], _ => RepVs.nil
  | z :: zs, h => RepVs.cons (h z List.mem_cons_self) (zs_rep fun y hy => h y (List.mem_cons_of_mem _ hy))
end
end HF


end
section
set_option Elab.async false
set_option linter.all false
set_option maxRecDepth 20000
set_option autoImplicit false
/-! HF57: >>, &; <= of texts. -/
namespace HF
open PySem PySem.Spec PyProof.Rows L2
section
variable {X : Cx} {E : Ent} {W : WX} {a b : Expr} {f g : Sm EV} {pos : Pos}
def shrOk (i j : Int) : Bool := decide (0 ≤ j)
def opShr : Op2 := opI2 shrOk fun i j => i / 2 ^ j.toNat
@[simp] theorem opShr_at (x y : EV) (M : Mem) : opShr x y M = (opI2 shrOk fun i j => i / 2 ^ j.toNat) x y M := rfl
def opBand : Op2 := opI2' fun i j => Builtin.bitAnd i j
@[simp] theorem opBand_at (x y : EV) (M : Mem) : opBand x y M = (opI2' fun i j => Builtin.bitAnd i j) x y M := rfl
@[simp] def cpLeS : Cp2 := fun x y _ => match x, y with
  | .v (.str i), .v (.str j) => some (!decide (j.cps.toList < i.cps.toList))
  | _, _ => none
/-! a, b = e1, e2 -/
@[simp] def sPar (i j : Nat) (f : Sm (List PV)) : Ss := fun M => (f M).st fun ps M1 => match ps with
  | [p, q] => .nx ⟨(M1.r.set i (some (.v p))).set j (some (.v q)), M1.h⟩
  | _ => .bad
/-! a, b = b, a where a name is a cell: a tuple is made -/
end
end HF


end
section
set_option Elab.async false
set_option linter.all false
set_option maxRecDepth 20000
set_option autoImplicit false
/-! HF58: == of deep data. -/
namespace HF
open PySem PySem.Spec PyProof.Rows L2
def shp (d : PyData) : Bool := d.canLay0 && decide (d.depth ≤ 190)
section
variable {X : Cx} {E : Ent} {W : WX} {N : List Str} {sc : Scope} {fs : Str → Bool} {k : Nat} {Z : Wd}
@[simp] def eqDB : Cp2 := fun x y M => match evD M x, evD M y with
  | some d, some e => if shp d && shp e then some (PyData.eqv d e) else none
  | _, _ => none
@[simp] def cpEqB : Cp2 := fun x y M => (eqS x y M).or (eqDB x y M)
@[simp] def cpNeB : Cp2 := fun x y M => ((eqS x y M).map (!·)).or ((eqDB x y M).map (!·))
section
variable {a b : Expr} {f g : Sm EV} {pos : Pos}
end
end
end HF


end
section
set_option Elab.async false
set_option linter.all false
set_option maxRecDepth 20000
set_option autoImplicit false
/-! HF59: the newest dict cell becomes a value, other cells may bear older addresses; == of tuples that bear empty dicts. -/
namespace HF
open PySem PySem.Spec PyProof.Rows L2
section
variable {X : Cx} {E : Ent} {W : WX} {N : List Str} {sc : Scope} {fs : Str → Bool} {k : Nat} {Z : Wd}
end
/-! == of tuples that bear empty dicts -/
def eqCmp : PV → PV → Bool
  | .dct [] [], .dct [] [] => true
  | x, y => match x.toD, y.toD with
    | some d, some e => SeqAt.shaped d && SeqAt.shaped e && PyData.eqv d e
    | _, _ => false
def eqCmps : List PV → List PV → Bool
  | [], [] => true
  | x :: xs, y :: ys => eqCmp x y && eqCmps xs ys
  | _, _ => false
@[simp] def cpEqTd : Cp2 := fun x y _ => match x, y with
  | .v (.tup xs), .v (.tup ys) => if eqCmps xs ys = true then some true else none
  | _, _ => none
section
variable {X : Cx} {E : Ent} {W : WX} {N : List Str} {sc : Scope} {fs : Str → Bool} {k : Nat} {Z : Wd}
variable {a b : Expr} {f g : Sm EV} {pos : Pos}
end
end HF


end
section
set_option Elab.async false
set_option linter.all false
set_option maxRecDepth 100000
set_option autoImplicit false
/-! HF76: sorting by tuples of which the first one is (). -/
namespace HF
open PySem PySem.Spec PyProof.Rows PySem.Calls
open PySem.W (SortsAt dataKind AllAlike alike dataLt EachIs keyToks keyToksAll)
section
variable {prog : Program} {w : World} {A : Around} {s : Shared} {E : Value → Shared → Prop}
theorem readsAll_nil {h : Heap} {l : List Value} {as : List Addr} (r : ReadsAll h l [] as) : l = [] := by
  cases r; rfl
theorem firsts_tup {M : Model} : ∀ (vs : List Value) (ds : List PyData), EachIs (fun v d => ∃ as, Reads s.heap v d as) vs ds → (∀ d ∈ ds, ∃ xs, d = PyData.tuple xs) →
    ∃ fs : List (Option Value), (∀ r, ds = .tuple [] :: r → ∃ g, fs = none :: g) ∧ ∀ Q : List (Option Value) → Shared → Prop, Q fs s → wpAny M A (vs.mapM firstOfTuple') Q E s
  | [], ds, e, ht => by
    cases e
    exact ⟨[], fun r z => (nomatch z), fun Q q => by rw [List.mapM_nil]; exact wpAny_pure q⟩
  | v :: vs, ds, e, ht => by
    cases e with
    | @cons _ d _ ds h t =>
      obtain ⟨fs, f1, f2⟩ := firsts_tup vs ds t fun d hd => ht d (List.mem_cons_of_mem _ hd)
      obtain ⟨xs, rfl⟩ := ht d List.mem_cons_self
      obtain ⟨as, rd⟩ := h
      cases rd with
      | @tuple a o its n _ _ ho hc hd hr =>
        refine ⟨its[0]? :: fs, fun r z => ?_, fun Q q => ?_⟩
        · obtain ⟨z1, z2⟩ := List.cons.inj z
          cases z1
          have e0 : its.toList = [] := by
            exact readsAll_nil hr
          have e1 : its[0]? = none := by rw [← Array.getElem?_toList, e0]; rfl
          exact ⟨fs, by rw [e1]⟩
        · rw [List.mapM_cons]
          refine wpAny_bind ?_
          rw [PySem.W.kas_first_eq]
          refine wpAny_bind (PySem.W.Looks.here (show PySem.W.Looks M s.heap (typeOf (.ref a)) o.cls from (PySem.W.Looks.ld ho).andThen .now) ?_)
          rw [hc, if_neg (by first | decide | simp)]
          refine wpAny_bind (listItems_at ho hd (wpAny_pure ?_))
          exact wpAny_bind (f2 _ (wpAny_pure q))

theorem kind_tup0 {M : Model} {vs : List Value} {ds : List PyData} {Q : SortKind → Shared → Prop} (e : EachIs (fun v d => ∃ as, Reads s.heap v d as) vs (.tuple [] :: ds)) (ht : ∀ d ∈ PyData.tuple [] :: ds, ∃ xs, d = PyData.tuple xs)
    (q : Q oneType' s) : wpAny M A (keyKind' vs.toArray) Q E s := by
  obtain ⟨fs, f1, f2⟩ := firsts_tup (M := M) (A := A) (E := E) vs _ e ht
  obtain ⟨g, rfl⟩ := f1 ds rfl
  obtain ⟨v0, ws, rfl⟩ : ∃ v0 ws, vs = v0 :: ws := by
    cases e with
    | @cons a _ as _ _ _ => exact ⟨_, _, rfl⟩
  rw [kat_kind_eq, List.mapM_toArray, map_eq_pure_bind]
  refine wpAny_bind (wpAny_bind (f2 _ (wpAny_pure ?_)))
  rw [if_neg (by simp), if_neg (by simp)]
  rw [oneTypeOnly'_eq, List.mapM_toArray, map_eq_pure_bind]
  have hT : ∀ v ∈ v0 :: ws, PySem.W.Looks M s.heap (typeOf v) (Value.type "tuple") := fun v hv => by
    obtain ⟨d, hd, as, r⟩ := e.left v hv
    obtain ⟨xs, rfl⟩ := ht d hd
    exact PySem.W.looks_reads r
  refine wpAny_bind (wpAny_bind (wpAny_bind (PySem.W.kas_mapM (r := Value.type "tuple") _ (fun v hv Q' hq => (hT v hv).here hq) (wpAny_pure ?_))))
  have h0 : (List.map (fun _ => Value.type "tuple") (v0 :: ws)).toArray[0]? = some (Value.type "tuple") := by simp
  have h1 : ((List.map (fun _ => Value.type "tuple") (v0 :: ws)).toArray.all fun x => x == Value.type "tuple") = true := by
    simp only [List.all_toArray, List.all_map, List.all_eq_true]
    intro _ _
    exact beq_self_eq_true _
  rw [h0]
  simp only [h1, if_true]
  exact wpAny_pure (wpAny_pure q)
theorem call_tuple_lt {Q : Value → Shared → Prop} {l b : Addr} {xs ys : Array Value} {e r : Nat → Bool} (hl : s.heap.IsTuple l xs) (hb : s.heap.IsTuple b ys)
    (he : ∀ j (h1 : j < xs.size) (h2 : j < ys.size), SeqAt.EqAt A.in1 s xs[j] ys[j] (e j)) (hr : ∀ j (h1 : j < xs.size) (h2 : j < ys.size), e j = false → SeqAt.RcLt A.in1 s xs[j] ys[j] (r j))
    (h : Q (.bool (SeqAt.firstLt e r (decide (xs.size < ys.size)) (List.range (min xs.size ys.size)))) s) : wpAny (model prog w) A (call (.builtin "tuple.__lt__") [.ref l, .ref b]) Q E s := by
  obtain ⟨⟨c1, d1, dt1, sl1⟩, o1, k1, n1, z1⟩ := id hl
  obtain ⟨⟨c2, d2, dt2, sl2⟩, o2, k2, n2, z2⟩ := id hb
  simp only at k1 z1 k2 z2
  subst k1 z1 k2 z2
  exact call_meets F.slot_tuple_lt ⟨_, o1, rfl⟩ F.entry_tuple_lt (F.args_tuple_lt_2 _ _) (SeqAt.tuple_ltAt l b xs ys n1 n2 d1 d2 sl1 sl2 e r) ⟨o1, o2, he, hr, h⟩
theorem oneLt_tup {xs ys : List PyData} {a b : Value} {as bs : List Addr} {Q : Bool → Shared → Prop} (ra : Reads s.heap a (.tuple xs) as) (rb : Reads s.heap b (.tuple ys) bs) (hal : PySem.W.alikeAll xs ys = true)
    (hu : A.units + min (PyData.tuple xs).depth (PyData.tuple ys).depth < cLine) (hq : Q (dataLt (.tuple xs) (.tuple ys)) s) : wpAny (model prog w) A (oneLt' true a b) Q E s := by
  cases ra with
  | @tuple l o vs n _ as1 h1 h2 h3 h4 =>
    cases rb with
    | @tuple l' o' vs' n' _ bs1 k1 k2 k3 k4 =>
      have n1 : vs.size = xs.length := by simpa using SeqAt.ReadsAll.length _ _ _ h4
      have n2 : vs'.size = ys.length := by simpa using SeqAt.ReadsAll.length _ _ _ k4
      rw [PySem.W.dataLt_tuple, ← PySem.W.firstLt_toks xs ys hal, ← n1, ← n2] at hq
      rw [oneLt'_eq]
      simp only [if_true]
      refine wpAny_bind (wpAny_cRoomFor (SeqAt.room_here hu) ?_)
      refine wpAny_bind (wpAny_callSpecialIfBound?_slot (T := "tuple") ⟨_, h1, h2⟩ F.slot_tuple_lt (call_tuple_lt (e := SeqAt.pairEq xs ys) (r := fun j => dataLt (xs.getD j .none) (ys.getD j .none)) ⟨_, h1, h2, _, h3⟩ ⟨_, k1, k2, _, k3⟩ (fun j j1 j2 => ?_) (fun j j1 j2 hj => ?_) ?_))
      · have z := PySem.W.eqAt_alikeAll xs ys A.in1 s vs.toList vs'.toList _ _ h4 k4 hal (SeqAt.room_in hu) j (by simpa using j1) (by simpa using j2)
        simpa using z
      · have z := PySem.W.rcLt_alikeAll xs ys A.in1 s vs.toList vs'.toList _ _ h4 k4 hal (SeqAt.room_in hu) j (by simpa using j1) (by simpa using j2) hj
        simpa using z
      · exact wpAny_truthy_bool hq
theorem sorts_tup0 {vs : List Value} {ds : List PyData} (e : EachIs (fun v d => ∃ as, Reads s.heap v d as) vs (.tuple [] :: ds)) (hal : AllAlike (.tuple [] :: ds)) (ht : ∀ d ∈ PyData.tuple [] :: ds, ∃ xs, d = PyData.tuple xs)
    (hu : ∀ d ∈ PyData.tuple [] :: ds, A.units + d.depth < cLine) : SortsAt prog w A s (dataKind s.heap (.tuple [] :: ds)) vs := by
  refine ⟨fun v hv => ?_, oneType', ?_, fun h2 E Q hq => kind_tup0 e ht hq⟩
  · obtain ⟨d, hd, as, r⟩ := e.left v hv
    exact ⟨_, PySem.W.dataKind_some hal hd r⟩
  · intro E x y a b Q ha hb hq
    obtain ⟨d, as, hd, ra, rfl⟩ := PySem.W.dataKind_inv ha
    obtain ⟨d', as', hd', rb, rfl⟩ := PySem.W.dataKind_inv hb
    have h1 := hal d hd d' hd'
    have h2 : A.units + min d.depth d'.depth < cLine := Nat.lt_of_le_of_lt (Nat.add_le_add_left (Nat.min_le_left _ _) _) (hu d hd)
    obtain ⟨xs, rfl⟩ := ht d hd
    obtain ⟨ys, rfl⟩ := ht d' hd'
    rw [keyLt'_oneType]
    exact oneLt_tup ra rb (by simpa [alike] using h1) h2 hq
end
end HF


end
section
set_option Elab.async false
set_option linter.all false
set_option maxRecDepth 100000
set_option autoImplicit false
/-! HF77: sorted(list, key=def), keys tuples, the first one (). -/
namespace HF
open PySem PySem.Spec PyProof.Rows L2 PySem.Calls
open PySem.W (SortsAt dataKind AllAlike alike dataLt EachIs keyToks keyToksAll dataLe)
section
variable {X : Cx}
abbrev inX (X : Cx) : Cx := { X with A := X.A.in1.in1, xe := fun _ _ => False }
theorem inv_in {pins : List (Addr × Obj)} {σ : L2.St} {H : Hp} {s : Shared} (I : Inv X pins σ H s) : Inv (inX X) pins σ H s :=
  ⟨⟨I.ok.mod, I.ok.kind, I.ok.glob, I.ok.blt, I.ok.above, I.ok.inj, I.ok.has, I.ok.cab, I.ok.hd, I.ok.frames, I.ok.stk, I.ok.exf, I.ok.bs, I.ok.bsz, I.ok.noex, I.ok.exfs, I.ok.funs, I.ok.frf⟩,
    I.os, I.bare, I.base, I.loc, I.cell, I.free, I.freeC, I.pin, I.hok, I.len⟩
theorem turnK {f : Addr} {fd : FuncData} {ps : List Str} {sp : Sp} {dvs : List V} {ds : List Value} {j : Nat} {pins : List (Addr × Obj)} {σ : L2.St} {H : Hp} {s : Shared} {Q : VK} {us : List Value} {vs : List V}
    (F : FnOk X.prog X.w X.K X.mg X.base (L2.CX X.prog X.w) j f fd ps sp) (hr : Room (j + 2) X.A) (hb : Binds X.K fd ps ds) (hd : Vals dvs ds) (I : Inv X pins σ H s) (r : Vals vs us) (h : sp (vs ++ dvs) H Q (WE W0 σ)) :
    wpAny (model X.prog X.w) X.A.in1.in1 (call (.ref f) us) (fun u s' => CE X.stack X.prog X.w H s Q u s') (fun _ _ => False) s := by
  have r2 := r.append hd
  have hl : (us ++ ds).length = ps.length := r2.length.symm.trans (F.len _ _ _ _ h)
  have go := F.run X.A.in1.in1 X.stack s H ⟨us, []⟩ (us ++ ds) (vs ++ dvs) Q (WE W0 σ) hr.in1.in1 I.env0.in1.in1 (hb s us I.kIn hl) r2 h
  refine wpAny_call (codeAny_mono go fun z s' hq => ?_)
  cases z with
  | error e => exact passAt (X := inX X) (W := W0) (fun u s' ⟨a, B, sI, pins, σ, H, cls, d, e, I, nb, up, sky, na, os, ag, w⟩ => w) σ pins H s e s' (inv_in I) hq
  | ok fl =>
    cases fl with
    | ret u => exact hq
    | next => exact hq.elim
    | brk => exact hq.elim
    | cont => exact hq.elim
theorem get_freed (h : Heap) (k : Addr) : (h.update k fun o => { o with data := .freed }).get? k = none := by
  obtain ⟨objs, l⟩ := h
  unfold Heap.update Heap.get?
  simp only [Array.getElem?_modify, if_true]
  cases objs[k]? with
  | none => rfl
  | some o => obtain ⟨c, d, t, sl⟩ := o; rfl
theorem un_off {fs ex : List Addr} {H H1 H2 : Hp} {h h1 h2 : Heap} (u : Un fs ex H H1 h h1) (k : ∀ b o o', h.get? b = some o → h1.get? b = some o' → h2.get? b = some o') (n : ∀ b o, h.get? b = some o → H1 b = none → H2 b = none) (m : ∀ b u, H1 b = some u → H2 b = some u) : Un fs ex H H2 h h2 where
  keep := fun b o q n0 hb hx => k b o o q (u.keep b o q n0 hb hx)
  slot := fun b o q n0 hb hx => by
    obtain ⟨sl, e⟩ := u.slot b o q n0 hb hx
    exact ⟨sl, k b o _ q e⟩
  free := fun b o q n0 hx => n b o q (u.free b o q n0 hx)
  there := fun b o q hx => by
    obtain ⟨o', e⟩ := u.there b o q hx
    exact ⟨o', k b o _ q e⟩
  tups := fun b xs q => m _ _ (u.tups b xs q)
  frzs := fun b ob xs q => m _ _ (u.frzs b ob xs q)
  tbls := fun b ps q => by
    obtain ⟨mo, e⟩ := u.tbls b ps q
    exact ⟨mo, m _ _ e⟩
end
noncomputable def keysOf (φ : Fn) (h : List PO) : List PV → Option (List PyData)
  | [] => some []
  | x :: xs => match φ [x] h with
    | .ok (.v p) h' => open Classical in if h' = h then (p.toD).bind fun d => (keysOf φ h xs).map (d :: ·) else none
    | _ => none
def tup0 : PyData → Bool
  | .tuple _ => true
  | _ => false
def sortOk0 (ds : List PyData) : Bool := match ds with
  | .tuple [] :: r => (PyData.tuple [] :: r).all (fun d => (PyData.tuple [] :: r).all (alike d)) && r.all tup0 && r.all fun d => decide (d.depth ≤ 60)
  | _ => false
theorem sortOk0_of {ds : List PyData} (h : sortOk0 ds = true) : ∃ r, ds = .tuple [] :: r ∧ AllAlike ds ∧ (∀ d ∈ ds, ∃ xs, d = PyData.tuple xs) ∧ ∀ d ∈ ds, d.depth ≤ 60 := by
  unfold sortOk0 at h
  split at h
  · rename_i r
    simp only [Bool.and_eq_true, List.all_eq_true, decide_eq_true_eq] at h
    obtain ⟨⟨h1, h2⟩, h3⟩ := h
    refine ⟨r, rfl, fun d hd d' hd' => h1 d hd d' hd', fun d hd => ?_, fun d hd => ?_⟩
    · rcases List.mem_cons.mp hd with rfl | hd
      · exact ⟨[], rfl⟩
      · have := h2 d hd
        unfold tup0 at this
        split at this
        · exact ⟨_, rfl⟩
        · cases this
    · rcases List.mem_cons.mp hd with rfl | hd
      · simp [PyData.depth, PyData.depthAll]
      · exact h3 d hd
  · cases h
theorem keysOf_at {φ : Fn} {h : List PO} : ∀ {xs : List PV} {ds : List PyData}, keysOf φ h xs = some ds → xs.length = ds.length ∧ ∀ (i : Nat) (x : PV), xs[i]? = some x → ∃ p d, φ [x] h = .ok (.v p) h ∧ p.toD = some d ∧ ds[i]? = some d
  | [], ds, e => by
    simp only [keysOf, Option.some.injEq] at e
    subst e
    exact ⟨rfl, fun i x z => by simp at z⟩
  | x :: xs, ds, e => by
    simp only [keysOf] at e
    split at e
    · rename_i p h' ep
      split at e
      · rename_i eh
        subst eh
        cases e1 : p.toD with
        | none => rw [e1] at e; simp at e
        | some d =>
          cases e2 : keysOf φ h' xs with
          | none => rw [e1, e2] at e; simp at e
          | some es =>
            rw [e1, e2] at e
            simp at e
            subst e
            obtain ⟨l1, l2⟩ := keysOf_at e2
            refine ⟨by simp [l1], fun i y z => ?_⟩
            cases i with
            | zero => simp at z; subst z; exact ⟨p, d, ep, e1, rfl⟩
            | succ i => simpa using l2 i y (by simpa using z)
      · cases e
    · cases e
end HF


end
section
set_option Elab.async false
set_option linter.all false
set_option maxRecDepth 100000
set_option autoImplicit false
/-! HF78: sorted(list, key=def): the call. -/
namespace HF
open PySem PySem.Spec PyProof.Rows L2 PySem.Calls
open PySem.W (SortsAt dataKind AllAlike alike dataLt EachIs keyToks keyToksAll dataLe sortingHeap copyHeap)
section
variable {X : Cx}
def TurnSt (X : Cx) (T : List NdefX.NTab) (G0 : Gh) (H0 : Hp) (hh : List PO) (s0 : Shared) (a kS : Addr) (e1 : Nat) (pins : List (Addr × Obj)) (σ : L2.St) (kz : List PyData) (j : Nat) (s' : Shared) : Prop :=
  ∃ (Hj : Hp) (Gj : Gh) (kA : Array Value) (e : Nat), Inv X ((a, seqObj "list" #[] e1) :: (kS, seqObj "list" kA e) :: pins) σ Hj s' ∧ Un (frs X.stack) [] H0 Hj s0.heap s'.heap ∧ HpRep X.K Gj hh Hj ∧ Post T G0 H0 Gj Hj ∧
    EachIs (fun v d => ∃ u p, RelV u v ∧ RepV X.K Gj Hj p u ∧ p.toD = some d) kA.toList (kz.take j)
theorem inv_put {T : List NdefX.NTab} {pins : List (Addr × Obj)} {σ : L2.St} {H0 H : Hp} {s0 s : Shared} {a kS : Addr} {oa ok ok' : Obj} {h' : Heap} (I0 : Inv X pins σ H0 s0) (ha : s0.heap.objs.size ≤ a) (hk : s0.heap.objs.size ≤ kS) (hne : a ≠ kS)
    (I : Inv X ((a, oa) :: (kS, ok) :: pins) σ H s) (k : ∀ b o, b ≠ kS → s.heap.get? b = some o → h'.get? b = some o) (e : h'.get? kS = some ok') (hc : ∀ v, ok'.data ≠ .cell v) :
    Inv X ((a, oa) :: (kS, ok') :: pins) σ H { s with heap := h' } := by
  have pk := I.pin (kS, ok) (List.mem_append_right _ (.tail _ (.head _)))
  have I1 : Inv X ((a, oa) :: pins) σ H s := I.pins_of fun p hp => I.pin p (List.mem_append_right _ (by
    rcases List.mem_cons.mp hp with rfl | hp
    · exact .head _
    · exact .tail _ (.tail _ hp)))
  have I2 : Inv X ((a, oa) :: pins) σ H { s with heap := h', toks := s.toks } := I1.turned (it := kS) k pk.2.1 pk.2.2.1 (.inr (Nat.le_trans I0.sz hk)) (fun x c z => by
      obtain ⟨v, o, ho, _⟩ := I0.cell x c z
      exact Nat.ne_of_lt (Nat.lt_of_lt_of_le (Heap.lt_size ho) hk)) (fun p hp => by
      have old : ∀ q ∈ X.pn ++ pins, q.1 ≠ kS := fun q hq => Nat.ne_of_lt (Nat.lt_of_lt_of_le (Heap.lt_size (I0.pin q hq).1) hk)
      rcases List.mem_append.mp hp with z | z
      · exact old p (List.mem_append_left _ z)
      · rcases List.mem_cons.mp z with rfl | z
        · exact hne
        · exact old p (List.mem_append_right _ z))
  exact I2.pins_of fun p hp => by
    rcases List.mem_cons.mp hp with rfl | hp
    · exact I2.pin _ (List.mem_append_right _ (.head _))
    · rcases List.mem_cons.mp hp with rfl | hp
      · exact ⟨e, pk.2.1, pk.2.2.1, pk.2.2.2.1, hc⟩
      · exact I2.pin p (List.mem_append_right _ (.tail _ hp))
def rSortK (T : List NdefX.NTab) (K : PySem.W.Frag) (φ : Fn) (fa : Addr) : List V → List V → Hp → VK → Prop := fun vs zs H Q => ∃ (a : Addr) (us : List V) (xs : List PV) (G : Gh) (hh : List PO) (kz : List PyData),
  vs = [.ref a] ∧ zs = [.ref fa] ∧ SqL K H a us ∧ RepVs K G H xs us ∧ HpRep K G hh H ∧ TabsOk T G H ∧ keysOf φ hh xs = some kz ∧ sortOk0 kz = true ∧
    ∀ G' H' us' p, Post T G H G' H' → HpRep K G' hh H' → RepVs K G' H' (srtD xs kz) us' → us'.length ≤ sizeLine → H' p = none → Q (.ref p) (upd H' p (.lst us'))
theorem each_app {α β : Type} {R : α → β → Prop} : ∀ {as : List α} {bs : List β} {a : α} {b : β}, EachIs R as bs → R a b → EachIs R (as ++ [a]) (bs ++ [b])
  | _, _, _, _, .nil, h => .cons h .nil
  | _, _, _, _, .cons x t, h => .cons x (each_app t h)
theorem each_vals {K : PySem.W.Frag} {G : Gh} {H : Hp} : ∀ {us : List V} {xs : List PV} {its : List Value} {kz : List PyData}, RepVs K G H xs us → Vals us its → xs.length = kz.length →
    EachIs (fun v (b : PV × PyData) => ∃ u, RelV u v ∧ RepV K G H b.1 u) its (xs.zip kz)
  | us, [], its, kz, r, v, l => by
    rw [RepVs.nil_iff.mp r] at v
    cases v
    exact .nil
  | us, x :: xs, its, kz, r, v, l => by
    obtain ⟨u, ws, rfl, r1, r2⟩ := RepVs.cons_iff.mp r
    cases kz with
    | nil => simp at l
    | cons k kz =>
      cases v with
      | cons v1 v2 => exact .cons ⟨u, v1, r1⟩ (each_vals r2 v2 (by simpa using l))
theorem call_sortK {T : List NdefX.NTab} {φ : Fn} {fa : Addr} {fd : FuncData} {ps : List Str} {j : Nat} (F : FnOk X.prog X.w X.K X.mg X.base (L2.CX X.prog X.w) j fa fd ps (spOf T X.K X.mg φ)) (hr : Room (j + 2) X.A) (hb : Binds X.K fd ps [])
    (hu : X.A.units + 65 < cLine) : CallRK X (.builtin "sorted") [Str.ofString "key"] (rSortK T X.K φ fa) := by
  intro pins s σ H xs0 zs0 us0 ws0 Q I r rz hq
  obtain ⟨l, us, xs, G, hh, kz, rfl, rfl, hsq, rx, hp, ht, hk, hso, q⟩ := hq
  obtain ⟨vs, rv, pl, hz⟩ := I.list hsq
  rw [Vals.ref1 r, Vals.ref1 rz]
  show wpAny (model X.prog X.w) X.A (call (.builtin "sorted") [.ref l] [(Str.ofString "key", .ref fa)]) _ _ _
  have lv := rv.length
  have lx := rx.length
  obtain ⟨lk, kat⟩ := keysOf_at hk
  obtain ⟨r0, ekz, hal, htu, hdp⟩ := sortOk0_of hso
  have hL : vs.length ≤ sizeLine := by omega
  refine PySem.W.sorted_of_sort pl.isList hL (ksk_s1 _ _) (fun _ => ksk_l1 _ _) fun E' => ?_
  rw [ksk_t1]
  generalize ea : s.heap.objs.size + 1 = a
  have hca : (copyHeap s.heap vs).get? a = some (seqObj "list" vs.toArray 0) := by rw [← ea]; exact PySem.W.copyHeap_at s.heap vs
  obtain ⟨e1, ho1⟩ : ∃ e1, ((copyHeap s.heap vs).update a (Obj.mapSeq fun _ => (#[] : Array Value))).get? a = some (seqObj "list" #[] e1) := ⟨_, get?_update_seq hca fun _ => #[]⟩
  have hsz : ((copyHeap s.heap vs).update a (Obj.mapSeq fun _ => (#[] : Array Value))).objs.size = (copyHeap s.heap vs).objs.size := Heap.size_update ..
  have hla : a < (copyHeap s.heap vs).objs.size := Heap.lt_size hca
  unfold ksk_tree
  refine wpAny_bind (listItems_at hca rfl ?_)
  refine wpAny_bind (listUpdate_at hca rfl ?_ (by rw [List.size_toArray]; exact hL) (Nat.zero_le _))
  refine wpAny_bind (seqEpoch_at ho1 rfl ?_)
  refine wpAny_bind (wpAny_newTuple ?_ (by show vs.length ≤ _; exact hL))
  refine wpAny_bind (wpAny_newList ?_ (Nat.zero_le _))
  refine wpAny_holding ?_
  generalize ek : (((copyHeap s.heap vs).update a (Obj.mapSeq fun _ => (#[] : Array Value))).push (seqObj "tuple" vs.toArray 0)).objs.size = kS
  have hks : kS = (copyHeap s.heap vs).objs.size + 1 := by rw [← ek, size_push', hsz]
  have ha0 : s.heap.objs.size ≤ a := by omega
  have hk0 : s.heap.objs.size ≤ kS := by omega
  have hne : a ≠ kS := by omega
  generalize eh : (((copyHeap s.heap vs).update a (Obj.mapSeq fun _ => (#[] : Array Value))).push (seqObj "tuple" vs.toArray 0)).push (seqObj "list" #[] 0) = h1
  have k1 : ∀ b o, s.heap.get? b = some o → h1.get? b = some o := fun b o z => by
    have := PySem.W.sorting_copy_old (vs := vs) z
    rw [ea] at this
    rw [← eh]; exact this
  have g1 : h1.get? kS = some (seqObj "list" #[] 0) := by rw [← eh, ← ek]; exact Heap.get?_push_size _ rfl
  have g2 : h1.get? a = some (seqObj "list" #[] e1) := by rw [← eh]; exact Heap.get?_push_of_some _ (Heap.get?_push_of_some _ ho1)
  have lst0 : ∀ (x : Array Value) (n : Nat) v, (seqObj "list" x n).data ≠ .cell v := fun x n v z => by cases z
  have I1 : Inv X ((a, seqObj "list" #[] e1) :: (kS, seqObj "list" #[] 0) :: pins) σ H { s with heap := h1, toks := s.toks } := (I.kept k1).pins_of fun p hp => by
    rcases List.mem_cons.mp hp with rfl | hp
    · exact ⟨g2, I.hok.fresh ha0, Ne.symm (Nat.ne_of_lt (Nat.lt_of_lt_of_le I.lt ha0)), I.nofs ha0, lst0 _ _⟩
    · rcases List.mem_cons.mp hp with rfl | hp
      · exact ⟨g1, I.hok.fresh hk0, Ne.symm (Nat.ne_of_lt (Nat.lt_of_lt_of_le I.lt hk0)), I.nofs hk0, lst0 _ _⟩
      · exact (I.kept (t' := s.toks) k1).pin p (List.mem_append_right _ hp)
  have T0 : TurnSt X T G H hh s a kS e1 pins σ kz 0 { s with heap := h1 } := ⟨H, G, #[], 0, I1, Un.kept k1, hp, Post.refl _ _ _, by rw [List.take_zero]; exact .nil⟩
  unfold ksk_rest
  refine wpAny_bind (wpAny_rule ?_)
  first
    | rw [List.forIn_toArray]
    | (rw [← Array.forIn_toList]; simp only [List.toList_toArray])
    | rw [← Array.forIn_toList]
  have lkz : kz.length = vs.length := by omega
  refine wpAny_bind (ksk_fold (TurnSt X T G H hh s a kS e1 pins σ kz) vs 0 _ T0 ?step ?done)
  case step =>
    rintro i x s' hx ⟨Hj, Gj, kA, e, Ij, uj, hj, pj, ej⟩
    simp only [Nat.zero_add] at ej ⊢
    have hi : i < vs.length := (List.getElem?_eq_some_iff.mp hx).1
    obtain ⟨y, hy⟩ : ∃ y, xs[i]? = some y := ⟨_, List.getElem?_eq_getElem (by omega)⟩
    obtain ⟨p, d, e1', e2', e3'⟩ := kat i y hy
    obtain ⟨u, hu1, hu2⟩ := rx.get hy
    have hu3 : RelV u x := by
      obtain ⟨x', h1, h2⟩ := rv.get hu1
      rw [hx] at h1; cases h1; exact h2
    have lkA : kA.size = i := by
      have := ej.length
      rw [Array.length_toList, List.length_take] at this
      omega
    have hsp : spOf T X.K X.mg φ ([u] ++ []) Hj (fun v H' => ∃ G', Post T Gj Hj G' H' ∧ HpRep X.K G' hh H' ∧ RepV X.K G' H' p v) (WE W0 σ) := by
      refine ⟨Gj, hh, [y], hj, pj.tabs ht, RepVs.cons (RepV.mono pj.ext _ _ hu2) RepVs.nil, ?_⟩
      rw [e1']
      exact fun G' H' u' p1 p2 p3 => ⟨G', p1, p2, p3⟩
    refine wpAny_bind (wpAny_attempt (wpAny_mono (turnK F hr hb .nil Ij (.cons hu3 .nil) hsp) (fun v s'' ce => ?_) fun _ _ hF => hF.elim))
    obtain ⟨uv, H', os, bare, un, hok, rl, G', pst, hpr, rvv⟩ := ce
    try dsimp only
    have I2 := Ij.call' (ch := []) os un hok bare (fun _ z => nomatch z)
    have nk := (I2.pin (kS, seqObj "list" kA e) (List.mem_append_right _ (.tail _ (.head _)))).1
    have s1 := Heap.SameBut.update s''.heap kS (Obj.mapSeq (·.push v))
    obtain ⟨c2, hc2⟩ : ∃ c2, (s''.heap.update kS (Obj.mapSeq (·.push v))).get? kS = some (seqObj "list" (kA.push v) c2) := ⟨_, get?_update_seq nk (·.push v)⟩
    have I3 := inv_put (T := T) I ha0 hk0 hne I2 (fun b o hb z => (s1.2 b hb).trans z) hc2 (lst0 _ _)
    refine wpAny_bind (listUpdate_at nk rfl ?_ (by omega) (Nat.le_trans (Nat.le_of_eq (Array.size_push ..)) (by omega)))
    refine wpAny_pure ⟨rfl, H', G', kA.push v, c2, I3, ?_, hpr, pj.trans pst, ?_⟩
    · exact un_off (uj.trans un) (fun b o o' z1 z2 => (s1.2 b (Nat.ne_of_lt (Nat.lt_of_lt_of_le (Heap.lt_size z1) hk0))).trans z2) (fun _ _ _ z => z) fun _ _ z => z
    · have ek2 : kz.take (i + 1) = kz.take i ++ [d] := by rw [List.take_add_one, e3']; rfl
      have ea2 : (kA.push v).toList = kA.toList ++ [v] := by simp
      rw [ea2, ek2]
      refine each_app (ej.mono fun v' d' ⟨u', p', z1, z2, z3⟩ => ⟨u', p', z1, RepV.mono pst.ext _ _ z2, z3⟩) ⟨uv, p, rl, rvv, e2'⟩
  case done =>
    rintro s' ⟨Hj, Gj, kA, e, Ij, uj, hj, pj, ej⟩
    have e3 : kz.take (0 + vs.length) = kz := List.take_of_length_le (by omega)
    rw [e3] at ej
    have pk := Ij.pin (kS, seqObj "list" kA e) (List.mem_append_right _ (.tail _ (.head _)))
    have pa := Ij.pin (a, seqObj "list" #[] e1) (List.mem_append_right _ (.head _))
    have er : EachIs (fun v d => ∃ as, Reads s'.heap v d as) kA.toList kz := ej.mono fun v d ⟨u, p, z1, z2, z3⟩ => Dp.reads Ij d u v (toD_rep p d u z3 z2) z1
    have hsize : kA.size = vs.length := by
      have := er.length
      rw [Array.length_toList] at this
      omega
    have S : SortsAt X.prog X.w X.A.in1.in1 s' (dataKind s'.heap kz) kA.toList := by
      rw [ekz] at er hal htu hdp ⊢
      refine sorts_tup0 er hal htu fun d hd => ?_
      have := hdp d hd
      show X.A.units + 1 + 1 + d.depth < cLine
      omega
    try dsimp only
    refine wpAny_bind (listItems_at pk.1 rfl ?_)
    have gf := get_freed s'.heap kS
    have hne' : ∀ b, b ≠ kS → (s'.heap.update kS fun o => { o with data := .freed }).get? b = s'.heap.get? b := fun b hb => Heap.get?_update_ne _ _ _ _ hb
    refine PySem.W.keyH_end (κ := dataKind s'.heap kz) (h₁ := s'.heap.update kS fun o => { o with data := .freed }) (fun b o hb z => ?_) gf pk.1 pa.1 (Ne.symm hne) S hsize hL fun h3 tk3 c k3 n3 => ⟨rfl, ?_⟩
    · by_cases hbk : b = kS
      · subst hbk; rw [gf] at z; cases z
      · rw [hne' b hbk] at z; exact z
    · have k4 : ∀ b o, b ≠ a → b ≠ kS → s'.heap.get? b = some o → h3.get? b = some o := fun b o h1 h2 z => k3 b o h1 (by rw [hne' b h2]; exact z)
      have hkz0 : a = kS → False := hne
      have hkeys := PySem.W.each_keys hal er
      have ezip : (xs.zip kz).map (·.2) = kz := List.map_snd_zip (by omega)
      have hkz : EachIs (fun v d => (dataKind s'.heap kz).keyOf v = some (keyToks d)) kA.toList ((xs.zip kz).map fun b : PV × PyData => b.2) := by rw [ezip]; exact hkeys
      have eo := PySem.W.sortVals_each (κ := dataKind s'.heap kz) (rev := false) (bs := xs.zip kz) (fun b => keyToks b.2) (each_vals (RepVs.mono pj.ext _ _ rx) rv lk) (PySem.W.each_of_map (fun b : PV × PyData => b.2) hkz)
      obtain ⟨zs, z1, z2, z3⟩ := each_back (R := fun u p => RepV X.K Gj Hj p u) eo
      have rz' := zs_rep z3
      rw [z2] at rz'
      have hlen : (zs.map (·.1)).length ≤ sizeLine := by
        rw [z1.length, PySem.W.sortVals_length false (by rw [Array.length_toList]; exact hsize)]
        exact hL
      have Ha : Hj a = none := pa.2.1
      have Hk : Hj kS = none := pk.2.1
      have nd : ∀ b u, Hj b = some u → b ≠ a ∧ b ≠ kS := fun b u z => ⟨(fun y => by rw [y, Ha] at z; cases z), (fun y => by rw [y, Hk] at z; cases z)⟩
      have hup : ∀ b u, Hj b = some u → upd Hj a (HO.lst (zs.map (·.1))) b = some u := fun b u z => by rw [L2.upd_ne (nd b u z).1]; exact z
      have hok3 : HOk X.prog X.w (upd Hj a (.lst (zs.map (·.1)))) h3 := fun b u z => by
        by_cases hb : b = a
        · subst hb
          rw [upd_same] at z
          cases z
          exact ⟨hlen, _, _, z1, n3⟩
        · rw [L2.upd_ne hb] at z
          refine (Ij.hok b u z).stay (fun b' o hb' y => ?_) (fun b' y => hup _ _ y) fun b' ys y => hup _ _ y
          rcases hb' with rfl | hb'
          · exact k4 _ _ (nd _ _ z).1 (nd _ _ z).2 y
          · exact k4 _ _ (nd _ _ hb').1 (nd _ _ hb').2 y
      have un3 : Un (frs X.stack) [] H (upd Hj a (.lst (zs.map (·.1)))) s.heap h3 := un_off uj (fun b o o' y1 y2 => k4 b o' (Nat.ne_of_lt (Nat.lt_of_lt_of_le (Heap.lt_size y1) ha0)) (Nat.ne_of_lt (Nat.lt_of_lt_of_le (Heap.lt_size y1) hk0)) y2) (fun b o y1 y2 => by
        rw [L2.upd_ne (Nat.ne_of_lt (Nat.lt_of_lt_of_le (Heap.lt_size y1) ha0))]; exact y2) hup
      refine ⟨.ref a, _, I.call' (ch := []) (s' := { s' with heap := h3, toks := tk3 }) (Ij.os.trans I.os.symm) un3 hok3 Ij.bare (fun _ z => nomatch z), rfl, q Gj Hj _ a pj hj rz' hlen Ha⟩

noncomputable def eSortK (φ : Fn) (f : Sm EV) : Sm EV := fun M => (f M).bnd fun x M1 => match asLst M1 x with
  | some xs => match keysOf φ M1.h xs with
    | some ds => if sortOk0 ds = true then .ok (.fr (.lst (srtD xs ds))) M1 else .bad
    | none => .bad
  | none => .bad
variable {E : Ent} {W : WX} {N : List Str} {sc : Scope} {fs : Str → Bool} {k : Nat} {Z : Wd}
theorem fe_sortK (A : Amb Z X W N sc fs k) (hT : E.T = Z.T) (hm : Z.mg ("sorted" : Str) = none) {j : Nat} {x : Str} {φ : Fn} (hK : Known Z j x [] φ) (hj : j + 2 ≤ k) {e : Expr} {f : Sm EV} {p pos p2 kp : Pos} (he : FE X E W e f)
    (hg : sc.names.lookup ("sorted" : Str) = some .globalImplicit := by rfl) (hgx : sc.names.lookup x = some .globalImplicit := by rfl) (hdx : (x == ("__debug__" : Str)) = false := by decide)
    (h1 : starEach [e] X.env = (false, eval e X.env) :: starEach [] X.env := by rfl) (h2 : backTo pos (starEach [e] X.env) = (false, eval e X.env) :: backTo pos (starEach [] X.env) := by rfl) (h3 : (backTo pos (starEach [e] X.env)).any (·.1) = false := by rfl) :
    FE X E W (.Call (.Name "sorted" p) [e] [⟨some "key", .Name x p2, kp⟩] pos) (eSortK φ f) := by
  obtain ⟨fa, fd, ps, dvs, dus, F, hmx, hkx, hb, hd, hr⟩ := hK.ok
  obtain ⟨s1, s2, s3, s4, s5⟩ := A.same
  have e0 := (hr E.G E.H)
  rw [RepVs.nil_iff] at e0
  subst e0
  cases hd
  rw [← s1, ← s2, ← s3, ← s4, ← s5] at F
  rw [← s3] at hkx hb
  rw [← s4] at hmx
  refine ⟨PE.weak (pe_callBK (call_sortK F (A.room.mono hj) hb A.u65) (A.gl hg) (A.no hm) PyProof.Rows.boot_sorted (pa_cons he.pe pa_nil h1) (pk_cons (pe_gfn (A.gl hgx) hmx hdx) pk_nil) (by decide) (by decide) h2 h3) ?_⟩
  rintro s H Q ⟨G, M, R, h⟩
  refine tE_one R h fun G1 M1 H1 x u V1 R1 rx h1 => ?_
  cases e1 : asLst M1 x with
  | none => rw [e1] at h1; exact h1.elim
  | some xs =>
    rw [e1] at h1
    simp only at h1
    cases e2 : keysOf φ M1.h xs with
    | none => rw [e2] at h1; exact h1.elim
    | some ds =>
      rw [e2] at h1
      simp only at h1
      split at h1
      · rename_i ok
        obtain ⟨a, us, rfl, ha, ra, za⟩ := lst_of R1 rx e1
        refine ⟨a, us, xs, G1, M1.h, ds, rfl, rfl, ha, ra, R1.hp, hT ▸ R1.post.tabs E.ok, e2, ok, fun G2 H2 us2 p2 q1 q2 q3 q4 q5 => ?_⟩
        obtain ⟨R3, V3⟩ := R1.called (hT ▸ q1) q2
        obtain ⟨V4, R4, r4⟩ := rep_newlst (H0 := H) R3 (fun a z => V1.dom a (V3.dom a z)) q3 q4 q5
        exact h1 _ _ (V3.trans V4) R4 _ r4
      · exact h1.elim
end
end HF


end
section
set_option Elab.async false
set_option linter.all false
set_option maxRecDepth 20000
set_option autoImplicit false
namespace HF
open PySem PySem.Spec PyProof.Rows L2
noncomputable def b_inner_terms : Ss := sSeq (sIf (b2 cpEq (e2 opIx (eVar 0) (eC (.int 0))) (eC (.str "name"))) (sRet (eLst aNil)) sNop) (sSeq (sIf (b2 cpEq (e2 opIx (eVar 0) (eC (.int 0))) (eC (.str "sign"))) (sRet (e1 opLst (e2 opIx (eVar 0) (eC (.int 2))))) sNop) (sRet (eLc (srcOf (e2 opIx (eVar 0) (eC (.int 2)))) (.nm 1) [1] bYes (toP (eTup (aCons (toP (eC (.int 0))) (aCons (toP (eVar 1)) aNil)))))))
noncomputable def f_inner_terms : Fn := runDef 1 2 b_inner_terms
noncomputable def b_size (r_size : Fn) : Ss := sRet (e2 opAdd (eC (.int 1)) (e1 opSum (eLc (srcOf (eCall f_inner_terms [] (aCons (toP (eVar 0)) aNil))) (.tp [1, 2]) [1, 2] bYes (toP (eCall r_size [] (aCons (toP (eVar 2)) aNil))))))
noncomputable def f_size : Nat → Fn
  | 0 => fun _ _ => .bad
  | n + 1 => runDef 1 3 (b_size (f_size n))
noncomputable def b_places_1 (r_places : Fn) : Ss := sExp (eM1 opExt (eVar 1) (eLc (srcOf (eCall r_places [] (aCons (toP (e2 opIx (eVar 3) (eC (.int 1)))) aNil))) (.nm 4) [4] bYes (toP (e2 opAdd (eTup (aCons (toP (eVar 2)) aNil)) (eVar 4)))))
noncomputable def b_places (r_places : Fn) : Ss := sSeq (sOwn 1 (eLst (aCons (toP (eTup aNil)) aNil))) (sSeq (sForIn (srcEn (eCall f_inner_terms [] (aCons (toP (eVar 0)) aNil))) (.tp [2, 3]) (b_places_1 r_places) [2, 3]) (sRet (eVar 1)))
noncomputable def f_places : Nat → Fn
  | 0 => fun _ _ => .bad
  | n + 1 => runDef 1 5 (b_places (f_places n))
noncomputable def b_at_1 : Ss := sSeq (sSet 4 (toP (eCall f_inner_terms [] (aCons (toP (eVar 0)) aNil)))) (sSeq (sIf (bNot (b3 cpLe cpLt (eC (.int 0)) (eVar 3) (e1 opLen (eVar 4)))) (sRet (eC .non)) sNop) (sSeq (sPat (.tp [5, 0]) (toP (e2 opIx (eVar 4) (eVar 3)))) (sAugAdd 2 (eVar 5))))
noncomputable def b_at : Ss := sSeq (sSet 2 (toP (eC (.int 0)))) (sSeq (sForIn (srcP (toP (eVar 1))) (.nm 3) b_at_1 [3, 4, 5]) (sRet (eTup (aCons (toP (eVar 2)) (aCons (toP (eVar 0)) aNil)))))
noncomputable def f_at : Fn := runDef 2 6 b_at
noncomputable def b_law_cell_at : Ss := sSeq (sIf (b2 cpLt (eVar 1) (e1 opLen (eVar 0))) (sRet (e2 opIx (eVar 0) (eVar 1))) sNop) (sRet (eC (.int 0)))
noncomputable def f_law_cell_at : Fn := runDef 2 2 b_law_cell_at
noncomputable def b_law_mix : Ss := sSeq (sSet 2 (toP (e2 opMod (e2 opMul (e2 opAdd (e2 opMod (eVar 0) (e2 opPow (eC (.int 10)) (eC (.int 60)))) (eC (.int 1))) (e2 opAdd (eC (.int 48271)) (e2 opMul (eC (.int 130)) (eVar 1)))) (eC (.int 2147483647))))) (sRet (e2 opMod (e2 opMul (eVar 2) (eVar 2)) (eC (.int 2147483629))))
noncomputable def f_law_mix : Fn := runDef 2 3 b_law_mix
noncomputable def b_law_words : Ss := sSeq (sSet 2 (toP (eC (.str "abcdefghijklmnopqrstuvwxyz")))) (sSeq (sSet 3 (toP (e2 opAdd (eC (.int 2)) (e2 opMod (eCall f_law_mix [] (aCons (toP (eVar 0)) (aCons (toP (eC (.int 1))) aNil))) (eC (.int 7)))))) (sSeq (sSet 4 (toP (eJoin (eC (.str "")) (eLc (srcR1 (aCons (toP (eVar 3)) aNil)) (.nm 5) [5] bYes (toP (e2 opIx (eVar 2) (e2 opMod (eCall f_law_mix [] (aCons (toP (eVar 0)) (aCons (toP (e2 opAdd (eC (.int 2)) (eVar 5))) aNil))) (eC (.int 26))))))))) (sSeq (sSet 6 (toP (e2 opMod (eCall f_law_mix [] (aCons (toP (eVar 0)) (aCons (toP (eC (.int 11))) aNil))) (eVar 3)))) (sSeq (sSet 7 (toP (e2 opMod (eCall f_law_mix [] (aCons (toP (eVar 0)) (aCons (toP (eC (.int 12))) aNil))) (eC (.int 26))))) (sRet (eLc (srcR1 (aCons (toP (eVar 1)) aNil)) (.nm 5) [5] bYes (toP (e2 opAdd (e2 opAdd (eSl (eVar 4) oNo (oSome (eVar 6))) (e2 opIx (eVar 2) (e2 opMod (e2 opAdd (eVar 7) (e2 opMul (eC (.int 7)) (eVar 5))) (eC (.int 26))))) (eSl (eVar 4) (oSome (e2 opAdd (eVar 6) (eC (.int 1)))) oNo)))))))))
noncomputable def f_law_words : Fn := runDef 2 8 b_law_words
noncomputable def b_law_free : Ss := sSeq (sIf (b2 cpEq (e2 opMod (eVar 0) (eC (.int 2))) (eC (.int 0))) (sRet (e2 opMod (e2 opDiv (eVar 0) (eC (.int 2))) (e2 opPow (eC (.int 10)) (eC (.int 60))))) sNop) (sRet (eCall f_law_mix [] (aCons (toP (e2 opDiv (eVar 0) (eC (.int 2)))) (aCons (toP (eVar 1)) aNil))))
noncomputable def f_law_free : Fn := runDef 2 2 b_law_free
noncomputable def b_law_leaf : Ss := sSeq (sIf (bAnd (b2 cpGt (eVar 1) (eC (.int 0))) (b2 cpLt (e2 opMod (eVar 0) (eC (.int 3))) (eC (.int 2)))) (sRet (eTup (aCons (toP (eC (.str "name"))) (aCons (toP (e2 opMod (e2 opDiv (eVar 0) (eC (.int 3))) (eVar 1))) aNil)))) sNop) (sRet (eTup (aCons (toP (eC (.str "sign"))) (aCons (toP (e2 opIx (eVar 2) (e2 opMod (e2 opDiv (eVar 0) (eC (.int 3))) (eC (.int 2))))) (aCons (toP (eTup aNil)) aNil)))))
noncomputable def f_law_leaf : Fn := runDef 3 3 b_law_leaf
noncomputable def b_law_term_1 (r_law_term : Fn) : Ss := sSeq (sPat (.tp [12, 6]) (toP (eCall r_law_term [] (aCons (toP (eVar 6)) (aCons (toP (eVar 1)) (aCons (toP (eVar 2)) (aCons (toP (eVar 3)) (aCons (toP (e2 opSub (eVar 4) (eC (.int 1)))) aNil)))))))) (sExp (eM1 opApp (eVar 10) (pV (toP (eVar 12)))))
noncomputable def b_law_term_2 (r_law_term : Fn) : Ss := sSeq (sSet 9 (toP (e2 opIx (eLst (aCons (toP (eC (.int 0))) (aCons (toP (eC (.int 0))) (aCons (toP (eC (.int 1))) (aCons (toP (eC (.int 2))) aNil))))) (e2 opMod (e2 opDiv (eVar 5) (e2 opIx (eLst (aCons (toP (eC (.int 12))) (aCons (toP (eC (.int 48))) (aCons (toP (eC (.int 192))) aNil)))) (eVar 11))) (eC (.int 4)))))) (sSeq (sPat (.tp [12, 6]) (toP (eCall r_law_term [] (aCons (toP (eVar 6)) (aCons (toP (e2 opAdd (eVar 1) (eVar 9))) (aCons (toP (eVar 2)) (aCons (toP (eVar 3)) (aCons (toP (e2 opSub (eVar 4) (eC (.int 1)))) aNil)))))))) (sExp (eM1 opApp (eVar 13) (pV (toP (eTup (aCons (toP (eVar 9)) (aCons (toP (eVar 12)) aNil))))))))
noncomputable def b_law_term (r_law_term : Fn) : Ss := sSeq (sIf (bOr (b2 cpEq (eVar 0) (eLst aNil)) (b2 cpEq (eVar 4) (eC (.int 0)))) (sRet (eTup (aCons (toP (eCall f_law_leaf [] (aCons (toP (eCall f_law_free [] (aCons (toP (e1 opSum (eSl (eVar 0) oNo (oSome (eC (.int 1)))))) (aCons (toP (eC (.int 0))) aNil)))) (aCons (toP (eVar 1)) (aCons (toP (eVar 2)) aNil))))) (aCons (toP (eSl (eVar 0) (oSome (eC (.int 1))) oNo)) aNil)))) sNop) (sSeq (sSet 5 (toP (eCall f_law_free [] (aCons (toP (e2 opIx (eVar 0) (eC (.int 0)))) (aCons (toP (eC (.int 1))) aNil))))) (sSeq (sSet 6 (toP (eSl (eVar 0) (oSome (eC (.int 1))) oNo))) (sSeq (sSet 7 (toP (e2 opMod (eVar 5) (eC (.int 8))))) (sSeq (sSet 5 (toP (e2 opDiv (eVar 5) (eC (.int 8))))) (sSeq (sIf (b2 cpLt (eVar 7) (eC (.int 2))) (sRet (eTup (aCons (toP (eCall f_law_leaf [] (aCons (toP (eVar 5)) (aCons (toP (eVar 1)) (aCons (toP (eVar 2)) aNil))))) (aCons (toP (eVar 6)) aNil)))) sNop) (sSeq (sIf (bAnd (b2 cpLt (eVar 7) (eC (.int 4))) (b2 cpNe (eVar 3) (eLst aNil))) (sSeq (sPat (.tp [8, 9]) (toP (e2 opIx (eVar 3) (e2 opMod (eVar 5) (e1 opLen (eVar 3)))))) (sSeq (sOwn 10 (eLst aNil)) (sSeq (sForIn (srcR1 (aCons (toP (eVar 9)) aNil)) (.nm 11) (b_law_term_1 r_law_term) [11, 12]) (sRet (eTup (aCons (toP (eTup (aCons (toP (eC (.str "hole"))) (aCons (toP (eVar 8)) (aCons (toP (e1 opTupOf (eVar 10))) aNil))))) (aCons (toP (eVar 6)) aNil))))))) sNop) (sSeq (sOwn 13 (eLst aNil)) (sSeq (sForIn (srcR1 (aCons (toP (e2 opAdd (eC (.int 1)) (e2 opMod (eVar 5) (eC (.int 3))))) aNil)) (.nm 11) (b_law_term_2 r_law_term) [9, 11, 12]) (sRet (eTup (aCons (toP (eTup (aCons (toP (eC (.str "sign"))) (aCons (toP (e2 opIx (eVar 2) (e2 opAdd (eC (.int 2)) (e2 opMod (e2 opMod (e2 opDiv (eVar 5) (eC (.int 3))) (eC (.int 4))) (eC (.int 3)))))) (aCons (toP (e1 opTupOf (eVar 13))) aNil))))) (aCons (toP (eVar 6)) aNil))))))))))))
noncomputable def f_law_term : Nat → Fn
  | 0 => fun _ _ => .bad
  | n + 1 => runDef 5 14 (b_law_term (f_law_term n))
noncomputable def b_law_drawn : Ss := sSeq (sSet 3 (toP (eCall f_law_words [] (aCons (toP (eVar 2)) (aCons (toP (eC (.int 9))) aNil))))) (sSeq (sSet 4 (toP (eLc (srcR1 (aCons (toP (eC (.int 4))) aNil)) (.nm 5) [5] bYes (toP (eTup (aCons (toP (e2 opIx (eVar 3) (e2 opAdd (eC (.int 5)) (eVar 5)))) (aCons (toP (eVar 5)) aNil))))))) (sRet (e2 opIx (eCall (f_law_term 6) [] (aCons (toP (eSl (eVar 0) oNo (oSome (eC (.int 12))))) (aCons (toP (eVar 1)) (aCons (toP (eVar 3)) (aCons (toP (eVar 4)) (aCons (toP (eC (.int 4))) aNil)))))) (eC (.int 0)))))
noncomputable def f_law_drawn : Fn := runDef 3 6 b_law_drawn
noncomputable def b_law_grown_1 : Ss := sSet 0 (toP (eTup (aCons (toP (eC (.str "sign"))) (aCons (toP (eC (.str "deep"))) (aCons (toP (eTup (aCons (toP (eTup (aCons (toP (eC (.int 0))) (aCons (toP (eVar 0)) aNil)))) aNil))) aNil)))))
noncomputable def b_law_grown : Ss := sSeq (sSet 2 (toP (eTup (aCons (toP (eC (.str "sign"))) (aCons (toP (eC (.str "a"))) (aCons (toP (eTup aNil)) aNil)))))) (sSeq (sIf (b2 cpEq (e2 opMod (eVar 1) (eC (.int 3))) (eC (.int 0))) (sSeq (sSet 3 (toP (e2 opAdd (e2 opRepN (eLst (aCons (toP (eTup (aCons (toP (eC (.int 0))) (aCons (toP (eVar 2)) aNil)))) aNil)) (e2 opMod (e2 opDiv (eVar 1) (eC (.int 3))) (eC (.int 11)))) (eLst (aCons (toP (eTup (aCons (toP (e2 opMod (e2 opDiv (eVar 1) (eC (.int 33))) (eC (.int 5)))) (aCons (toP (eVar 0)) aNil)))) aNil))))) (sRet (eTup (aCons (toP (eC (.str "sign"))) (aCons (toP (eC (.str "wide"))) (aCons (toP (e1 opTupOf (eVar 3))) aNil)))))) sNop) (sSeq (sIf (b2 cpEq (e2 opMod (eVar 1) (eC (.int 3))) (eC (.int 1))) (sForIn (srcR1 (aCons (toP (e2 opMod (e2 opDiv (eVar 1) (eC (.int 3))) (eC (.int 12)))) aNil)) (.nm 4) b_law_grown_1 [4]) sNop) (sRet (eVar 0))))
noncomputable def f_law_grown : Fn := runDef 2 5 b_law_grown
noncomputable def b_law_inner : Ss := sSeq (sIf (b2 cpEq (e2 opIx (eVar 0) (eC (.int 0))) (eC (.str "name"))) (sRet (eLst aNil)) sNop) (sSeq (sIf (b2 cpEq (e2 opIx (eVar 0) (eC (.int 0))) (eC (.str "sign"))) (sRet (e1 opLst (e2 opIx (eVar 0) (eC (.int 2))))) sNop) (sRet (eLc (srcOf (e2 opIx (eVar 0) (eC (.int 2)))) (.nm 1) [1] bYes (toP (eTup (aCons (toP (eC (.int 0))) (aCons (toP (eVar 1)) aNil)))))))
noncomputable def f_law_inner : Fn := runDef 1 2 b_law_inner
noncomputable def b_law_place_first : Ss := sRet (e2 opIx (eVar 0) (eC (.int 0)))
noncomputable def f_law_place_first : Fn := runDef 1 1 b_law_place_first
noncomputable def b_law_walked_1 : Ss := sExp (eM1 opApp (eVar 1) (pV (toP (eTup (aCons (toP (e2 opAdd (eVar 3) (eTup (aCons (toP (eVar 6)) aNil)))) (aCons (toP (e2 opAdd (eVar 4) (e2 opIx (eVar 7) (eC (.int 0))))) (aCons (toP (e2 opIx (eVar 7) (eC (.int 1)))) aNil)))))))
noncomputable def b_law_walked_2 : Ss := sSeq (sPat (.tp [3, 4, 5]) (toP (ePop (eVar 1)))) (sSeq (sExp (eM1 opApp (eVar 2) (pV (toP (eTup (aCons (toP (eVar 3)) (aCons (toP (eVar 4)) (aCons (toP (eVar 5)) aNil)))))))) (sForIn (srcEn (eCall f_law_inner [] (aCons (toP (eVar 5)) aNil))) (.tp [6, 7]) b_law_walked_1 [6, 7]))
noncomputable def b_law_walked : Ss := sSeq (sOwn 1 (eLst (aCons (toP (eTup (aCons (toP (eTup aNil)) (aCons (toP (eC (.int 0))) (aCons (toP (eVar 0)) aNil))))) aNil))) (sSeq (sOwn 2 (eLst aNil)) (sSeq (sWhile (b2 cpNe (eVar 1) (eLst aNil)) b_law_walked_2 [3, 4, 5, 6, 7] 100000000) (sRet (eSortK f_law_place_first (eVar 2)))))
noncomputable def f_law_walked : Fn := runDef 1 8 b_law_walked
noncomputable def b_law_number : Ss := sRet (eAnd (e1 (opIsi "int") (eVar 0)) (eB (bNot (bVal (e1 (opIsi "bool") (eVar 0))))))
noncomputable def f_law_number : Fn := runDef 1 1 b_law_number
noncomputable def b_law_right_1 : Ss := sIf (bNot (bNon (eCall f_at [] (aCons (toP (eVar 0)) (aCons (toP (eVar 11)) aNil))))) (sRet (eC (.bl false))) sNop
noncomputable def b_law_right_2 : Ss := sSeq (sSet 9 (toP (eCall f_at [] (aCons (toP (eVar 0)) (aCons (toP (eVar 6)) aNil))))) (sSeq (sIf (bOr (bNot (bVal (e1 (opIsi "tuple") (eVar 9)))) (bOr (b2 cpNe (eVar 9) (eTup (aCons (toP (eVar 7)) (aCons (toP (eVar 8)) aNil)))) (bNot (bVal (eCall f_law_number [] (aCons (toP (e2 opIx (eVar 9) (eC (.int 0)))) aNil)))))) (sRet (eC (.bl false))) sNop) (sSeq (sSet 10 (toP (e1 opLen (eCall f_law_inner [] (aCons (toP (eVar 8)) aNil))))) (sForIn (srcP (toP (eLst (aCons (toP (e2 opAdd (eVar 6) (eTup (aCons (toP (e2 opAdd (eVar 10) (e2 opMod (eVar 2) (e2 opPow (eC (.int 10)) (eC (.int 20)))))) aNil)))) (aCons (toP (e2 opAdd (eVar 6) (eTup (aCons (toP (e2 opSub (e1 opNeg (eC (.int 1))) (e2 opMod (eVar 2) (eC (.int 4))))) aNil)))) (aCons (toP (e2 opAdd (eVar 6) (eTup (aCons (toP (eVar 10)) (aCons (toP (eC (.int 0))) aNil))))) (aCons (toP (e2 opAdd (eTup (aCons (toP (e1 opNeg (eC (.int 1)))) aNil)) (eVar 6))) aNil))))))) (.nm 11) b_law_right_1 [11])))
noncomputable def b_law_right : Ss := sSeq (sOwn 3 (eCall (f_places 30) [] (aCons (toP (eVar 0)) aNil))) (sSeq (sIf (bOr (bNot (bVal (e1 (opIsi "list") (eVar 3)))) (b2 cpNe (eVar 3) (eLc (srcOf (eVar 1)) (.nm 4) [4] bYes (toP (e2 opIx (eVar 4) (eC (.int 0))))))) (sRet (eC (.bl false))) sNop) (sSeq (sIf (bNot (bVal (e1 opAll (eLc (srcOf (eVar 3)) (.nm 6) [6] bYes (toP (eAnd (e1 (opIsi "tuple") (eVar 6)) (e1 opAll (eLc (srcOf (eVar 6)) (.nm 5) [5] bYes (toP (eCall f_law_number [] (aCons (toP (eVar 5)) aNil))))))))))) (sRet (eC (.bl false))) sNop) (sSeq (sForIn (srcP (toP (eVar 1))) (.tp [6, 7, 8]) b_law_right_2 [6, 7, 8, 9, 10, 11]) (sSeq (sExp (eM1 opApp (eVar 3) (pV (toP (eTup (aCons (toP (eC (.int 9))) aNil)))))) (sSeq (sSub (toP (eTup (aCons (toP (eC (.int 8))) aNil))) (eVar 3) (eC (.int 0))) (sRet (eB (b2 cpEq (eCall (f_places 30) [] (aCons (toP (eVar 0)) aNil)) (eLc (srcOf (eVar 1)) (.nm 4) [4] bYes (toP (e2 opIx (eVar 4) (eC (.int 0)))))))))))))
noncomputable def f_law_right : Fn := runDef 3 12 b_law_right
noncomputable def b_law_1 : Ss := sSeq (sSet 2 (toP (eCall f_law_cell_at [] (aCons (toP (eVar 0)) (aCons (toP (eVar 1)) aNil))))) (sSeq (sSet 3 (toP (eCall f_law_grown [] (aCons (toP (eCall f_law_drawn [] (aCons (toP (eSl (eVar 0) (oSome (eVar 1)) oNo)) (aCons (toP (e2 opMod (eCall f_law_mix [] (aCons (toP (eVar 2)) (aCons (toP (eC (.int 40))) aNil))) (eC (.int 4)))) (aCons (toP (eVar 2)) aNil))))) (aCons (toP (eCall f_law_mix [] (aCons (toP (eVar 2)) (aCons (toP (eC (.int 48))) aNil)))) aNil))))) (sSeq (sSet 4 (toP (eCall f_law_walked [] (aCons (toP (eVar 3)) aNil)))) (sSeq (sSet 5 (toP (eCall (f_size 30) [] (aCons (toP (eVar 3)) aNil)))) (sIf (bOr (bNot (bVal (eCall f_law_number [] (aCons (toP (eVar 5)) aNil)))) (bOr (b2 cpNe (eVar 5) (e1 opLen (eVar 4))) (bNot (bVal (eCall f_law_right [] (aCons (toP (eVar 3)) (aCons (toP (eVar 4)) (aCons (toP (eVar 2)) aNil)))))))) (sRet (eC (.bl false))) sNop))))
noncomputable def b_law : Ss := sSeq (sForIn (srcR3 (aCons (toP (eC (.int 0))) (aCons (toP (e2 opMax2 (eC (.int 1)) (e2 opMin2 (e1 opLen (eVar 0)) (eC (.int 63))))) (aCons (toP (eC (.int 6))) aNil)))) (.nm 1) b_law_1 [1, 2, 3, 4, 5]) (sRet (eC (.bl true)))
noncomputable def f_law : Fn := runDef 1 6 b_law
end HF


end
section
set_option Elab.async false
set_option linter.all false
set_option maxRecDepth 20000
set_option autoImplicit false
namespace HF
open PySem PySem.Spec PyProof.Rows L2
def top (i : Nat) : Stmt := PySem.Challenge.pw_holeform_k06_places.main.body.getD i (.Pass ⟨0, 0, 0, 0⟩)
abbrev s_inner_terms : Stmt := top 1
abbrev s_size : Stmt := top 2
abbrev s_places : Stmt := top 4
abbrev s_at : Stmt := top 5
abbrev s_law_cell_at : Stmt := top 7
abbrev s_law_mix : Stmt := top 8
abbrev s_law_words : Stmt := top 9
abbrev s_law_free : Stmt := top 10
abbrev s_law_leaf : Stmt := top 11
abbrev s_law_term : Stmt := top 12
abbrev s_law_drawn : Stmt := top 13
abbrev s_law_grown : Stmt := top 14
abbrev s_law_inner : Stmt := top 15
abbrev s_law_walked : Stmt := top 16
abbrev s_law_place_first : Stmt := top 17
abbrev s_law_number : Stmt := top 18
abbrev s_law_right : Stmt := top 19
abbrev s_law : Stmt := top 20
structure Tops (Z : Wd) : Prop where
  t_inner_terms : DefAt Z "inner_terms" s_inner_terms ["term"]
  t_size : DefAt Z "size" s_size ["term"]
  t_places : DefAt Z "places" s_places ["term"]
  t_at : DefAt Z "at" s_at ["term", "place"]
  t_law_cell_at : DefAt Z "_law_cell_at" s_law_cell_at ["_law_script", "_law_k"]
  t_law_mix : DefAt Z "_law_mix" s_law_mix ["_law_cell", "_law_place"]
  t_law_words : DefAt Z "_law_words" s_law_words ["_law_cell", "_law_many"]
  t_law_free : DefAt Z "_law_free" s_law_free ["_law_cell", "_law_place"]
  t_law_leaf : DefAt Z "_law_leaf" s_law_leaf ["_law_number_here", "_law_scope", "_law_words_here"]
  t_law_term : DefAt Z "_law_term" s_law_term ["_law_cells", "_law_scope", "_law_words_here", "_law_holes", "_law_deep"]
  t_law_drawn : DefAt Z "_law_drawn" s_law_drawn ["_law_cells", "_law_scope", "_law_seed"]
  t_law_grown : DefAt Z "_law_grown" s_law_grown ["_law_term_here", "_law_number_here"]
  t_law_inner : DefAt Z "_law_inner" s_law_inner ["_law_term_here"]
  t_law_walked : DefAt Z "_law_walked" s_law_walked ["_law_term_here"]
  t_law_place_first : DefAt Z "_law_place_first" s_law_place_first ["_law_row"]
  t_law_number : DefAt Z "_law_number" s_law_number ["_law_found"]
  t_law_right : DefAt Z "_law_right" s_law_right ["_law_term_here", "_law_rows", "_law_cell"]
  t_law : DefAt Z "law" s_law ["_law_script"]
  m_all : Z.mg "all" = none
  m_bool : Z.mg "bool" = none
  m_enumerate : Z.mg "enumerate" = none
  m_int : Z.mg "int" = none
  m_isinstance : Z.mg "isinstance" = none
  m_len : Z.mg "len" = none
  m_list : Z.mg "list" = none
  m_max : Z.mg "max" = none
  m_min : Z.mg "min" = none
  m_range : Z.mg "range" = none
  m_sorted : Z.mg "sorted" = none
  m_sum : Z.mg "sum" = none
  m_tuple : Z.mg "tuple" = none
abbrev n_inner_terms : List Str := ["term", "one"]
theorem sc_inner_terms : FnScope n_inner_terms ["term"] (defScope s_inner_terms) := ⟨rfl, rfl, rfl, by decide +kernel, rfl, by decide +kernel, by decide +kernel⟩
set_option maxHeartbeats 4000000 in
theorem d_inner_terms {Z : Wd} (T : Tops Z) : ∀ f fd, Fun Z.K "inner_terms" "inner_terms" s_inner_terms f fd → FnOk Z.P Z.w Z.K Z.mg Z.base (L2.CX Z.P Z.w) (0 + 1) f fd ["term"] (spOf Z.T Z.K Z.mg (runDef 1 2 (b_inner_terms))) := fun f fd F =>
  def_ok F sc_inner_terms fun X E W A hT => fss_cons (fs_if (ft_eq A (fe_ix A (fe_var A (i := 0) rfl rfl) fe_int) fe_str) (fss_one (fs_ret (fe_lst fl_nil))) fss_nil) (fss_cons (fs_if (ft_eq A (fe_ix A (fe_var A (i := 0) rfl rfl) fe_int) fe_str) (fss_one (fs_ret (fe_list A T.m_list (fe_ix A (fe_var A (i := 0) rfl rfl) fe_int)))) fss_nil) (fss_one (fs_ret (lc_rule A (own := [("one", 1)]) (fi_of (fe_ix A (fe_var A (i := 0) rfl rfl) fe_int)) (by decide +kernel) (by decide) (fun _ A' => fg_name A' (i := 1) rfl rfl) (fun _ A' => fts_nil) (fun _ A' => (fe_tup (fl_cons fe_int.toP (fl_cons ((fe_var A' (i := 1) rfl rfl).toP) fl_nil))).toP)))))
theorem k_inner_terms {Z : Wd} (T : Tops Z) : Known Z 1 "inner_terms" [] f_inner_terms := T.t_inner_terms.known (d_inner_terms T)
abbrev n_size : List Str := ["term", "many", "inner"]
theorem sc_size : FnScope n_size ["term"] (defScope s_size) := ⟨rfl, rfl, rfl, by decide +kernel, rfl, by decide +kernel, by decide +kernel⟩
set_option maxHeartbeats 4000000 in
theorem d_size {Z : Wd} {k : Nat} (T : Tops Z) {r_size : Fn} (K_size : Known Z k "size" [] r_size) (hk : 1 ≤ k) : ∀ f fd, Fun Z.K "size" "size" s_size f fd → FnOk Z.P Z.w Z.K Z.mg Z.base (L2.CX Z.P Z.w) (k + 1) f fd ["term"] (spOf Z.T Z.K Z.mg (runDef 1 3 (b_size r_size))) := fun f fd F =>
  def_ok F sc_size fun X E W A hT => fss_one (fs_ret (fe_add fe_int (fe_sum A T.m_sum (lc_rule A (own := [("many", 1), ("inner", 2)]) (fi_of (fe_call A hT ((k_inner_terms T).mono (Nat.le_trans (by decide) hk)) (fl_cons ((fe_var A (i := 0) rfl rfl).toP) fl_nil))) (by decide +kernel) (by decide) (fun _ A' => fg_tup A' (fgs_cons (fg_name A' (i := 1) rfl rfl) (fgs_cons (fg_name A' (i := 2) rfl rfl) fgs_nil))) (fun _ A' => fts_nil) (fun _ A' => (fe_call A' hT K_size (fl_cons ((fe_var A' (i := 2) rfl rfl).toP) fl_nil)).toP)))))
theorem ks_size {Z : Wd} (T : Tops Z) : ∀ n : Nat, Known Z (1 + n) "size" [] (f_size n)
  | 0 => T.t_size.none
  | n + 1 => by
    have ih := ks_size T n
    exact T.t_size.known (d_size T ih (Nat.le_add_right _ n))
theorem k_size {Z : Wd} (T : Tops Z) : Known Z 31 "size" [] (f_size 30) := (ks_size T 30)
abbrev n_places : List Str := ["term", "found", "k", "part", "place"]
theorem sc_places : FnScope n_places ["term"] (defScope s_places) := ⟨rfl, rfl, rfl, by decide +kernel, rfl, by decide +kernel, by decide +kernel⟩
set_option maxHeartbeats 4000000 in
theorem d_places {Z : Wd} {k : Nat} (T : Tops Z) {r_places : Fn} (K_places : Known Z k "places" [] r_places) (hk : 1 ≤ k) : ∀ f fd, Fun Z.K "places" "places" s_places f fd → FnOk Z.P Z.w Z.K Z.mg Z.base (L2.CX Z.P Z.w) (k + 1) f fd ["term"] (spOf Z.T Z.K Z.mg (runDef 1 5 (b_places r_places))) := fun f fd F =>
  def_ok F sc_places fun X E W A hT => fss_cons (fs_own A (i := 1) rfl rfl (fe_lst (fl_cons ((fe_tup fl_nil).toP) fl_nil))) (fss_cons (fs_for A [2, 3] (fi_enum A (A.no T.m_enumerate) (fe_call A hT ((k_inner_terms T).mono (Nat.le_trans (by decide) hk)) (fl_cons ((fe_var A (i := 0) rfl rfl).toP) fl_nil))) srcEn_ns (fg_tup A (fgs_cons (fg_name A (i := 2) rfl rfl) (fgs_cons (fg_name A (i := 3) rfl rfl) fgs_nil))) (fss_one (fs_exp (fe_extend (fe_var A (i := 1) rfl rfl) (lc_rule A (own := [("place", 4)]) (fi_of (fe_call A hT K_places (fl_cons ((fe_ix A (fe_var A (i := 3) rfl rfl) fe_int).toP) fl_nil))) (by decide +kernel) (by decide) (fun _ A' => fg_name A' (i := 4) rfl rfl) (fun _ A' => fts_nil) (fun _ A' => (fe_add (fe_tup (fl_cons ((fe_var A' (i := 2) rfl rfl).toP) fl_nil)) (fe_var A' (i := 4) rfl rfl)).toP)))))) (fss_one (fs_ret (fe_var A (i := 1) rfl rfl))))
theorem ks_places {Z : Wd} (T : Tops Z) : ∀ n : Nat, Known Z (1 + n) "places" [] (f_places n)
  | 0 => T.t_places.none
  | n + 1 => by
    have ih := ks_places T n
    exact T.t_places.known (d_places T ih (Nat.le_add_right _ n))
theorem k_places {Z : Wd} (T : Tops Z) : Known Z 31 "places" [] (f_places 30) := (ks_places T 30)
abbrev n_at : List Str := ["term", "place", "bound", "k", "parts", "many"]
theorem sc_at : FnScope n_at ["term", "place"] (defScope s_at) := ⟨rfl, rfl, rfl, by decide +kernel, rfl, by decide +kernel, by decide +kernel⟩
set_option maxHeartbeats 4000000 in
theorem d_at {Z : Wd} (T : Tops Z) : ∀ f fd, Fun Z.K "at" "at" s_at f fd → FnOk Z.P Z.w Z.K Z.mg Z.base (L2.CX Z.P Z.w) (1 + 1) f fd ["term", "place"] (spOf Z.T Z.K Z.mg (runDef 2 6 (b_at))) := fun f fd F =>
  def_ok F sc_at fun X E W A hT => fss_cons (fs_set A (i := 2) rfl rfl fe_int.toP) (fss_cons (fs_for A [3, 4, 5] (fi_of ((fe_var A (i := 1) rfl rfl).toP).fe) srcP_ns (fg_name A (i := 3) rfl rfl) (fss_cons (fs_set A (i := 4) rfl rfl ((fe_call A hT ((k_inner_terms T).mono (by decide)) (fl_cons ((fe_var A (i := 0) rfl rfl).toP) fl_nil)).toP)) (fss_cons (fs_if (ft_not (ft_chain op_le op_lt cpI_ok cpI_ok fe_int (fe_var A (i := 3) rfl rfl) (fe_len A T.m_len (fe_var A (i := 4) rfl rfl)))) (fss_one (fs_ret fe_non)) fss_nil) (fss_cons (fs_pat (fg_tup A (fgs_cons (fg_name A (i := 5) rfl rfl) (fgs_cons (fg_name A (i := 0) rfl rfl) fgs_nil))) ((fe_ix A (fe_var A (i := 4) rfl rfl) (fe_var A (i := 3) rfl rfl)).toP)) (fss_one (fs_augadd A (i := 2) rfl rfl (fe_var A (i := 5) rfl rfl))))))) (fss_one (fs_ret (fe_tup (fl_cons ((fe_var A (i := 2) rfl rfl).toP) (fl_cons ((fe_var A (i := 0) rfl rfl).toP) fl_nil))))))
theorem k_at {Z : Wd} (T : Tops Z) : Known Z 2 "at" [] f_at := T.t_at.known (d_at T)
abbrev n_law_cell_at : List Str := ["_law_script", "_law_k"]
theorem sc_law_cell_at : FnScope n_law_cell_at ["_law_script", "_law_k"] (defScope s_law_cell_at) := ⟨rfl, rfl, rfl, by decide +kernel, rfl, by decide +kernel, by decide +kernel⟩
set_option maxHeartbeats 4000000 in
theorem d_law_cell_at {Z : Wd} (T : Tops Z) : ∀ f fd, Fun Z.K "_law_cell_at" "_law_cell_at" s_law_cell_at f fd → FnOk Z.P Z.w Z.K Z.mg Z.base (L2.CX Z.P Z.w) (0 + 1) f fd ["_law_script", "_law_k"] (spOf Z.T Z.K Z.mg (runDef 2 2 (b_law_cell_at))) := fun f fd F =>
  def_ok F sc_law_cell_at fun X E W A hT => fss_cons (fs_if (ft_lt (fe_var A (i := 1) rfl rfl) (fe_len A T.m_len (fe_var A (i := 0) rfl rfl))) (fss_one (fs_ret (fe_ix A (fe_var A (i := 0) rfl rfl) (fe_var A (i := 1) rfl rfl)))) fss_nil) (fss_one (fs_ret fe_int))
theorem k_law_cell_at {Z : Wd} (T : Tops Z) : Known Z 1 "_law_cell_at" [] f_law_cell_at := T.t_law_cell_at.known (d_law_cell_at T)
abbrev n_law_mix : List Str := ["_law_cell", "_law_place", "_law_first"]
theorem sc_law_mix : FnScope n_law_mix ["_law_cell", "_law_place"] (defScope s_law_mix) := ⟨rfl, rfl, rfl, by decide +kernel, rfl, by decide +kernel, by decide +kernel⟩
set_option maxHeartbeats 4000000 in
theorem d_law_mix {Z : Wd} (T : Tops Z) : ∀ f fd, Fun Z.K "_law_mix" "_law_mix" s_law_mix f fd → FnOk Z.P Z.w Z.K Z.mg Z.base (L2.CX Z.P Z.w) (0 + 1) f fd ["_law_cell", "_law_place"] (spOf Z.T Z.K Z.mg (runDef 2 3 (b_law_mix))) := fun f fd F =>
  def_ok F sc_law_mix fun X E W A hT => fss_cons (fs_set A (i := 2) rfl rfl ((fe_mod (fe_mul (fe_add (fe_mod (fe_var A (i := 0) rfl rfl) (fe_pow fe_int fe_int)) fe_int) (fe_add fe_int (fe_mul fe_int (fe_var A (i := 1) rfl rfl)))) fe_int).toP)) (fss_one (fs_ret (fe_mod (fe_mul (fe_var A (i := 2) rfl rfl) (fe_var A (i := 2) rfl rfl)) fe_int)))
theorem k_law_mix {Z : Wd} (T : Tops Z) : Known Z 1 "_law_mix" [] f_law_mix := T.t_law_mix.known (d_law_mix T)
abbrev n_law_words : List Str := ["_law_cell", "_law_many", "_law_letters", "_law_length", "_law_stem", "_law_k", "_law_spot", "_law_first"]
theorem sc_law_words : FnScope n_law_words ["_law_cell", "_law_many"] (defScope s_law_words) := ⟨rfl, rfl, rfl, by decide +kernel, rfl, by decide +kernel, by decide +kernel⟩
set_option maxHeartbeats 4000000 in
theorem d_law_words {Z : Wd} (T : Tops Z) : ∀ f fd, Fun Z.K "_law_words" "_law_words" s_law_words f fd → FnOk Z.P Z.w Z.K Z.mg Z.base (L2.CX Z.P Z.w) (1 + 1) f fd ["_law_cell", "_law_many"] (spOf Z.T Z.K Z.mg (runDef 2 8 (b_law_words))) := fun f fd F =>
  def_ok F sc_law_words fun X E W A hT => fss_cons (fs_set A (i := 2) rfl rfl fe_str.toP) (fss_cons (fs_set A (i := 3) rfl rfl ((fe_add fe_int (fe_mod (fe_call A hT ((k_law_mix T).mono (by decide)) (fl_cons ((fe_var A (i := 0) rfl rfl).toP) (fl_cons fe_int.toP fl_nil))) fe_int)).toP)) (fss_cons (fs_set A (i := 4) rfl rfl ((fe_join fe_str (lc_rule A (own := [("_law_k", 5)]) (fi_range1 A (A.no T.m_range) (fl_cons ((fe_var A (i := 3) rfl rfl).toP) fl_nil)) (by decide +kernel) (by decide) (fun _ A' => fg_name A' (i := 5) rfl rfl) (fun _ A' => fts_nil) (fun _ A' => (fe_ix A' (fe_var A' (i := 2) rfl rfl) (fe_mod (fe_call A' hT ((k_law_mix T).mono (by decide)) (fl_cons ((fe_var A' (i := 0) rfl rfl).toP) (fl_cons ((fe_add fe_int (fe_var A' (i := 5) rfl rfl)).toP) fl_nil))) fe_int)).toP))).toP)) (fss_cons (fs_set A (i := 6) rfl rfl ((fe_mod (fe_call A hT ((k_law_mix T).mono (by decide)) (fl_cons ((fe_var A (i := 0) rfl rfl).toP) (fl_cons fe_int.toP fl_nil))) (fe_var A (i := 3) rfl rfl)).toP)) (fss_cons (fs_set A (i := 7) rfl rfl ((fe_mod (fe_call A hT ((k_law_mix T).mono (by decide)) (fl_cons ((fe_var A (i := 0) rfl rfl).toP) (fl_cons fe_int.toP fl_nil))) fe_int).toP)) (fss_one (fs_ret (lc_rule A (own := [("_law_k", 5)]) (fi_range1 A (A.no T.m_range) (fl_cons ((fe_var A (i := 1) rfl rfl).toP) fl_nil)) (by decide +kernel) (by decide) (fun _ A' => fg_name A' (i := 5) rfl rfl) (fun _ A' => fts_nil) (fun _ A' => (fe_add (fe_add (fe_slice (fe_var A' (i := 4) rfl rfl) fo_none (fo_some (fe_var A' (i := 6) rfl rfl))) (fe_ix A' (fe_var A' (i := 2) rfl rfl) (fe_mod (fe_add (fe_var A' (i := 7) rfl rfl) (fe_mul fe_int (fe_var A' (i := 5) rfl rfl))) fe_int))) (fe_slice (fe_var A' (i := 4) rfl rfl) (fo_some (fe_add (fe_var A' (i := 6) rfl rfl) fe_int)) fo_none)).toP))))))))
theorem k_law_words {Z : Wd} (T : Tops Z) : Known Z 2 "_law_words" [] f_law_words := T.t_law_words.known (d_law_words T)
abbrev n_law_free : List Str := ["_law_cell", "_law_place"]
theorem sc_law_free : FnScope n_law_free ["_law_cell", "_law_place"] (defScope s_law_free) := ⟨rfl, rfl, rfl, by decide +kernel, rfl, by decide +kernel, by decide +kernel⟩
set_option maxHeartbeats 4000000 in
theorem d_law_free {Z : Wd} (T : Tops Z) : ∀ f fd, Fun Z.K "_law_free" "_law_free" s_law_free f fd → FnOk Z.P Z.w Z.K Z.mg Z.base (L2.CX Z.P Z.w) (1 + 1) f fd ["_law_cell", "_law_place"] (spOf Z.T Z.K Z.mg (runDef 2 2 (b_law_free))) := fun f fd F =>
  def_ok F sc_law_free fun X E W A hT => fss_cons (fs_if (ft_eq A (fe_mod (fe_var A (i := 0) rfl rfl) fe_int) fe_int) (fss_one (fs_ret (fe_mod (fe_div (fe_var A (i := 0) rfl rfl) fe_int) (fe_pow fe_int fe_int)))) fss_nil) (fss_one (fs_ret (fe_call A hT ((k_law_mix T).mono (by decide)) (fl_cons ((fe_div (fe_var A (i := 0) rfl rfl) fe_int).toP) (fl_cons ((fe_var A (i := 1) rfl rfl).toP) fl_nil)))))
theorem k_law_free {Z : Wd} (T : Tops Z) : Known Z 2 "_law_free" [] f_law_free := T.t_law_free.known (d_law_free T)
abbrev n_law_leaf : List Str := ["_law_number_here", "_law_scope", "_law_words_here"]
theorem sc_law_leaf : FnScope n_law_leaf ["_law_number_here", "_law_scope", "_law_words_here"] (defScope s_law_leaf) := ⟨rfl, rfl, rfl, by decide +kernel, rfl, by decide +kernel, by decide +kernel⟩
set_option maxHeartbeats 4000000 in
theorem d_law_leaf {Z : Wd} (T : Tops Z) : ∀ f fd, Fun Z.K "_law_leaf" "_law_leaf" s_law_leaf f fd → FnOk Z.P Z.w Z.K Z.mg Z.base (L2.CX Z.P Z.w) (0 + 1) f fd ["_law_number_here", "_law_scope", "_law_words_here"] (spOf Z.T Z.K Z.mg (runDef 3 3 (b_law_leaf))) := fun f fd F =>
  def_ok F sc_law_leaf fun X E W A hT => fss_cons (fs_if ((fw_and (ft_gt (fe_var A (i := 1) rfl rfl) fe_int) (fw_and1 (ft_lt (fe_mod (fe_var A (i := 0) rfl rfl) fe_int) fe_int))).ft) (fss_one (fs_ret (fe_tup (fl_cons fe_str.toP (fl_cons ((fe_mod (fe_div (fe_var A (i := 0) rfl rfl) fe_int) (fe_var A (i := 1) rfl rfl)).toP) fl_nil))))) fss_nil) (fss_one (fs_ret (fe_tup (fl_cons fe_str.toP (fl_cons ((fe_ix A (fe_var A (i := 2) rfl rfl) (fe_mod (fe_div (fe_var A (i := 0) rfl rfl) fe_int) fe_int)).toP) (fl_cons ((fe_tup fl_nil).toP) fl_nil))))))
theorem k_law_leaf {Z : Wd} (T : Tops Z) : Known Z 1 "_law_leaf" [] f_law_leaf := T.t_law_leaf.known (d_law_leaf T)
abbrev n_law_term : List Str := ["_law_cells", "_law_scope", "_law_words_here", "_law_holes", "_law_deep", "_law_number_here", "_law_left", "_law_way", "_law_word", "_law_many", "_law_some", "_law_k", "_law_one", "_law_parts"]
theorem sc_law_term : FnScope n_law_term ["_law_cells", "_law_scope", "_law_words_here", "_law_holes", "_law_deep"] (defScope s_law_term) := ⟨rfl, rfl, rfl, by decide +kernel, rfl, by decide +kernel, by decide +kernel⟩
set_option maxHeartbeats 4000000 in
theorem d_law_term {Z : Wd} {k : Nat} (T : Tops Z) {r_law_term : Fn} (K_law_term : Known Z k "_law_term" [] r_law_term) (hk : 2 ≤ k) : ∀ f fd, Fun Z.K "_law_term" "_law_term" s_law_term f fd → FnOk Z.P Z.w Z.K Z.mg Z.base (L2.CX Z.P Z.w) (k + 1) f fd ["_law_cells", "_law_scope", "_law_words_here", "_law_holes", "_law_deep"] (spOf Z.T Z.K Z.mg (runDef 5 14 (b_law_term r_law_term))) := fun f fd F =>
  def_ok F sc_law_term fun X E W A hT => fss_cons (fs_if ((fw_or (ft_eq A (fe_var A (i := 0) rfl rfl) (fe_lst fl_nil)) (fw_or1 (ft_eq A (fe_var A (i := 4) rfl rfl) fe_int))).ft) (fss_one (fs_ret (fe_tup (fl_cons ((fe_call A hT ((k_law_leaf T).mono (Nat.le_trans (by decide) hk)) (fl_cons ((fe_call A hT ((k_law_free T).mono (Nat.le_trans (by decide) hk)) (fl_cons ((fe_sum A T.m_sum (fe_slice (fe_var A (i := 0) rfl rfl) fo_none (fo_some fe_int))).toP) (fl_cons fe_int.toP fl_nil))).toP) (fl_cons ((fe_var A (i := 1) rfl rfl).toP) (fl_cons ((fe_var A (i := 2) rfl rfl).toP) fl_nil)))).toP) (fl_cons ((fe_slice (fe_var A (i := 0) rfl rfl) (fo_some fe_int) fo_none).toP) fl_nil))))) fss_nil) (fss_cons (fs_set A (i := 5) rfl rfl ((fe_call A hT ((k_law_free T).mono (Nat.le_trans (by decide) hk)) (fl_cons ((fe_ix A (fe_var A (i := 0) rfl rfl) fe_int).toP) (fl_cons fe_int.toP fl_nil))).toP)) (fss_cons (fs_set A (i := 6) rfl rfl ((fe_slice (fe_var A (i := 0) rfl rfl) (fo_some fe_int) fo_none).toP)) (fss_cons (fs_set A (i := 7) rfl rfl ((fe_mod (fe_var A (i := 5) rfl rfl) fe_int).toP)) (fss_cons (fs_set A (i := 5) rfl rfl ((fe_div (fe_var A (i := 5) rfl rfl) fe_int).toP)) (fss_cons (fs_if (ft_lt (fe_var A (i := 7) rfl rfl) fe_int) (fss_one (fs_ret (fe_tup (fl_cons ((fe_call A hT ((k_law_leaf T).mono (Nat.le_trans (by decide) hk)) (fl_cons ((fe_var A (i := 5) rfl rfl).toP) (fl_cons ((fe_var A (i := 1) rfl rfl).toP) (fl_cons ((fe_var A (i := 2) rfl rfl).toP) fl_nil)))).toP) (fl_cons ((fe_var A (i := 6) rfl rfl).toP) fl_nil))))) fss_nil) (fss_cons (fs_if ((fw_and (ft_lt (fe_var A (i := 7) rfl rfl) fe_int) (fw_and1 (ft_ne A (fe_var A (i := 3) rfl rfl) (fe_lst fl_nil)))).ft) (fss_cons (fs_pat (fg_tup A (fgs_cons (fg_name A (i := 8) rfl rfl) (fgs_cons (fg_name A (i := 9) rfl rfl) fgs_nil))) ((fe_ix A (fe_var A (i := 3) rfl rfl) (fe_mod (fe_var A (i := 5) rfl rfl) (fe_len A T.m_len (fe_var A (i := 3) rfl rfl)))).toP)) (fss_cons (fs_own A (i := 10) rfl rfl (fe_lst fl_nil)) (fss_cons (fs_for A [11, 12] (fi_range1 A (A.no T.m_range) (fl_cons ((fe_var A (i := 9) rfl rfl).toP) fl_nil)) srcR1_ns (fg_name A (i := 11) rfl rfl) (fss_cons (fs_pat (fg_tup A (fgs_cons (fg_name A (i := 12) rfl rfl) (fgs_cons (fg_name A (i := 6) rfl rfl) fgs_nil))) ((fe_call A hT K_law_term (fl_cons ((fe_var A (i := 6) rfl rfl).toP) (fl_cons ((fe_var A (i := 1) rfl rfl).toP) (fl_cons ((fe_var A (i := 2) rfl rfl).toP) (fl_cons ((fe_var A (i := 3) rfl rfl).toP) (fl_cons ((fe_sub (fe_var A (i := 4) rfl rfl) fe_int).toP) fl_nil)))))).toP)) (fss_one (fs_exp (fe_append (fe_var A (i := 10) rfl rfl) ((fe_var A (i := 12) rfl rfl).toP)))))) (fss_one (fs_ret (fe_tup (fl_cons ((fe_tup (fl_cons fe_str.toP (fl_cons ((fe_var A (i := 8) rfl rfl).toP) (fl_cons ((fe_tuple A T.m_tuple (fe_var A (i := 10) rfl rfl)).toP) fl_nil)))).toP) (fl_cons ((fe_var A (i := 6) rfl rfl).toP) fl_nil)))))))) fss_nil) (fss_cons (fs_own A (i := 13) rfl rfl (fe_lst fl_nil)) (fss_cons (fs_for A [9, 11, 12] (fi_range1 A (A.no T.m_range) (fl_cons ((fe_add fe_int (fe_mod (fe_var A (i := 5) rfl rfl) fe_int)).toP) fl_nil)) srcR1_ns (fg_name A (i := 11) rfl rfl) (fss_cons (fs_set A (i := 9) rfl rfl ((fe_ix A (fe_lst (fl_cons fe_int.toP (fl_cons fe_int.toP (fl_cons fe_int.toP (fl_cons fe_int.toP fl_nil))))) (fe_mod (fe_div (fe_var A (i := 5) rfl rfl) (fe_ix A (fe_lst (fl_cons fe_int.toP (fl_cons fe_int.toP (fl_cons fe_int.toP fl_nil)))) (fe_var A (i := 11) rfl rfl))) fe_int)).toP)) (fss_cons (fs_pat (fg_tup A (fgs_cons (fg_name A (i := 12) rfl rfl) (fgs_cons (fg_name A (i := 6) rfl rfl) fgs_nil))) ((fe_call A hT K_law_term (fl_cons ((fe_var A (i := 6) rfl rfl).toP) (fl_cons ((fe_add (fe_var A (i := 1) rfl rfl) (fe_var A (i := 9) rfl rfl)).toP) (fl_cons ((fe_var A (i := 2) rfl rfl).toP) (fl_cons ((fe_var A (i := 3) rfl rfl).toP) (fl_cons ((fe_sub (fe_var A (i := 4) rfl rfl) fe_int).toP) fl_nil)))))).toP)) (fss_one (fs_exp (fe_append (fe_var A (i := 13) rfl rfl) ((fe_tup (fl_cons ((fe_var A (i := 9) rfl rfl).toP) (fl_cons ((fe_var A (i := 12) rfl rfl).toP) fl_nil))).toP))))))) (fss_one (fs_ret (fe_tup (fl_cons ((fe_tup (fl_cons fe_str.toP (fl_cons ((fe_ix A (fe_var A (i := 2) rfl rfl) (fe_add fe_int (fe_mod (fe_mod (fe_div (fe_var A (i := 5) rfl rfl) fe_int) fe_int) fe_int))).toP) (fl_cons ((fe_tuple A T.m_tuple (fe_var A (i := 13) rfl rfl)).toP) fl_nil)))).toP) (fl_cons ((fe_var A (i := 6) rfl rfl).toP) fl_nil)))))))))))))
theorem ks_law_term {Z : Wd} (T : Tops Z) : ∀ n : Nat, Known Z (2 + n) "_law_term" [] (f_law_term n)
  | 0 => T.t_law_term.none
  | n + 1 => by
    have ih := ks_law_term T n
    exact T.t_law_term.known (d_law_term T ih (Nat.le_add_right _ n))
theorem k_law_term {Z : Wd} (T : Tops Z) : Known Z 8 "_law_term" [] (f_law_term 6) := (ks_law_term T 6)
abbrev n_law_drawn : List Str := ["_law_cells", "_law_scope", "_law_seed", "_law_words_here", "_law_holes", "_law_k"]
theorem sc_law_drawn : FnScope n_law_drawn ["_law_cells", "_law_scope", "_law_seed"] (defScope s_law_drawn) := ⟨rfl, rfl, rfl, by decide +kernel, rfl, by decide +kernel, by decide +kernel⟩
set_option maxHeartbeats 4000000 in
theorem d_law_drawn {Z : Wd} (T : Tops Z) : ∀ f fd, Fun Z.K "_law_drawn" "_law_drawn" s_law_drawn f fd → FnOk Z.P Z.w Z.K Z.mg Z.base (L2.CX Z.P Z.w) (8 + 1) f fd ["_law_cells", "_law_scope", "_law_seed"] (spOf Z.T Z.K Z.mg (runDef 3 6 (b_law_drawn))) := fun f fd F =>
  def_ok F sc_law_drawn fun X E W A hT => fss_cons (fs_set A (i := 3) rfl rfl ((fe_call A hT ((k_law_words T).mono (by decide)) (fl_cons ((fe_var A (i := 2) rfl rfl).toP) (fl_cons fe_int.toP fl_nil))).toP)) (fss_cons (fs_lcSet A (i := 4) [("_law_k", 5)] rfl rfl rfl (by decide +kernel) rfl (fi_range1 A (A.no T.m_range) (fl_cons fe_int.toP fl_nil)) (by decide +kernel) (by decide) (fun _ A' => fg_name A' (i := 5) rfl rfl) (fun _ A' => fts_nil) (fun _ A' => (fe_tup (fl_cons ((fe_ix A' (fe_var A' (i := 3) rfl rfl) (fe_add fe_int (fe_var A' (i := 5) rfl rfl))).toP) (fl_cons ((fe_var A' (i := 5) rfl rfl).toP) fl_nil))).toP)) (fss_one (fs_ret (fe_ix A (fe_call A hT ((k_law_term T).mono (by decide)) (fl_cons ((fe_slice (fe_var A (i := 0) rfl rfl) fo_none (fo_some fe_int)).toP) (fl_cons ((fe_var A (i := 1) rfl rfl).toP) (fl_cons ((fe_var A (i := 3) rfl rfl).toP) (fl_cons ((fe_var A (i := 4) rfl rfl).toP) (fl_cons fe_int.toP fl_nil)))))) fe_int))))
theorem k_law_drawn {Z : Wd} (T : Tops Z) : Known Z 9 "_law_drawn" [] f_law_drawn := T.t_law_drawn.known (d_law_drawn T)
abbrev n_law_grown : List Str := ["_law_term_here", "_law_number_here", "_law_leaf_here", "_law_parts", "_law_k"]
theorem sc_law_grown : FnScope n_law_grown ["_law_term_here", "_law_number_here"] (defScope s_law_grown) := ⟨rfl, rfl, rfl, by decide +kernel, rfl, by decide +kernel, by decide +kernel⟩
set_option maxHeartbeats 4000000 in
theorem d_law_grown {Z : Wd} (T : Tops Z) : ∀ f fd, Fun Z.K "_law_grown" "_law_grown" s_law_grown f fd → FnOk Z.P Z.w Z.K Z.mg Z.base (L2.CX Z.P Z.w) (0 + 1) f fd ["_law_term_here", "_law_number_here"] (spOf Z.T Z.K Z.mg (runDef 2 5 (b_law_grown))) := fun f fd F =>
  def_ok F sc_law_grown fun X E W A hT => fss_cons (fs_set A (i := 2) rfl rfl ((fe_tup (fl_cons fe_str.toP (fl_cons fe_str.toP (fl_cons ((fe_tup fl_nil).toP) fl_nil)))).toP)) (fss_cons (fs_if (ft_eq A (fe_mod (fe_var A (i := 1) rfl rfl) fe_int) fe_int) (fss_cons (fs_set A (i := 3) rfl rfl ((fe_add (fe_rep (fe_lst (fl_cons ((fe_tup (fl_cons fe_int.toP (fl_cons ((fe_var A (i := 2) rfl rfl).toP) fl_nil))).toP) fl_nil)) (fe_mod (fe_div (fe_var A (i := 1) rfl rfl) fe_int) fe_int)) (fe_lst (fl_cons ((fe_tup (fl_cons ((fe_mod (fe_div (fe_var A (i := 1) rfl rfl) fe_int) fe_int).toP) (fl_cons ((fe_var A (i := 0) rfl rfl).toP) fl_nil))).toP) fl_nil))).toP)) (fss_one (fs_ret (fe_tup (fl_cons fe_str.toP (fl_cons fe_str.toP (fl_cons ((fe_tuple A T.m_tuple (fe_var A (i := 3) rfl rfl)).toP) fl_nil))))))) fss_nil) (fss_cons (fs_if (ft_eq A (fe_mod (fe_var A (i := 1) rfl rfl) fe_int) fe_int) (fss_one (fs_for A [4] (fi_range1 A (A.no T.m_range) (fl_cons ((fe_mod (fe_div (fe_var A (i := 1) rfl rfl) fe_int) fe_int).toP) fl_nil)) srcR1_ns (fg_name A (i := 4) rfl rfl) (fss_one (fs_set A (i := 0) rfl rfl ((fe_tup (fl_cons fe_str.toP (fl_cons fe_str.toP (fl_cons ((fe_tup (fl_cons ((fe_tup (fl_cons fe_int.toP (fl_cons ((fe_var A (i := 0) rfl rfl).toP) fl_nil))).toP) fl_nil)).toP) fl_nil)))).toP))))) fss_nil) (fss_one (fs_ret (fe_var A (i := 0) rfl rfl)))))
theorem k_law_grown {Z : Wd} (T : Tops Z) : Known Z 1 "_law_grown" [] f_law_grown := T.t_law_grown.known (d_law_grown T)
abbrev n_law_inner : List Str := ["_law_term_here", "_law_one"]
theorem sc_law_inner : FnScope n_law_inner ["_law_term_here"] (defScope s_law_inner) := ⟨rfl, rfl, rfl, by decide +kernel, rfl, by decide +kernel, by decide +kernel⟩
set_option maxHeartbeats 4000000 in
theorem d_law_inner {Z : Wd} (T : Tops Z) : ∀ f fd, Fun Z.K "_law_inner" "_law_inner" s_law_inner f fd → FnOk Z.P Z.w Z.K Z.mg Z.base (L2.CX Z.P Z.w) (0 + 1) f fd ["_law_term_here"] (spOf Z.T Z.K Z.mg (runDef 1 2 (b_law_inner))) := fun f fd F =>
  def_ok F sc_law_inner fun X E W A hT => fss_cons (fs_if (ft_eq A (fe_ix A (fe_var A (i := 0) rfl rfl) fe_int) fe_str) (fss_one (fs_ret (fe_lst fl_nil))) fss_nil) (fss_cons (fs_if (ft_eq A (fe_ix A (fe_var A (i := 0) rfl rfl) fe_int) fe_str) (fss_one (fs_ret (fe_list A T.m_list (fe_ix A (fe_var A (i := 0) rfl rfl) fe_int)))) fss_nil) (fss_one (fs_ret (lc_rule A (own := [("_law_one", 1)]) (fi_of (fe_ix A (fe_var A (i := 0) rfl rfl) fe_int)) (by decide +kernel) (by decide) (fun _ A' => fg_name A' (i := 1) rfl rfl) (fun _ A' => fts_nil) (fun _ A' => (fe_tup (fl_cons fe_int.toP (fl_cons ((fe_var A' (i := 1) rfl rfl).toP) fl_nil))).toP)))))
theorem k_law_inner {Z : Wd} (T : Tops Z) : Known Z 1 "_law_inner" [] f_law_inner := T.t_law_inner.known (d_law_inner T)
abbrev n_law_place_first : List Str := ["_law_row"]
theorem sc_law_place_first : FnScope n_law_place_first ["_law_row"] (defScope s_law_place_first) := ⟨rfl, rfl, rfl, by decide +kernel, rfl, by decide +kernel, by decide +kernel⟩
set_option maxHeartbeats 4000000 in
theorem d_law_place_first {Z : Wd} (T : Tops Z) : ∀ f fd, Fun Z.K "_law_place_first" "_law_place_first" s_law_place_first f fd → FnOk Z.P Z.w Z.K Z.mg Z.base (L2.CX Z.P Z.w) (0 + 1) f fd ["_law_row"] (spOf Z.T Z.K Z.mg (runDef 1 1 (b_law_place_first))) := fun f fd F =>
  def_ok F sc_law_place_first fun X E W A hT => fss_one (fs_ret (fe_ix A (fe_var A (i := 0) rfl rfl) fe_int))
theorem k_law_place_first {Z : Wd} (T : Tops Z) : Known Z 1 "_law_place_first" [] f_law_place_first := T.t_law_place_first.known (d_law_place_first T)
abbrev n_law_walked : List Str := ["_law_term_here", "_law_waiting", "_law_found", "_law_spot", "_law_bound", "_law_one", "_law_k", "_law_part"]
theorem sc_law_walked : FnScope n_law_walked ["_law_term_here"] (defScope s_law_walked) := ⟨rfl, rfl, rfl, by decide +kernel, rfl, by decide +kernel, by decide +kernel⟩
set_option maxHeartbeats 4000000 in
theorem d_law_walked {Z : Wd} (T : Tops Z) : ∀ f fd, Fun Z.K "_law_walked" "_law_walked" s_law_walked f fd → FnOk Z.P Z.w Z.K Z.mg Z.base (L2.CX Z.P Z.w) (3 + 1) f fd ["_law_term_here"] (spOf Z.T Z.K Z.mg (runDef 1 8 (b_law_walked))) := fun f fd F =>
  def_ok F sc_law_walked fun X E W A hT => fss_cons (fs_own A (i := 1) rfl rfl (fe_lst (fl_cons ((fe_tup (fl_cons ((fe_tup fl_nil).toP) (fl_cons fe_int.toP (fl_cons ((fe_var A (i := 0) rfl rfl).toP) fl_nil)))).toP) fl_nil))) (fss_cons (fs_own A (i := 2) rfl rfl (fe_lst fl_nil)) (fss_cons (fs_while A [3, 4, 5, 6, 7] 100000000 (ft_ne A (fe_var A (i := 1) rfl rfl) (fe_lst fl_nil)) (fss_cons (fs_pat (fg_tup A (fgs_cons (fg_name A (i := 3) rfl rfl) (fgs_cons (fg_name A (i := 4) rfl rfl) (fgs_cons (fg_name A (i := 5) rfl rfl) fgs_nil)))) ((fe_pop (fe_var A (i := 1) rfl rfl)).toP)) (fss_cons (fs_exp (fe_append (fe_var A (i := 2) rfl rfl) ((fe_tup (fl_cons ((fe_var A (i := 3) rfl rfl).toP) (fl_cons ((fe_var A (i := 4) rfl rfl).toP) (fl_cons ((fe_var A (i := 5) rfl rfl).toP) fl_nil)))).toP))) (fss_one (fs_for A [6, 7] (fi_enum A (A.no T.m_enumerate) (fe_call A hT ((k_law_inner T).mono (by decide)) (fl_cons ((fe_var A (i := 5) rfl rfl).toP) fl_nil))) srcEn_ns (fg_tup A (fgs_cons (fg_name A (i := 6) rfl rfl) (fgs_cons (fg_name A (i := 7) rfl rfl) fgs_nil))) (fss_one (fs_exp (fe_append (fe_var A (i := 1) rfl rfl) ((fe_tup (fl_cons ((fe_add (fe_var A (i := 3) rfl rfl) (fe_tup (fl_cons ((fe_var A (i := 6) rfl rfl).toP) fl_nil))).toP) (fl_cons ((fe_add (fe_var A (i := 4) rfl rfl) (fe_ix A (fe_var A (i := 7) rfl rfl) fe_int)).toP) (fl_cons ((fe_ix A (fe_var A (i := 7) rfl rfl) fe_int).toP) fl_nil)))).toP))))))))) (fss_one (fs_ret (fe_sortK A hT T.m_sorted (k_law_place_first T) (by decide) (fe_var A (i := 2) rfl rfl))))))
theorem k_law_walked {Z : Wd} (T : Tops Z) : Known Z 4 "_law_walked" [] f_law_walked := T.t_law_walked.known (d_law_walked T)
abbrev n_law_number : List Str := ["_law_found"]
theorem sc_law_number : FnScope n_law_number ["_law_found"] (defScope s_law_number) := ⟨rfl, rfl, rfl, by decide +kernel, rfl, by decide +kernel, by decide +kernel⟩
set_option maxHeartbeats 4000000 in
theorem d_law_number {Z : Wd} (T : Tops Z) : ∀ f fd, Fun Z.K "_law_number" "_law_number" s_law_number f fd → FnOk Z.P Z.w Z.K Z.mg Z.base (L2.CX Z.P Z.w) (0 + 1) f fd ["_law_found"] (spOf Z.T Z.K Z.mg (runDef 1 1 (b_law_number))) := fun f fd F =>
  def_ok F sc_law_number fun X E W A hT => fss_one (fs_ret (fe_and (fe_isi A T.m_isinstance T.m_int boot_tint (fe_var A (i := 0) rfl rfl)) (fe_one (fe_not (fe_isi A T.m_isinstance T.m_bool boot_tbool (fe_var A (i := 0) rfl rfl))))))
theorem k_law_number {Z : Wd} (T : Tops Z) : Known Z 1 "_law_number" [] f_law_number := T.t_law_number.known (d_law_number T)
abbrev n_law_right : List Str := ["_law_term_here", "_law_rows", "_law_cell", "_law_found", "_law_row", "_law_k", "_law_spot", "_law_bound", "_law_one", "_law_there", "_law_many", "_law_beyond"]
theorem sc_law_right : FnScope n_law_right ["_law_term_here", "_law_rows", "_law_cell"] (defScope s_law_right) := ⟨rfl, rfl, rfl, by decide +kernel, rfl, by decide +kernel, by decide +kernel⟩
set_option maxHeartbeats 4000000 in
theorem d_law_right {Z : Wd} (T : Tops Z) : ∀ f fd, Fun Z.K "_law_right" "_law_right" s_law_right f fd → FnOk Z.P Z.w Z.K Z.mg Z.base (L2.CX Z.P Z.w) (31 + 1) f fd ["_law_term_here", "_law_rows", "_law_cell"] (spOf Z.T Z.K Z.mg (runDef 3 12 (b_law_right))) := fun f fd F =>
  def_ok F sc_law_right fun X E W A hT => fss_cons (fs_own A (i := 3) rfl rfl (fe_call A hT ((k_places T).mono (by decide)) (fl_cons ((fe_var A (i := 0) rfl rfl).toP) fl_nil))) (fss_cons (fs_if ((fw_or (ft_not (ft_val (fe_isi A T.m_isinstance T.m_list boot_tlist (fe_var A (i := 3) rfl rfl)))) (fw_or1 (ft_ne A (fe_var A (i := 3) rfl rfl) (lc_rule A (own := [("_law_row", 4)]) (fi_of (fe_var A (i := 1) rfl rfl)) (by decide +kernel) (by decide) (fun _ A' => fg_name A' (i := 4) rfl rfl) (fun _ A' => fts_nil) (fun _ A' => (fe_ix A' (fe_var A' (i := 4) rfl rfl) fe_int).toP))))).ft) (fss_one (fs_ret fe_bl)) fss_nil) (fss_cons (fs_if (ft_not (ft_val (fe_all A T.m_all (lc_rule A (own := [("_law_spot", 6)]) (fi_of (fe_var A (i := 3) rfl rfl)) (by decide +kernel) (by decide) (fun _ A' => fg_name A' (i := 6) rfl rfl) (fun _ A' => fts_nil) (fun _ A' => (fe_and (fe_isi A' T.m_isinstance T.m_tuple boot_ttuple (fe_var A' (i := 6) rfl rfl)) (fe_one (fe_all A' T.m_all (lc_rule A' (own := [("_law_k", 5)]) (fi_of (fe_var A' (i := 6) rfl rfl)) (by decide +kernel) (by decide) (fun _ A'' => fg_name A'' (i := 5) rfl rfl) (fun _ A'' => fts_nil) (fun _ A'' => (fe_call A'' hT ((k_law_number T).mono (by decide)) (fl_cons ((fe_var A'' (i := 5) rfl rfl).toP) fl_nil)).toP))))).toP))))) (fss_one (fs_ret fe_bl)) fss_nil) (fss_cons (fs_for A [6, 7, 8, 9, 10, 11] (fi_of ((fe_var A (i := 1) rfl rfl).toP).fe) srcP_ns (fg_tup A (fgs_cons (fg_name A (i := 6) rfl rfl) (fgs_cons (fg_name A (i := 7) rfl rfl) (fgs_cons (fg_name A (i := 8) rfl rfl) fgs_nil)))) (fss_cons (fs_set A (i := 9) rfl rfl ((fe_call A hT ((k_at T).mono (by decide)) (fl_cons ((fe_var A (i := 0) rfl rfl).toP) (fl_cons ((fe_var A (i := 6) rfl rfl).toP) fl_nil))).toP)) (fss_cons (fs_if ((fw_or (ft_not (ft_val (fe_isi A T.m_isinstance T.m_tuple boot_ttuple (fe_var A (i := 9) rfl rfl)))) (fw_or (ft_ne A (fe_var A (i := 9) rfl rfl) (fe_tup (fl_cons ((fe_var A (i := 7) rfl rfl).toP) (fl_cons ((fe_var A (i := 8) rfl rfl).toP) fl_nil)))) (fw_or1 (ft_not (ft_val (fe_call A hT ((k_law_number T).mono (by decide)) (fl_cons ((fe_ix A (fe_var A (i := 9) rfl rfl) fe_int).toP) fl_nil))))))).ft) (fss_one (fs_ret fe_bl)) fss_nil) (fss_cons (fs_set A (i := 10) rfl rfl ((fe_len A T.m_len (fe_call A hT ((k_law_inner T).mono (by decide)) (fl_cons ((fe_var A (i := 8) rfl rfl).toP) fl_nil))).toP)) (fss_one (fs_for A [11] (fi_of ((fe_lst (fl_cons ((fe_add (fe_var A (i := 6) rfl rfl) (fe_tup (fl_cons ((fe_add (fe_var A (i := 10) rfl rfl) (fe_mod (fe_var A (i := 2) rfl rfl) (fe_pow fe_int fe_int))).toP) fl_nil))).toP) (fl_cons ((fe_add (fe_var A (i := 6) rfl rfl) (fe_tup (fl_cons ((fe_sub (fe_neg fe_int) (fe_mod (fe_var A (i := 2) rfl rfl) fe_int)).toP) fl_nil))).toP) (fl_cons ((fe_add (fe_var A (i := 6) rfl rfl) (fe_tup (fl_cons ((fe_var A (i := 10) rfl rfl).toP) (fl_cons fe_int.toP fl_nil)))).toP) (fl_cons ((fe_add (fe_tup (fl_cons ((fe_neg fe_int).toP) fl_nil)) (fe_var A (i := 6) rfl rfl)).toP) fl_nil))))).toP).fe) srcP_ns (fg_name A (i := 11) rfl rfl) (fss_one (fs_if (ft_notN (fe_call A hT ((k_at T).mono (by decide)) (fl_cons ((fe_var A (i := 0) rfl rfl).toP) (fl_cons ((fe_var A (i := 11) rfl rfl).toP) fl_nil)))) (fss_one (fs_ret fe_bl)) fss_nil)))))))) (fss_cons (fs_exp (fe_append (fe_var A (i := 3) rfl rfl) ((fe_tup (fl_cons fe_int.toP fl_nil)).toP))) (fss_cons (fs_sub A ((fe_tup (fl_cons fe_int.toP fl_nil)).toP) (fe_var A (i := 3) rfl rfl) fe_int (fun hz => pg_sub (fe_var A (i := 3) rfl rfl).pe fe_int.pe hz)) (fss_one (fs_ret (fe_eq A (fe_call A hT ((k_places T).mono (by decide)) (fl_cons ((fe_var A (i := 0) rfl rfl).toP) fl_nil)) (lc_rule A (own := [("_law_row", 4)]) (fi_of (fe_var A (i := 1) rfl rfl)) (by decide +kernel) (by decide) (fun _ A' => fg_name A' (i := 4) rfl rfl) (fun _ A' => fts_nil) (fun _ A' => (fe_ix A' (fe_var A' (i := 4) rfl rfl) fe_int).toP))))))))))
theorem k_law_right {Z : Wd} (T : Tops Z) : Known Z 32 "_law_right" [] f_law_right := T.t_law_right.known (d_law_right T)
abbrev n_law : List Str := ["_law_script", "_law_k", "_law_seed", "_law_term_here", "_law_rows", "_law_many"]
theorem sc_law : FnScope n_law ["_law_script"] (defScope s_law) := ⟨rfl, rfl, rfl, by decide +kernel, rfl, by decide +kernel, by decide +kernel⟩
set_option maxHeartbeats 4000000 in
theorem d_law {Z : Wd} (T : Tops Z) : ∀ f fd, Fun Z.K "law" "law" s_law f fd → FnOk Z.P Z.w Z.K Z.mg Z.base (L2.CX Z.P Z.w) (32 + 1) f fd ["_law_script"] (spOf Z.T Z.K Z.mg (runDef 1 6 (b_law))) := fun f fd F =>
  def_ok F sc_law fun X E W A hT => fss_cons (fs_for A [1, 2, 3, 4, 5] (fi_range3 A (A.no T.m_range) (fl_cons fe_int.toP (fl_cons ((fe_max2 A T.m_max fe_int (fe_min2 A T.m_min (fe_len A T.m_len (fe_var A (i := 0) rfl rfl)) fe_int)).toP) (fl_cons fe_int.toP fl_nil)))) srcR3_ns (fg_name A (i := 1) rfl rfl) (fss_cons (fs_set A (i := 2) rfl rfl ((fe_call A hT ((k_law_cell_at T).mono (by decide)) (fl_cons ((fe_var A (i := 0) rfl rfl).toP) (fl_cons ((fe_var A (i := 1) rfl rfl).toP) fl_nil))).toP)) (fss_cons (fs_set A (i := 3) rfl rfl ((fe_call A hT ((k_law_grown T).mono (by decide)) (fl_cons ((fe_call A hT ((k_law_drawn T).mono (by decide)) (fl_cons ((fe_slice (fe_var A (i := 0) rfl rfl) (fo_some (fe_var A (i := 1) rfl rfl)) fo_none).toP) (fl_cons ((fe_mod (fe_call A hT ((k_law_mix T).mono (by decide)) (fl_cons ((fe_var A (i := 2) rfl rfl).toP) (fl_cons fe_int.toP fl_nil))) fe_int).toP) (fl_cons ((fe_var A (i := 2) rfl rfl).toP) fl_nil)))).toP) (fl_cons ((fe_call A hT ((k_law_mix T).mono (by decide)) (fl_cons ((fe_var A (i := 2) rfl rfl).toP) (fl_cons fe_int.toP fl_nil))).toP) fl_nil))).toP)) (fss_cons (fs_set A (i := 4) rfl rfl ((fe_call A hT ((k_law_walked T).mono (by decide)) (fl_cons ((fe_var A (i := 3) rfl rfl).toP) fl_nil)).toP)) (fss_cons (fs_set A (i := 5) rfl rfl ((fe_call A hT ((k_size T).mono (by decide)) (fl_cons ((fe_var A (i := 3) rfl rfl).toP) fl_nil)).toP)) (fss_one (fs_if ((fw_or (ft_not (ft_val (fe_call A hT ((k_law_number T).mono (by decide)) (fl_cons ((fe_var A (i := 5) rfl rfl).toP) fl_nil)))) (fw_or (ft_ne A (fe_var A (i := 5) rfl rfl) (fe_len A T.m_len (fe_var A (i := 4) rfl rfl))) (fw_or1 (ft_not (ft_val (fe_call A hT ((k_law_right T).mono (by decide)) (fl_cons ((fe_var A (i := 3) rfl rfl).toP) (fl_cons ((fe_var A (i := 4) rfl rfl).toP) (fl_cons ((fe_var A (i := 2) rfl rfl).toP) fl_nil))))))))).ft) (fss_one (fs_ret fe_bl)) fss_nil))))))) (fss_one (fs_ret fe_bl))
end HF


end
section
set_option Elab.async false
set_option linter.all false
set_option maxRecDepth 20000
set_option autoImplicit false
/-! HM: plain lemmas on loops and comprehensions; terms. -/
namespace HF
open PySem PySem.Spec PyProof.Rows L2

/-! ### loops -/
section
variable {e : EV} {all : List PV} {pt : Pat} {vs ws : List Nat} {t : Sm Bool} {f : Sm PV} {b : Ss} {c : Sm Bool}
theorem lcL_nil (acc : List PV) (M : Mem) (h : Chk e all M) : lcL e all pt vs t f [] acc M = some (acc, M) := by
  unfold lcL; rw [if_pos h]
theorem lcL_fm {α : Type} (M : Mem) (h : Chk e all M) (k : α → PV) (g : α → Option PV) : ∀ (ys : List α) (acc : List PV), (∀ y ∈ ys, lcStep pt vs t f (k y) M = some (g y, M)) → lcL e all pt vs t f (ys.map k) acc M = some (acc ++ ys.filterMap g, M)
  | [], acc, _ => by rw [List.map_nil, lcL_nil _ _ h]; simp
  | y :: ys, acc, H => by
    have h1 := H y List.mem_cons_self
    have h2 := fun acc => lcL_fm M h k g ys acc fun z hz => H z (List.mem_cons_of_mem _ hz)
    simp only [List.map_cons]
    unfold lcL
    rw [if_pos h, h1]
    cases e : g y with
    | none => simp only [h2, List.filterMap_cons, e]
    | some p => simp only [h2, List.filterMap_cons, e, List.append_assoc, List.singleton_append]
theorem lcL_map {α : Type} (M : Mem) (h : Chk e all M) (k g : α → PV) (ys : List α) (acc : List PV) (H : ∀ y ∈ ys, lcStep pt vs t f (k y) M = some (some (g y), M)) : lcL e all pt vs t f (ys.map k) acc M = some (acc ++ ys.map g, M) := by
  rw [lcL_fm M h k (fun y => some (g y)) ys acc H]
  simp
theorem forL_inv {α : Type} (k : α → PV) (I : List α → Mem → Prop) (Q : SR → Prop)
    (step : ∀ y ys M, I (y :: ys) M → Chk e all M ∧ ((∃ M', forTurn pt b ws (k y) M = .go M' ∧ I ys M') ∨ ∃ z, forTurn pt b ws (k y) M = .out z ∧ Q z))
    (fin : ∀ M, I [] M → Chk e all M ∧ Q (.nx M)) : ∀ (ys : List α) (M : Mem), I ys M → Q (forL e all pt b ws (ys.map k) M)
  | [], M, h => by
    obtain ⟨h1, h2⟩ := fin M h
    simp only [List.map_nil]; unfold forL; rw [if_pos h1]; exact h2
  | y :: ys, M, h => by
    obtain ⟨h1, h2⟩ := step y ys M h
    simp only [List.map_cons]
    unfold forL
    rw [if_pos h1]
    rcases h2 with ⟨M', e1, h3⟩ | ⟨z, e1, h3⟩
    · rw [e1]; exact forL_inv k I Q step fin ys M' h3
    · rw [e1]; exact h3
/-- a loop that always goes on: its state is a function of what it has seen -/
theorem forL_fold {α σ : Type} (St : σ → Mem) (k : α → PV) (step : σ → α → σ) (h : ∀ s, Chk e all (St s)) : ∀ (ys : List α) (s : σ), (∀ y ∈ ys, ∀ s, forTurn pt b ws (k y) (St s) = .go (St (step s y))) → forL e all pt b ws (ys.map k) (St s) = .nx (St (ys.foldl step s))
  | [], s, _ => by simp only [List.map_nil]; unfold forL; rw [if_pos (h s)]; rfl
  | y :: ys, s, H => by
    have h2 := forL_fold St k step h ys (step s y) fun z hz => H z (List.mem_cons_of_mem _ hz)
    simp only [List.map_cons]
    unfold forL
    rw [if_pos (h s), H y List.mem_cons_self s]
    exact h2
theorem lcL_map0 {α : Type} (M : Mem) (k g : α → PV) (ys : List α) (acc : List PV) (H : ∀ y ∈ ys, lcStep pt vs t f (k y) M = some (some (g y), M)) : lcL (.v .non) all pt vs t f (ys.map k) acc M = some (acc ++ ys.map g, M) := lcL_map (e := .v .non) (all := all) M trivial k g ys acc H
theorem forL_fold0 {α σ : Type} (St : σ → Mem) (k : α → PV) (step : σ → α → σ) (ys : List α) (s : σ) (H : ∀ y ∈ ys, ∀ s, forTurn pt b ws (k y) (St s) = .go (St (step s y))) : forL (.v .non) all pt b ws (ys.map k) (St s) = .nx (St (ys.foldl step s)) := forL_fold (e := .v .non) (all := all) St k step (fun _ => trivial) ys s H
theorem whileL_inv (I : Nat → Mem → Prop) (Q : SR → Prop)
    (step : ∀ n M, I n M → (∃ M1, c M = .ok false M1 ∧ Q (.nx M1)) ∨ ∃ M1, c M = .ok true M1 ∧ ((∃ M2 n', (b M1 = .nx M2 ∨ b M1 = .cnt M2) ∧ n' < n ∧ I n' (forget ws M2)) ∨ (∃ M2, b M1 = .brk M2 ∧ Q (.nx (forget ws M2))) ∨ (∃ e M2, b M1 = .ret e M2 ∧ Q (.ret e M2)))) :
    ∀ (n : Nat) (M : Mem) (fuel : Nat), n < fuel → I n M → Q (whileL c b ws fuel M) := by
  intro n M fuel
  induction fuel generalizing n M with
  | zero => intro h; omega
  | succ m ih =>
    intro lt h
    unfold whileL
    rcases step n M h with ⟨M1, e1, q⟩ | ⟨M1, e1, q⟩
    · rw [e1]; simpa using q
    · rw [e1]
      rcases q with ⟨M2, n', e2, l2, q⟩ | ⟨M2, e2, q⟩ | ⟨e3, M2, e2, q⟩
      · rcases e2 with e2 | e2 <;> simp only [Res.st, if_true, e2] <;> exact ih n' _ (by omega) q
      · simpa only [Res.st, if_true, e2] using q
      · simpa only [Res.st, if_true, e2] using q
end

/-! ### terms -/
inductive Tm where
  | name (k : Nat)
  | sign (w : Str) (ps : List (Nat × Tm))
  | hole (w : Str) (ts : List Tm)
theorem Tm.lt_sign {w : Str} {ps : List (Nat × Tm)} {p : Nat × Tm} (h : p ∈ ps) : sizeOf p.2 < sizeOf (Tm.sign w ps) := by
  have := List.sizeOf_lt_of_mem h
  obtain ⟨a, b⟩ := p
  simp at this ⊢
  omega
theorem Tm.lt_hole {w : Str} {ts : List Tm} {p : Tm} (h : p ∈ ts) : sizeOf p < sizeOf (Tm.hole w ts) := by
  have := List.sizeOf_lt_of_mem h
  simp at this ⊢
  omega
section
variable {α : Type} (fn : Nat → α) (fs : Str → List (Nat × α) → α) (fh : Str → List α → α)
def Tm.fold : Tm → α
  | .name k => fn k
  | .sign w ps => fs w (ps.attach.map fun p => (p.1.1, Tm.fold p.1.2))
  | .hole w ts => fh w (ts.attach.map fun p => Tm.fold p.1)
termination_by t => sizeOf t
decreasing_by
  · exact Tm.lt_sign p.2
  · exact Tm.lt_hole p.2
theorem Tm.fold_name (k : Nat) : Tm.fold fn fs fh (.name k) = fn k := by rw [Tm.fold]
theorem Tm.fold_sign (w : Str) (ps : List (Nat × Tm)) : Tm.fold fn fs fh (.sign w ps) = fs w (ps.map fun p => (p.1, Tm.fold fn fs fh p.2)) := by
  rw [Tm.fold]; congr 1; exact List.attach_map_val (l := ps) (f := fun p => (p.1, Tm.fold fn fs fh p.2))
theorem Tm.fold_hole (w : Str) (ts : List Tm) : Tm.fold fn fs fh (.hole w ts) = fh w (ts.map fun p => Tm.fold fn fs fh p) := by
  rw [Tm.fold]; congr 1; exact List.attach_map_val (l := ts) (f := fun p => Tm.fold fn fs fh p)
end
theorem Tm.ind {P : Tm → Prop} (hn : ∀ k, P (.name k)) (hs : ∀ w ps, (∀ p ∈ ps, P p.2) → P (.sign w ps)) (hh : ∀ w ts, (∀ t ∈ ts, P t) → P (.hole w ts)) (t : Tm) : P t :=
  match t with
  | .name k => hn k
  | .sign w ps => hs w ps fun p hp => Tm.ind hn hs hh p.2
  | .hole w ts => hh w ts fun p hp => Tm.ind hn hs hh p
termination_by sizeOf t
decreasing_by
  · exact Tm.lt_sign hp
  · exact Tm.lt_hole hp
/-- how a term is told -/
def Tm.enc : Tm → PV := Tm.fold (fun k => .tup [.str "name", .int k]) (fun w ps => .tup [.str "sign", .str w, .tup (ps.map fun p => .tup [.int p.1, p.2])]) (fun w ts => .tup [.str "hole", .str w, .tup ts])
def encP (p : Nat × Tm) : PV := .tup [.int p.1, p.2.enc]
theorem Tm.enc_name (k : Nat) : (Tm.name k).enc = .tup [.str "name", .int k] := Tm.fold_name ..
theorem Tm.enc_sign (w : Str) (ps : List (Nat × Tm)) : (Tm.sign w ps).enc = .tup [.str "sign", .str w, .tup (ps.map encP)] := by
  unfold Tm.enc; rw [Tm.fold_sign, List.map_map]; rfl
theorem Tm.enc_hole (w : Str) (ts : List Tm) : (Tm.hole w ts).enc = .tup [.str "hole", .str w, .tup (ts.map Tm.enc)] := by
  unfold Tm.enc; rw [Tm.fold_hole]
/-- its parts -/
def Tm.inner : Tm → List (Nat × Tm)
  | .name _ => []
  | .sign _ ps => ps
  | .hole _ ts => ts.map fun t => (0, t)
theorem Tm.ind' {P : Tm → Prop} (h : ∀ t : Tm, (∀ p ∈ t.inner, P p.2) → P t) (t : Tm) : P t :=
  Tm.ind (fun k => h _ fun p hp => by simp [Tm.inner] at hp) (fun w ps ih => h _ fun p hp => ih p hp) (fun w ts ih => h _ fun p hp => by
    simp only [Tm.inner, List.mem_map] at hp
    obtain ⟨t, ht, rfl⟩ := hp
    exact ih t ht) t
def Tm.size : Tm → Nat := Tm.fold (fun _ => 1) (fun _ ps => 1 + (ps.map (·.2)).sum) (fun _ ts => 1 + ts.sum)
theorem Tm.size_eq (t : Tm) : t.size = 1 + (t.inner.map fun p => p.2.size).sum := by
  cases t with
  | name k => simp [Tm.size, Tm.fold_name, Tm.inner]
  | sign w ps => simp [Tm.size, Tm.fold_sign, Tm.inner, Function.comp_def]
  | hole w ts => simp [Tm.size, Tm.fold_hole, Tm.inner, Function.comp_def]
def nmax : List Nat → Nat
  | [] => 0
  | n :: ns => max n (nmax ns)
theorem le_nmax {n : Nat} : ∀ {ns : List Nat}, n ∈ ns → n ≤ nmax ns
  | m :: ns, h => by
    unfold nmax
    rcases List.mem_cons.mp h with rfl | h
    · omega
    · have := le_nmax h; omega
theorem nmax_le {n : Nat} : ∀ {ns : List Nat}, (∀ m ∈ ns, m ≤ n) → nmax ns ≤ n
  | [], _ => Nat.zero_le _
  | m :: ns, h => by
    unfold nmax
    have h1 := h m List.mem_cons_self
    have h2 := nmax_le (ns := ns) fun k hk => h k (List.mem_cons_of_mem _ hk)
    omega
/-- how many levels it has: a leaf has one -/
def Tm.depth : Tm → Nat := Tm.fold (fun _ => 1) (fun _ ps => 1 + nmax (ps.map (·.2))) (fun _ ts => 1 + nmax ts)
theorem Tm.depth_eq (t : Tm) : t.depth = 1 + nmax (t.inner.map fun p => p.2.depth) := by
  cases t with
  | name k => simp [Tm.depth, Tm.fold_name, Tm.inner, nmax]
  | sign w ps => simp [Tm.depth, Tm.fold_sign, Tm.inner, Function.comp_def]
  | hole w ts => simp [Tm.depth, Tm.fold_hole, Tm.inner, Function.comp_def]
theorem Tm.depth_lt {t : Tm} {p : Nat × Tm} (h : p ∈ t.inner) : p.2.depth < t.depth := by
  rw [Tm.depth_eq t]
  have := le_nmax (List.mem_map_of_mem (f := fun p : Nat × Tm => p.2.depth) h)
  omega
theorem le_nsum {n : Nat} : ∀ {ns : List Nat}, n ∈ ns → n ≤ ns.sum
  | m :: ns, h => by
    rw [List.sum_cons]
    rcases List.mem_cons.mp h with rfl | h
    · omega
    · have := le_nsum h; omega
theorem Tm.size_lt {t : Tm} {p : Nat × Tm} (h : p ∈ t.inner) : p.2.size < t.size := by
  rw [Tm.size_eq t]
  have := le_nsum (List.mem_map_of_mem (f := fun p : Nat × Tm => p.2.size) h)
  omega
theorem Tm.size_pos (t : Tm) : 0 < t.size := by rw [Tm.size_eq]; omega
theorem Tm.inner_len {t : Tm} : t.inner.length < t.size := by
  rw [Tm.size_eq]
  have : ∀ l : List (Nat × Tm), l.length ≤ (l.map fun p => p.2.size).sum := by
    intro l
    induction l with
    | nil => simp
    | cons p l ih => have := p.2.size_pos; simp only [List.map_cons, List.sum_cons, List.length_cons]; omega
  have := this t.inner
  omega
theorem atI_nat {α : Type} (xs : List α) (j : Nat) : atI xs (j : Int) = xs[j]? := by
  unfold atI ixN
  rw [if_pos (Int.natCast_nonneg j)]
  by_cases h : (j : Int) < xs.length
  · rw [if_pos h]; simp
  · rw [if_neg h]
    have : xs.length ≤ j := by omega
    simp [this]
theorem atI_0 {α : Type} (xs : List α) : atI xs 0 = xs[0]? := atI_nat xs 0
theorem atI_1 {α : Type} (xs : List α) : atI xs 1 = xs[1]? := atI_nat xs 1
theorem atI_2 {α : Type} (xs : List α) : atI xs 2 = xs[2]? := atI_nat xs 2
theorem str_ns : (Str.ofString "name" = Str.ofString "sign") = False := by simp; decide +kernel
theorem str_nh : (Str.ofString "name" = Str.ofString "hole") = False := by simp; decide +kernel
theorem str_sn : (Str.ofString "sign" = Str.ofString "name") = False := by simp; decide +kernel
theorem str_sh : (Str.ofString "sign" = Str.ofString "hole") = False := by simp; decide +kernel
theorem str_hn : (Str.ofString "hole" = Str.ofString "name") = False := by simp; decide +kernel
theorem str_hs : (Str.ofString "hole" = Str.ofString "sign") = False := by simp; decide +kernel
theorem sizeLine_val : sizeLine = 16777216 := by decide
/-! ### terms as data -/
theorem asInts_fun {α : Type} (g : α → Int) : ∀ ys : List α, asInts (ys.map fun y => .int (g y)) = some (ys.map g)
  | [] => rfl
  | y :: ys => by simp [asInts_fun g ys]
theorem toDs_map {α : Type} (k : α → PV) (d : α → PyData) : ∀ ys : List α, (∀ y ∈ ys, (k y).toD = some (d y)) → toDs (ys.map k) = some (ys.map d)
  | [], _ => by simp [toDs]
  | y :: ys, h => by simp [toDs, h y List.mem_cons_self, toDs_map k d ys fun z hz => h z (List.mem_cons_of_mem _ hz)]
theorem canLayAll0_all : ∀ ds : List PyData, PyData.canLayAll0 ds = ds.all PyData.canLay0
  | [] => rfl
  | d :: ds => by simp [PyData.canLayAll0, canLayAll0_all ds]
theorem depthAll_nmax : ∀ ds : List PyData, PyData.depthAll ds = nmax (ds.map PyData.depth)
  | [] => rfl
  | d :: ds => by simp [PyData.depthAll, nmax, depthAll_nmax ds]
theorem shaped_list {ds : List PyData} (h : ∀ d ∈ ds, d.canLay0 = true ∧ d.depth ≤ 63) : SeqAt.shaped (.list ds) = true := by
  unfold SeqAt.shaped
  simp only [PyData.canLay0, PyData.depth, canLayAll0_all, depthAll_nmax, Bool.and_eq_true, List.all_eq_true, decide_eq_true_eq]
  refine ⟨fun d hd => (h d hd).1, ?_⟩
  have : nmax (ds.map PyData.depth) ≤ 63 := nmax_le fun m hm => by
    obtain ⟨d, hd, rfl⟩ := List.mem_map.mp hm
    exact (h d hd).2
  omega
theorem eqv_nil (ds : List PyData) : PyData.eqv (.list ds) (.list []) = ds.isEmpty := by
  cases ds <;> simp [PyData.eqv, PyData.eqvAll]
def Tm.dat : Tm → PyData := Tm.fold (fun k => .tuple [.str "name", .int k]) (fun w ps => .tuple [.str "sign", .str w, .tuple (ps.map fun p => .tuple [.int p.1, p.2])]) (fun w ts => .tuple [.str "hole", .str w, .tuple ts])
def datP (p : Nat × Tm) : PyData := .tuple [.int p.1, p.2.dat]
theorem Tm.dat_name (k : Nat) : (Tm.name k).dat = .tuple [.str "name", .int k] := Tm.fold_name ..
theorem Tm.dat_sign (w : Str) (ps : List (Nat × Tm)) : (Tm.sign w ps).dat = .tuple [.str "sign", .str w, .tuple (ps.map datP)] := by
  unfold Tm.dat; rw [Tm.fold_sign, List.map_map]; rfl
theorem Tm.dat_hole (w : Str) (ts : List Tm) : (Tm.hole w ts).dat = .tuple [.str "hole", .str w, .tuple (ts.map Tm.dat)] := by
  unfold Tm.dat; rw [Tm.fold_hole]
theorem Tm.enc_toD (t : Tm) : t.enc.toD = some t.dat := by
  induction t using Tm.ind with
  | hn k => simp [Tm.enc_name, Tm.dat_name, PV.toD, toDs]
  | hs w ps ih => 
    have := toDs_map encP datP ps fun p hp => by simp [encP, datP, PV.toD, toDs, ih p hp]
    simp [Tm.enc_sign, Tm.dat_sign, PV.toD, toDs, this]
  | hh w ts ih => 
    have := toDs_map Tm.enc Tm.dat ts fun p hp => ih p hp
    simp [Tm.enc_hole, Tm.dat_hole, PV.toD, toDs, this]
/-- all words of a term -/
def Tm.words : Tm → List Str := Tm.fold (fun _ => []) (fun w ps => w :: (ps.map (·.2)).flatten) (fun w ts => w :: ts.flatten)
theorem Tm.words_name (k : Nat) : (Tm.name k).words = [] := Tm.fold_name ..
theorem Tm.words_sign (w : Str) (ps : List (Nat × Tm)) : (Tm.sign w ps).words = w :: (ps.map fun p => p.2.words).flatten := by
  unfold Tm.words; rw [Tm.fold_sign, List.map_map]; rfl
theorem Tm.words_hole (w : Str) (ts : List Tm) : (Tm.hole w ts).words = w :: (ts.map Tm.words).flatten := by
  unfold Tm.words; rw [Tm.fold_hole]
/-- its words can be compared -/
def Tm.Lay (t : Tm) : Prop := ∀ w ∈ t.words, PyData.strOk w = true
theorem Tm.Lay.inner {t : Tm} (h : t.Lay) {p : Nat × Tm} (hp : p ∈ t.inner) : p.2.Lay := by
  intro w hw
  cases t with
  | name k => simp [Tm.inner] at hp
  | sign v ps => refine h w ?_; rw [Tm.words_sign]; exact List.mem_cons_of_mem _ (List.mem_flatten.mpr ⟨_, List.mem_map_of_mem hp, hw⟩)
  | hole v ts => 
    simp only [Tm.inner, List.mem_map] at hp
    obtain ⟨t, ht, rfl⟩ := hp
    refine h w ?_; rw [Tm.words_hole]; exact List.mem_cons_of_mem _ (List.mem_flatten.mpr ⟨_, List.mem_map_of_mem ht, hw⟩)
theorem strOk_name : PyData.strOk (Str.ofString "name") = true := by decide +kernel
theorem strOk_sign : PyData.strOk (Str.ofString "sign") = true := by decide +kernel
theorem strOk_hole : PyData.strOk (Str.ofString "hole") = true := by decide +kernel
theorem Tm.dat_lay (t : Tm) (h : t.Lay) : t.dat.canLay0 = true := by
  induction t using Tm.ind with
  | hn k => simp [Tm.dat_name, PyData.canLay0, PyData.canLayAll0, strOk_name]
  | hs w ps ih => 
    have h1 : PyData.strOk w = true := h w (by rw [Tm.words_sign]; exact List.mem_cons_self)
    simp only [Tm.dat_sign, PyData.canLay0, PyData.canLayAll0, strOk_sign, h1, canLayAll0_all, Bool.and_true, Bool.true_and, List.all_eq_true]
    intro d hd
    obtain ⟨p, hp, rfl⟩ := List.mem_map.mp hd
    simp [datP, PyData.canLay0, PyData.canLayAll0, ih p hp (h.inner (t := .sign w ps) hp)]
  | hh w ts ih => 
    have h1 : PyData.strOk w = true := h w (by rw [Tm.words_hole]; exact List.mem_cons_self)
    simp only [Tm.dat_hole, PyData.canLay0, PyData.canLayAll0, strOk_hole, h1, canLayAll0_all, Bool.and_true, Bool.true_and, List.all_eq_true]
    intro d hd
    obtain ⟨p, hp, rfl⟩ := List.mem_map.mp hd
    exact ih p hp (h.inner (t := .hole w ts) (p := (0, p)) (by simp [Tm.inner, hp]))
theorem Tm.dat_depth (t : Tm) : t.dat.depth ≤ 3 * t.depth := by
  induction t using Tm.ind with
  | hn k => simp [Tm.dat_name, PyData.depth, PyData.depthAll, Tm.depth, Tm.fold_name]
  | hs w ps ih => 
    rw [Tm.depth_eq]
    simp only [Tm.dat_sign, PyData.depth, PyData.depthAll, depthAll_nmax, Tm.inner, List.map_map]
    have : nmax (ps.map (PyData.depth ∘ datP)) ≤ 1 + 3 * nmax (ps.map fun p => p.2.depth) := nmax_le fun m hm => by
      obtain ⟨p, hp, rfl⟩ := List.mem_map.mp hm
      have h1 := ih p hp
      have h2 := le_nmax (List.mem_map_of_mem (f := fun p : Nat × Tm => p.2.depth) hp)
      simp only [Function.comp, datP, PyData.depth, PyData.depthAll]
      omega
    omega
  | hh w ts ih => 
    rw [Tm.depth_eq]
    simp only [Tm.dat_hole, PyData.depth, PyData.depthAll, depthAll_nmax, Tm.inner, List.map_map]
    have : nmax (ts.map (PyData.depth ∘ Tm.dat)) ≤ 3 * nmax (ts.map ((fun p : Nat × Tm => p.2.depth) ∘ fun t => (0, t))) := nmax_le fun m hm => by
      obtain ⟨p, hp, rfl⟩ := List.mem_map.mp hm
      have h1 := ih p hp
      have h2 := le_nmax (List.mem_map_of_mem (f := ((fun p : Nat × Tm => p.2.depth) ∘ fun t => (0, t))) hp)
      simp only [Function.comp] at h2 ⊢
      omega
    omega
theorem Tm.dat_ok {t : Tm} (h : t.Lay) (hd : t.depth ≤ 20) : t.dat.canLay0 = true ∧ t.dat.depth ≤ 60 := ⟨t.dat_lay h, by have := t.dat_depth; omega⟩
theorem toDs_ints (ns : List Int) : toDs (ns.map .int) = some (ns.map .int) := toDs_map _ _ ns fun _ _ => by simp [PV.toD]
theorem shaped_ints (ns : List Int) : SeqAt.shaped (.list (ns.map .int)) = true := shaped_list fun d hd => by
  obtain ⟨n, _, rfl⟩ := List.mem_map.mp hd
  simp [PyData.canLay0, PyData.depth]
theorem shaped_nil : SeqAt.shaped (.list []) = true := shaped_ints []
/-- all names lie in a scope -/
def Tm.In : Tm → Nat → Prop := Tm.fold (fun k s => k < s) (fun _ ps s => ∀ p ∈ ps, p.2 (s + p.1)) (fun _ ts s => ∀ t ∈ ts, t s)
theorem Tm.In_name (k s : Nat) : (Tm.name k).In s ↔ k < s := by unfold Tm.In; rw [Tm.fold_name]
theorem Tm.In_sign (w : Str) (ps : List (Nat × Tm)) (s : Nat) : (Tm.sign w ps).In s ↔ ∀ p ∈ ps, p.2.In (s + p.1) := by
  unfold Tm.In; rw [Tm.fold_sign]; simp only [List.mem_map, forall_exists_index, and_imp, forall_apply_eq_imp_iff₂]
theorem Tm.In_hole (w : Str) (ts : List Tm) (s : Nat) : (Tm.hole w ts).In s ↔ ∀ t ∈ ts, t.In s := by
  unfold Tm.In; rw [Tm.fold_hole]; simp only [List.mem_map, forall_exists_index, and_imp, forall_apply_eq_imp_iff₂]
/-- what holds of each sign and each hole of a term -/
def Tm.Ok (S : Str → List Nat → Prop) (O : Str → Nat → Prop) : Tm → Prop := Tm.fold (fun _ => True) (fun w ps => S w (ps.map (·.1)) ∧ ∀ p ∈ ps, p.2) (fun w ts => O w ts.length ∧ ∀ t ∈ ts, t)
section
variable {S : Str → List Nat → Prop} {O : Str → Nat → Prop}
theorem Tm.Ok_name (k : Nat) : (Tm.name k).Ok S O ↔ True := by unfold Tm.Ok; rw [Tm.fold_name]
theorem Tm.Ok_sign (w : Str) (ps : List (Nat × Tm)) : (Tm.sign w ps).Ok S O ↔ S w (ps.map (·.1)) ∧ ∀ p ∈ ps, p.2.Ok S O := by
  unfold Tm.Ok; rw [Tm.fold_sign]; simp only [List.mem_map, forall_exists_index, and_imp, forall_apply_eq_imp_iff₂, List.map_map]; rfl
theorem Tm.Ok_hole (w : Str) (ts : List Tm) : (Tm.hole w ts).Ok S O ↔ O w ts.length ∧ ∀ t ∈ ts, t.Ok S O := by
  unfold Tm.Ok; rw [Tm.fold_hole]; simp only [List.mem_map, forall_exists_index, and_imp, forall_apply_eq_imp_iff₂, List.length_map]
theorem Tm.Ok.inner {t : Tm} (h : t.Ok S O) {p : Nat × Tm} (hp : p ∈ t.inner) : p.2.Ok S O := by
  cases t with
  | name k => simp [Tm.inner] at hp
  | sign w ps => exact ((Tm.Ok_sign w ps).mp h).2 p hp
  | hole w ts =>
    simp only [Tm.inner, List.mem_map] at hp
    obtain ⟨t, ht, rfl⟩ := hp
    exact ((Tm.Ok_hole w ts).mp h).2 t ht
theorem Tm.Ok.lay {t : Tm} (h : t.Ok S O) (hS : ∀ w l, S w l → PyData.strOk w = true) (hO : ∀ w l, O w l → PyData.strOk w = true) : t.Lay := by
  induction t using Tm.ind with
  | hn k => intro w hw; simp [Tm.words_name] at hw
  | hs w ps ih =>
    intro v hv
    rw [Tm.words_sign] at hv
    have h' := (Tm.Ok_sign w ps).mp h
    rcases List.mem_cons.mp hv with rfl | hv
    · exact hS _ _ h'.1
    · obtain ⟨l, hl, hv⟩ := List.mem_flatten.mp hv
      obtain ⟨p, hp, rfl⟩ := List.mem_map.mp hl
      exact ih p hp (h'.2 p hp) v hv
  | hh w ts ih =>
    intro v hv
    rw [Tm.words_hole] at hv
    have h' := (Tm.Ok_hole w ts).mp h
    rcases List.mem_cons.mp hv with rfl | hv
    · exact hO _ _ h'.1
    · obtain ⟨l, hl, hv⟩ := List.mem_flatten.mp hv
      obtain ⟨p, hp, rfl⟩ := List.mem_map.mp hl
      exact ih p hp (h'.2 p hp) v hv
end
theorem kitB_int_bool : kitB "int" "bool" = some false := by decide +kernel
theorem kitB_int_int : kitB "int" "int" = some true := by decide +kernel
theorem kitB_tuple_tuple : kitB "tuple" "tuple" = some true := by decide +kernel
theorem kitB_list_list : kitB "list" "list" = some true := by decide +kernel
theorem fits_of {x : Int} (h1 : -4000000000 ≤ x) (h2 : x ≤ 4000000000) : Builtin.Range.rangeFitsLong x = true := by
  unfold Builtin.Range.rangeFitsLong
  simp
  omega
theorem size_of {a b c : Int} (ha : 0 ≤ a) (ha2 : a ≤ 1000000) (hb : 0 ≤ b) (hb2 : b ≤ 1000000) (hc : 0 < c) (hc2 : c ≤ 1000000) : 0 ≤ Builtin.Range.rangeSize a b c ∧ Builtin.Range.rangeSize a b c ≤ 1000000 := by
  unfold Builtin.Range.rangeSize
  rw [if_pos hc]
  split
  · have h1 : 0 ≤ (b - a - 1) / c := Int.ediv_nonneg (by omega) (by omega)
    have h2 : (b - a - 1) / c ≤ b - a - 1 := Int.ediv_le_self _ (by omega)
    omega
  · omega
theorem small_of {a b c : Int} (ha : 0 ≤ a) (ha2 : a ≤ 1000000) (hb : 0 ≤ b) (hb2 : b ≤ 1000000) (hc : 0 < c) (hc2 : c ≤ 1000000) : Builtin.Range.small a b c = true := by
  have h := size_of ha ha2 hb hb2 hc hc2
  unfold Builtin.Range.small
  rw [fits_of (by omega) (by omega), fits_of (by omega) (by omega), fits_of (by omega) (by omega), fits_of (by omega) (by omega), if_pos hc, fits_of (by omega) (by omega)]
  simp
theorem rg3_of {a b c : Int} (ha : 0 ≤ a) (ha2 : a ≤ 1000000) (hb : 0 ≤ b) (hb2 : b ≤ 1000000) (hc : 0 < c) (hc2 : c ≤ 1000000) : rg3Ok a b c = true := by
  have h := size_of ha ha2 hb hb2 hc hc2
  unfold rg3Ok rgLen
  rw [small_of ha ha2 hb hb2 hc hc2]
  simp [sizeLine_val]
  omega
end HF


end
section
set_option Elab.async false
set_option linter.all false
set_option maxRecDepth 20000
set_option autoImplicit false
/-! HN: equality of data that are told; terms that are changed at their names. -/
namespace HF
open PySem PySem.Spec PyProof.Rows L2
/-! ### equality -/
def Rf (d : PyData) : Prop := PyData.eqv d d = true
theorem eqvAll_rf : ∀ {ds : List PyData}, (∀ d ∈ ds, Rf d) → PyData.eqvAll ds ds = true
  | [], _ => rfl
  | d :: ds, h => by
    have h1 : PyData.eqv d d = true := h d List.mem_cons_self
    have h2 := eqvAll_rf (ds := ds) fun z hz => h z (List.mem_cons_of_mem _ hz)
    simp [PyData.eqvAll, h1, h2]
theorem rf_int (i : Int) : Rf (.int i) := by simp [Rf, PyData.eqv]
theorem rf_str (i : Str) : Rf (.str i) := by simp [Rf, PyData.eqv]
theorem rf_tup {ds : List PyData} (h : ∀ d ∈ ds, Rf d) : Rf (.tuple ds) := by simp only [Rf, PyData.eqv]; exact eqvAll_rf h
theorem rf_lst {ds : List PyData} (h : ∀ d ∈ ds, Rf d) : Rf (.list ds) := by simp only [Rf, PyData.eqv]; exact eqvAll_rf h
theorem Tm.rf (t : Tm) : Rf t.dat := by
  induction t using Tm.ind with
  | hn k => rw [Tm.dat_name]; exact rf_tup (by simp [rf_int, rf_str])
  | hs w ps ih =>
    rw [Tm.dat_sign]
    refine rf_tup fun d hd => ?_
    simp only [List.mem_cons, List.not_mem_nil, or_false] at hd
    rcases hd with rfl | rfl | rfl
    · exact rf_str _
    · exact rf_str _
    · refine rf_tup fun d hd => ?_
      obtain ⟨p, hp, rfl⟩ := List.mem_map.mp hd
      exact rf_tup (by simp [rf_int, ih p hp])
  | hh w ps ih =>
    rw [Tm.dat_hole]
    refine rf_tup fun d hd => ?_
    simp only [List.mem_cons, List.not_mem_nil, or_false] at hd
    rcases hd with rfl | rfl | rfl
    · exact rf_str _
    · exact rf_str _
    · refine rf_tup fun d hd => ?_
      obtain ⟨p, hp, rfl⟩ := List.mem_map.mp hd
      exact ih p hp
theorem Tm.shaped {t : Tm} (h : t.Lay) (hd : t.depth ≤ 20) : SeqAt.shaped t.dat = true := by
  have tl := Tm.dat_ok h hd
  unfold SeqAt.shaped
  simp only [Bool.and_eq_true, decide_eq_true_eq]
  exact ⟨tl.1, by omega⟩
/-! ### changing names -/
section
variable (g : Nat → Nat → Tm)
end

theorem Tm.In.mono {t : Tm} : ∀ {s s' : Nat}, t.In s → s ≤ s' → t.In s' := by
  induction t using Tm.ind with
  | hn k => intro s s' h l; rw [Tm.In_name] at h ⊢; omega
  | hs w ps ih => intro s s' h l; rw [Tm.In_sign] at h ⊢; exact fun p hp => ih p hp (h p hp) (by omega)
  | hh w ts ih => intro s s' h l; rw [Tm.In_hole] at h ⊢; exact fun p hp => ih p hp (h p hp) l
theorem lay_sign {w : Str} {ps : List (Nat × Tm)} (h1 : PyData.strOk w = true) (h : ∀ p ∈ ps, p.2.Lay) : (Tm.sign w ps).Lay := by
  intro v hv
  rw [Tm.words_sign] at hv
  rcases List.mem_cons.mp hv with rfl | hv
  · exact h1
  · obtain ⟨l, hl, hv⟩ := List.mem_flatten.mp hv
    obtain ⟨p, hp, rfl⟩ := List.mem_map.mp hl
    exact h p hp v hv
section
variable {g g' : Nat → Nat → Tm}
end
end HF


end
section
set_option Elab.async false
set_option linter.all false
set_option maxRecDepth 20000
set_option autoImplicit false
/-! ST: a body's statements one by one. -/
namespace HF
open PySem PySem.Spec PyProof.Rows L2
theorem sq_nx {f g : Ss} {M M' : Mem} (h : f M = .nx M') : sSeq f g M = g M' := by simp only [sSeq, h, SR.sq]
theorem sq_ret {f g : Ss} {M M' : Mem} {e : EV} (h : f M = .ret e M') : sSeq f g M = .ret e M' := by simp only [sSeq, h, SR.sq]
theorem turn_nx {pt : Pat} {b : Ss} {ws : List Nat} {x : PV} {M M2 : Mem} {r' : List (Option LV)} (h : asgPat pt x M.r = some r') (hb : b ⟨r', M.h⟩ = .nx M2) : forTurn pt b ws x M = .go (forget ws M2) := by simp only [forTurn, h, hb]
theorem turn_go {pt : Pat} {b : Ss} {ws : List Nat} {x : PV} {M M2 M3 : Mem} {r' : List (Option LV)} (h : asgPat pt x M.r = some r') (hb : b ⟨r', M.h⟩ = .nx M2) (hf : forget ws M2 = M3) : forTurn pt b ws x M = .go M3 := by rw [← hf]; exact turn_nx h hb
theorem turn_ret {pt : Pat} {b : Ss} {ws : List Nat} {x : PV} {M M2 : Mem} {r' : List (Option LV)} {e : EV} (h : asgPat pt x M.r = some r') (hb : b ⟨r', M.h⟩ = .ret e M2) : forTurn pt b ws x M = .out (.ret e M2) := by simp only [forTurn, h, hb]
theorem for_nx {f : Sm Src} {pt : Pat} {b : Ss} {ws : List Nat} {M M1 : Mem} {sr : Src} {r : SR} (h : f M = .ok sr M1) (hl : forL sr.1 sr.2 pt b ws sr.2 (forget ws M1) = r) : sForIn f pt b ws M = r := by simp only [sForIn, h, Res.st, hl]
theorem if_f {c : Sm Bool} {f g : Ss} {M M1 : Mem} (h : c M = .ok false M1) : sIf c f g M = g M1 := by simp [sIf, h, Res.st]
theorem eLc_at {s : Sm Src} {pt : Pat} {vs : List Nat} {t : Sm Bool} {f : Sm PV} {M M1 M2 : Mem} {sr : Src} {ps : List PV} (h : s M = .ok sr M1) (hl : lcL sr.1 sr.2 pt vs t f sr.2 [] (forget vs M1) = some (ps, M2)) : eLc s pt vs t f M = .ok (.fr (.lst ps)) M2 := by simp only [eLc, h, Res.bnd, hl]
theorem def_ret {n m : Nat} {fb : Ss} {args : List PV} {h : List PO} {e : PV} {M : Mem} (hn : args.length = n) (hb : fb ⟨args.map (fun p => some (LV.v p)) ++ List.replicate (m - n) none, h⟩ = .ret (.v e) M) : runDef n m fb args h = .ok (.v e) M.h := by simp only [runDef, hn, if_true, hb]
theorem def_fr {n m : Nat} {fb : Ss} {args : List PV} {h : List PO} {o : PO} {M : Mem} (hn : args.length = n) (hb : fb ⟨args.map (fun p => some (LV.v p)) ++ List.replicate (m - n) none, h⟩ = .ret (.fr o) M) : runDef n m fb args h = .ok (.fr o) M.h := by simp only [runDef, hn, if_true, hb]
theorem dr_v {n m : Nat} {fb : Ss} {args : List PV} {h h' : List PO} {e : PV} {r : List (Option LV)} (hn : args.length = n) (hb : fb ⟨args.map (fun p => some (LV.v p)) ++ List.replicate (m - n) none, h⟩ = .ret (.v e) ⟨r, h'⟩) : runDef n m fb args h = .ok (.v e) h' := def_ret hn hb
theorem dr_fr {n m : Nat} {fb : Ss} {args : List PV} {h h' : List PO} {o : PO} {r : List (Option LV)} (hn : args.length = n) (hb : fb ⟨args.map (fun p => some (LV.v p)) ++ List.replicate (m - n) none, h⟩ = .ret (.fr o) ⟨r, h'⟩) : runDef n m fb args h = .ok (.fr o) h' := def_fr hn hb
/-- a body's end, its slots not told -/
def EndAt (z : SR) (e : EV) (h : List PO) : Prop := ∃ r, z = .ret e ⟨r, h⟩
theorem xT {x y : SR} {e : EV} {h : List PO} (e1 : x = y) (h2 : EndAt y e h) : EndAt x e h := e1 ▸ h2
theorem xE {x : SR} {e : EV} {h : List PO} {r : List (Option LV)} (e1 : x = .ret e ⟨r, h⟩) : EndAt x e h := ⟨r, e1⟩
theorem dx_v {n m : Nat} {fb : Ss} {args : List PV} {h h' : List PO} {e : PV} (hn : args.length = n) (hb : EndAt (fb ⟨args.map (fun p => some (LV.v p)) ++ List.replicate (m - n) none, h⟩) (.v e) h') : runDef n m fb args h = .ok (.v e) h' := by
  obtain ⟨r, hb⟩ := hb
  exact dr_v hn hb
theorem dx_fr {n m : Nat} {fb : Ss} {args : List PV} {h h' : List PO} {e : PO} (hn : args.length = n) (hb : EndAt (fb ⟨args.map (fun p => some (LV.v p)) ++ List.replicate (m - n) none, h⟩) (.fr e) h') : runDef n m fb args h = .ok (.fr e) h' := by
  obtain ⟨r, hb⟩ := hb
  exact dr_fr hn hb
theorem bOr_ff {f g : Sm Bool} {M M1 M2 : Mem} (h : f M = .ok false M1) (h2 : g M1 = .ok false M2) : bOr f g M = .ok false M2 := by simp [bOr, h, h2, Res.bnd]
theorem bNot_at {f : Sm Bool} {M M1 : Mem} {b : Bool} (h : f M = .ok b M1) : bNot f M = .ok (!b) M1 := by simp [bNot, h, Res.bnd]
theorem bVal_at {f : Sm EV} {M M1 : Mem} {b : Bool} (h : f M = .ok (.v (.bl b)) M1) : bVal f M = .ok b M1 := by simp [bVal, h, Res.bnd]
theorem b2_at {op : Cp2} {f g : Sm EV} {M M1 M2 : Mem} {x y : EV} {b : Bool} (hf : f M = .ok x M1) (hg : g M1 = .ok y M2) (h : op x y M2 = some b) : b2 op f g M = .ok b M2 := by simp only [b2, hf, hg, h, Res.bnd, optR]
theorem eB_at {f : Sm Bool} {M M1 : Mem} {b : Bool} (h : f M = .ok b M1) : eB f M = .ok (.v (.bl b)) M1 := by simp [eB, h, Res.bnd]
theorem ret_at {f : Sm EV} {M M1 : Mem} {p : PV} (h : f M = .ok (.v p) M1) : sRet f M = .ret (.v p) M1 := by simp [sRet, h, Res.st]
theorem cpNe_d {x y : EV} {M : Mem} {d e : PyData} {b : Bool} (hs : eqS x y M = none) (hx : evD M x = some d) (hy : evD M y = some e) (sx : SeqAt.shaped d = true) (sy : SeqAt.shaped e = true) (h : PyData.eqv d e = b) : cpNe x y M = some (!b) := by
  simp only [cpNe, hs, eqD, hx, hy, sx, sy, h]; rfl
theorem cpEq_d {x y : EV} {M : Mem} {d e : PyData} {b : Bool} (hs : eqS x y M = none) (hx : evD M x = some d) (hy : evD M y = some e) (sx : SeqAt.shaped d = true) (sy : SeqAt.shaped e = true) (h : PyData.eqv d e = b) : cpEq x y M = some b := by
  simp only [cpEq, hs, eqD, hx, hy, sx, sy, h]; rfl
end HF


end
section
set_option Elab.async false
set_option linter.all false
set_option maxRecDepth 20000
set_option autoImplicit false
namespace HF
open PySem PySem.Spec PyProof.Rows L2
/-! IN: inner_terms. -/
theorem inner_ok (t : Tm) (h : List PO) (hz : t.size ≤ 100000) : f_inner_terms [t.enc] h = .ok (.fr (.lst (t.inner.map encP))) h := by
  have il := t.inner_len
  unfold f_inner_terms runDef b_inner_terms
  cases t with
  | name k => simp [Tm.enc_name, atI_0, Tm.inner]
  | sign w ps =>
    have g2 : ps.length ≤ sizeLine := by rw [sizeLine_val]; simp [Tm.inner] at il; omega
    simp [Tm.enc_sign, atI_0, atI_2, str_sn, Tm.inner, g2]
  | hole w ts =>
    have g2 : ts.length ≤ sizeLine := by rw [sizeLine_val]; simp [Tm.inner] at il; omega
    simp [Tm.enc_hole, atI_0, atI_2, str_hn, str_hs, Tm.inner, g2]
    rw [lcL_map0 _ Tm.enc (fun p => encP (0, p))]
    · simp [Function.comp_def]
    · intro p hp
      simp [encP]
end HF


end
section
set_option Elab.async false
set_option linter.all false
set_option maxRecDepth 20000
set_option autoImplicit false
/-! HM2: more plain lemmas. -/
namespace HF
open PySem PySem.Spec PyProof.Rows L2
theorem asBls_fun {α : Type} (g : α → Bool) : ∀ ys : List α, asBls (ys.map fun y => .bl (g y)) = some (ys.map g)
  | [] => rfl
  | y :: ys => by simp [asBls_fun g ys]
end HF


end
section
set_option Elab.async false
set_option linter.all false
set_option maxRecDepth 20000
set_option autoImplicit false
namespace HF
open PySem PySem.Spec PyProof.Rows L2
theorem linner_ok (t : Tm) (h : List PO) : f_law_inner [t.enc] h = .ok (.fr (.lst (t.inner.map encP))) h := by
  cases t with
  | name k => simp [f_law_inner, runDef, b_law_inner, Tm.enc_name, Tm.inner, atI_0, atI_1, atI_2, str_ns, str_nh, str_sn, str_sh, str_hn, str_hs]
  | sign w ps => simp [f_law_inner, runDef, b_law_inner, Tm.enc_sign, Tm.inner, atI_0, atI_1, atI_2, str_ns, str_nh, str_sn, str_sh, str_hn, str_hs]
  | hole w ts => 
    simp [f_law_inner, runDef, b_law_inner, Tm.enc_hole, Tm.inner, atI_0, atI_1, atI_2, str_ns, str_nh, str_sn, str_sh, str_hn, str_hs]
    rw [lcL_map0 _ Tm.enc (fun t => encP (0, t))]
    · simp
    · intro y hy; simp [encP]
end HF


end
section
set_option Elab.async false
set_option linter.all false
set_option maxRecDepth 20000
set_option autoImplicit false
namespace HF
open PySem PySem.Spec PyProof.Rows L2
/-! the drawing of terms -/
def mixI (c p : Int) : Int := ((c % 10 ^ 60 + 1) * (48271 + 130 * p) % 2147483647) * ((c % 10 ^ 60 + 1) * (48271 + 130 * p) % 2147483647) % 2147483629
theorem mixI_lo (c p : Int) : 0 ≤ mixI c p := Int.emod_nonneg _ (by omega)
theorem cell_ok (ns : List Int) (k : Nat) (h : List PO) (hn : ns.length ≤ 1000) : f_law_cell_at [.rol (ns.map .int), .int k] h = .ok (.v (.int (ns[k]?.getD 0))) h := by
  have e1 : ns.length ≤ sizeLine := by rw [sizeLine_val]; omega
  unfold f_law_cell_at runDef b_law_cell_at
  by_cases lt : k < ns.length
  · simp [atI_nat, lt, e1]
  · simp [atI_nat, lt, e1]
theorem mix_ok (c p : Int) (h : List PO) (h1 : 0 ≤ p) (h2 : p ≤ 100000) : f_law_mix [.int c, .int p] h = .ok (.v (.int (mixI c p))) h := by
  have g1 : (48271 + 130 * p).natAbs < 2 ^ 64 := by omega
  have g2 : ((c % 10 ^ 60 + 1) * (48271 + 130 * p) % 2147483647).natAbs < 2 ^ 64 := by
    have := Int.emod_nonneg ((c % 10 ^ 60 + 1) * (48271 + 130 * p)) (b := 2147483647) (by omega)
    have := Int.emod_lt_of_pos ((c % 10 ^ 60 + 1) * (48271 + 130 * p)) (b := 2147483647) (by omega)
    omega
  unfold f_law_mix runDef b_law_mix mixI
  have g3 : p.natAbs < 2 ^ 64 := by omega
  simp at g1 g2 g3
  simp [g1, g2, g3]

theorem cutP_take {α : Type} (xs : List α) (k : Nat) : cutP xs none (some (k : Int)) = xs.take k := by
  unfold cutP
  rw [HT.sIx_nat, HT.sIx_none, List.drop_zero, Nat.sub_zero]
  by_cases h : k ≤ xs.length
  · rw [Nat.min_eq_left h]
  · rw [Nat.min_eq_right (by omega), List.take_of_length_le (by omega), List.take_of_length_le (by omega)]
theorem cutP_drop {α : Type} (xs : List α) (k : Nat) : cutP xs (some (k : Int)) none = xs.drop k := by
  unfold cutP
  rw [HT.sIx_nat, HT.sIx_none]
  by_cases h : k ≤ xs.length
  · rw [Nat.min_eq_left h, List.take_of_length_le (by simp)]
  · rw [Nat.min_eq_right (by omega), List.drop_of_length_le (by omega), List.drop_of_length_le (by omega)]; simp
theorem cutP_1_drop {α : Type} (xs : List α) : cutP xs (some 1) none = xs.drop 1 := cutP_drop xs 1
theorem cutP_1_take {α : Type} (xs : List α) : cutP xs none (some 1) = xs.take 1 := cutP_take xs 1
theorem cutS_take (l : List Nat) (k : Nat) : cutS ⟨l.toArray⟩ none (some (k : Int)) = ⟨(l.take k).toArray⟩ := by
  have := cutP_take l k
  unfold cutP at this
  unfold cutS
  simp only [Str.length, List.size_toArray, List.toList_toArray]
  simp only [this]
theorem cutS_drop (l : List Nat) (k : Nat) : cutS ⟨l.toArray⟩ (some (k : Int)) none = ⟨(l.drop k).toArray⟩ := by
  have := cutP_drop l k
  unfold cutP at this
  unfold cutS
  simp only [Str.length, List.size_toArray, List.toList_toArray]
  simp only [this]
theorem str_app (a b : List Nat) : (⟨a.toArray⟩ : Str) ++ (⟨b.toArray⟩ : Str) = ⟨(a ++ b).toArray⟩ := by
  show Str.append _ _ = _
  simp [Str.append]
theorem str_app1 (a : List Nat) (x : Nat) : (⟨a.toArray⟩ : Str) ++ (⟨#[x]⟩ : Str) = ⟨(a ++ [x]).toArray⟩ := str_app a [x]
theorem str_len (a : List Nat) : (⟨a.toArray⟩ : Str).length = a.length := by simp [Str.length]
theorem str_len1 (x : Nat) : (⟨#[x]⟩ : Str).length = 1 := rfl
theorem join_chars (a : Str) (h : a.cps = #[]) : ∀ cs : List Nat, Txt.join a (cs.map fun c => ⟨#[c]⟩) = ⟨cs.toArray⟩ := by
  intro cs
  rw [eq_of_beq (PyProof.Rows.join_plain_closes a (cs.map fun c => ⟨#[c]⟩))]
  induction cs with
  | nil => rfl
  | cons c cs ih =>
    cases cs with
    | nil => rfl
    | cons d ds =>
      simp only [List.map_cons] at ih ⊢
      show ((⟨#[c]⟩ : Str) ++ a) ++ Str.join a _ = _
      rw [ih]
      show Str.append (Str.append _ _) _ = _
      simp [Str.append, h]
def lenW (c : Int) : Nat := (2 + mixI c 1 % 7).toNat
theorem lenW_eq (c : Int) : (lenW c : Int) = 2 + mixI c 1 % 7 := by unfold lenW; omega
def stemL (c : Int) : List Nat := (List.range (lenW c)).map fun (k : Nat) => 97 + (mixI c (2 + (k : Int)) % 26).toNat
def spotW (c : Int) : Nat := (mixI c 11 % lenW c).toNat
def wordL (c : Int) (k : Nat) : List Nat := (stemL c).take (spotW c) ++ ([97 + ((mixI c 12 + 7 * k) % 26).toNat] ++ (stemL c).drop (spotW c + 1))
def wordS (c : Int) (k : Nat) : Str := ⟨(wordL c k).toArray⟩
theorem abc_at (i : Int) (h1 : 0 ≤ i) (h2 : i < 26) : atI (Str.ofString "abcdefghijklmnopqrstuvwxyz").cps.toList i = some (97 + i.toNat) := by
  obtain ⟨n, rfl⟩ := Int.eq_ofNat_of_zero_le h1
  rw [atI_nat]
  have : (Str.ofString "abcdefghijklmnopqrstuvwxyz").cps.toList = (List.range 26).map (97 + ·) := by decide +kernel
  rw [this]
  have : n < 26 := by omega
  simp [this]
theorem abc_mod (x : Int) : atI (Str.ofString "abcdefghijklmnopqrstuvwxyz").cps.toList (x % 26) = some (97 + (x % 26).toNat) := abc_at _ (Int.emod_nonneg _ (by omega)) (Int.emod_lt_of_pos _ (by omega))
theorem asStrs_fun {α : Type} (g : α → Str) : ∀ ys : List α, asStrs (ys.map fun y => .str (g y)) = some (ys.map g)
  | [] => rfl
  | y :: ys => by simp [asStrs_fun g ys]
theorem ofString_empty : Str.ofString "" = ⟨#[]⟩ := by decide +kernel
theorem abc_len : (Str.ofString "abcdefghijklmnopqrstuvwxyz").length = 26 := by decide +kernel
theorem words_ok (c : Int) (n : Nat) (h : List PO) (hn : n ≤ 1000) : f_law_words [.int c, .int n] h = .ok (.fr (.lst ((List.range n).map fun k => .str (wordS c k)))) h := by
  have m := fun p (h1 : 0 ≤ p) (h2 : p ≤ 100000) => mix_ok c p h h1 h2
  have h7 : 0 ≤ mixI c 1 % 7 ∧ mixI c 1 % 7 < 7 := ⟨Int.emod_nonneg _ (by omega), Int.emod_lt_of_pos _ (by omega)⟩
  unfold f_law_words runDef b_law_words
  have g1 : (2 + mixI c 1 % 7).natAbs < 4611686018427387904 := by omega
  have g2 : (2 + mixI c 1 % 7).toNat ≤ sizeLine := by rw [sizeLine_val]; omega
  simp [m, g1, g2]
  rw [lcL_map0 _ (fun i : Nat => PV.int i) (fun k : Nat => .str ⟨#[97 + (mixI c (2 + (k : Int)) % 26).toNat]⟩)]
  · have e1 := asStrs_fun (fun k : Nat => (⟨#[97 + (mixI c (2 + (k : Int)) % 26).toNat]⟩ : Str)) (List.range (2 + mixI c 1 % 7).toNat)
    have e2 : Txt.join (Str.ofString "") ((List.range (2 + mixI c 1 % 7).toNat).map (fun k : Nat => (⟨#[97 + (mixI c (2 + (k : Int)) % 26).toNat]⟩ : Str))) = ⟨(stemL c).toArray⟩ := by
      rw [← join_chars (Str.ofString "") (by rw [ofString_empty]), stemL, List.map_map]; rfl
    have e3 : (((List.range (2 + mixI c 1 % 7).toNat).map (fun k : Nat => (⟨#[97 + (mixI c (2 + (k : Int)) % 26).toNat]⟩ : Str))).map (·.length)).sum ≤ 16777216 := by
      rw [List.map_map]
      have : ∀ l : List Nat, ((l.map ((fun x : Str => x.length) ∘ fun k : Nat => (⟨#[97 + (mixI c (2 + (k : Int)) % 26).toNat]⟩ : Str)))).sum = l.length := by
        intro l; induction l with
        | nil => rfl
        | cons a l ih => simp only [List.map_cons, List.sum_cons, ih, List.length_cons]; simp [Str.length]; omega
      rw [this]; simp; omega
    have e4 : (Str.ofString "").length = 0 := by decide +kernel
    simp at e3
    have l1 := lenW_eq c
    have l2 : (2 + mixI c 1 % 7 : Int) > 0 := by omega
    have hsp : mixI c 11 % (2 + mixI c 1 % 7) = (spotW c : Int) := by
      unfold spotW; rw [l1, Int.toNat_of_nonneg (Int.emod_nonneg _ (by omega))]
    have hst : (stemL c).length ≤ sizeLine := by rw [sizeLine_val, stemL]; simp; omega
    have hn2 : n ≤ sizeLine := by rw [sizeLine_val]; omega
    have g5 : (n : Int).natAbs < 4611686018427387904 := by omega
    have l3 : 0 < 2 + mixI c 1 % 7 := l2
    have g5 : n < 4611686018427387904 := by omega
    simp [e1, e2, e3, e4, m, l3, hsp, hn2, g5]
    rw [lcL_map0 _ (fun i : Nat => PV.int i) (fun k : Nat => .str (wordS c k))]
    · simp
    · intro k hk
      have hk' := List.mem_range.mp hk
      have g6 : (k : Int).natAbs < 2 ^ 64 := by omega
      have g4 : 26 ≤ sizeLine := by rw [sizeLine_val]; omega
      have g7 := cutS_drop (stemL c) (spotW c + 1)
      simp at g6 g7
      have hst' : (⟨(stemL c).toArray⟩ : Str).length ≤ sizeLine := by simpa [Str.length] using hst
      have g6 : k < 18446744073709551616 := by omega
      have g8 : (stemL c).length ≤ 8 := by rw [stemL]; simp; omega
      have g9 : min (spotW c) (stemL c).length + 1 ≤ sizeLine := by rw [sizeLine_val]; omega
      have g10 : min (spotW c) (stemL c).length + 1 + ((stemL c).length - (spotW c + 1)) ≤ sizeLine := by rw [sizeLine_val]; omega
      simp [abc_mod, abc_len, g4, g6, hst', cutS_take, g7, str_app, str_app1, str_len, str_len1, g9, g10, hst, wordS, wordL]
  · intro k hk
    have hk' := List.mem_range.mp hk
    have g3 := m (2 + (k : Int)) (by omega) (by omega)
    have g4 : 26 ≤ sizeLine := by rw [sizeLine_val]; omega
    simp [g3, abc_mod, abc_len, g4]
end HF


end
section
set_option Elab.async false
set_option linter.all false
set_option maxRecDepth 20000
set_option autoImplicit false
namespace HF
open PySem PySem.Spec PyProof.Rows L2
/-! PL: at. -/
def atT : List Int → Tm → Nat → Option (Nat × Tm)
  | [], t, b => some (b, t)
  | k :: ks, t, b => if 0 ≤ k then (match t.inner[k.toNat]? with
    | some p => atT ks p.2 (b + p.1)
    | none => none) else none
theorem for_go' {all : List PV} {pt : Pat} {b : Ss} {ws : List Nat} {x : PV} {xs : List PV} {M M' : Mem} (h : forTurn pt b ws x M = .go M') : forL (.v .non) all pt b ws (x :: xs) M = forL (.v .non) all pt b ws xs M' := by
  conv => lhs; unfold forL
  rw [if_pos (show Chk (.v .non) all _ from trivial), h]
theorem for_out' {all : List PV} {pt : Pat} {b : Ss} {ws : List Nat} {x : PV} {xs : List PV} {M : Mem} {r : SR} (h : forTurn pt b ws x M = .out r) : forL (.v .non) all pt b ws (x :: xs) M = r := by
  conv => lhs; unfold forL
  rw [if_pos (show Chk (.v .non) all _ from trivial), h]
theorem for_nil' {all : List PV} {pt : Pat} {b : Ss} {ws : List Nat} {M : Mem} : forL (.v .non) all pt b ws [] M = .nx M := by
  unfold forL
  rw [if_pos (show Chk (.v .non) all _ from trivial)]
def atM (pl : PV) (t : Tm) (b : Nat) (h : List PO) : Mem := ⟨[some (.v t.enc), some (.v pl), some (.v (.int b)), none, none, none], h⟩
theorem at_loop (pl : PV) (h : List PO) (all : List PV) : ∀ (ks : List Int) (t : Tm) (b : Nat), t.size ≤ 100000 → match atT ks t b with
    | some p => forL (.v .non) all (.nm 3) b_at_1 [3, 4, 5] (ks.map .int) (atM pl t b h) = .nx (atM pl p.2 p.1 h)
    | none => ∃ r, forL (.v .non) all (.nm 3) b_at_1 [3, 4, 5] (ks.map .int) (atM pl t b h) = .ret (.v .non) ⟨r, h⟩
  | [], t, b, hz => by simp only [atT, List.map_nil]; exact for_nil'
  | k :: ks, t, b, hz => by
    have io := inner_ok t h hz
    have il := t.inner_len
    have g1 : t.inner.length ≤ sizeLine := by rw [sizeLine_val]; omega
    have bad : (¬ (0 ≤ k ∧ k < t.inner.length)) → ∃ r, forL (.v .non) all (.nm 3) b_at_1 [3, 4, 5] (.int k :: ks.map .int) (atM pl t b h) = .ret (.v .non) ⟨r, h⟩ := fun c => by
      refine ⟨[some (.v t.enc), some (.v pl), some (.v (.int b)), some (.v (.int k)), some (.v (.lst (t.inner.map encP))), none], for_out' (turn_ret (r' := [some (.v t.enc), some (.v pl), some (.v (.int b)), some (.v (.int k)), none, none]) rfl ?_)⟩
      unfold b_at_1
      by_cases c1 : 0 ≤ k
      · have c2 : ¬ k < t.inner.length := fun z => c ⟨c1, z⟩
        simp [atM, io, g1, c1, c2]
      · simp [atM, io, g1, c1]
    simp only [List.map_cons]
    unfold atT
    by_cases c1 : 0 ≤ k
    · rw [if_pos c1]
      obtain ⟨j, rfl⟩ := Int.eq_ofNat_of_zero_le c1
      rw [Int.toNat_natCast]
      cases e : t.inner[j]? with
      | none =>
        simp only
        refine bad fun z => ?_
        have := List.getElem?_eq_none_iff.mp e
        omega
      | some p =>
        simp only
        have lt := (List.getElem?_eq_some_iff.mp e).1
        have mem := List.mem_of_getElem? e
        have s1 := Tm.size_lt mem
        have ih := at_loop pl h all ks p.2 (b + p.1) (by omega)
        have at1 : atI (t.inner.map encP) (j : Int) = some (encP p) := by rw [atI_nat, List.getElem?_map, e]; rfl
        have st : forTurn (.nm 3) b_at_1 [3, 4, 5] (.int (j : Int)) (atM pl t b h) = .go (atM pl p.2 (b + p.1) h) := by
          refine turn_go (r' := [some (.v t.enc), some (.v pl), some (.v (.int b)), some (.v (.int j)), none, none]) (M2 := ⟨[some (.v p.2.enc), some (.v pl), some (.v (.int (b + p.1 : Nat))), some (.v (.int j)), some (.v (.lst (t.inner.map encP))), some (.v (.int p.1))], h⟩) rfl ?_ rfl
          unfold b_at_1
          unfold encP at at1 io g1 ⊢
          simp [atM, io, g1, lt, at1]
        split
        · rename_i q eq
          rw [eq] at ih
          exact (for_go' st).trans ih
        · rename_i eq
          rw [eq] at ih
          obtain ⟨r, ih⟩ := ih
          exact ⟨r, (for_go' st).trans ih⟩
    · rw [if_neg c1]
      exact bad fun z => c1 z.1
def optAt : Option (Nat × Tm) → PV
  | some p => .tup [.int p.1, p.2.enc]
  | none => .non
theorem at_ok (t : Tm) (ks : List Int) (h : List PO) (hz : t.size ≤ 100000) (hk : ks.length ≤ 100000) : f_at [t.enc, .tup (ks.map .int)] h = .ok (.v (optAt (atT ks t 0))) h := by
  have lp := at_loop (.tup (ks.map .int)) h (ks.map .int) ks t 0 hz
  have g1 : ks.length ≤ sizeLine := by rw [sizeLine_val]; omega
  unfold f_at
  refine dx_v rfl ?_
  unfold b_at
  refine xT (sq_nx (M' := atM (.tup (ks.map .int)) t 0 h) (by simp [atM])) ?_
  cases e : atT ks t 0 with
  | some p =>
    rw [e] at lp
    simp only at lp
    refine xT (sq_nx (M' := atM (.tup (ks.map .int)) p.2 p.1 h) (for_nx (M1 := atM (.tup (ks.map .int)) t 0 h) (sr := (.v .non, ks.map .int)) (by simp [atM]) (Eq.trans rfl lp))) ?_
    exact xE (by simp [atM, optAt] <;> rfl)
  | none =>
    rw [e] at lp
    obtain ⟨r, lp⟩ := lp
    exact xE (sq_ret (for_nx (M1 := atM (.tup (ks.map .int)) t 0 h) (sr := (.v .non, ks.map .int)) (by simp [atM]) (Eq.trans rfl lp)))
def ksI (ks : List Nat) : List Int := ks.map fun k : Nat => (k : Int)
end HF


end
section
set_option Elab.async false
set_option linter.all false
set_option maxRecDepth 20000
set_option autoImplicit false
/-! EA: expressions and statements, one by one. -/
namespace HF
open PySem PySem.Spec PyProof.Rows L2
section
variable {M M1 M2 M3 : Mem}
theorem e1_at {op : Op1} {f : Sm EV} {x z : EV} (h : f M = .ok x M1) (h2 : op x M1 = some z) : e1 op f M = .ok z M1 := by simp only [e1, h, h2, Res.bnd, optR]
theorem exp_at' {f : Sm EV} {e : EV} (h : f M = .ok e M1) : sExp f M = .nx M1 := by simp [sExp, h]
theorem ret_fr {f : Sm EV} {o : PO} (h : f M = .ok (.fr o) M1) : sRet f M = .ret (.fr o) M1 := by simp [sRet, h]
theorem var_sl {i : Nat} {o : PO} (h : M.r[i]? = some (some (.own o))) : eVar i M = .ok (.sl i) M := by simp [eVar, slotAt, h]
theorem x_ifF {c : Sm Bool} {f k : Ss} {e : EV} {h : List PO} (hc : c M = .ok false M1) (he : EndAt (k M1) e h) : EndAt (sSeq (sIf c f sNop) k M) e h := xT (sq_nx ((if_f hc).trans rfl)) he
theorem x_seq {f k : Ss} {e : EV} {h : List PO} (hf : f M = .nx M1) (he : EndAt (k M1) e h) : EndAt (sSeq f k M) e h := xT (sq_nx hf) he
theorem x_ret {f : Sm EV} {p : PV} (hf : f M = .ok (.v p) M1) : EndAt (sRet f M) (.v p) M1.h := ⟨M1.r, ret_at hf⟩
theorem x_retF {f : Sm EV} {o : PO} (hf : f M = .ok (.fr o) M1) : EndAt (sRet f M) (.fr o) M1.h := ⟨M1.r, ret_fr hf⟩
theorem m1_at {op : List PV → EV → Mem → Option (List PV × PV)} {f g : Sm EV} {x y : EV} {xs zs ys : List PV} {p : PV} (hf : f M = .ok x M1) (h1 : asLst M1 x = some zs) (hg : g M1 = .ok y M2) (h2 : mutAt M2 x = some (.lst xs)) (h3 : op xs y M2 = some (ys, p)) : eM1 op f g M = .ok (.v p) (mutPut x (.lst ys) M2) := by
  simp only [eM1, hf, Res.bnd, h1, hg, h2, h3]
end
end HF


end
section
set_option Elab.async false
set_option linter.all false
set_option maxRecDepth 20000
set_option maxHeartbeats 1000000
set_option autoImplicit false
namespace HF
open PySem PySem.Spec PyProof.Rows L2
/-! PS: places. -/
def plT : Tm → List (List Nat) := Tm.fold (fun _ => [[]]) (fun _ ps => [] :: (ps.zipIdx.map fun p => p.1.2.map (p.2 :: ·)).flatten) (fun _ ts => [] :: (ts.zipIdx.map fun p => p.1.map (p.2 :: ·)).flatten)
theorem zipIdx_map' {α β : Type} (f : α → β) : ∀ (l : List α) (i : Nat), (l.map f).zipIdx i = (l.zipIdx i).map fun p => (f p.1, p.2)
  | [], i => rfl
  | x :: l, i => by simp only [List.map_cons, List.zipIdx_cons, zipIdx_map' f l (i + 1)]
theorem plT_eq (t : Tm) : plT t = [] :: (t.inner.zipIdx.map fun p => (plT p.1.2).map (p.2 :: ·)).flatten := by
  cases t with
  | name k => unfold plT; rw [Tm.fold_name]; rfl
  | sign w ps =>
    conv => lhs; unfold plT
    rw [Tm.fold_sign, zipIdx_map', List.map_map]
    rfl
  | hole w ts =>
    conv => lhs; unfold plT
    rw [Tm.fold_hole, zipIdx_map', List.map_map]
    simp only [Tm.inner]
    rw [zipIdx_map', List.map_map]
    rfl
theorem sum_zip {α : Type} (f : α → Nat) : ∀ (l : List α) (i : Nat), ((l.zipIdx i).map fun p => f p.1).sum = (l.map f).sum
  | [], i => rfl
  | x :: l, i => by simp only [List.zipIdx_cons, List.map_cons, List.sum_cons, sum_zip f l (i + 1)]
theorem plT_len (t : Tm) : (plT t).length = t.size := by
  induction t using Tm.ind' with
  | h t ih =>
    rw [plT_eq, List.length_cons, List.length_flatten, List.map_map, Tm.size_eq]
    have : (t.inner.zipIdx.map (List.length ∘ fun p => (plT p.1.2).map (p.2 :: ·))) = t.inner.zipIdx.map fun p => p.1.2.size := List.map_congr_left fun p hp => by
      simp only [Function.comp, List.length_map]
      exact ih p.1 (by
        have := List.mem_map_of_mem (f := Prod.fst) hp
        rwa [List.zipIdx_map_fst] at this)
    rw [this, sum_zip (fun p : Nat × Tm => p.2.size)]
    omega
theorem zip_get {α : Type} {l : List α} {p : α × Nat} (h : p ∈ l.zipIdx) : l[p.2]? = some p.1 := by
  obtain ⟨i, hi⟩ := List.getElem?_of_mem h
  rw [List.getElem?_zipIdx] at hi
  cases e : l[i]? with
  | none => rw [e] at hi; cases hi
  | some x => rw [e] at hi; simp at hi; rw [← hi]; simpa using e
theorem plT_at (t : Tm) : ∀ pl ∈ plT t, ∀ b, (atT (ksI pl) t b).isSome = true := by
  induction t using Tm.ind' with
  | h t ih =>
    intro pl hp b
    rw [plT_eq] at hp
    rcases List.mem_cons.mp hp with rfl | hp
    · rfl
    · obtain ⟨l, hl, hp⟩ := List.mem_flatten.mp hp
      obtain ⟨q, hq, rfl⟩ := List.mem_map.mp hl
      obtain ⟨r, hr, rfl⟩ := List.mem_map.mp hp
      have g := zip_get hq
      have e : ksI (q.2 :: r) = (q.2 : Int) :: ksI r := rfl
      rw [e]
      unfold atT
      rw [if_pos (by omega), Int.toNat_natCast, g]
      exact ih q.1 (List.mem_of_getElem? g) r hr _
/-- a place's length and what stands there -/
theorem atT_deep : ∀ (ks : List Int) (t : Tm) (b : Nat) (p : Nat × Tm), atT ks t b = some p → ks.length + p.2.depth ≤ t.depth
  | [], t, b, p, h => by unfold atT at h; cases h; simp
  | k :: ks, t, b, p, h => by
    unfold atT at h
    split at h
    · split at h
      · rename_i q e
        have := Tm.depth_lt (List.mem_of_getElem? e)
        have := atT_deep ks q.2 _ p h
        simp only [List.length_cons]
        omega
      · cases h
    · cases h
def plV (pl : List Nat) : PV := .tup ((ksI pl).map .int)
theorem places_loop (F : Fn) (tv : PV) (h : List PO) (all : List PV) : ∀ (ps : List (Nat × Tm)) (i : Nat) (acc : List (List Nat)), (∀ p ∈ ps, F [p.2.enc] h = .ok (.fr (.lst ((plT p.2).map plV))) h) → acc.length + (ps.map fun p => p.2.size).sum ≤ 1000000 →
    (∀ p ∈ ps, p.2.depth ≤ 1000) →
    forL (.v .non) all (.tp [2, 3]) (b_places_1 F) [2, 3] ((ps.zipIdx i).map fun q => .tup [.int (q.2 : Nat), encP q.1]) ⟨[some (.v tv), some (.own (.lst (acc.map plV))), none, none, none], h⟩
      = .nx ⟨[some (.v tv), some (.own (.lst ((acc ++ ((ps.zipIdx i).map fun q => (plT q.1.2).map (q.2 :: ·)).flatten).map plV))), none, none, none], h⟩
  | [], i, acc, _, _, _ => by simp only [List.zipIdx_nil, List.map_nil, List.flatten_nil, List.append_nil]; exact for_nil'
  | p :: ps, i, acc, hF, hz, hd => by
    have zs := sizeLine_val
    have ep := hF p List.mem_cons_self
    simp only [List.map_cons, List.sum_cons] at hz
    have pz := plT_len p.2
    have ih := places_loop F tv h all ps (i + 1) (acc ++ (plT p.2).map (i :: ·)) (fun q hq => hF q (List.mem_cons_of_mem _ hq)) (by simp [pz]; omega) (fun q hq => hd q (List.mem_cons_of_mem _ hq))
    rw [List.zipIdx_cons, List.map_cons]
    refine (for_go' ?_).trans (ih.trans (by simp [List.append_assoc]))
    obtain ⟨N, eN⟩ : ∃ N : Option LV → Mem, N = fun x4 => ⟨[some (.v tv), some (.own (.lst (acc.map plV))), some (.v (.int (i : Nat))), some (.v (.tup [.int p.1, p.2.enc])), x4], h⟩ := ⟨_, rfl⟩
    refine turn_go (r' := (N none).r) (M2 := ⟨[some (.v tv), some (.own (.lst ((acc ++ (plT p.2).map (i :: ·)).map plV))), some (.v (.int (i : Nat))), some (.v (encP p)), none], h⟩) (by rw [eN]; rfl) ?_ rfl
    have e0 : (⟨(N none).r, h⟩ : Mem) = N none := by rw [eN]
    show b_places_1 F ⟨(N none).r, h⟩ = _
    rw [e0]
    unfold b_places_1
    have zp : p.2.depth ≤ 1000 := hd p List.mem_cons_self
    have lc : ∀ all, lcL (.v .non) all (.nm 4) [4] bYes (toP (e2 opAdd (eTup (aCons (toP (eVar 2)) aNil)) (eVar 4))) ((plT p.2).map plV) [] (N none) = some ([] ++ (plT p.2).map (fun pl => plV (i :: pl)), N none) := fun all =>
      lcL_map0 (N none) plV (fun pl => plV (i :: pl)) (plT p.2) [] fun pl hp => by
        have l1 : (ksI pl).length ≤ 1000 := by
          cases e : atT (ksI pl) p.2 0 with
          | none => have := plT_at p.2 pl hp 0; rw [e] at this; cases this
          | some q => have := atT_deep _ _ _ _ e; omega
        have l2 : 1 + pl.length ≤ sizeLine := by simp [ksI] at l1; omega
        rw [eN]
        simp [plV, ksI, l2]
    have el := eLc_at (s := srcOf (eCall F [] (aCons (toP (e2 opIx (eVar 3) (eC (.int 1)))) aNil))) (pt := .nm 4) (vs := [4]) (t := bYes) (f := toP (e2 opAdd (eTup (aCons (toP (eVar 2)) aNil)) (eVar 4))) (M := N none) (M1 := N none) (sr := (.v .non, (plT p.2).map plV)) (by rw [eN]; simp [atI_1, ep]) (Eq.trans (by rw [eN]; rfl) (lc _))
    have g : acc.length + p.2.size ≤ sizeLine := by omega
    refine (exp_at' (m1_at (x := .sl 1) (zs := acc.map plV) (xs := acc.map plV) (ys := (acc ++ (plT p.2).map (i :: ·)).map plV) (p := .non) (var_sl (o := .lst (acc.map plV)) (by rw [eN]; rfl)) (by rw [eN]; simp) el (by rw [eN]; simp) ?_)).trans ?_
    · simp [pz, g, Function.comp_def]
    · rw [eN]; simp [encP]
theorem places_ok : ∀ (n : Nat) (t : Tm) (h : List PO), t.depth ≤ n → n ≤ 1000 → t.size ≤ 100000 → f_places n [t.enc] h = .ok (.fr (.lst ((plT t).map plV))) h
  | 0, t, h, hd, _, _ => by rw [Tm.depth_eq] at hd; omega
  | n + 1, t, h, hd, hn, hz => by
    have hsz := Tm.size_eq t
    have io := inner_ok t h hz
    have lp := places_loop (f_places n) t.enc h (enumP (t.inner.map encP)) t.inner 0 [[]] (fun p hp => places_ok n p.2 h (by have := Tm.depth_lt hp; omega) (by omega) (by have := Tm.size_lt hp; omega)) (by simp; omega) (fun p hp => by have := Tm.depth_lt hp; omega)
    unfold f_places
    refine dx_fr rfl ?_
    unfold b_places
    refine x_seq (M1 := ⟨[some (.v t.enc), some (.own (.lst [plV []])), none, none, none], h⟩) (by simp [plV, ksI]) ?_
    refine x_seq (for_nx (M1 := ⟨[some (.v t.enc), some (.own (.lst [plV []])), none, none, none], h⟩) (sr := (.v .non, enumP (t.inner.map encP))) (by simp [io]) (Eq.trans (by rw [enumP_map]; rfl) lp)) ?_
    rw [plT_eq]
    exact xE (by simp <;> rfl)
end HF


end
section
set_option Elab.async false
set_option linter.all false
set_option maxRecDepth 20000
set_option autoImplicit false
namespace HF
open PySem PySem.Spec PyProof.Rows L2
/-! WK: the law's own walk. -/
abbrev Item := Tm × Nat × List Nat
def encSp (sp : List Nat) : PV := .tup (sp.map fun i : Nat => .int i)
def datSp (sp : List Nat) : PyData := .tuple (sp.map fun i : Nat => .int i)
def encIt (x : Item) : PV := .tup [encSp x.2.2, .int x.2.1, x.1.enc]
theorem toDs_nats (sp : List Nat) : toDs (sp.map fun i : Nat => PV.int i) = some (sp.map fun i : Nat => .int i) := toDs_map _ _ sp fun _ _ => by simp [PV.toD]
theorem encSp_toD (sp : List Nat) : (encSp sp).toD = some (datSp sp) := by simp [encSp, datSp, PV.toD, toDs_nats]
theorem datSp_lay (sp : List Nat) : (datSp sp).canLay0 = true ∧ (datSp sp).depth ≤ 2 := by
  have h : nmax ((sp.map fun i : Nat => PyData.int i).map PyData.depth) ≤ 1 := nmax_le fun m hm => by
    obtain ⟨d, hd, rfl⟩ := List.mem_map.mp hm
    obtain ⟨i, _, rfl⟩ := List.mem_map.mp hd
    simp [PyData.depth]
  refine ⟨?_, ?_⟩
  · simp [datSp, PyData.canLay0, canLayAll0_all, Function.comp_def]
  · simp only [datSp, PyData.depth, depthAll_nmax]; omega
def pushes (x : Item) : List Item := x.1.inner.zipIdx.map fun q => (q.1.2, x.2.1 + q.1.1, x.2.2 ++ [q.2])
def walkF : Nat → List Item → List Item
  | 0, _ => []
  | _ + 1, [] => []
  | n + 1, x :: S => x :: walkF n ((pushes x).reverse ++ S)
def weight (S : List Item) : Nat := (S.map fun p => p.1.size).sum
theorem weight_app (a b : List Item) : weight (a ++ b) = weight a + weight b := by unfold weight; rw [List.map_append, List.sum_append]
theorem weight_rev (a : List Item) : weight a.reverse = weight a := by unfold weight; rw [List.map_reverse, List.sum_reverse]
theorem weight_pushes (x : Item) : weight (pushes x) + 1 = x.1.size := by
  rw [Tm.size_eq]
  unfold weight pushes
  rw [List.map_map]
  have : ((fun p : Item => p.1.size) ∘ fun q : (Nat × Tm) × Nat => ((q.1.2, x.2.1 + q.1.1, x.2.2 ++ [q.2]) : Item)) = (fun p : Nat × Tm => p.2.size) ∘ Prod.fst := rfl
  rw [this, ← List.map_map, List.zipIdx_map_fst]; omega
theorem len_weight : ∀ S : List Item, S.length ≤ weight S
  | [] => Nat.le_refl _
  | p :: S => by
    have h1 := len_weight S
    have h2 := p.1.size_pos
    unfold weight at h1 ⊢
    simp only [List.length_cons, List.map_cons, List.sum_cons]; omega
theorem weight_cons (x : Item) (S : List Item) : weight (x :: S) = x.1.size + weight S := by simp [weight]
def memR (t0 : PV) (R : List Item) (S : List Item) (h : List PO) : Mem := ⟨[some (.v t0), some (.own (.lst (S.reverse.map encIt))), some (.own (.lst (R.map encIt))), none, none, none, none, none], h⟩
def ItOk (x : Item) : Prop := x.1.Lay ∧ x.1.depth ≤ 19
theorem ne_nil_ok (t0 : PV) (R : List Item) (S : List Item) (h : List PO) (hS : ∀ p ∈ S, ItOk p) : b2 cpNe (eVar 1) (eLst aNil) (memR t0 R S h) = .ok (!S.isEmpty) (memR t0 R S h) := by
  have e1 : toDs (S.reverse.map encIt) = some (S.reverse.map fun p => .tuple [datSp p.2.2, .int p.2.1, p.1.dat]) := toDs_map _ _ _ fun p hp => by simp [encIt, PV.toD, toDs, Tm.enc_toD, encSp_toD]
  have e2 : SeqAt.shaped (.list (S.reverse.map fun p => .tuple [datSp p.2.2, .int p.2.1, p.1.dat])) = true := shaped_list fun d hd => by
    obtain ⟨p, hp, rfl⟩ := List.mem_map.mp hd
    obtain ⟨h1, h2⟩ := Tm.dat_ok (hS p (List.mem_reverse.mp hp)).1 (by have := (hS p (List.mem_reverse.mp hp)).2; omega)
    have h3 := datSp_lay p.2.2
    simp [PyData.canLay0, PyData.canLayAll0, PyData.depth, PyData.depthAll, h1, h3.1]
    have h4 := (hS p (List.mem_reverse.mp hp)).2
    have h5 := p.1.dat_depth
    omega
  have e3 : (S.reverse.map fun p : Item => PyData.tuple [datSp p.2.2, .int p.2.1, p.1.dat]).isEmpty = S.isEmpty := by cases S <;> simp
  simp [memR, toDs]
  simp at e1 e2 e3
  simp [e1, e2, shaped_nil, eqv_nil, e3]
def memL (t0 : PV) (x : Item) (R : List Item) (S : List Item) (h : List PO) : Mem := ⟨[some (.v t0), some (.own (.lst (S.reverse.map encIt))), some (.own (.lst (R.map encIt))), some (.v (encSp x.2.2)), some (.v (.int x.2.1)), some (.v x.1.enc), none, none], h⟩
theorem push_loop (t0 : PV) (x : Item) (R : List Item) (h : List PO) (all : List PV) (S : List Item) (hn : S.length + x.1.inner.length ≤ 100000) (hsp : x.2.2.length ≤ 1000) :
    forL (.v .non) all (.tp [6, 7]) b_law_walked_1 [6, 7] (x.1.inner.zipIdx.map fun p => .tup [.int (p.2 : Nat), encP p.1]) (memL t0 x R S h) = .nx (memL t0 x R ((pushes x).reverse ++ S) h) := by
  refine forL_inv (e := .v .non) (k := fun p : (Nat × Tm) × Nat => .tup [.int (p.2 : Nat), encP p.1]) (I := fun ys M => ∃ xs, xs ++ ys = x.1.inner.zipIdx ∧ M = memL t0 x R ((xs.map fun q => ((q.1.2, x.2.1 + q.1.1, x.2.2 ++ [q.2]) : Item)).reverse ++ S) h) (Q := fun r => r = .nx (memL t0 x R ((pushes x).reverse ++ S) h)) ?_ ?_ _ _ ⟨[], rfl, by simp⟩
  · rintro y ys M ⟨xs, h0, rfl⟩
    refine ⟨trivial, .inl ⟨_, ?_, xs ++ [y], by simpa using h0, rfl⟩⟩
    have h1 := congrArg List.length h0
    have g : S.length + xs.length < sizeLine := by rw [sizeLine_val]; simp at h1; omega
    have g2 : x.2.2.length + 1 ≤ sizeLine := by rw [sizeLine_val]; omega
    unfold b_law_walked_1
    simp [memL, encP, g, encIt, encSp, atI_0, atI_1, g2]
  · rintro M ⟨xs, h1, rfl⟩
    simp at h1
    subst h1
    exact ⟨trivial, rfl⟩
theorem sp_len_ok (x : Item) (y : Item) (hy : y ∈ pushes x) : y.2.2.length = x.2.2.length + 1 := by
  obtain ⟨q, _, rfl⟩ := List.mem_map.mp hy
  simp
theorem turn_ok (t0 : PV) (R : List Item) (S : List Item) (x : Item) (h : List PO) (hn : S.length + x.1.inner.length ≤ 100000) (hR : R.length ≤ 100000) (hsp : x.2.2.length ≤ 1000) :
    ∃ M2, b_law_walked_2 (memR t0 R (x :: S) h) = .nx M2 ∧ forget [3, 4, 5, 6, 7] M2 = memR t0 (R ++ [x]) ((pushes x).reverse ++ S) h := by
  have hi := linner_ok x.1 h
  have hp := push_loop t0 x (R ++ [x]) h (enumP (x.1.inner.map encP)) S hn hsp
  have g : R.length < sizeLine := by rw [sizeLine_val]; omega
  have en := enumP_map encP x.1.inner
  refine ⟨memL t0 x (R ++ [x]) ((pushes x).reverse ++ S) h, ?_, ?_⟩
  · unfold b_law_walked_2
    refine (sq_nx (M' := memL t0 x R S h) (by simp [memR, memL, encIt])).trans ?_
    refine (sq_nx (M' := memL t0 x (R ++ [x]) S h) (by simp [memL, encIt, g])).trans ?_
    exact for_nx (M1 := memL t0 x (R ++ [x]) S h) (sr := (.v .non, enumP (x.1.inner.map encP))) (by simp [memL, hi]) (by rw [en] at hp ⊢; exact Eq.trans (by simp [memL]) hp)
  · simp [memL, memR]
theorem item_push {x y : Item} (h : x.1.Lay ∧ x.1.depth + x.2.2.length ≤ 19) (hy : y ∈ pushes x) : y.1.Lay ∧ y.1.depth + y.2.2.length ≤ 19 := by
  have hl := sp_len_ok x y hy
  obtain ⟨q, hq, rfl⟩ := List.mem_map.mp hy
  have hq' : q.1 ∈ x.1.inner := by
    have := List.mem_map_of_mem (f := Prod.fst) hq
    rwa [List.zipIdx_map_fst] at this
  have := Tm.depth_lt hq'
  simp only at hl
  exact ⟨h.1.inner hq', by simp only; omega⟩
theorem keys_ok (h : List PO) : ∀ R : List Item, keysOf f_law_place_first h (R.map encIt) = some (R.map fun x => datSp x.2.2)
  | [] => by simp [keysOf]
  | x :: R => by
    have e : f_law_place_first [encIt x] h = .ok (.v (encSp x.2.2)) h := by
      unfold f_law_place_first runDef b_law_place_first
      simp [encIt, atI_0]
    simp only [List.map_cons, keysOf, e, if_true, encSp_toD, Option.bind_some, keys_ok h R, Option.map_some]
theorem sortOk_of {ds : List (List Nat)} : sortOk0 ((([] : List Nat) :: ds).map datSp) = true := by
  have al : ∀ a b : List Nat, PySem.W.alike (datSp a) (datSp b) = true := fun a b => by
    have e : ∀ a : List Nat, datSp a = .tuple ((a.map fun k : Nat => (k : Int)).map .int) := fun a => by simp [datSp]
    rw [e, e]
    simp only [PySem.W.alike]
    exact PySem.W.alike_ints _ _
  have e0 : datSp [] = .tuple [] := rfl
  simp only [List.map_cons, e0, sortOk0]
  simp only [Bool.and_eq_true, List.all_eq_true, decide_eq_true_eq]
  refine ⟨⟨fun d hd d' hd' => ?_, fun d hd => ?_⟩, fun d hd => ?_⟩
  · have mem : ∀ d ∈ PyData.tuple [] :: ds.map datSp, ∃ a, d = datSp a := fun d hd => by
      rcases List.mem_cons.mp hd with rfl | hd
      · exact ⟨[], rfl⟩
      · obtain ⟨a, _, rfl⟩ := List.mem_map.mp hd; exact ⟨a, rfl⟩
    obtain ⟨a, rfl⟩ := mem d hd
    obtain ⟨b, rfl⟩ := mem d' hd'
    exact al a b
  · obtain ⟨a, _, rfl⟩ := List.mem_map.mp hd; rfl
  · obtain ⟨a, _, rfl⟩ := List.mem_map.mp hd
    have := (datSp_lay a).2
    omega
def sortedI (R : List Item) : List PV := srtD (R.map encIt) (R.map fun x => datSp x.2.2)
theorem walked_ok (t : Tm) (h : List PO) (hl : t.Lay) (hd : t.depth ≤ 19) (hs : t.size ≤ 10000) : f_law_walked [t.enc] h = .ok (.fr (.lst (sortedI (walkF t.size [(t, 0, [])])))) h := by
  have key : ∃ r, whileL (b2 cpNe (eVar 1) (eLst aNil)) b_law_walked_2 [3, 4, 5, 6, 7] 100000000 (memR t.enc [] [(t, 0, [])] h) = r ∧ r = .nx (memR t.enc (walkF t.size [(t, 0, [])]) [] h) := by
    refine ⟨_, rfl, ?_⟩
    refine whileL_inv (I := fun n M => ∃ (R : List Item) (S : List Item), M = memR t.enc R S h ∧ (∀ p ∈ S, p.1.Lay ∧ p.1.depth + p.2.2.length ≤ 19) ∧ R ++ walkF n S = walkF t.size [(t, 0, [])] ∧ weight S = n ∧ R.length + n ≤ 10000) (Q := fun r => r = .nx (memR t.enc (walkF t.size [(t, 0, [])]) [] h)) ?_ t.size _ _ (by omega) ⟨[], [(t, 0, [])], rfl, fun p hp => ?_, rfl, by simp [weight], by simpa using hs⟩
    · rintro n M ⟨R, S, rfl, h2, h3, h4, h5⟩
      have hc := ne_nil_ok t.enc R S h fun p hp => ⟨(h2 p hp).1, by have := (h2 p hp).2; omega⟩
      cases S with
      | nil =>
        refine .inl ⟨_, hc, ?_⟩
        have : walkF n [] = [] := by cases n <;> rfl
        rw [this, List.append_nil] at h3
        rw [h3]
      | cons x S =>
        have wu := weight_pushes x
        rw [weight_cons] at h4
        have lS := len_weight S
        have lI := x.1.inner_len
        have hx := h2 x List.mem_cons_self
        obtain ⟨M2, e1, e2⟩ := turn_ok t.enc R S x h (by omega) (by omega) (by omega)
        have hw : weight ((pushes x).reverse ++ S) = n - 1 := by rw [weight_app, weight_rev]; omega
        obtain ⟨n, rfl⟩ : ∃ m, n = m + 1 := ⟨n - 1, by have := x.1.size_pos; omega⟩
        refine .inr ⟨_, by rw [hc]; simp, .inl ⟨M2, n, .inl e1, by omega, R ++ [x], (pushes x).reverse ++ S, e2, ?_, ?_, by rw [hw]; omega, by simp; omega⟩⟩
        · intro p hp
          rcases List.mem_append.mp hp with hp | hp
          · exact item_push hx (List.mem_reverse.mp hp)
          · exact h2 p (List.mem_cons_of_mem _ hp)
        · rw [← h3]
          simp [walkF]
    · simp at hp; subst hp; exact ⟨hl, by simpa using hd⟩
  obtain ⟨r, e, rfl⟩ := key
  obtain ⟨W, eW⟩ : ∃ W, walkF t.size [(t, 0, [])] = (t, 0, []) :: W := by
    obtain ⟨n, hn⟩ : ∃ m, t.size = m + 1 := ⟨t.size - 1, by have := t.size_pos; omega⟩
    rw [hn]; exact ⟨_, rfl⟩
  have ko := keys_ok h (walkF t.size [(t, 0, [])])
  have so : sortOk0 ((walkF t.size [(t, 0, [])]).map fun x => datSp x.2.2) = true := by
    rw [eW]
    have := sortOk_of (ds := W.map fun x => x.2.2)
    simpa [Function.comp_def] using this
  unfold f_law_walked
  refine dx_fr rfl ?_
  unfold b_law_walked
  refine x_seq (M1 := ⟨[some (.v t.enc), some (.own (.lst [encIt (t, 0, [])])), none, none, none, none, none, none], h⟩) (by simp [encIt, encSp]) ?_
  refine x_seq (M1 := memR t.enc [] [(t, 0, [])] h) (by simp [memR]) ?_
  refine x_seq (M1 := memR t.enc (walkF t.size [(t, 0, [])]) [] h) (by simp only [sWhile]; exact e) ?_
  refine x_retF (M1 := memR t.enc (walkF t.size [(t, 0, [])]) [] h) ?_
  simp [eSortK, memR, ko, so, sortedI]
end HF


end
section
set_option Elab.async false
set_option linter.all false
set_option maxRecDepth 20000
set_option autoImplicit false
namespace HF
open PySem PySem.Spec PyProof.Rows L2
/-! PW: what the walk finds, in order. -/
def extI (x : Item) (pl : List Nat) : Item := match atT (ksI pl) x.1 x.2.1 with
  | some p => (p.2, p.1, x.2.2 ++ pl)
  | none => x
theorem extI_nil (x : Item) : extI x [] = x := by
  obtain ⟨t, b, sp⟩ := x
  simp [extI, ksI, atT]
theorem extI_cons (x : Item) (q : (Nat × Tm) × Nat) (hq : q ∈ x.1.inner.zipIdx) (r : List Nat) (hr : r ∈ plT q.1.2) : extI x (q.2 :: r) = extI (q.1.2, x.2.1 + q.1.1, x.2.2 ++ [q.2]) r := by
  have g := zip_get hq
  have e : atT (ksI (q.2 :: r)) x.1 x.2.1 = atT (ksI r) q.1.2 (x.2.1 + q.1.1) := by
    show atT ((q.2 : Int) :: ksI r) x.1 x.2.1 = _
    conv => lhs; unfold atT
    rw [if_pos (by omega), Int.toNat_natCast, g]
  have s := plT_at q.1.2 r hr (x.2.1 + q.1.1)
  unfold extI
  rw [e]
  simp only
  cases e2 : atT (ksI r) q.1.2 (x.2.1 + q.1.1) with
  | none => rw [e2] at s; cases s
  | some p => simp
def allI (x : Item) : List Item := (plT x.1).map (extI x)
theorem allI_eq (x : Item) : allI x = x :: ((pushes x).map allI).flatten := by
  unfold allI
  rw [plT_eq, List.map_cons, extI_nil, List.map_flatten]
  congr 2
  unfold pushes
  rw [List.map_map, List.map_map]
  refine List.map_congr_left fun q hq => ?_
  simp only [Function.comp, List.map_map]
  refine List.map_congr_left fun r hr => ?_
  exact extI_cons x q hq r hr
theorem walk_perm : ∀ (n : Nat) (S : List Item), weight S ≤ n → (walkF n S).Perm (S.map allI).flatten
  | 0, S, h => by
    have := len_weight S
    have e : S = [] := List.eq_nil_of_length_eq_zero (by omega)
    subst e
    exact List.Perm.refl _
  | n + 1, [], h => List.Perm.refl _
  | n + 1, x :: S, h => by
    have wp := weight_pushes x
    rw [weight_cons] at h
    have ih := walk_perm n ((pushes x).reverse ++ S) (by rw [weight_app, weight_rev]; omega)
    simp only [walkF, List.map_cons, List.flatten_cons]
    rw [allI_eq x, List.cons_append]
    refine List.Perm.cons x (ih.trans ?_)
    rw [List.map_append, List.flatten_append]
    refine List.Perm.append_right _ ?_
    rw [List.map_reverse]
    exact (List.reverse_perm _).flatten
/-! the order of places -/
theorem pair_flat {α : Type} {R : α → α → Prop} : ∀ {L : List (List α)}, (∀ l ∈ L, l.Pairwise R) → L.Pairwise (fun a b => ∀ x ∈ a, ∀ y ∈ b, R x y) → L.flatten.Pairwise R := fun h1 h2 => List.pairwise_flatten.mpr ⟨h1, h2⟩
theorem zip_pair {α : Type} : ∀ (l : List α) (i : Nat), (l.zipIdx i).Pairwise (fun p q => p.2 < q.2)
  | [], i => .nil
  | x :: l, i => by
    rw [List.zipIdx_cons]
    refine List.pairwise_cons.mpr ⟨fun q hq => ?_, zip_pair l (i + 1)⟩
    have := List.le_snd_of_mem_zipIdx hq
    exact this
theorem plT_pair (t : Tm) : (plT t).Pairwise fun p q => ksI p < ksI q := by
  induction t using Tm.ind' with
  | h t ih =>
    rw [plT_eq]
    refine List.pairwise_cons.mpr ⟨fun q hq => ?_, pair_flat (fun l hl => ?_) ?_⟩
    · obtain ⟨l, hl, hq⟩ := List.mem_flatten.mp hq
      obtain ⟨p, hp, rfl⟩ := List.mem_map.mp hl
      obtain ⟨r, hr, rfl⟩ := List.mem_map.mp hq
      simp [ksI]
    · obtain ⟨p, hp, rfl⟩ := List.mem_map.mp hl
      refine List.pairwise_map.mpr ((ih p.1 ?_).imp fun h => ?_)
      · exact List.mem_of_getElem? (zip_get hp)
      · show ((p.2 : Int) :: ksI _) < ((p.2 : Int) :: ksI _)
        exact List.cons_lt_cons_iff.mpr (.inr ⟨rfl, h⟩)
    · refine List.pairwise_map.mpr ((zip_pair t.inner 0).imp fun h x hx y hy => ?_)
      obtain ⟨r, hr, rfl⟩ := List.mem_map.mp hx
      obtain ⟨r', hr', rfl⟩ := List.mem_map.mp hy
      exact List.cons_lt_cons_iff.mpr (.inl (Int.ofNat_lt.mpr h))
def leI (p q : Item) : Bool := PySem.W.dataLe false (fun x : Item => datSp x.2.2) p q
theorem sortedI_eq (R : List Item) : sortedI R = (R.mergeSort leI).map encIt := by
  unfold sortedI srtD
  have z : (R.map encIt).zip (R.map fun x => datSp x.2.2) = R.map fun p => (encIt p, datSp p.2.2) := by rw [List.zip_map']
  rw [z, ← List.map_mergeSort (r := leI) (f := fun p : Item => (encIt p, datSp p.2.2)) (s := PySem.W.dataLe false (·.2)) (fun a _ b _ => rfl), List.map_map]
  rfl
theorem datSp_ks (a : List Nat) : datSp a = .tuple ((ksI a).map .int) := by simp [datSp, ksI]
theorem leI_eq (p q : Item) : leI p q = !decide (ksI q.2.2 < ksI p.2.2) := by
  show (!PySem.W.dataLt (datSp q.2.2) (datSp p.2.2)) = _
  rw [datSp_ks, datSp_ks, PySem.W.dataLt_tuple]
  have := PySem.W.dataLt_ints (ksI q.2.2) (ksI p.2.2)
  unfold PySem.W.rowLt at this
  rw [this]
theorem ksI_inj {a b : List Nat} (h : ksI a = ksI b) : a = b := (List.map_inj_right (fun a b h => Int.ofNat.inj h)).mp h
theorem allI_sp (t : Tm) (b : Nat) : (allI (t, b, [])).map (fun x => x.2.2) = plT t := by
  unfold allI
  rw [List.map_map]
  conv => rhs; rw [← List.map_id (plT t)]
  refine List.map_congr_left fun pl hp => ?_
  have s := plT_at t pl hp b
  simp only [Function.comp, extI]
  cases e : atT (ksI pl) t b with
  | none => rw [e] at s; cases s
  | some p => simp
theorem allI_pair (t : Tm) (b : Nat) : (allI (t, b, [])).Pairwise fun p q => ksI p.2.2 < ksI q.2.2 := by
  have := plT_pair t
  rw [← allI_sp t b] at this
  exact (List.pairwise_map (R := fun p q => ksI p < ksI q) (f := fun x : Item => x.2.2)).mp this
theorem sorted_all (t : Tm) : sortedI (walkF t.size [(t, 0, [])]) = (allI (t, 0, [])).map encIt := by
  rw [sortedI_eq]
  congr 1
  have pm := walk_perm t.size [(t, 0, [])] (by simp [weight])
  simp only [List.map_cons, List.map_nil, List.flatten_cons, List.flatten_nil, List.append_nil] at pm
  have T := PySem.W.sortLe_total (PyProof.Rows.listOrd PyProof.Rows.itemOrd) false fun b : Item => PySem.W.keyToks (datSp b.2.2)
  have pw := List.pairwise_mergeSort (le := leI) (fun a b c h1 h2 => T.trans a b c h1 h2) (fun a b => by rw [Bool.or_eq_true]; exact T.total a b) (walkF t.size [(t, 0, [])])
  have pa := allI_pair t 0
  have nd : (allI (t, 0, [])).Pairwise fun p q => leI p q = true := pa.imp fun h => by
    rw [leI_eq]
    simp only [Bool.not_eq_true', decide_eq_false_iff_not]
    exact fun z => List.lt_irrefl _ (List.lt_trans h z)
  have hm := (List.mergeSort_perm (walkF t.size [(t, 0, [])]) leI).trans pm
  refine List.Perm.eq_of_pairwise (le := fun a b => leI a b = true) (fun a b ha hb h1 h2 => ?_) pw nd hm
  rw [leI_eq] at h1 h2
  simp only [Bool.not_eq_true', decide_eq_false_iff_not] at h1 h2
  have e : a.2.2 = b.2.2 := ksI_inj (List.le_antisymm (List.not_lt.mp h1) (List.not_lt.mp h2))
  have ha' := hm.mem_iff.mp ha
  have key : ∀ x ∈ allI (t, 0, []), x = extI (t, 0, []) x.2.2 := fun x hx => by
    obtain ⟨pl, hp, rfl⟩ := List.mem_map.mp hx
    have s := plT_at t pl hp 0
    have e2 : (extI (t, 0, []) pl).2.2 = pl := by
      unfold extI
      simp only
      cases e : atT (ksI pl) t 0 with
      | none => rw [e] at s; cases s
      | some p => simp
    rw [e2]
  rw [key a ha', key b hb, e]
end HF


end
section
set_option Elab.async false
set_option linter.all false
set_option maxRecDepth 20000
set_option maxHeartbeats 1000000
set_option autoImplicit false
namespace HF
open PySem PySem.Spec PyProof.Rows L2
/-! RI: _law_right. -/
theorem plV_sp (pl : List Nat) : plV pl = encSp pl := by simp [plV, encSp, ksI]
theorem atT_cons (k : Int) (ks : List Int) (t : Tm) (b : Nat) : atT (k :: ks) t b = if 0 ≤ k then (match t.inner[k.toNat]? with
    | some p => atT ks p.2 (b + p.1)
    | none => none) else none := by
  conv => lhs; unfold atT
  all_goals rfl
theorem atT_app (ls : List Int) : ∀ (ks : List Int) (t : Tm) (b : Nat), atT (ks ++ ls) t b = (atT ks t b).bind fun p => atT ls p.2 p.1
  | [], t, b => by
    have e : atT [] t b = some (b, t) := by unfold atT; rfl
    rw [List.nil_append, e]; rfl
  | k :: ks, t, b => by
    rw [List.cons_append, atT_cons, atT_cons]
    by_cases c : 0 ≤ k
    · rw [if_pos c, if_pos c]
      cases t.inner[k.toNat]? with
      | none => rfl
      | some p => exact atT_app ls ks p.2 _
    · rw [if_neg c, if_neg c]; rfl
theorem atT_neg {k : Int} (h : k < 0) (ks : List Int) (t : Tm) (b : Nat) : atT (k :: ks) t b = none := by
  unfold atT; rw [if_neg (by omega)]
theorem atT_far {k : Int} {t : Tm} (h : (t.inner.length : Int) ≤ k) (ks : List Int) (b : Nat) : atT (k :: ks) t b = none := by
  unfold atT
  rw [if_pos (by omega), List.getElem?_eq_none (by omega)]
theorem allI_at {t : Tm} {x : Item} (h : x ∈ allI (t, 0, [])) : atT (ksI x.2.2) t 0 = some (x.2.1, x.1) ∧ x.2.2 ∈ plT t := by
  obtain ⟨pl, hp, rfl⟩ := List.mem_map.mp h
  have s := plT_at t pl hp 0
  unfold extI
  simp only
  cases e : atT (ksI pl) t 0 with
  | none => rw [e] at s; cases s
  | some p => simp [e]; exact hp
theorem number_ok (k : Int) (h : List PO) : f_law_number [.int k] h = .ok (.v (.bl true)) h := by
  unfold f_law_number runDef b_law_number
  simp [kitB_int_int, kitB_int_bool]
def RM (t : Tm) (rows : PV) (c : Int) (F : List PV) (x6 x7 x8 x9 x10 x11 : Option LV) (h : List PO) : Mem := ⟨[some (.v t.enc), some (.v rows), some (.v (.int c)), some (.own (.lst F)), none, none, x6, x7, x8, x9, x10, x11], h⟩
theorem beyond_loop (t : Tm) (rows : PV) (c : Int) (F : List PV) (x6 x7 x8 x9 x10 : Option LV) (h : List PO) (hz : t.size ≤ 100000) (L : List (List Int)) (hL : ∀ ks ∈ L, atT ks t 0 = none ∧ ks.length ≤ 100000) (all : List PV) :
    forL (.v .non) all (.nm 11) b_law_right_1 [11] (L.map fun ks => .tup (ks.map .int)) (RM t rows c F x6 x7 x8 x9 x10 none h) = .nx (RM t rows c F x6 x7 x8 x9 x10 none h) := by
  refine forL_fold0 (σ := Unit) (fun _ => RM t rows c F x6 x7 x8 x9 x10 none h) (fun ks : List Int => .tup (ks.map .int)) (fun _ _ => ()) L () fun ks hk _ => ?_
  obtain ⟨h1, h2⟩ := hL ks hk
  have at1 := at_ok t ks h hz h2
  rw [h1] at at1
  refine turn_go (r' := (RM t rows c F x6 x7 x8 x9 x10 (some (.v (.tup (ks.map .int)))) h).r) (M2 := RM t rows c F x6 x7 x8 x9 x10 (some (.v (.tup (ks.map .int)))) h) (by simp [RM]) ?_ (by simp [RM])
  unfold b_law_right_1
  simp [RM, at1, optAt]
theorem pl_len {t : Tm} {pl : List Nat} (h : pl ∈ plT t) : pl.length ≤ t.depth := by
  have s := plT_at t pl h 0
  cases e : atT (ksI pl) t 0 with
  | none => rw [e] at s; cases s
  | some p =>
    have := atT_deep _ _ _ _ e
    simp [ksI] at this
    omega
theorem atT_lay {ks : List Int} : ∀ {t : Tm} {b : Nat} {p : Nat × Tm}, atT ks t b = some p → t.Lay → p.2.Lay ∧ p.2.size ≤ t.size := by
  induction ks with
  | nil => intro t b p h hl; unfold atT at h; cases h; exact ⟨hl, Nat.le_refl _⟩
  | cons k ks ih =>
    intro t b p h hl
    unfold atT at h
    split at h
    · split at h
      · rename_i q e
        have m := List.mem_of_getElem? e
        obtain ⟨h1, h2⟩ := ih h (hl.inner m)
        have := Tm.size_lt m
        exact ⟨h1, by omega⟩
      · cases h
    · cases h
theorem row_turn (t : Tm) (rows : PV) (c : Int) (F : List PV) (h : List PO) (hl : t.Lay) (hd : t.depth ≤ 19) (hz : t.size ≤ 10000) (x : Item) (hx : x ∈ allI (t, 0, [])) :
    forTurn (.tp [6, 7, 8]) b_law_right_2 [6, 7, 8, 9, 10, 11] (encIt x) (RM t rows c F none none none none none none h) = .go (RM t rows c F none none none none none none h) := by
  obtain ⟨a1, a2⟩ := allI_at hx
  obtain ⟨s, b, sp⟩ := x
  simp only at a1 a2
  have lp := pl_len a2
  obtain ⟨sl, ss⟩ := atT_lay a1 hl
  have sd := atT_deep _ _ _ _ a1
  simp only at sl ss sd
  have at1 := at_ok t (ksI sp) h (by omega) (by simp [ksI]; omega)
  rw [a1] at at1
  have eV : (.tup ((ksI sp).map .int) : PV) = encSp sp := plV_sp sp
  rw [eV] at at1
  have li := linner_ok s h
  have il := s.inner_len
  have g1 : s.inner.length ≤ sizeLine := by rw [sizeLine_val]; omega
  have g2 : sp.length + 1 ≤ sizeLine := by rw [sizeLine_val]; omega
  have g3 : sp.length + 2 ≤ sizeLine := by rw [sizeLine_val]; omega
  have g4 : 1 + sp.length ≤ sizeLine := by rw [sizeLine_val]; omega
  have cp0 := Int.emod_nonneg c (b := 10 ^ 20) (by omega)
  have cp1 := Int.emod_nonneg c (b := 4) (by omega)
  obtain ⟨N, eN⟩ : ∃ N : Option LV → Option LV → Option LV → Mem, N = fun x9 x10 x11 => RM t rows c F (some (.v (encSp sp))) (some (.v (.int b))) (some (.v s.enc)) x9 x10 x11 h := ⟨_, rfl⟩
  refine turn_go (r' := (N none none none).r) (M2 := N (some (.v (.tup [.int b, s.enc]))) (some (.v (.int s.inner.length))) none) (by rw [eN]; simp [RM, encIt]) ?_ (by rw [eN]; simp [RM])
  show b_law_right_2 (⟨(N none none none).r, h⟩ : Mem) = _
  have e0 : (⟨(N none none none).r, h⟩ : Mem) = N none none none := by rw [eN]; rfl
  rw [e0]
  unfold b_law_right_2
  refine (sq_nx (M' := N (some (.v (.tup [.int b, s.enc]))) none none) (by rw [eN]; simp [RM, at1, optAt])).trans ?_
  refine (sq_nx (M' := N (some (.v (.tup [.int b, s.enc]))) none none) ((if_f (M1 := N (some (.v (.tup [.int b, s.enc]))) none none) (bOr_ff (M1 := N (some (.v (.tup [.int b, s.enc]))) none none) ?_ (bOr_ff (M1 := N (some (.v (.tup [.int b, s.enc]))) none none) ?_ ?_))).trans rfl)).trans ?_
  · rw [eN]; simp [RM, kitB_tuple_tuple]
  · have td : (PV.tup [.int b, s.enc]).toD = some (.tuple [.int b, s.dat]) := by simp [PV.toD, toDs, Tm.enc_toD]
    have sh : SeqAt.shaped (.tuple [.int b, s.dat]) = true := by
      have l1 := Tm.dat_lay s sl
      have l2 := s.dat_depth
      unfold SeqAt.shaped
      simp [PyData.canLay0, PyData.canLayAll0, PyData.depth, PyData.depthAll, l1]
      omega
    have ev : PyData.eqv (.tuple [.int b, s.dat]) (.tuple [.int b, s.dat]) = true := rf_tup (by simp [rf_int, s.rf])
    refine b2_at (x := .v (.tup [.int b, s.enc])) (y := .v (.tup [.int b, s.enc])) (M1 := N (some (.v (.tup [.int b, s.enc]))) none none) (by rw [eN]; simp [RM]) (by rw [eN]; simp [RM]) ?_
    exact cpNe_d (b := true) rfl (by simpa using td) (by simpa using td) sh sh ev
  · have nu := number_ok b h
    rw [eN]; simp [RM, atI_0, nu]
  refine (sq_nx (M' := N (some (.v (.tup [.int b, s.enc]))) (some (.v (.int s.inner.length))) none) (by rw [eN]; simp [RM, li, g1])).trans ?_
  have bl := beyond_loop t rows c F (some (.v (encSp sp))) (some (.v (.int b))) (some (.v s.enc)) (some (.v (.tup [.int b, s.enc]))) (some (.v (.int s.inner.length))) h (by omega)
    [ksI sp ++ [s.inner.length + c % 10 ^ 20], ksI sp ++ [-1 - c % 4], ksI sp ++ [(s.inner.length : Int), 0], -1 :: ksI sp] (fun ks hk => by
      have ll : ((ksI sp).length) ≤ 1000 := by simp [ksI]; omega
      simp only [List.mem_cons, List.not_mem_nil, or_false] at hk
      rcases hk with rfl | rfl | rfl | rfl
      · exact ⟨by rw [atT_app, a1]; exact atT_far (t := s) (by omega) _ _, by simp; omega⟩
      · exact ⟨by rw [atT_app, a1]; exact atT_neg (by omega) _ _ _, by simp; omega⟩
      · exact ⟨by rw [atT_app, a1]; exact atT_far (t := s) (by omega) _ _, by simp; omega⟩
      · exact ⟨atT_neg (by omega) _ _ _, by simp; omega⟩)
  have eL : ([ksI sp ++ [s.inner.length + c % 10 ^ 20], ksI sp ++ [-1 - c % 4], ksI sp ++ [(s.inner.length : Int), 0], -1 :: ksI sp].map fun ks : List Int => PV.tup (ks.map .int)) =
      [.tup (sp.map (fun i : Nat => .int i) ++ [.int (s.inner.length + c % 10 ^ 20)]), .tup (sp.map (fun i : Nat => .int i) ++ [.int (-1 - c % 4)]), .tup (sp.map (fun i : Nat => .int i) ++ [.int (s.inner.length : Int), .int 0]), .tup (.int (-1) :: sp.map (fun i : Nat => .int i))] := by
    simp [ksI]
  rw [eL] at bl
  refine for_nx (M1 := N (some (.v (.tup [.int b, s.enc]))) (some (.v (.int s.inner.length))) none) (sr := (.v .non, [.tup (sp.map (fun i : Nat => .int i) ++ [.int (s.inner.length + c % 10 ^ 20)]), .tup (sp.map (fun i : Nat => .int i) ++ [.int (-1 - c % 4)]), .tup (sp.map (fun i : Nat => .int i) ++ [.int (s.inner.length : Int), .int 0]), .tup (.int (-1) :: sp.map (fun i : Nat => .int i))])) ?_ ?_
  · rw [eN]; simp [RM, encSp, g2, g3, g4]
  · rw [eN]
    exact Eq.trans rfl (bl _)
theorem rows_loop (t : Tm) (rows : PV) (c : Int) (F : List PV) (h : List PO) (hl : t.Lay) (hd : t.depth ≤ 19) (hz : t.size ≤ 10000) (all : List PV) :
    forL (.v .non) all (.tp [6, 7, 8]) b_law_right_2 [6, 7, 8, 9, 10, 11] ((allI (t, 0, [])).map encIt) (RM t rows c F none none none none none none h) = .nx (RM t rows c F none none none none none none h) :=
  forL_fold0 (σ := Unit) (fun _ => RM t rows c F none none none none none none h) encIt (fun _ _ => ()) (allI (t, 0, [])) () fun x hx _ => row_turn t rows c F h hl hd hz x hx
end HF


end
section
set_option Elab.async false
set_option linter.all false
set_option maxRecDepth 20000
set_option autoImplicit false
namespace HF
open PySem PySem.Spec PyProof.Rows L2
theorem wordS_ok (c : Int) (k : Nat) : PyData.strOk (wordS c k) = true := by
  have h1 : ∀ x ∈ stemL c, x < 1114112 := by
    intro x hx
    unfold stemL at hx
    obtain ⟨m, _, rfl⟩ := List.mem_map.mp hx
    have := Int.emod_lt_of_pos (mixI c (2 + m)) (b := 26) (by omega)
    omega
  have h2 := Int.emod_lt_of_pos (mixI c 12 + 7 * k) (b := 26) (by omega)
  unfold PyData.strOk wordS
  simp only [List.all_toArray, List.all_eq_true, decide_eq_true_eq]
  intro x hx
  unfold wordL at hx
  rcases List.mem_append.mp hx with hx | hx
  · exact h1 x (List.mem_of_mem_take hx)
  · rcases List.mem_append.mp hx with hx | hx
    · simp at hx; omega
    · exact h1 x (List.mem_of_mem_drop hx)
def freeI (c p : Int) : Int := if c % 2 = 0 then c / 2 % 10 ^ 60 else mixI (c / 2) p
theorem freeI_lo (c p : Int) : 0 ≤ freeI c p := by
  unfold freeI
  split
  · exact Int.emod_nonneg _ (by omega)
  · exact mixI_lo _ _
theorem free_ok (c p : Int) (h : List PO) (h1 : 0 ≤ p) (h2 : p ≤ 100000) : f_law_free [.int c, .int p] h = .ok (.v (.int (freeI c p))) h := by
  have m := mix_ok (c / 2) p h h1 h2
  unfold f_law_free runDef b_law_free freeI
  by_cases e : c % 2 = 0
  · simp [e]
  · simp [e, m]
def leafT (n : Int) (s : Nat) (ws : List Str) : Tm := if 0 < s ∧ n % 3 < 2 then .name (n / 3 % s).toNat else .sign (ws[(n / 3 % 2).toNat]?.getD ⟨#[]⟩) []
theorem leaf_ok (n : Int) (s : Nat) (ws : List Str) (h : List PO) (hn : 0 ≤ n) (hw : 2 ≤ ws.length) : f_law_leaf [.int n, .int s, .lst (ws.map .str)] h = .ok (.v (leafT n s ws).enc) h := by
  unfold f_law_leaf runDef b_law_leaf leafT
  by_cases e : 0 < s ∧ n % 3 < 2
  · have e2 : ((n / 3 % s).toNat : Int) = n / 3 % s := Int.toNat_of_nonneg (Int.emod_nonneg _ (by omega))
    rw [if_pos e, Tm.enc_name, e2]
    simp [e.1, e.2]
  · have e2 : ((n / 3 % 2).toNat : Int) = n / 3 % 2 := Int.toNat_of_nonneg (Int.emod_nonneg _ (by omega))
    have e3 : (n / 3 % 2).toNat < ws.length := by omega
    have e4 := atI_nat (ws.map PV.str) (n / 3 % 2).toNat
    rw [e2] at e4
    rw [if_neg e, Tm.enc_sign]
    by_cases e5 : 0 < s
    · have e6 : ¬ n % 3 < 2 := fun z => e ⟨e5, z⟩
      simp [e5, e6, e4, e3]
    · simp [e5, e4, e3]
end HF


end
section
set_option Elab.async false
set_option linter.all false
set_option maxRecDepth 20000
set_option autoImplicit false
namespace HF
open PySem PySem.Spec PyProof.Rows L2
def sizeB : Nat → Nat
  | 0 => 1
  | d + 1 => 1 + 3 * sizeB d
structure Drawn (S : Str → List Nat → Prop) (O : Str → Nat → Prop) (s d : Nat) (t : Tm) : Prop where
  scope : t.In s
  depth : t.depth ≤ d + 1
  size : t.size ≤ sizeB d
  ok : t.Ok S O
def holeV (p : Str × Nat) : PV := .tup [.str p.1, .int p.2]
def SW (ws : List Str) (w : Str) (l : List Nat) : Prop := w ∈ ws ∧ l.length ≤ 3 ∧ ∀ n ∈ l, n ≤ 2
def OW (hs : List (Str × Nat)) (w : Str) (l : Nat) : Prop := (w, l) ∈ hs
theorem leaf_drawn (n : Int) (s d : Nat) (ws : List Str) (hs : List (Str × Nat)) (hw : 2 ≤ ws.length) : Drawn (SW ws) (OW hs) s d (leafT n s ws) := by
  have hd : 1 ≤ sizeB d := by cases d <;> simp [sizeB]
  unfold leafT
  split
  · rename_i e
    have h1 := Int.emod_nonneg (n / 3) (b := (s : Int)) (by omega)
    have h2 := Int.emod_lt_of_pos (n / 3) (b := (s : Int)) (by omega)
    refine ⟨(Tm.In_name _ _).mpr (by omega), ?_, ?_, (Tm.Ok_name _).mpr trivial⟩
    · rw [Tm.depth_eq]; simp [Tm.inner, nmax]
    · rw [Tm.size_eq]; simpa [Tm.inner] using hd
  · have e3 : (n / 3 % 2).toNat < ws.length := by omega
    refine ⟨(Tm.In_sign _ _ _).mpr (by simp), ?_, ?_, (Tm.Ok_sign _ _).mpr ⟨⟨?_, by simp, by simp⟩, by simp⟩⟩
    · rw [Tm.depth_eq]; simp [Tm.inner, nmax]
    · rw [Tm.size_eq]; simpa [Tm.inner] using hd
    · simp [e3]
theorem sum_le_mul {b : Nat} : ∀ {l : List Nat}, (∀ x ∈ l, x ≤ b) → l.sum ≤ l.length * b
  | [], _ => by simp
  | x :: l, h => by
    have h1 := h x List.mem_cons_self
    have h2 := sum_le_mul (l := l) fun y hy => h y (List.mem_cons_of_mem _ hy)
    simp only [List.sum_cons, List.length_cons, Nat.add_mul]
    omega
theorem drawn_node {S : Str → List Nat → Prop} {O : Str → Nat → Prop} {s d : Nat} {t : Tm} (hl : t.inner.length ≤ 3) (hi : ∀ p ∈ t.inner, Drawn S O (s + p.1) d p.2) (hs : t.In s) (ho : t.Ok S O) : Drawn S O s (d + 1) t := by
  refine ⟨hs, ?_, ?_, ho⟩
  · rw [Tm.depth_eq]
    have : nmax (t.inner.map fun p => p.2.depth) ≤ d + 1 := nmax_le fun m hm => by
      obtain ⟨p, hp, rfl⟩ := List.mem_map.mp hm
      exact (hi p hp).depth
    omega
  · rw [Tm.size_eq]
    have h1 : (t.inner.map fun p => p.2.size).sum ≤ (t.inner.map fun p => p.2.size).length * sizeB d := sum_le_mul fun m hm => by
      obtain ⟨p, hp, rfl⟩ := List.mem_map.mp hm
      exact (hi p hp).size
    rw [List.length_map] at h1
    have h2 := Nat.mul_le_mul_right (sizeB d) hl
    simp only [sizeB]
    omega
theorem loop_hole (F : Fn) (cs0 ws hs d0 v w1 mm ww : PV) (n : Nat) (s d m : Nat) (h : List PO) (all : List PV) (S : Str → List Nat → Prop) (O : Str → Nat → Prop) (hm : m ≤ 3) (N : Nat)
    (hF : ∀ cs : List Int, cs.length ≤ N → ∃ (t : Tm) (rest : List Int), F [.lst (cs.map .int), .int s, ws, hs, .int d] h = .ok (.v (.tup [t.enc, .lst (rest.map .int)])) h ∧ rest.length ≤ cs.length ∧ Drawn S O s d t) (cs : List Int) (hc : cs.length ≤ N) :
    ∃ (acc : List Tm) (rest : List Int), forL (.v .non) all (.nm 11) (b_law_term_1 F) [11, 12] ((List.range m).map fun i : Nat => .int (i : Int)) ⟨[some (.v cs0), some (.v (.int s)), some (.v ws), some (.v hs), some (.v (.int (d + 1))), some (.v v), some (.v (.lst (cs.map .int))), some (.v w1), some (.v ww), some (.v mm), some (.own (.lst [])), none, none, none], h⟩
      = .nx ⟨[some (.v cs0), some (.v (.int s)), some (.v ws), some (.v hs), some (.v (.int (d + 1))), some (.v v), some (.v (.lst (rest.map .int))), some (.v w1), some (.v ww), some (.v mm), some (.own (.lst (acc.map Tm.enc))), none, none, none], h⟩ ∧ acc.length = m ∧ rest.length ≤ cs.length ∧ ∀ t ∈ acc, Drawn S O s d t := by
  refine forL_inv (e := .v .non) (k := fun i : Nat => PV.int (i : Int)) (I := fun ys M => ∃ (acc : List Tm) (rest : List Int), M = ⟨[some (.v cs0), some (.v (.int s)), some (.v ws), some (.v hs), some (.v (.int (d + 1))), some (.v v), some (.v (.lst (rest.map .int))), some (.v w1), some (.v ww), some (.v mm), some (.own (.lst (acc.map Tm.enc))), none, none, none], h⟩ ∧ acc.length + ys.length = m ∧ rest.length ≤ cs.length ∧ ∀ t ∈ acc, Drawn S O s d t)
    (Q := fun r => ∃ (acc : List Tm) (rest : List Int), r = .nx ⟨[some (.v cs0), some (.v (.int s)), some (.v ws), some (.v hs), some (.v (.int (d + 1))), some (.v v), some (.v (.lst (rest.map .int))), some (.v w1), some (.v ww), some (.v mm), some (.own (.lst (acc.map Tm.enc))), none, none, none], h⟩ ∧ acc.length = m ∧ rest.length ≤ cs.length ∧ ∀ t ∈ acc, Drawn S O s d t) ?_ ?_ _ _ ⟨[], cs, rfl, by simp, Nat.le_refl _, by simp⟩
  · rintro y ys M ⟨acc, rest, rfl, hl, hr, ht⟩
    obtain ⟨t, rest', e, hr', dr⟩ := hF rest (by omega)
    refine ⟨trivial, .inl ⟨_, ?_, acc ++ [t], rest', rfl, by simp at hl ⊢; omega, by omega, ?_⟩⟩
    · have g : acc.length < sizeLine := by rw [sizeLine_val]; simp at hl; omega
      unfold b_law_term_1
      simp [e, g]
    · intro x hx
      rcases List.mem_append.mp hx with hx | hx
      · exact ht x hx
      · simp at hx; subst hx; exact dr
  · rintro M ⟨acc, rest, rfl, hl, hr, ht⟩
    exact ⟨trivial, acc, rest, rfl, by simpa using hl, hr, ht⟩
theorem pick4 (x : Int) : ∃ k : Nat, k ≤ 2 ∧ atI [PV.int 0, .int 0, .int 1, .int 2] (x % 4) = some (.int k) := by
  have h1 := Int.emod_nonneg x (b := 4) (by omega)
  have h2 := Int.emod_lt_of_pos x (b := 4) (by omega)
  obtain ⟨n, hn⟩ := Int.eq_ofNat_of_zero_le h1
  rw [hn, atI_nat]
  have : n = 0 ∨ n = 1 ∨ n = 2 ∨ n = 3 := by omega
  rcases this with rfl | rfl | rfl | rfl
  · exact ⟨0, by omega, rfl⟩
  · exact ⟨0, by omega, rfl⟩
  · exact ⟨1, by omega, rfl⟩
  · exact ⟨2, by omega, rfl⟩
theorem loop_sign (F : Fn) (cs0 ws hs w1 : PV) (u : Int) (n : Nat) (s d m : Nat) (h : List PO) (all : List PV) (S : Str → List Nat → Prop) (O : Str → Nat → Prop) (hm : m ≤ 3) (N : Nat)
    (hF : ∀ (cs : List Int) (k : Nat), cs.length ≤ N → ∃ (t : Tm) (rest : List Int), F [.lst (cs.map .int), .int ((s : Int) + (k : Int)), ws, hs, .int d] h = .ok (.v (.tup [t.enc, .lst (rest.map .int)])) h ∧ rest.length ≤ cs.length ∧ Drawn S O (s + k) d t) (cs : List Int) (hc : cs.length ≤ N) :
    ∃ (acc : List (Nat × Tm)) (rest : List Int), forL (.v .non) all (.nm 11) (b_law_term_2 F) [9, 11, 12] ((List.range m).map fun i : Nat => .int (i : Int)) ⟨[some (.v cs0), some (.v (.int s)), some (.v ws), some (.v hs), some (.v (.int (d + 1))), some (.v (.int u)), some (.v (.lst (cs.map .int))), some (.v w1), none, none, none, none, none, some (.own (.lst []))], h⟩
      = .nx ⟨[some (.v cs0), some (.v (.int s)), some (.v ws), some (.v hs), some (.v (.int (d + 1))), some (.v (.int u)), some (.v (.lst (rest.map .int))), some (.v w1), none, none, none, none, none, some (.own (.lst (acc.map encP)))], h⟩ ∧ acc.length = m ∧ rest.length ≤ cs.length ∧ ∀ p ∈ acc, p.1 ≤ 2 ∧ Drawn S O (s + p.1) d p.2 := by
  refine forL_inv (e := .v .non) (k := fun i : Nat => PV.int (i : Int)) (I := fun ys M => ∃ (acc : List (Nat × Tm)) (rest : List Int), M = ⟨[some (.v cs0), some (.v (.int s)), some (.v ws), some (.v hs), some (.v (.int (d + 1))), some (.v (.int u)), some (.v (.lst (rest.map .int))), some (.v w1), none, none, none, none, none, some (.own (.lst (acc.map encP)))], h⟩ ∧ (∃ xs, xs ++ ys = List.range m ∧ acc.length = xs.length) ∧ rest.length ≤ cs.length ∧ ∀ p ∈ acc, p.1 ≤ 2 ∧ Drawn S O (s + p.1) d p.2)
    (Q := fun r => ∃ (acc : List (Nat × Tm)) (rest : List Int), r = .nx ⟨[some (.v cs0), some (.v (.int s)), some (.v ws), some (.v hs), some (.v (.int (d + 1))), some (.v (.int u)), some (.v (.lst (rest.map .int))), some (.v w1), none, none, none, none, none, some (.own (.lst (acc.map encP)))], h⟩ ∧ acc.length = m ∧ rest.length ≤ cs.length ∧ ∀ p ∈ acc, p.1 ≤ 2 ∧ Drawn S O (s + p.1) d p.2) ?_ ?_ _ _ ⟨[], cs, rfl, ⟨[], rfl, rfl⟩, Nat.le_refl _, by simp⟩
  · rintro y ys M ⟨acc, rest, rfl, ⟨xs, hxs, hl⟩, hr, ht⟩
    have hy : y < m := List.mem_range.mp (by rw [← hxs]; simp)
    have hlm : xs.length + (ys.length + 1) = m := by have := congrArg List.length hxs; simpa using this
    have g : acc.length < sizeLine := by rw [sizeLine_val]; omega
    obtain ⟨k, hk, e, hF'⟩ : ∃ k : Nat, k ≤ 2 ∧ (∃ q : Int, atI [PV.int 12, .int 48, .int 192] (y : Int) = some (.int q) ∧ 0 < q ∧ q < 1073741824 ∧ atI [PV.int 0, .int 0, .int 1, .int 2] (u / q % 4) = some (.int k)) ∧ True := by
      have : y = 0 ∨ y = 1 ∨ y = 2 := by omega
      rcases this with rfl | rfl | rfl
      · obtain ⟨k, hk, e⟩ := pick4 (u / 12); exact ⟨k, hk, ⟨12, rfl, by omega, by omega, e⟩, trivial⟩
      · obtain ⟨k, hk, e⟩ := pick4 (u / 48); exact ⟨k, hk, ⟨48, rfl, by omega, by omega, e⟩, trivial⟩
      · obtain ⟨k, hk, e⟩ := pick4 (u / 192); exact ⟨k, hk, ⟨192, rfl, by omega, by omega, e⟩, trivial⟩
    obtain ⟨q, e1, q1, q2, e2⟩ := e
    obtain ⟨t, rest', e, hr', dr⟩ := hF rest k (by omega)
    refine ⟨trivial, .inl ⟨_, ?_, acc ++ [(k, t)], rest', rfl, ⟨xs ++ [y], by simpa using hxs, by simp [hl]⟩, by omega, ?_⟩⟩
    · unfold b_law_term_2
      simp [e, g, e1, q1, q2, e2, encP]
    · intro x hx
      rcases List.mem_append.mp hx with hx | hx
      · exact ht x hx
      · simp at hx; subst hx; exact ⟨hk, dr⟩
  · rintro M ⟨acc, rest, rfl, ⟨xs, hxs, hl⟩, hr, ht⟩
    have hlm : xs.length = m := by have := congrArg List.length hxs; simpa using this
    exact ⟨trivial, acc, rest, rfl, by omega, hr, ht⟩
theorem term_ok (ws : List Str) (hs : List (Str × Nat)) (hw : 5 ≤ ws.length) (hw2 : ws.length ≤ 1000) (hh : hs.length ≤ 1000) (hh2 : ∀ p ∈ hs, p.2 ≤ 3) (hh3 : ∀ p ∈ hs, PyData.strOk p.1 = true) (h : List PO) : ∀ (n d : Nat) (cs : List Int) (s : Nat), d < n → cs.length ≤ 1000 →
    ∃ (t : Tm) (rest : List Int), f_law_term n [.lst (cs.map .int), .int s, .lst (ws.map .str), .lst (hs.map holeV), .int d] h = .ok (.v (.tup [t.enc, .lst (rest.map .int)])) h ∧ rest.length ≤ cs.length ∧ Drawn (SW ws) (OW hs) s d t
  | 0, d, cs, s, hd, _ => absurd hd (Nat.not_lt_zero _)
  | n + 1, d, cs, s, hd, hc => by
    have hz : sizeLine = 16777216 := sizeLine_val
    have fr := fun c p => free_ok c p h
    have lf := fun k (hk : 0 ≤ k) => leaf_ok k s ws h hk (by omega)
    have sh : SeqAt.shaped (.list (hs.map fun p => .tuple [.str p.1, .int p.2])) = true := shaped_list fun x hx => by
      obtain ⟨p, hp, rfl⟩ := List.mem_map.mp hx
      simp [PyData.canLay0, PyData.canLayAll0, PyData.depth, PyData.depthAll, hh3 p hp]
    have dh : toDs (hs.map holeV) = some (hs.map fun p => .tuple [.str p.1, .int p.2]) := toDs_map _ _ hs fun p hp => by simp [holeV, PV.toD, toDs]
    by_cases e0 : cs = [] ∨ d = 0
    · refine ⟨leafT (freeI (cs.take 1).sum 0) s ws, cs.drop 1, ?_, by simp, leaf_drawn _ _ _ _ _ (by omega)⟩
      have e1 : asInts ((cs.take 1).map .int) = some (cs.take 1) := asInts_map _
      unfold f_law_term runDef b_law_term
      have f1 := fr (cs.take 1).sum 0 (by omega) (by omega)
      have l1 := lf _ (freeI_lo (cs.take 1).sum 0)
      have ce : cs.isEmpty = decide (cs = []) := by cases cs <;> rfl
      by_cases ec : cs = []
      · subst ec
        simp at f1 l1
        simp [toDs, PV.toD, toDs_ints, shaped_ints, shaped_nil, eqv_nil, cutP_1_take, cutP_1_drop, f1, l1]
      · have ed : d = 0 := e0.resolve_left ec
        subst ed
        simp [toDs, PV.toD, toDs_ints, shaped_ints, shaped_nil, eqv_nil, ce, ec, cutP_1_take, cutP_1_drop, ← List.map_take, asInts_map, f1, l1]
    · have ce : cs.isEmpty = decide (cs = []) := by cases cs <;> rfl
      obtain ⟨c, cs', rfl⟩ : ∃ c cs', cs = c :: cs' := by
        cases cs with
        | nil => exact absurd (.inl rfl) e0
        | cons c cs' => exact ⟨c, cs', rfl⟩
      obtain ⟨d, rfl⟩ : ∃ e, d = e + 1 := by
        cases d with
        | zero => exact absurd (.inr rfl) e0
        | succ d => exact ⟨d, rfl⟩
      have f1 := fr c 1 (by omega) (by omega)
      have f2 := freeI_lo c 1
      have sc : SeqAt.shaped (.list (.int c :: cs'.map .int)) = true := shaped_ints (c :: cs')
      have hd0 : ¬ (d : Int) + 1 = 0 := by omega
      generalize hv : freeI c 1 = v at f1 f2
      by_cases ea : v % 8 < 2
      · refine ⟨leafT (v / 8) s ws, cs', ?_, by simp, leaf_drawn _ _ _ _ _ (by omega)⟩
        have l1 := lf (v / 8) (by omega)
        unfold f_law_term runDef b_law_term
        simp [toDs, PV.toD, toDs_ints, sc, shaped_nil, eqv_nil, ce, cutP_1_drop, f1, hd0, atI_0, ea, l1]
      · by_cases eb : v % 8 < 4 ∧ hs ≠ []
        · have hl : 0 < hs.length := List.length_pos_iff.mpr eb.2
          have j1 := Int.emod_nonneg (v / 8) (b := (hs.length : Int)) (by omega)
          have j2 := Int.emod_lt_of_pos (v / 8) (b := (hs.length : Int)) (by omega)
          obtain ⟨w, m, hj⟩ : ∃ w m, hs[(v / 8 % hs.length).toNat]? = some (w, m) := ⟨_, _, List.getElem?_eq_getElem (by omega)⟩
          have hm : (w, m) ∈ hs := List.mem_of_getElem? hj
          have hm3 : m ≤ 3 := hh2 _ hm
          have g1 : m < 4611686018427387904 := by omega
          have g2 : m ≤ sizeLine := by rw [sizeLine_val]; omega
          have hat : atI (hs.map holeV) (v / 8 % hs.length) = some (.tup [.str w, .int m]) := by
            have := atI_nat (hs.map holeV) (v / 8 % hs.length).toNat
            rw [Int.toNat_of_nonneg j1, List.getElem?_map, hj] at this
            exact this
          unfold f_law_term runDef b_law_term
          simp [hl, hat, g1, g2, toDs, PV.toD, toDs_ints, sc, shaped_nil, eqv_nil, ce, cutP_1_drop, f1, hd0, atI_0, ea, eb, dh, sh]
          obtain ⟨acc, rest, e, h1, h2, h3⟩ := loop_hole (f_law_term n) (.lst (.int c :: cs'.map .int)) (.lst (ws.map .str)) (.lst (hs.map holeV)) (.lst (hs.map holeV)) (.int (v / 8)) (.int (v % 8)) (.int m) (.str w) n s d m h ((List.range m).map fun i : Nat => .int (i : Int)) (SW ws) (OW hs) hm3 1000
            (fun cs2 hc2 => term_ok ws hs hw hw2 hh hh2 hh3 h n d cs2 s (by omega) hc2) cs' (by simp at hc; omega)
          rw [e]
          have g3 : acc.length ≤ sizeLine := by rw [sizeLine_val]; omega
          refine ⟨.hole w acc, rest, ?_, by omega, ?_⟩
          · simp [g3, Tm.enc_hole]
          · refine drawn_node (by simp [Tm.inner]; omega) (fun p hp => ?_) ((Tm.In_hole _ _ _).mpr fun t ht => (h3 t ht).scope) ((Tm.Ok_hole _ _).mpr ⟨by rw [h1]; exact hm, fun t ht => (h3 t ht).ok⟩)
            simp only [Tm.inner, List.mem_map] at hp
            obtain ⟨t, ht, rfl⟩ := hp
            exact h3 t ht
        · have eb' : v % 8 < 4 → hs = [] := fun z => Classical.byContradiction fun y => eb ⟨z, y⟩
          have m3 : (1 + v / 8 % 3).toNat ≤ 3 := by omega
          have g1 : (1 + v / 8 % 3).natAbs < 4611686018427387904 := by omega
          have g2 : 1 + v / 8 % 3 ≤ (sizeLine : Int) := by rw [sizeLine_val]; omega
          obtain ⟨acc, rest, e, h1, h2, h3⟩ := loop_sign (f_law_term n) (.lst (.int c :: cs'.map .int)) (.lst (ws.map .str)) (.lst (hs.map holeV)) (.int (v % 8)) (v / 8) n s d (1 + v / 8 % 3).toNat h ((List.range (1 + v / 8 % 3).toNat).map fun i : Nat => .int (i : Int)) (SW ws) (OW hs) m3 1000
            (fun cs2 k hc2 => term_ok ws hs hw hw2 hh hh2 hh3 h n d cs2 (s + k) (by omega) hc2) cs' (by simp at hc; omega)
          have g3 : acc.length ≤ sizeLine := by rw [sizeLine_val]; omega
          have h5 : (2 + v / 8 / 3 % 4 % 3).toNat < ws.length := by omega
          have h6 : ((2 + v / 8 / 3 % 4 % 3).toNat : Int) = 2 + v / 8 / 3 % 4 % 3 := by omega
          obtain ⟨w, hwat⟩ : ∃ w, ws[(2 + v / 8 / 3 % 4 % 3).toNat]? = some w := ⟨_, List.getElem?_eq_getElem h5⟩
          have hat : atI (ws.map PV.str) (2 + v / 8 / 3 % 4 % 3) = some (.str w) := by
            have := atI_nat (ws.map PV.str) (2 + v / 8 / 3 % 4 % 3).toNat
            rw [h6, List.getElem?_map, hwat] at this
            exact this
          refine ⟨.sign w acc, rest, ?_, by simp; omega, ?_⟩
          · unfold f_law_term runDef b_law_term
            by_cases e4 : v % 8 < 4
            · have e5 := eb' e4
              subst e5
              simp only [List.map_nil] at e
              simp [toDs, PV.toD, toDs_ints, sc, shaped_nil, eqv_nil, ce, cutP_1_drop, f1, hd0, atI_0, ea, e4, dh, sh, g1, g2]
              rw [e]
              simp [g3, hat, Tm.enc_sign]
            · simp [toDs, PV.toD, toDs_ints, sc, shaped_nil, eqv_nil, ce, cutP_1_drop, f1, hd0, atI_0, ea, e4, dh, sh, g1, g2]
              rw [e]
              simp [g3, hat, Tm.enc_sign]
          · refine drawn_node (by simp [Tm.inner]; omega) (fun p hp => (h3 p hp).2) ((Tm.In_sign _ _ _).mpr fun p hp => (h3 p hp).2.scope) ((Tm.Ok_sign _ _).mpr ⟨⟨List.mem_of_getElem? hwat, by simp; omega, fun k hk => ?_⟩, fun p hp => (h3 p hp).2.ok⟩)
            obtain ⟨p, hp, rfl⟩ := List.mem_map.mp hk
            exact (h3 p hp).1
end HF


end
section
set_option Elab.async false
set_option linter.all false
set_option maxRecDepth 20000
set_option autoImplicit false
namespace HF
open PySem PySem.Spec PyProof.Rows L2
def wordsL (c : Int) : List Str := (List.range 9).map (wordS c)
def holesL (c : Int) : List (Str × Nat) := (List.range 4).map fun k => (wordS c (5 + k), k)
theorem drawn_ok (cs : List Int) (s : Nat) (c : Int) (h : List PO) (hc : cs.length ≤ 1000) : ∃ t : Tm, f_law_drawn [.lst (cs.map .int), .int s, .int c] h = .ok (.v t.enc) h ∧ Drawn (SW (wordsL c)) (OW (holesL c)) s 4 t := by
  have e1 := words_ok c 9 h (by omega)
  have e2 : (List.range 9).map (fun k => PV.str (wordS c k)) = (wordsL c).map .str := by unfold wordsL; rw [List.map_map]; rfl
  rw [e2] at e1
  obtain ⟨t, rest, e3, _, dr⟩ := term_ok (wordsL c) (holesL c) (by simp [wordsL]) (by simp [wordsL]) (by simp [holesL]) (fun p hp => by
    obtain ⟨k, hk, rfl⟩ := List.mem_map.mp hp
    have := List.mem_range.mp hk
    simp; omega) (fun p hp => by
    obtain ⟨k, hk, rfl⟩ := List.mem_map.mp hp
    exact wordS_ok _ _) h 6 4 (cs.take 12) s (by omega) (by simp; omega)
  refine ⟨t, ?_, dr⟩
  have g2 : 4 ≤ sizeLine := by rw [sizeLine_val]; omega
  have g3 := cutP_take (cs.map PV.int) 12
  simp at e1 e3 g3
  unfold f_law_drawn runDef b_law_drawn
  simp [e1, g2]
  rw [lcL_map0 _ (fun i : Nat => PV.int i) (fun k : Nat => holeV (wordS c (5 + k), k))]
  · have e4 : (List.range 4).map (fun k : Nat => holeV (wordS c (5 + k), k)) = (holesL c).map holeV := by unfold holesL; rw [List.map_map]; rfl
    simp [e4, g3, e3, atI_0]
  · intro k hk
    have hk' := List.mem_range.mp hk
    have : atI ((wordsL c).map PV.str) (5 + (k : Int)) = some (.str (wordS c (5 + k))) := by
      have := atI_nat ((wordsL c).map PV.str) (5 + k)
      rw [show ((5 + k : Nat) : Int) = 5 + (k : Int) by omega] at this
      rw [this]
      have : 5 + k < 9 := by omega
      simp [wordsL, this]
    simp [this, holeV]
end HF


end
section
set_option Elab.async false
set_option linter.all false
set_option maxRecDepth 20000
set_option autoImplicit false
namespace HF
open PySem PySem.Spec PyProof.Rows L2
/-! GR: grown terms. -/
theorem strOk_a : PyData.strOk (Str.ofString "a") = true := by decide +kernel
theorem strOk_wide : PyData.strOk (Str.ofString "wide") = true := by decide +kernel
theorem strOk_deep : PyData.strOk (Str.ofString "deep") = true := by decide +kernel
def leafA : Tm := .sign (Str.ofString "a") []
theorem leafA_enc : leafA.enc = .tup [.str "sign", .str "a", .tup []] := by unfold leafA; rw [Tm.enc_sign]; rfl
theorem leafA_depth : leafA.depth = 1 := by unfold leafA; rw [Tm.depth_eq]; simp [Tm.inner, nmax]
theorem leafA_size : leafA.size = 1 := by unfold leafA; rw [Tm.size_eq]; simp [Tm.inner]
structure Grown (s D N : Nat) (t : Tm) : Prop where
  scope : t.In s
  depth : t.depth ≤ D
  size : t.size ≤ N
  lay : t.Lay
def deepT : Nat → Tm → Tm
  | 0, t => t
  | n + 1, t => .sign (Str.ofString "deep") [(0, deepT n t)]
theorem deepT_ok {s D N : Nat} {t : Tm} (h : Grown s D N t) : ∀ n, Grown s (D + n) (N + n) (deepT n t)
  | 0 => h
  | n + 1 => by
    have ih := deepT_ok h n
    refine ⟨?_, ?_, ?_, ?_⟩
    · simp [deepT, Tm.In_sign, ih.scope]
    · have := ih.depth; simp [deepT, Tm.depth_eq (.sign _ _), Tm.inner, nmax]; omega
    · have := ih.size; simp [deepT, Tm.size_eq (.sign _ _), Tm.inner]; omega
    · exact lay_sign strOk_deep (by simp [ih.lay])
theorem grown_ok (t : Tm) (n : Int) (s D N : Nat) (h : List PO) (g : Grown s D N t) (hD : 1 ≤ D) (hn : 0 ≤ n) : ∃ t', f_law_grown [t.enc, .int n] h = .ok (.v t'.enc) h ∧ Grown s (D + 12) (N + 20) t' := by
  unfold f_law_grown runDef b_law_grown
  have e33 : (n / 3 % 11).toNat ≤ 10 := by omega
  by_cases e0 : n % 3 = 0
  · refine ⟨.sign (Str.ofString "wide") (List.replicate (n / 3 % 11).toNat (0, leafA) ++ [((n / 33 % 5).toNat, t)]), ?_, ?_, ?_, ?_, ?_⟩
    · have e5 : ((n / 33 % 5).toNat : Int) = n / 33 % 5 := by omega
      have g1 : (n / 3 % 11).toNat ≤ sizeLine := by rw [sizeLine_val]; omega
      have g2 : (n / 3 % 11).toNat + 1 ≤ sizeLine := by rw [sizeLine_val]; omega
      have g3 : (n / 3 % 11).natAbs < 4611686018427387904 := by omega
      simp [e0, Tm.enc_sign, encP, leafA_enc, e5, g1, g2, g3]
    · rw [Tm.In_sign]
      intro p hp
      rcases List.mem_append.mp hp with hp | hp
      · obtain rfl := (List.mem_replicate.mp hp).2; simp [leafA, Tm.In_sign]
      · simp at hp; subst hp; exact g.scope.mono (by omega)
    · rw [Tm.depth_eq]
      have : nmax ((List.replicate (n / 3 % 11).toNat (0, leafA) ++ [((n / 33 % 5).toNat, t)]).map fun p : Nat × Tm => p.2.depth) ≤ D := nmax_le fun m hm => by
        obtain ⟨p, hp, rfl⟩ := List.mem_map.mp hm
        rcases List.mem_append.mp hp with hp | hp
        · obtain rfl := (List.mem_replicate.mp hp).2; simp [leafA_depth]; omega
        · simp at hp; subst hp; exact g.depth
      simp only [Tm.inner]; omega
    · rw [Tm.size_eq]
      have := g.size
      simp [Tm.inner, leafA_size]; omega
    · refine lay_sign strOk_wide fun p hp => ?_
      rcases List.mem_append.mp hp with hp | hp
      · obtain rfl := (List.mem_replicate.mp hp).2; exact lay_sign strOk_a (by simp)
      · simp at hp; subst hp; exact g.lay
  · by_cases e1 : n % 3 = 1
    · have g' := deepT_ok g (n / 3 % 12).toNat
      refine ⟨deepT (n / 3 % 12).toNat t, ?_, g'.scope, by have := g'.depth; omega, by have := g'.size; omega, g'.lay⟩
      have key : ∀ all, forL (.v .non) all (.nm 4) b_law_grown_1 [4] ((List.range (n / 3 % 12).toNat).map fun i : Nat => .int (i : Int)) ⟨[some (.v t.enc), some (.v (.int n)), some (.v leafA.enc), none, none], h⟩
         = .nx ⟨[some (.v (deepT (n / 3 % 12).toNat t).enc), some (.v (.int n)), some (.v leafA.enc), none, none], h⟩ := by
        intro all
        have := forL_fold0 (all := all) (pt := .nm 4) (b := b_law_grown_1) (ws := [4]) (σ := Nat) (fun j => ⟨[some (.v (deepT j t).enc), some (.v (.int n)), some (.v leafA.enc), none, none], h⟩) (fun (i : Nat) => .int (i : Int)) (fun j _ => j + 1) (List.range (n / 3 % 12).toNat) 0 fun i _ j => ?_
        · have e : ∀ (l : List Nat) (a : Nat), l.foldl (fun j _ => j + 1) a = a + l.length := by
            intro l; induction l with
            | nil => intro a; rfl
            | cons x l ih => intro a; simp only [List.foldl_cons, ih, List.length_cons]; omega
          rw [e] at this
          simpa [deepT] using this
        · unfold b_law_grown_1
          simp [deepT, Tm.enc_sign, encP]
      have g1 : (n / 3 % 12).natAbs < 4611686018427387904 := by omega
      have g2 : n / 3 % 12 ≤ (sizeLine : Int) := by rw [sizeLine_val]; omega
      simp only [leafA_enc] at key
      simp [e0, e1, g1, g2]
      rw [key]
      simp
    · refine ⟨t, ?_, g.scope, by have := g.depth; omega, by have := g.size; omega, g.lay⟩
      simp [e0, e1]
end HF


end
section
set_option Elab.async false
set_option linter.all false
set_option maxRecDepth 20000
set_option maxHeartbeats 1000000
set_option autoImplicit false
namespace HF
open PySem PySem.Spec PyProof.Rows L2
theorem wordsL_ok {c : Int} {w : Str} (h : w ∈ wordsL c) : PyData.strOk w = true := by
  obtain ⟨k, _, rfl⟩ := List.mem_map.mp h
  exact wordS_ok _ _
theorem lay_of {c : Int} {s d : Nat} {t : Tm} (h : Drawn (SW (wordsL c)) (OW (holesL c)) s d t) : t.Lay :=
  h.ok.lay (fun w l z => wordsL_ok z.1) fun w l z => by
    obtain ⟨k, _, e⟩ := List.mem_map.mp (show (w, l) ∈ holesL c from z)
    cases e
    exact wordS_ok _ _
theorem size_ok : ∀ (n : Nat) (t : Tm) (h : List PO), t.depth ≤ n → t.size ≤ 100000 → f_size n [t.enc] h = .ok (.v (.int t.size)) h
  | 0, t, h, hd, _ => by rw [Tm.depth_eq] at hd; omega
  | n + 1, t, h, hd, hz => by
    have io := inner_ok t h hz
    have sz := Tm.size_eq t
    have lc : ∀ all M, lcL (.v .non) all (.tp [1, 2]) [1, 2] bYes (toP (eCall (f_size n) [] (aCons (toP (eVar 2)) aNil))) (t.inner.map encP) [] ⟨[some M, none, none], h⟩ = some ([] ++ t.inner.map (fun p => PV.int (p.2.size : Nat)), ⟨[some M, none, none], h⟩) := fun all M =>
      lcL_map0 _ encP (fun p => PV.int (p.2.size : Nat)) t.inner [] fun p hp => by
        have ih := size_ok n p.2 h (by have := Tm.depth_lt hp; omega) (by have := Tm.size_lt hp; omega)
        simp [encP, ih]
    have ai := asInts_fun (fun p : Nat × Tm => (p.2.size : Int)) t.inner
    have es : ((t.inner.map fun p : Nat × Tm => (p.2.size : Int)).sum) = ((t.inner.map fun p => p.2.size).sum : Nat) := by
      generalize t.inner = l
      induction l with
      | nil => rfl
      | cons a l ih => simp [ih]
    unfold f_size
    refine dx_v rfl ?_
    unfold b_size
    refine xE (r := [some (.v t.enc), none, none]) ?_
    simp [io, lc, ai, es]
    omega
theorem pl_shaped (L : List (List Nat)) : SeqAt.shaped (.list (L.map datSp)) = true := shaped_list fun d hd => by
  obtain ⟨a, _, rfl⟩ := List.mem_map.mp hd
  have := datSp_lay a
  exact ⟨this.1, by omega⟩
theorem pl_eqv (L : List (List Nat)) : PyData.eqv (.list (L.map datSp)) (.list (L.map datSp)) = true := rf_lst fun d hd => by
  obtain ⟨a, _, rfl⟩ := List.mem_map.mp hd
  exact rf_tup fun d hd => by obtain ⟨i, _, rfl⟩ := List.mem_map.mp hd; exact rf_int _
theorem pl_toDs (L : List (List Nat)) : toDs (L.map plV) = some (L.map datSp) := toDs_map _ _ L fun a _ => by rw [plV_sp]; exact encSp_toD a
theorem right_ok (t : Tm) (c : Int) (h : List PO) (hl : t.Lay) (hd : t.depth ≤ 19) (hz : t.size ≤ 10000) : f_law_right [t.enc, .lst ((allI (t, 0, [])).map encIt), .int c] h = .ok (.v (.bl true)) h := by
  have pk := places_ok 30 t h (by omega) (by omega) (by omega)
  have eP : (allI (t, 0, [])).map (fun x => plV x.2.2) = (plT t).map plV := by
    rw [← allI_sp t 0, List.map_map]; rfl
  have sh := pl_shaped (plT t)
  have ev := pl_eqv (plT t)
  have td := pl_toDs (plT t)
  obtain ⟨ROW, eROW⟩ : ∃ R, R = (PV.lst ((allI (t, 0, [])).map encIt)) := ⟨_, rfl⟩
  have lc1 : ∀ (F : Option LV) all, lcL (.v .non) all (.nm 4) [4] bYes (toP (e2 opIx (eVar 4) (eC (.int 0)))) ((allI (t, 0, [])).map encIt) [] ⟨[some (.v t.enc), some (.v ROW), some (.v (.int c)), F, none, none, none, none, none, none, none, none], h⟩ = some ([] ++ (allI (t, 0, [])).map (fun x => plV x.2.2), ⟨[some (.v t.enc), some (.v ROW), some (.v (.int c)), F, none, none, none, none, none, none, none, none], h⟩) := fun F all =>
    lcL_map0 _ encIt (fun x => plV x.2.2) _ [] fun x hx => by simp [encIt, atI_0, plV_sp]
  have lc1' : ∀ (F : Option LV), eLc (srcOf (eVar 1)) (.nm 4) [4] bYes (toP (e2 opIx (eVar 4) (eC (.int 0)))) ⟨[some (.v t.enc), some (.v ROW), some (.v (.int c)), F, none, none, none, none, none, none, none, none], h⟩ = .ok (.fr (.lst ((plT t).map plV))) ⟨[some (.v t.enc), some (.v ROW), some (.v (.int c)), F, none, none, none, none, none, none, none, none], h⟩ := fun F => by
    refine (eLc_at (sr := (.v .non, (allI (t, 0, [])).map encIt)) (M1 := ⟨[some (.v t.enc), some (.v ROW), some (.v (.int c)), F, none, none, none, none, none, none, none, none], h⟩) (by rw [eROW]; simp) (Eq.trans rfl (lc1 F _))).trans ?_
    rw [List.nil_append, eP]
  rw [← eROW]
  unfold f_law_right
  refine dx_v rfl ?_
  unfold b_law_right
  obtain ⟨N, eN⟩ : ∃ N : List PV → Mem, N = fun F => RM t ROW c F none none none none none none h := ⟨_, rfl⟩
  refine x_seq (M1 := N ((plT t).map plV)) (by rw [eN]; simp [RM, pk]) ?_
  refine x_ifF (M1 := N ((plT t).map plV)) (bOr_ff (M1 := N ((plT t).map plV)) (by rw [eN]; simp [RM, kitB_list_list]) (b2_at (x := .sl 3) (y := .fr (.lst ((plT t).map plV))) (M1 := N ((plT t).map plV)) (by rw [eN]; simp [RM]) (by rw [eN]; exact lc1' _) ?_)) ?_
  · exact cpNe_d (b := true) rfl (by rw [eN]; simp [RM, td]) (by simp [td]) sh sh ev
  refine x_ifF (M1 := N ((plT t).map plV)) (bNot_at (b := true) (bVal_at ?_)) ?_
  · have chk : Chk (.sl 3) ((plT t).map plV) (N ((plT t).map plV)) := by rw [eN]; simp [Chk, RM]
    have inn : ∀ (pl : List Nat) (all : List PV) (x4 x6 : Option LV), lcL (.v .non) all (.nm 5) [5] bYes (toP (eCall f_law_number [] (aCons (toP (eVar 5)) aNil))) (pl.map fun i : Nat => .int i) [] ⟨[some (.v t.enc), some (.v ROW), some (.v (.int c)), some (.own (.lst ((plT t).map plV))), x4, none, x6, none, none, none, none, none], h⟩
        = some ([] ++ pl.map (fun _ => PV.bl true), ⟨[some (.v t.enc), some (.v ROW), some (.v (.int c)), some (.own (.lst ((plT t).map plV))), x4, none, x6, none, none, none, none, none], h⟩) := fun pl all x4 x6 =>
      lcL_map0 _ (fun i : Nat => .int i) (fun _ => PV.bl true) pl [] fun i _ => by
        have nu := number_ok i h
        simp [nu]
    have ab := fun pl : List Nat => asBls_fun (fun _ : Nat => true) pl
    have out : lcL (.sl 3) ((plT t).map plV) (.nm 6) [6] bYes (toP (eAnd (e1 (opIsi "tuple") (eVar 6)) (e1 opAll (eLc (srcOf (eVar 6)) (.nm 5) [5] bYes (toP (eCall f_law_number [] (aCons (toP (eVar 5)) aNil))))))) ((plT t).map plV) [] (N ((plT t).map plV)) = some ([] ++ (plT t).map (fun _ => PV.bl true), N ((plT t).map plV)) :=
      lcL_map (e := .sl 3) (all := (plT t).map plV) _ chk plV (fun _ => PV.bl true) (plT t) [] fun pl _ => by
        rw [eN]
        have ab1 := ab pl
        simp [RM, plV_sp, encSp, kitB_tuple_tuple, inn, ab1]
    have ab2 := asBls_fun (fun _ : List Nat => true) (plT t)
    refine e1_at (x := .fr (.lst ((plT t).map fun _ => PV.bl true))) (eLc_at (sr := (.sl 3, (plT t).map plV)) (M1 := N ((plT t).map plV)) (by rw [eN]; simp [RM]) (Eq.trans (by rw [eN]; rfl) out)) ?_
    simp [ab2]
  refine x_seq (M1 := N ((plT t).map plV)) (for_nx (M1 := N ((plT t).map plV)) (sr := (.v .non, (allI (t, 0, [])).map encIt)) (by rw [eN, eROW]; simp [RM]) (by rw [eN]; exact Eq.trans rfl (rows_loop t ROW c _ h hl hd hz _))) ?_
  have zl : ((plT t).map plV).length < sizeLine := by rw [List.length_map, plT_len, sizeLine_val]; omega
  refine x_seq (M1 := N ((plT t).map plV ++ [.tup [.int 9]])) (by rw [eN]; simp at zl; simp [RM, zl]) ?_
  obtain ⟨p0, P0, e0⟩ : ∃ p P, (plT t).map plV ++ [PV.tup [.int 9]] = p :: P := by rw [plT_eq]; exact ⟨_, _, rfl⟩
  refine x_seq (M1 := N (.tup [.int 8] :: P0)) (by rw [eN, e0]; simp [RM, ixN]) ?_
  have hh : (N (.tup [.int 8] :: P0)).h = h := by rw [eN]; rfl
  have fin := x_ret (f := eB (b2 cpEq (eCall (f_places 30) [] (aCons (toP (eVar 0)) aNil)) (eLc (srcOf (eVar 1)) (.nm 4) [4] bYes (toP (e2 opIx (eVar 4) (eC (.int 0))))))) (M := N (.tup [.int 8] :: P0)) (M1 := N (.tup [.int 8] :: P0)) (p := .bl true)
    (eB_at (b2_at (x := .fr (.lst ((plT t).map plV))) (y := .fr (.lst ((plT t).map plV))) (M1 := N (.tup [.int 8] :: P0)) (by rw [eN]; simp [RM, pk]) (by rw [eN]; exact lc1' _) (cpEq_d (b := true) rfl (by simp [td]) (by simp [td]) sh sh ev)))
  rwa [hh] at fin
def StM (ns : List Int) (h : List PO) : Mem := ⟨[some (.v (.rol (ns.map .int))), none, none, none, none, none], h⟩
theorem one_ok (ns : List Int) (k : Int) (h : List PO) (hn : ns.length ≤ 63) (h0 : 0 ≤ k) (hk : k ≤ 1000) : forTurn (.nm 1) b_law_1 [1, 2, 3, 4, 5] (.int k) (StM ns h) = .go (StM ns h) := by
  obtain ⟨k, rfl⟩ := Int.eq_ofNat_of_zero_le h0
  have c1 := cell_ok ns k h (by omega)
  generalize hc : ns[k]?.getD 0 = c at c1
  have m40 := mix_ok c 40 h (by omega) (by omega)
  have m48 := mix_ok c 48 h (by omega) (by omega)
  obtain ⟨s, hs⟩ := Int.eq_ofNat_of_zero_le (Int.emod_nonneg (mixI c 40) (b := 4) (by omega))
  obtain ⟨t, dt, dr⟩ := drawn_ok (ns.drop k) s c h (by simp; omega)
  have g0 : Grown s 5 121 t := ⟨dr.scope, dr.depth, dr.size, lay_of dr⟩
  obtain ⟨t', gt, g⟩ := grown_ok t (mixI c 48) s 5 121 h g0 (by omega) (mixI_lo _ _)
  have gd := g.depth
  have gs := g.size
  have wk := walked_ok t' h g.lay (by omega) (by omega)
  rw [sorted_all] at wk
  have sz := size_ok 30 t' h (by omega) (by omega)
  have rk := right_ok t' c h g.lay (by omega) (by omega)
  have nk := number_ok t'.size h
  have ln : ((allI (t', 0, [])).map encIt).length = t'.size := by unfold allI; rw [List.length_map, List.length_map, plT_len]
  have zl : ((allI (t', 0, [])).map encIt).length ≤ sizeLine := by rw [ln, sizeLine_val]; omega
  have g3 := cutP_drop (ns.map PV.int) k
  generalize (allI (t', 0, [])).map encIt = RW at wk rk ln zl
  obtain ⟨N, eN⟩ : ∃ N : Option LV → Option LV → Option LV → Option LV → Mem, N = fun x2 x3 x4 x5 => ⟨[some (.v (.rol (ns.map .int))), some (.v (.int k)), x2, x3, x4, x5], h⟩ := ⟨_, rfl⟩
  refine turn_go (r' := (N none none none none).r) (M2 := N (some (.v (.int c))) (some (.v t'.enc)) (some (.v (.lst RW))) (some (.v (.int t'.size)))) (by rw [eN]; simp [StM]) ?_ (by rw [eN]; simp [StM])
  show b_law_1 (⟨(N none none none none).r, h⟩ : Mem) = _
  have e0 : (⟨(N none none none none).r, h⟩ : Mem) = N none none none none := by rw [eN]
  rw [e0]
  unfold b_law_1
  refine (sq_nx (M' := N (some (.v (.int c))) none none none) (by rw [eN]; simp [c1])).trans ?_
  simp at dt g3
  refine (sq_nx (M' := N (some (.v (.int c))) (some (.v t'.enc)) none none) (by rw [eN]; simp [m40, m48, hs, g3, dt, gt])).trans ?_
  refine (sq_nx (M' := N (some (.v (.int c))) (some (.v t'.enc)) (some (.v (.lst RW))) none) (by rw [eN]; simp [wk])).trans ?_
  refine (sq_nx (M' := N (some (.v (.int c))) (some (.v t'.enc)) (some (.v (.lst RW))) (some (.v (.int t'.size)))) (by rw [eN]; simp [sz])).trans ?_
  rw [eN]
  simp [nk, rk, ln, zl]
theorem law_ok (ns : List Int) (h : List PO) (hn : ns.length ≤ 63) : f_law [.rol (ns.map .int)] h = .ok (.v (.bl true)) h := by
  have g1 : ns.length ≤ sizeLine := by rw [sizeLine_val]; omega
  generalize hm : (if (1 : Int) < (if (63 : Int) < ns.length then 63 else (ns.length : Int)) then (if (63 : Int) < ns.length then 63 else (ns.length : Int)) else 1) = m
  have h1 : 1 ≤ m ∧ m ≤ 63 := by
    subst hm
    split <;> split <;> omega
  have h2 := rg3_of (a := 0) (b := m) (c := 6) (by omega) (by omega) (by omega) (by omega) (by omega) (by omega)
  have key : forL (.v .non) ((List.range (rgLen 0 m 6)).map fun (i : Nat) => .int ((i : Int) * 6)) (.nm 1) b_law_1 [1, 2, 3, 4, 5] ((List.range (rgLen 0 m 6)).map fun (i : Nat) => .int ((i : Int) * 6)) (StM ns h) = .nx (StM ns h) := by
    have := forL_fold0 (σ := Unit) (all := (List.range (rgLen 0 m 6)).map fun (i : Nat) => .int ((i : Int) * 6)) (pt := .nm 1) (b := b_law_1) (ws := [1, 2, 3, 4, 5]) (fun _ => StM ns h) (fun (i : Nat) => .int ((i : Int) * 6)) (fun _ _ => ()) (List.range (rgLen 0 m 6)) () fun i hi _ => ?_
    · exact this
    · have hi' := List.mem_range.mp hi
      unfold rgLen Builtin.Range.rangeSize at hi'
      rw [if_pos (by omega), if_pos (by omega)] at hi'
      exact one_ok ns _ h hn (by omega) (by omega)
  unfold f_law runDef b_law
  unfold StM at key
  simp [g1, hm, h2]
  rw [key]
theorem law_end (ns : List Int) (hn : ns.length ≤ 63) : ∃ h', f_law [.rol (ns.map .int)] [] = .ok (.v (.bl true)) h' := ⟨_, law_ok ns [] hn⟩
end HF


end
section
set_option Elab.async false
set_option linter.all false
set_option maxRecDepth 100000
set_option maxHeartbeats 4000000
set_option autoImplicit false
namespace HF
open PySem PySem.Spec PyProof.Rows L2
theorem tops_at {l : PySem.W.OpenLaw} {w : World} {K : PySem.W.Frag} {h : Heap} {mg : Str → Option Value} {fa : Addr} (KX : K.In h) (NG : h.Ns mainGlobals mg) (mlaw : mg "law" = some (.ref fa))
    {f1 f2 f3 f4 f5 f6 f7 f8 f9 f10 f11 f12 f13 f14 f15 f16 f17 f18 : Addr}
    {oc1 kv1 dc1 pm1 ct1 cd1 oc2 kv2 dc2 pm2 ct2 cd2 oc3 kv3 dc3 pm3 ct3 cd3 oc4 kv4 dc4 pm4 ct4 cd4 oc5 kv5 dc5 pm5 ct5 cd5 oc6 kv6 dc6 pm6 ct6 cd6 oc7 kv7 dc7 pm7 ct7 cd7 oc8 kv8 dc8 pm8 ct8 cd8 oc9 kv9 dc9 pm9 ct9 cd9 oc10 kv10 dc10 pm10 ct10 cd10 oc11 kv11 dc11 pm11 ct11 cd11 oc12 kv12 dc12 pm12 ct12 cd12 oc13 kv13 dc13 pm13 ct13 cd13 oc14 kv14 dc14 pm14 ct14 cd14 oc15 kv15 dc15 pm15 ct15 cd15 oc16 kv16 dc16 pm16 ct16 cd16 oc17 kv17 dc17 pm17 ct17 cd17 oc18 kv18 dc18 pm18 ct18 cd18 : Value} {od1 an1 od2 an2 od3 an3 od4 an4 od5 an5 od6 an6 od7 an7 od8 an8 od9 an9 od10 an10 od11 an11 od12 an12 od13 an13 od14 an14 od15 an15 od16 an16 od17 an17 od18 an18 : Option Addr} {sl1 sl2 sl3 sl4 sl5 sl6 sl7 sl8 sl9 sl10 sl11 sl12 sl13 sl14 sl15 sl16 sl17 sl18 : Array (Option Value)}
    (a1 : PySem.W.nsIn K mainGlobals "inner_terms" = some (some (.ref f1)))
    (l1 : K.lookup f1 = some ⟨oc1, od1, .func (PySem.W.fnOf "inner_terms" "inner_terms" (defArgs s_inner_terms) (defBody s_inner_terms) (defScope s_inner_terms) .none kv1 dc1 pm1 an1 cd1 ct1), sl1⟩)
    (c1 : PySem.W.codeIn K cd1 "inner_terms" = true) (k1 : PySem.W.keepIn K (.ref f1) = true)
    (a2 : PySem.W.nsIn K mainGlobals "size" = some (some (.ref f2)))
    (l2 : K.lookup f2 = some ⟨oc2, od2, .func (PySem.W.fnOf "size" "size" (defArgs s_size) (defBody s_size) (defScope s_size) .none kv2 dc2 pm2 an2 cd2 ct2), sl2⟩)
    (c2 : PySem.W.codeIn K cd2 "size" = true) (k2 : PySem.W.keepIn K (.ref f2) = true)
    (a3 : PySem.W.nsIn K mainGlobals "places" = some (some (.ref f3)))
    (l3 : K.lookup f3 = some ⟨oc3, od3, .func (PySem.W.fnOf "places" "places" (defArgs s_places) (defBody s_places) (defScope s_places) .none kv3 dc3 pm3 an3 cd3 ct3), sl3⟩)
    (c3 : PySem.W.codeIn K cd3 "places" = true) (k3 : PySem.W.keepIn K (.ref f3) = true)
    (a4 : PySem.W.nsIn K mainGlobals "at" = some (some (.ref f4)))
    (l4 : K.lookup f4 = some ⟨oc4, od4, .func (PySem.W.fnOf "at" "at" (defArgs s_at) (defBody s_at) (defScope s_at) .none kv4 dc4 pm4 an4 cd4 ct4), sl4⟩)
    (c4 : PySem.W.codeIn K cd4 "at" = true) (k4 : PySem.W.keepIn K (.ref f4) = true)
    (a5 : PySem.W.nsIn K mainGlobals "_law_cell_at" = some (some (.ref f5)))
    (l5 : K.lookup f5 = some ⟨oc5, od5, .func (PySem.W.fnOf "_law_cell_at" "_law_cell_at" (defArgs s_law_cell_at) (defBody s_law_cell_at) (defScope s_law_cell_at) .none kv5 dc5 pm5 an5 cd5 ct5), sl5⟩)
    (c5 : PySem.W.codeIn K cd5 "_law_cell_at" = true) (k5 : PySem.W.keepIn K (.ref f5) = true)
    (a6 : PySem.W.nsIn K mainGlobals "_law_mix" = some (some (.ref f6)))
    (l6 : K.lookup f6 = some ⟨oc6, od6, .func (PySem.W.fnOf "_law_mix" "_law_mix" (defArgs s_law_mix) (defBody s_law_mix) (defScope s_law_mix) .none kv6 dc6 pm6 an6 cd6 ct6), sl6⟩)
    (c6 : PySem.W.codeIn K cd6 "_law_mix" = true) (k6 : PySem.W.keepIn K (.ref f6) = true)
    (a7 : PySem.W.nsIn K mainGlobals "_law_words" = some (some (.ref f7)))
    (l7 : K.lookup f7 = some ⟨oc7, od7, .func (PySem.W.fnOf "_law_words" "_law_words" (defArgs s_law_words) (defBody s_law_words) (defScope s_law_words) .none kv7 dc7 pm7 an7 cd7 ct7), sl7⟩)
    (c7 : PySem.W.codeIn K cd7 "_law_words" = true) (k7 : PySem.W.keepIn K (.ref f7) = true)
    (a8 : PySem.W.nsIn K mainGlobals "_law_free" = some (some (.ref f8)))
    (l8 : K.lookup f8 = some ⟨oc8, od8, .func (PySem.W.fnOf "_law_free" "_law_free" (defArgs s_law_free) (defBody s_law_free) (defScope s_law_free) .none kv8 dc8 pm8 an8 cd8 ct8), sl8⟩)
    (c8 : PySem.W.codeIn K cd8 "_law_free" = true) (k8 : PySem.W.keepIn K (.ref f8) = true)
    (a9 : PySem.W.nsIn K mainGlobals "_law_leaf" = some (some (.ref f9)))
    (l9 : K.lookup f9 = some ⟨oc9, od9, .func (PySem.W.fnOf "_law_leaf" "_law_leaf" (defArgs s_law_leaf) (defBody s_law_leaf) (defScope s_law_leaf) .none kv9 dc9 pm9 an9 cd9 ct9), sl9⟩)
    (c9 : PySem.W.codeIn K cd9 "_law_leaf" = true) (k9 : PySem.W.keepIn K (.ref f9) = true)
    (a10 : PySem.W.nsIn K mainGlobals "_law_term" = some (some (.ref f10)))
    (l10 : K.lookup f10 = some ⟨oc10, od10, .func (PySem.W.fnOf "_law_term" "_law_term" (defArgs s_law_term) (defBody s_law_term) (defScope s_law_term) .none kv10 dc10 pm10 an10 cd10 ct10), sl10⟩)
    (c10 : PySem.W.codeIn K cd10 "_law_term" = true) (k10 : PySem.W.keepIn K (.ref f10) = true)
    (a11 : PySem.W.nsIn K mainGlobals "_law_drawn" = some (some (.ref f11)))
    (l11 : K.lookup f11 = some ⟨oc11, od11, .func (PySem.W.fnOf "_law_drawn" "_law_drawn" (defArgs s_law_drawn) (defBody s_law_drawn) (defScope s_law_drawn) .none kv11 dc11 pm11 an11 cd11 ct11), sl11⟩)
    (c11 : PySem.W.codeIn K cd11 "_law_drawn" = true) (k11 : PySem.W.keepIn K (.ref f11) = true)
    (a12 : PySem.W.nsIn K mainGlobals "_law_grown" = some (some (.ref f12)))
    (l12 : K.lookup f12 = some ⟨oc12, od12, .func (PySem.W.fnOf "_law_grown" "_law_grown" (defArgs s_law_grown) (defBody s_law_grown) (defScope s_law_grown) .none kv12 dc12 pm12 an12 cd12 ct12), sl12⟩)
    (c12 : PySem.W.codeIn K cd12 "_law_grown" = true) (k12 : PySem.W.keepIn K (.ref f12) = true)
    (a13 : PySem.W.nsIn K mainGlobals "_law_inner" = some (some (.ref f13)))
    (l13 : K.lookup f13 = some ⟨oc13, od13, .func (PySem.W.fnOf "_law_inner" "_law_inner" (defArgs s_law_inner) (defBody s_law_inner) (defScope s_law_inner) .none kv13 dc13 pm13 an13 cd13 ct13), sl13⟩)
    (c13 : PySem.W.codeIn K cd13 "_law_inner" = true) (k13 : PySem.W.keepIn K (.ref f13) = true)
    (a14 : PySem.W.nsIn K mainGlobals "_law_walked" = some (some (.ref f14)))
    (l14 : K.lookup f14 = some ⟨oc14, od14, .func (PySem.W.fnOf "_law_walked" "_law_walked" (defArgs s_law_walked) (defBody s_law_walked) (defScope s_law_walked) .none kv14 dc14 pm14 an14 cd14 ct14), sl14⟩)
    (c14 : PySem.W.codeIn K cd14 "_law_walked" = true) (k14 : PySem.W.keepIn K (.ref f14) = true)
    (a15 : PySem.W.nsIn K mainGlobals "_law_place_first" = some (some (.ref f15)))
    (l15 : K.lookup f15 = some ⟨oc15, od15, .func (PySem.W.fnOf "_law_place_first" "_law_place_first" (defArgs s_law_place_first) (defBody s_law_place_first) (defScope s_law_place_first) .none kv15 dc15 pm15 an15 cd15 ct15), sl15⟩)
    (c15 : PySem.W.codeIn K cd15 "_law_place_first" = true) (k15 : PySem.W.keepIn K (.ref f15) = true)
    (a16 : PySem.W.nsIn K mainGlobals "_law_number" = some (some (.ref f16)))
    (l16 : K.lookup f16 = some ⟨oc16, od16, .func (PySem.W.fnOf "_law_number" "_law_number" (defArgs s_law_number) (defBody s_law_number) (defScope s_law_number) .none kv16 dc16 pm16 an16 cd16 ct16), sl16⟩)
    (c16 : PySem.W.codeIn K cd16 "_law_number" = true) (k16 : PySem.W.keepIn K (.ref f16) = true)
    (a17 : PySem.W.nsIn K mainGlobals "_law_right" = some (some (.ref f17)))
    (l17 : K.lookup f17 = some ⟨oc17, od17, .func (PySem.W.fnOf "_law_right" "_law_right" (defArgs s_law_right) (defBody s_law_right) (defScope s_law_right) .none kv17 dc17 pm17 an17 cd17 ct17), sl17⟩)
    (c17 : PySem.W.codeIn K cd17 "_law_right" = true) (k17 : PySem.W.keepIn K (.ref f17) = true)
    (a18 : PySem.W.nsIn K mainGlobals "law" = some (some (.ref f18)))
    (l18 : K.lookup f18 = some ⟨oc18, od18, .func (PySem.W.fnOf "law" "law" (defArgs s_law) (defBody s_law) (defScope s_law) .none kv18 dc18 pm18 an18 cd18 ct18), sl18⟩)
    (c18 : PySem.W.codeIn K cd18 "law" = true) (k18 : PySem.W.keepIn K (.ref f18) = true)
    (z_all : PySem.W.nsIn K mainGlobals "all" = some none)
    (z_bool : PySem.W.nsIn K mainGlobals "bool" = some none)
    (z_enumerate : PySem.W.nsIn K mainGlobals "enumerate" = some none)
    (z_int : PySem.W.nsIn K mainGlobals "int" = some none)
    (z_isinstance : PySem.W.nsIn K mainGlobals "isinstance" = some none)
    (z_len : PySem.W.nsIn K mainGlobals "len" = some none)
    (z_list : PySem.W.nsIn K mainGlobals "list" = some none)
    (z_max : PySem.W.nsIn K mainGlobals "max" = some none)
    (z_min : PySem.W.nsIn K mainGlobals "min" = some none)
    (z_range : PySem.W.nsIn K mainGlobals "range" = some none)
    (z_sorted : PySem.W.nsIn K mainGlobals "sorted" = some none)
    (z_sum : PySem.W.nsIn K mainGlobals "sum" = some none)
    (z_tuple : PySem.W.nsIn K mainGlobals "tuple" = some none)
    : ∃ fd : FuncData, (∀ (s : Shared) (v : Value), BindsTo s fd ⟨[v], []⟩ [("_law_script", v)]) ∧ ∀ base : Heap, K.In base → base.Ns mainGlobals mg → FnOk l.prog w K mg base (L2.CX l.prog w) 33 fa fd ["_law_script"] (spTop K [] f_law) := by
  have same := mlaw.symm.trans (PySem.W.mg_of KX NG a18)
  cases same
  have FL := fun_mk (st := s_law) l18 c18 k18
  refine ⟨PySem.W.fnOf "law" "law" (defArgs s_law) (defBody s_law) (defScope s_law) .none kv18 dc18 pm18 an18 cd18 ct18, fun s v => .of_eq rfl, fun base _ _ => ?_⟩
  have T : Tops ⟨l.prog, w, K, mg, base, []⟩ :=
    { t_inner_terms := defAt_mk KX NG a1 l1 c1 k1 fun _ _ _ _ _ _ us hl => match us, hl with | [_], _ => rfl
      t_size := defAt_mk KX NG a2 l2 c2 k2 fun _ _ _ _ _ _ us hl => match us, hl with | [_], _ => rfl
      t_places := defAt_mk KX NG a3 l3 c3 k3 fun _ _ _ _ _ _ us hl => match us, hl with | [_], _ => rfl
      t_at := defAt_mk KX NG a4 l4 c4 k4 fun _ _ _ _ _ _ us hl => match us, hl with | [_, _], _ => rfl
      t_law_cell_at := defAt_mk KX NG a5 l5 c5 k5 fun _ _ _ _ _ _ us hl => match us, hl with | [_, _], _ => rfl
      t_law_mix := defAt_mk KX NG a6 l6 c6 k6 fun _ _ _ _ _ _ us hl => match us, hl with | [_, _], _ => rfl
      t_law_words := defAt_mk KX NG a7 l7 c7 k7 fun _ _ _ _ _ _ us hl => match us, hl with | [_, _], _ => rfl
      t_law_free := defAt_mk KX NG a8 l8 c8 k8 fun _ _ _ _ _ _ us hl => match us, hl with | [_, _], _ => rfl
      t_law_leaf := defAt_mk KX NG a9 l9 c9 k9 fun _ _ _ _ _ _ us hl => match us, hl with | [_, _, _], _ => rfl
      t_law_term := defAt_mk KX NG a10 l10 c10 k10 fun _ _ _ _ _ _ us hl => match us, hl with | [_, _, _, _, _], _ => rfl
      t_law_drawn := defAt_mk KX NG a11 l11 c11 k11 fun _ _ _ _ _ _ us hl => match us, hl with | [_, _, _], _ => rfl
      t_law_grown := defAt_mk KX NG a12 l12 c12 k12 fun _ _ _ _ _ _ us hl => match us, hl with | [_, _], _ => rfl
      t_law_inner := defAt_mk KX NG a13 l13 c13 k13 fun _ _ _ _ _ _ us hl => match us, hl with | [_], _ => rfl
      t_law_walked := defAt_mk KX NG a14 l14 c14 k14 fun _ _ _ _ _ _ us hl => match us, hl with | [_], _ => rfl
      t_law_place_first := defAt_mk KX NG a15 l15 c15 k15 fun _ _ _ _ _ _ us hl => match us, hl with | [_], _ => rfl
      t_law_number := defAt_mk KX NG a16 l16 c16 k16 fun _ _ _ _ _ _ us hl => match us, hl with | [_], _ => rfl
      t_law_right := defAt_mk KX NG a17 l17 c17 k17 fun _ _ _ _ _ _ us hl => match us, hl with | [_, _, _], _ => rfl
      t_law := defAt_mk KX NG a18 l18 c18 k18 fun _ _ _ _ _ _ us hl => match us, hl with | [_], _ => rfl
      m_all := PySem.W.mg_none_of KX NG z_all
      m_bool := PySem.W.mg_none_of KX NG z_bool
      m_enumerate := PySem.W.mg_none_of KX NG z_enumerate
      m_int := PySem.W.mg_none_of KX NG z_int
      m_isinstance := PySem.W.mg_none_of KX NG z_isinstance
      m_len := PySem.W.mg_none_of KX NG z_len
      m_list := PySem.W.mg_none_of KX NG z_list
      m_max := PySem.W.mg_none_of KX NG z_max
      m_min := PySem.W.mg_none_of KX NG z_min
      m_range := PySem.W.mg_none_of KX NG z_range
      m_sorted := PySem.W.mg_none_of KX NG z_sorted
      m_sum := PySem.W.mg_none_of KX NG z_sum
      m_tuple := PySem.W.mg_none_of KX NG z_tuple }
  exact (d_law T _ _ FL).imp fun vs H Q Ex h => h mg
theorem walk_end {l : PySem.W.OpenLaw} {q : Program} {loose : List Str} {XP : (Str → Option Value) → Heap → Prop} {YP : World → Heap → Prop} {d : DefRec} {K : Params → PySem.W.Frag} (hn : l.most = some 63) (hdf : d.params.defaults = [])
    (hY : ∀ (w : World) (h : Heap), YP w h → (K w.params).In h)
    (F : ∀ (w : World) (mg : Str → Option Value) (fa : Addr) (h : Heap), (K w.params).In h → h.Ns mainGlobals mg → mg d.name = some (.ref fa) →
      ∃ fd : FuncData, (∀ (s : Shared) (u : Value), BindsTo s fd ⟨[u], []⟩ [("_law_script", u)]) ∧ ∀ base : Heap, (K w.params).In base → base.Ns mainGlobals mg → FnOk l.prog w (K w.params) mg base (L2.CX l.prog w) 33 fa fd ["_law_script"] (spTop (K w.params) [] f_law)) :
    PySem.W.WalkO q loose XP YP l.row.toRowW d [] (fun f vs => PySem.call f vs) :=
  L2.walk_of (n := 63) (k := 33) (x := "_law_script") (CX := fun w => L2.CX l.prog w) (sp := fun w => spTop (K w.params) [] f_law) hn (by decide) hdf ⟨rfl, by decide, by decide⟩ hY F (fun w H a ns hl _ hS mg => law_sp (fun ms hm => law_end ms hm) H a ns hl hS (fun p hp => by simp at hp)) fun w H s e s' z => CX_false z
end HF
open PySem PySem.W PyProof.Rows
set_option maxHeartbeats 0 in
theorem PySem.Challenge.cw_holeform_k06_places_holds : PySem.Challenge.rw_holeform_k06_places.Holds := by
  w_on; o_law; k_head; (case hw => w_witness2); k_fill
  refine HF.walk_end (l := PySem.Challenge.rw_holeform_k06_places) rfl rfl (fun w h Y => PySem.W.kIn_of Y) ?F
  case F =>
    intro w mg fa h KX NG ml
    refine' HF.tops_at KX NG ml ?a1 ?l1 ?c1 ?k1 ?a2 ?l2 ?c2 ?k2 ?a3 ?l3 ?c3 ?k3 ?a4 ?l4 ?c4 ?k4 ?a5 ?l5 ?c5 ?k5 ?a6 ?l6 ?c6 ?k6 ?a7 ?l7 ?c7 ?k7 ?a8 ?l8 ?c8 ?k8 ?a9 ?l9 ?c9 ?k9 ?a10 ?l10 ?c10 ?k10 ?a11 ?l11 ?c11 ?k11 ?a12 ?l12 ?c12 ?k12 ?a13 ?l13 ?c13 ?k13 ?a14 ?l14 ?c14 ?k14 ?a15 ?l15 ?c15 ?k15 ?a16 ?l16 ?c16 ?k16 ?a17 ?l17 ?c17 ?k17 ?a18 ?l18 ?c18 ?k18 ?z_all ?z_bool ?z_enumerate ?z_int ?z_isinstance ?z_len ?z_list ?z_max ?z_min ?z_range ?z_sorted ?z_sum ?z_tuple
    (case a1 => k_is); (case l1 => k_is); (case c1 => k_is); (case k1 => k_is)
    (case a2 => k_is); (case l2 => k_is); (case c2 => k_is); (case k2 => k_is)
    (case a3 => k_is); (case l3 => k_is); (case c3 => k_is); (case k3 => k_is)
    (case a4 => k_is); (case l4 => k_is); (case c4 => k_is); (case k4 => k_is)
    (case a5 => k_is); (case l5 => k_is); (case c5 => k_is); (case k5 => k_is)
    (case a6 => k_is); (case l6 => k_is); (case c6 => k_is); (case k6 => k_is)
    (case a7 => k_is); (case l7 => k_is); (case c7 => k_is); (case k7 => k_is)
    (case a8 => k_is); (case l8 => k_is); (case c8 => k_is); (case k8 => k_is)
    (case a9 => k_is); (case l9 => k_is); (case c9 => k_is); (case k9 => k_is)
    (case a10 => k_is); (case l10 => k_is); (case c10 => k_is); (case k10 => k_is)
    (case a11 => k_is); (case l11 => k_is); (case c11 => k_is); (case k11 => k_is)
    (case a12 => k_is); (case l12 => k_is); (case c12 => k_is); (case k12 => k_is)
    (case a13 => k_is); (case l13 => k_is); (case c13 => k_is); (case k13 => k_is)
    (case a14 => k_is); (case l14 => k_is); (case c14 => k_is); (case k14 => k_is)
    (case a15 => k_is); (case l15 => k_is); (case c15 => k_is); (case k15 => k_is)
    (case a16 => k_is); (case l16 => k_is); (case c16 => k_is); (case k16 => k_is)
    (case a17 => k_is); (case l17 => k_is); (case c17 => k_is); (case k17 => k_is)
    (case a18 => k_is); (case l18 => k_is); (case c18 => k_is); (case k18 => k_is)
    (case z_all => k_is)
    (case z_bool => k_is)
    (case z_enumerate => k_is)
    (case z_int => k_is)
    (case z_isinstance => k_is)
    (case z_len => k_is)
    (case z_list => k_is)
    (case z_max => k_is)
    (case z_min => k_is)
    (case z_range => k_is)
    (case z_sorted => k_is)
    (case z_sum => k_is)
    (case z_tuple => k_is)


end
