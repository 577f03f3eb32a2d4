import PyProof.Rows.All
import Wide.All
import OpenK.AllK
import Wide.FinOn
import HandS.ForMost
import HandS.TupAny
import HandS.Small
import HandS.TupMul
import HandS.Style
import HandS.Steps
import HandS.StrMore
import HandS.Codes
import HandS.EndBits
import HandS.Zip
import HandS.Dict
import HandS.IsInst
import HandS.More
import KE.SortData
import HandS.FStr
import PyProof.ListStr
import KE.KUnpackStar
import HandS.NoneIn
import KE.GoesEnum
import KE.GoesMore
import HandS.Flow
import HandS.Set
import HandS.SetFor
import HandS.SetTxt0
import HandS.Defaults
import HandS.MakeKwOnly
import HandS.WordsDict
import HandS.DictComp
import KE.KStrBytes
import PySem.Challenge.RW_neversaid_k41_words_said
set_option Elab.async false
set_option linter.all false
set_option maxRecDepth 100000
set_option maxHeartbeats 4000000
/-! Own layer over the hand layer: values with tuples, kept lists, kept dicts as plain data; a store of what may change. -/
namespace N3
open PySem PySem.Spec PyProof.Rows L2

/-- a value: tup, lst, dct are data that no one changes any more; ref is an object that may change -/
inductive PV where
  | non | bl (b : Bool) | int (i : Int) | str (x : Str) | tup (xs : List PV) | lst (xs : List PV) | dct (ks : List Key) (vs : List PV) | ref (a : Addr) | ty (n : String)

/-- an object that may change -/
inductive PO where
  | lst (xs : List PV)
  | dct (ks : List Key) (vs : List PV)
  | ins (C : Addr) (ns : List Str) (vs : List PV)
  | lck (ks : List Key) (vs : List PV)

abbrev PH := Addr → Option PO
abbrev PSt := List (Option PV)
def up (h : PH) (a : Addr) (o : PO) : PH := fun b => if b = a then some o else h b
theorem up_same {h : PH} {a : Addr} {o : PO} : up h a o a = some o := if_pos rfl
theorem up_ne {h : PH} {a b : Addr} {o : PO} (e : b ≠ a) : up h a o b = h b := if_neg e
theorem up_up {h : PH} {a : Addr} {o u : PO} : up (up h a o) a u = up h a u := by
  funext b; unfold up; by_cases e : b = a
  · rw [if_pos e, if_pos e]
  · rw [if_neg e, if_neg e, if_neg e]
theorem up_swap {h : PH} {a b : Addr} {o u : PO} (e : a ≠ b) : up (up h a o) b u = up (up h b u) a o := by
  funext c; unfold up
  by_cases h1 : c = a
  · subst h1; rw [if_neg e, if_pos rfl, if_pos rfl]
  · by_cases h2 : c = b
    · rw [if_pos h2, if_neg h1, if_pos h2]
    · rw [if_neg h2, if_neg h1, if_neg h1, if_neg h2]
def gt : PSt → Nat → Option PV
  | [], _ => none
  | x :: _, 0 => x
  | _ :: r, n + 1 => gt r n
def st : PSt → Nat → Option PV → PSt
  | [], _, _ => []
  | _ :: r, 0, v => v :: r
  | x :: r, n + 1, v => x :: st r n v
theorem gt_eq : ∀ (σ : PSt) (i : Nat), gt σ i = (σ[i]?).join
  | [], _ => by simp [gt]
  | _ :: _, 0 => by simp [gt]
  | _ :: r, n + 1 => by simp [gt, gt_eq r n]
theorem st_eq : ∀ (σ : PSt) (i : Nat) (v : Option PV), st σ i v = σ.set i v
  | [], _, _ => rfl
  | _ :: _, 0, _ => rfl
  | x :: r, n + 1, v => by simp [st, st_eq r n v]

/-! ### what stands for what -/
/-- a list that no one changes -/
def FrL (K : PySem.W.Frag) (H : Hp) (a : Addr) (xs : List V) : Prop :=
  (∃ o, H a = some (.frz o (.lst xs))) ∨
    ∃ (o : Obj) (its : Array Value) (n : Nat), K.lookup a = some o ∧ o.cls = .type "list" ∧ o.dict = none ∧ o.data = .seq its n ∧ its.size ≤ sizeLine ∧ Vals xs its.toList
theorem FrL.sq {K : PySem.W.Frag} {H : Hp} {a : Addr} {xs : List V} (h : FrL K H a xs) : SqL K H a xs := by
  rcases h with ⟨o, h⟩ | h
  · exact .inl (.inr ⟨o, h⟩)
  · exact .inr h
def FrD (H : Hp) (a : Addr) (kvs : List (Key × V)) : Prop := ∃ o, H a = some (.frz o (.dK kvs))
mutual
def Rel (K : PySem.W.Frag) (H : Hp) : PV → V → Prop
  | .non, v => v = .non
  | .bl b, v => v = .bl b
  | .int i, v => v = .int i
  | .str x, v => v = .str x
  | .tup ps, v => ∃ a xs, v = .ref a ∧ SqT K H a xs ∧ Rels K H ps xs
  | .lst ps, v => ∃ a xs, v = .ref a ∧ FrL K H a xs ∧ Rels K H ps xs
  | .dct ks vs, v => ∃ a kvs, v = .ref a ∧ FrD H a kvs ∧ ks = kvs.map (·.1) ∧ Rels K H vs (kvs.map (·.2))
  | .ref a, v => v = .ref a
  | .ty n, v => v = .ty n
def Rels (K : PySem.W.Frag) (H : Hp) : List PV → List V → Prop
  | [], xs => xs = []
  | p :: ps, xs => ∃ v vs, xs = v :: vs ∧ Rel K H p v ∧ Rels K H ps vs
end
/-- what stays from one abstract heap to a later one -/
structure Mono (H H' : Hp) : Prop where
  t : ∀ b xs, H b = some (.tup xs) → H' b = some (.tup xs)
  f : ∀ b o u, H b = some (.frz o u) → H' b = some (.frz o u)
theorem Mono.refl (H : Hp) : Mono H H := ⟨fun _ _ h => h, fun _ _ _ h => h⟩
theorem Mono.trans {H H1 H2 : Hp} (a : Mono H H1) (b : Mono H1 H2) : Mono H H2 :=
  ⟨fun c xs h => b.t c xs (a.t c xs h), fun c o u h => b.f c o u (a.f c o u h)⟩
theorem Mono.new {H : Hp} {a : Addr} {o : HO} (h : H a = none) : Mono H (upd H a o) :=
  ⟨fun b xs e => by rw [upd_ne (ne_of_none e h)]; exact e, fun b u w e => by rw [upd_ne (ne_of_none e h)]; exact e⟩
theorem Mono.wr {H : Hp} {a : Addr} {o u : HO} (h : H a = some u) (n1 : ∀ xs, u ≠ .tup xs) (n2 : ∀ o w, u ≠ .frz o w) : Mono H (upd H a o) :=
  ⟨fun b xs e => by rw [upd_ne (ne_of e h (n1 xs).symm)]; exact e, fun b o' w e => by rw [upd_ne (ne_of e h (n2 o' w).symm)]; exact e⟩
theorem Mono.lst {H : Hp} {a : Addr} {o : HO} {xs : List V} (h : H a = some (.lst xs)) : Mono H (upd H a o) := .wr h (fun _ e => nomatch e) (fun _ _ e => nomatch e)
theorem Mono.dK {H : Hp} {a : Addr} {o : HO} {kvs : List (Key × V)} (h : H a = some (.dK kvs)) : Mono H (upd H a o) := .wr h (fun _ e => nomatch e) (fun _ _ e => nomatch e)
theorem Mono.ins {H : Hp} {a C dx : Addr} {o : HO} {fs : List (Str × V)} (h : H a = some (.ins C dx fs)) : Mono H (upd H a o) := .wr h (fun _ e => nomatch e) (fun _ _ e => nomatch e)
section
variable {K : PySem.W.Frag} {H H' : Hp}
theorem Mono.rd {a : Addr} {u : HO} (m : Mono H H') (hu : ∃ xs, u = .tup xs) (h : Rd H a u) : Rd H' a u := by
  obtain ⟨xs, rfl⟩ := hu
  rcases h with h | ⟨o, h⟩
  · exact .inl (m.t _ _ h)
  · exact .inr ⟨o, m.f _ _ _ h⟩
theorem Mono.sqT {a : Addr} {xs : List V} (m : Mono H H') (h : SqT K H a xs) : SqT K H' a xs := by
  rcases h with h | h
  · exact .inl (m.rd ⟨_, rfl⟩ h)
  · exact .inr h
theorem Mono.frL {a : Addr} {xs : List V} (m : Mono H H') (h : FrL K H a xs) : FrL K H' a xs := by
  rcases h with ⟨o, h⟩ | h
  · exact .inl ⟨o, m.f _ _ _ h⟩
  · exact .inr h
mutual
theorem Rel.mono (m : Mono H H') : ∀ (p : PV) (v : V), Rel K H p v → Rel K H' p v
  | .non, _, h => by simpa only [Rel] using h
  | .bl _, _, h => by simpa only [Rel] using h
  | .int _, _, h => by simpa only [Rel] using h
  | .str _, _, h => by simpa only [Rel] using h
  | .tup ps, v, h => by
    simp only [Rel] at h ⊢
    obtain ⟨a, xs, e, h1, h2⟩ := h
    exact ⟨a, xs, e, m.sqT h1, Rels.mono m ps xs h2⟩
  | .lst ps, v, h => by
    simp only [Rel] at h ⊢
    obtain ⟨a, xs, e, h1, h2⟩ := h
    exact ⟨a, xs, e, m.frL h1, Rels.mono m ps xs h2⟩
  | .dct ks vs, v, h => by
    simp only [Rel] at h ⊢
    obtain ⟨a, kvs, e, ⟨o, h1⟩, h2, h3⟩ := h
    exact ⟨a, kvs, e, ⟨o, m.f _ _ _ h1⟩, h2, Rels.mono m vs _ h3⟩
  | .ref _, _, h => by simpa only [Rel] using h
  | .ty _, _, h => by simpa only [Rel] using h
theorem Rels.mono (m : Mono H H') : ∀ (ps : List PV) (xs : List V), Rels K H ps xs → Rels K H' ps xs
  | [], _, h => by simpa only [Rels] using h
  | p :: ps, xs, h => by
    simp only [Rels] at h ⊢
    obtain ⟨v, vs, e, h1, h2⟩ := h
    exact ⟨v, vs, e, Rel.mono m p v h1, Rels.mono m ps vs h2⟩
end
theorem Rels.nil_iff {xs : List V} : Rels K H [] xs ↔ xs = [] := by simp only [Rels]
theorem Rels.nil : Rels K H [] [] := by simp only [Rels]
theorem Rels.cons {p : PV} {ps : List PV} {v : V} {vs : List V} (h : Rel K H p v) (t : Rels K H ps vs) : Rels K H (p :: ps) (v :: vs) := by
  simp only [Rels]; exact ⟨v, vs, rfl, h, t⟩
theorem Rels.uncons {p : PV} {ps : List PV} {xs : List V} (h : Rels K H (p :: ps) xs) : ∃ v vs, xs = v :: vs ∧ Rel K H p v ∧ Rels K H ps vs := by
  simpa only [Rels] using h
theorem Rels.length : ∀ {ps : List PV} {xs : List V}, Rels K H ps xs → ps.length = xs.length
  | [], _, h => by rw [Rels.nil_iff] at h; subst h; rfl
  | p :: ps, _, h => by
    obtain ⟨v, vs, rfl, _, t⟩ := h.uncons
    rw [List.length_cons, List.length_cons, t.length]
theorem Rels.append : ∀ {ps qs : List PV} {xs ys : List V}, Rels K H ps xs → Rels K H qs ys → Rels K H (ps ++ qs) (xs ++ ys)
  | [], _, _, _, h, g => by rw [Rels.nil_iff] at h; subst h; exact g
  | p :: ps, _, _, _, h, g => by
    obtain ⟨v, vs, rfl, h1, t⟩ := h.uncons
    exact .cons h1 (Rels.append t g)
theorem Rels.get : ∀ {ps : List PV} {xs : List V} {i : Nat} {p : PV}, Rels K H ps xs → ps[i]? = some p → ∃ v, xs[i]? = some v ∧ Rel K H p v
  | [], _, _, _, _, e => by simp at e
  | p :: ps, _, 0, q, h, e => by
    obtain ⟨v, vs, rfl, h1, t⟩ := h.uncons
    simp at e; subst e
    exact ⟨v, rfl, h1⟩
  | p :: ps, _, i + 1, q, h, e => by
    obtain ⟨v, vs, rfl, h1, t⟩ := h.uncons
    obtain ⟨w, e1, r⟩ := Rels.get (i := i) (p := q) t (by simpa using e)
    exact ⟨w, by simpa using e1, r⟩
theorem Rels.get' : ∀ {ps : List PV} {xs : List V} {i : Nat} {v : V}, Rels K H ps xs → xs[i]? = some v → ∃ p, ps[i]? = some p ∧ Rel K H p v := fun {ps xs i v} h e => by
  have hi : i < ps.length := by rw [h.length]; exact (List.getElem?_eq_some_iff.mp e).1
  obtain ⟨w, e1, r⟩ := h.get (List.getElem?_eq_getElem hi)
  rw [e] at e1; cases e1
  exact ⟨_, List.getElem?_eq_getElem hi, r⟩
theorem Rels.of_get : ∀ {ps : List PV} {xs : List V}, ps.length = xs.length → (∀ (i : Nat) (p : PV) (v : V), ps[i]? = some p → xs[i]? = some v → Rel K H p v) → Rels K H ps xs
  | [], [], _, _ => .nil
  | p :: ps, x :: xs, hl, h => .cons (h 0 p x rfl rfl) (Rels.of_get (by simpa using hl) fun i q v e1 e2 => h (i + 1) q v (by simpa using e1) (by simpa using e2))
  | [], _ :: _, hl, _ => by simp at hl
  | _ :: _, [], hl, _ => by simp at hl
theorem Rels.set {p : PV} {v : V} (r : Rel K H p v) : ∀ {ps : List PV} {xs : List V} (i : Nat), Rels K H ps xs → Rels K H (ps.set i p) (xs.set i v)
  | [], _, _, h => by rw [Rels.nil_iff] at h; subst h; exact .nil
  | q :: ps, _, 0, h => by obtain ⟨v, vs, rfl, h1, t⟩ := h.uncons; exact .cons r t
  | q :: ps, _, i + 1, h => by obtain ⟨v, vs, rfl, h1, t⟩ := h.uncons; exact .cons h1 (Rels.set r i t)
theorem Rels.take : ∀ {ps : List PV} {xs : List V} (n : Nat), Rels K H ps xs → Rels K H (ps.take n) (xs.take n)
  | _, _, 0, _ => by simp only [List.take_zero]; exact .nil
  | [], _, n + 1, h => by rw [Rels.nil_iff] at h; subst h; exact .nil
  | q :: ps, _, n + 1, h => by obtain ⟨v, vs, rfl, h1, t⟩ := h.uncons; exact .cons h1 (Rels.take n t)
theorem Rels.drop : ∀ {ps : List PV} {xs : List V} (n : Nat), Rels K H ps xs → Rels K H (ps.drop n) (xs.drop n)
  | _, _, 0, h => h
  | [], _, n + 1, h => by rw [Rels.nil_iff] at h; subst h; exact .nil
  | q :: ps, _, n + 1, h => by obtain ⟨v, vs, rfl, h1, t⟩ := h.uncons; exact Rels.drop n t
theorem Rels.reverse : ∀ {ps : List PV} {xs : List V}, Rels K H ps xs → Rels K H ps.reverse xs.reverse
  | [], _, h => by rw [Rels.nil_iff] at h; subst h; exact .nil
  | q :: ps, _, h => by
    obtain ⟨v, vs, rfl, h1, t⟩ := h.uncons
    rw [List.reverse_cons, List.reverse_cons]
    exact (Rels.reverse t).append (.cons h1 .nil)
theorem Rels.one {p : PV} {xs : List V} (h : Rels K H [p] xs) : ∃ v, xs = [v] ∧ Rel K H p v := by
  obtain ⟨v, vs, rfl, h1, t⟩ := h.uncons
  rw [Rels.nil_iff] at t; subst t
  exact ⟨v, rfl, h1⟩
theorem Rels.two {p q : PV} {xs : List V} (h : Rels K H [p, q] xs) : ∃ v w, xs = [v, w] ∧ Rel K H p v ∧ Rel K H q w := by
  obtain ⟨v, vs, rfl, h1, t⟩ := h.uncons
  obtain ⟨w, rfl, h2⟩ := t.one
  exact ⟨v, w, rfl, h1, h2⟩
theorem Rels.len0 {xs : List V} (h : Rels K H [] xs) : xs = [] := Rels.nil_iff.mp h
end

/-- an object of the store -/
def RelO (K : PySem.W.Frag) (H : Hp) : PO → HO → Prop
  | .lst ps, o => ∃ xs, o = .lst xs ∧ Rels K H ps xs
  | .dct ks vs, o => ∃ kvs, o = .dK kvs ∧ ks = kvs.map (·.1) ∧ Rels K H vs (kvs.map (·.2))
  | .ins C ns vs, o => ∃ dx fs, o = .ins C dx fs ∧ ns = fs.map (·.1) ∧ Rels K H vs (fs.map (·.2))
  | .lck ks vs, o => ∃ ob kvs, o = .frz ob (.dK kvs) ∧ ks = kvs.map (·.1) ∧ Rels K H vs (kvs.map (·.2))
def Sim (K : PySem.W.Frag) (H : Hp) (h : PH) : Prop := ∀ a o, h a = some o → ∃ u, H a = some u ∧ RelO K H o u
def SimS (K : PySem.W.Frag) (H : Hp) (σ : L2.St) (τ : PSt) : Prop := σ.length = τ.length ∧ ∀ i p, gt τ i = some p → ∃ v, σ[i]? = some (some v) ∧ Rel K H p v
section
variable {K : PySem.W.Frag} {H H' : Hp} {h : PH} {σ : L2.St} {τ : PSt} {a : Addr}
theorem RelO.mono (m : Mono H H') : ∀ {o : PO} {u : HO}, RelO K H o u → RelO K H' o u
  | .lst ps, _, ⟨xs, e, r⟩ => ⟨xs, e, r.mono m⟩
  | .dct ks vs, _, ⟨kvs, e, r, q⟩ => ⟨kvs, e, r, q.mono m⟩
  | .ins C ns vs, _, ⟨dx, fs, e, n, r⟩ => ⟨dx, fs, e, n, r.mono m⟩
  | .lck ks vs, _, ⟨ob, kvs, e, n, r⟩ => ⟨ob, kvs, e, n, r.mono m⟩
theorem SimS.mono (m : Mono H H') (s : SimS K H σ τ) : SimS K H' σ τ := ⟨s.1, fun i p e => let ⟨v, e1, r⟩ := s.2 i p e; ⟨v, e1, r.mono m⟩⟩
theorem SimS.get {i : Nat} {p : PV} (s : SimS K H σ τ) (e : gt τ i = some p) : ∃ v, σ[i]? = some (some v) ∧ Rel K H p v := s.2 i p e
theorem SimS.set {i : Nat} {p : PV} {v : V} (s : SimS K H σ τ) (r : Rel K H p v) : SimS K H (σ.set i (some v)) (st τ i (some p)) := by
  refine ⟨by rw [st_eq, List.length_set, List.length_set]; exact s.1, fun j q e => ?_⟩
  rw [st_eq, gt_eq] at e
  by_cases hj : i = j
  · subst hj
    by_cases hi : i < τ.length
    · rw [List.getElem?_set_self hi] at e
      simp at e
      subst e
      exact ⟨v, by rw [List.getElem?_set_self (by rw [s.1]; exact hi)], r⟩
    · rw [List.getElem?_eq_none (by simpa using hi)] at e
      simp at e
  · rw [List.getElem?_set_ne hj] at e ⊢
    exact s.2 j q (by rw [gt_eq]; exact e)
/-- the store may know less than there is -/
theorem Sim.less {h' : PH} (s : Sim K H h) (e : ∀ a o, h' a = some o → h a = some o) : Sim K H h' := fun a o q => s a o (e a o q)
theorem Sim.fresh (s : Sim K H h) (e : H a = none) : h a = none := by
  cases q : h a with
  | none => rfl
  | some o =>
    obtain ⟨u, e1, _⟩ := s a o q
    rw [e] at e1; cases e1
theorem Sim.new {o : HO} (s : Sim K H h) (e : H a = none) : Sim K (upd H a o) h := fun b p q => by
  obtain ⟨u, e1, r⟩ := s b p q
  exact ⟨u, by rw [upd_ne (ne_of_none e1 e)]; exact e1, r.mono (Mono.new e)⟩
/-- an object of the store is what it was, or a new one -/
theorem Sim.put {o : PO} {u : HO} (s : Sim K H h) (m : Mono H (upd H a u)) (r : RelO K (upd H a u) o u) : Sim K (upd H a u) (up h a o) := fun b p q => by
  by_cases hb : b = a
  · subst hb
    rw [up_same] at q; cases q
    exact ⟨u, upd_same, r⟩
  · rw [up_ne hb] at q
    obtain ⟨w, e1, r1⟩ := s b p q
    exact ⟨w, by rw [upd_ne hb]; exact e1, r1.mono m⟩
/-- .. forgotten where it changes kind -/
theorem Sim.drop {u : HO} (s : Sim K H h) (m : Mono H (upd H a u)) (e : h a = none) : Sim K (upd H a u) h := fun b p q => by
  by_cases hb : b = a
  · subst hb
    rw [e] at q; cases q
  · obtain ⟨w, e1, r1⟩ := s b p q
    exact ⟨w, by rw [upd_ne hb]; exact e1, r1.mono m⟩
end

/-- from one state to a later one: what is not of the store stays as it is and comes to no store -/
structure Go (H : Hp) (h : PH) (H1 : Hp) (h1 : PH) : Prop where
  mono : Mono H H1
  frame : ∀ b u, H b = some u → h b = none → H1 b = some u
  dom : ∀ b u, H b = some u → h b = none → h1 b = none
  live : ∀ b, H1 b = none → H b = none
section
variable {H H1 H2 : Hp} {h h1 h2 : PH} {a : Addr} {u : HO} {o : PO}
theorem live_upd (b : Addr) (e : upd H a u b = none) : H b = none := by
  unfold upd at e; split at e
  · cases e
  · exact e
theorem Go.refl : Go H h H h := ⟨Mono.refl H, fun _ _ e _ => e, fun _ _ _ e => e, fun _ e => e⟩
theorem Go.trans (g : Go H h H1 h1) (g' : Go H1 h1 H2 h2) : Go H h H2 h2 :=
  ⟨g.mono.trans g'.mono, fun b w e n => g'.frame b w (g.frame b w e n) (g.dom b w e n), fun b w e n => g'.dom b w (g.frame b w e n) (g.dom b w e n), fun b e => g.live b (g'.live b e)⟩
/-- a new object that is not of the store; one of the store -/
theorem Go.new (e : H a = none) : Go H h (upd H a u) h := ⟨Mono.new e, fun b w q _ => by rw [upd_ne (ne_of_none q e)]; exact q, fun _ _ _ n => n, live_upd⟩
theorem Go.add (e : H a = none) : Go H h (upd H a u) (up h a o) := ⟨Mono.new e, fun b w q _ => by rw [upd_ne (ne_of_none q e)]; exact q, fun b w q n => by rw [up_ne (ne_of_none q e)]; exact n, live_upd⟩
/-- .. that was new: it is written -/
theorem Go.renew (g : Go H h H1 h1) (e : H a = none) (m : Mono H1 (upd H1 a u)) : Go H h (upd H1 a u) h1 :=
  ⟨g.mono.trans m, fun b w q n => by rw [upd_ne (ne_of_none q e)]; exact g.frame b w q n, g.dom, fun b z => g.live b (live_upd b z)⟩
theorem Go.own (g : Go H h H1 h1) (e : H a = none) : Go H h H1 (up h1 a o) :=
  ⟨g.mono, g.frame, fun b w q n => by rw [up_ne (ne_of_none q e)]; exact g.dom b w q n, g.live⟩
/-- an object of the store is written; forgotten -/
theorem ne_own {b : Addr} {o : PO} (e : h a = some o) (n : h b = none) : b ≠ a := fun z => by rw [z, e] at n; cases n
theorem Go.wr {o' : PO} (e : h a = some o') (m : Mono H (upd H a u)) : Go H h (upd H a u) (up h a o) :=
  ⟨m, fun b w q n => by rw [upd_ne (ne_own e n)]; exact q, fun b w q n => by rw [up_ne (ne_own e n)]; exact n, live_upd⟩
def lose (h : PH) (a : Addr) : PH := fun b => if b = a then none else h b
theorem lose_same : lose h a a = none := if_pos rfl
theorem lose_ne {b : Addr} (e : b ≠ a) : lose h a b = h b := if_neg e
theorem Go.lose {o' : PO} (e : h a = some o') (m : Mono H (upd H a u)) : Go H h (upd H a u) (lose h a) :=
  ⟨m, fun b w q n => by rw [upd_ne (ne_own e n)]; exact q, fun b w q n => by rw [lose_ne (ne_own e n)]; exact n, live_upd⟩
end

/-! ### what is said of an expression, a test, arguments, a statement -/
abbrev PK := PV → PH → Prop
abbrev ME := PSt → PH → PK → Prop
abbrev MT := PSt → PH → (Bool → PH → Prop) → Prop
abbrev MA := PSt → PH → (List PV → PH → Prop) → Prop
structure PEnds where
  nx : PSt → PH → Prop
  rt : PK
  bk : PSt → PH → Prop
  ct : PSt → PH → Prop
abbrev MS := PEnds → PSt → PH → Prop
def LQ (K : PySem.W.Frag) (H : Hp) (h : PH) (Q' : PK) (Q : VK) : Prop := ∀ p h1 v H1, Q' p h1 → Go H h H1 h1 → Rel K H1 p v → Sim K H1 h1 → Q v H1
def LB (K : PySem.W.Frag) (H : Hp) (h : PH) (Q' : Bool → PH → Prop) (Q : Bool → Hp → Prop) : Prop := ∀ b h1 H1, Q' b h1 → Go H h H1 h1 → Sim K H1 h1 → Q b H1
def LN (K : PySem.W.Frag) (H : Hp) (h : PH) (Q' : PSt → PH → Prop) (Q : L2.St → Hp → Prop) : Prop := ∀ τ h1 σ H1, Q' τ h1 → Go H h H1 h1 → SimS K H1 σ τ → Sim K H1 h1 → Q σ H1
structure LD (K : PySem.W.Frag) (H : Hp) (h : PH) (D' : PEnds) (D : Ends) : Prop where
  nx : LN K H h D'.nx D.nx
  rt : LQ K H h D'.rt D.rt
  bk : LN K H h D'.bk D.bk
  ct : LN K H h D'.ct D.ct
section
variable {K : PySem.W.Frag} {H H' : Hp} {h h' : PH}
theorem LQ.mono {Q' : PK} {Q : VK} (l : LQ K H h Q' Q) (m : Go H h H' h') : LQ K H' h' Q' Q := fun p h1 v H1 q m1 r s => l p h1 v H1 q (m.trans m1) r s
theorem LB.mono {Q' : Bool → PH → Prop} {Q : Bool → Hp → Prop} (l : LB K H h Q' Q) (m : Go H h H' h') : LB K H' h' Q' Q := fun p h1 H1 q m1 s => l p h1 H1 q (m.trans m1) s
theorem LN.mono {Q' : PSt → PH → Prop} {Q : L2.St → Hp → Prop} (l : LN K H h Q' Q) (m : Go H h H' h') : LN K H' h' Q' Q := fun p h1 v H1 q m1 r s => l p h1 v H1 q (m.trans m1) r s
theorem LD.mono {D' : PEnds} {D : Ends} (l : LD K H h D' D) (m : Go H h H' h') : LD K H' h' D' D := ⟨l.nx.mono m, l.rt.mono m, l.bk.mono m, l.ct.mono m⟩
end
def upE (K : PySem.W.Frag) (m : ME) : TE := fun σ H Q => ∃ τ h Q', SimS K H σ τ ∧ Sim K H h ∧ m τ h Q' ∧ LQ K H h Q' Q
def upT (K : PySem.W.Frag) (m : MT) : TT := fun σ H Q => ∃ τ h Q', SimS K H σ τ ∧ Sim K H h ∧ m τ h Q' ∧ LB K H h Q' Q
def upS (K : PySem.W.Frag) (m : MS) : TS := fun D σ H => ∃ τ h D', SimS K H σ τ ∧ Sim K H h ∧ m D' τ h ∧ LD K H h D' D
abbrev LE (X : Cx) (e : Expr) (m : ME) : Prop := PE X e (upE X.K m)
abbrev LT (X : Cx) (e : Expr) (m : MT) : Prop := PT X e (upT X.K m)
abbrev LW (X : Cx) (e : Expr) (m : MT) : Prop := PW X e (upT X.K m)
abbrev LS (X : Cx) (s : Stmt) (m : MS) : Prop := PS X s (upS X.K m)
abbrev LSs (X : Cx) (s : List Stmt) (m : MS) : Prop := PSs X s (upS X.K m)

section
variable {X : Cx} {e : Expr} {es : List Expr} {s : Stmt} {ss : List Stmt}
theorem PE.weak {t u : TE} (h : PE X e t) (w : ∀ σ H Q, u σ H Q → t σ H Q) : PE X e u := ⟨fun pins s σ H Q I q => h.run pins s σ H Q I (w σ H Q q)⟩
theorem PT.weak {t u : TT} (h : PT X e t) (w : ∀ σ H Q, u σ H Q → t σ H Q) : PT X e u := ⟨fun pins s σ H Q I q => h.run pins s σ H Q I (w σ H Q q)⟩
theorem PW.weak {t u : TT} (h : PW X e t) (w : ∀ σ H Q, u σ H Q → t σ H Q) : PW X e u := ⟨fun wh pins s σ H Q I q => h.run wh pins s σ H Q I (w σ H Q q)⟩
theorem PA.weak {t u : TA} (h : PA X es t) (w : ∀ σ H Q, u σ H Q → t σ H Q) : PA X es u := ⟨fun pos pins s σ H Q I q => h.run pos pins s σ H Q I (w σ H Q q)⟩
theorem PS.weak {t u : TS} (h : PS X s t) (w : ∀ D σ H, u D σ H → t D σ H) : PS X s u := ⟨fun pins s σ H D I q => h.run pins s σ H D I (w D σ H q)⟩
theorem PSs.weak {t u : TS} (h : PSs X ss t) (w : ∀ D σ H, u D σ H → t D σ H) : PSs X ss u := ⟨fun pins s σ H D I q => h.run pins s σ H D I (w D σ H q)⟩
end

/-! ### keeping: an object that was just made is not changed any more -/
def Keepable : HO → Prop
  | .lst _ => True
  | .dK _ => True
  | _ => False
theorem Inv.keep {X : Cx} {pins : List (Addr × Obj)} {σ : L2.St} {H : Hp} {s : Shared} {a : Addr} {u : HO} (I : Inv X pins σ H s) (h : H a = some u) (k : Keepable u) : ∃ o, Inv X pins σ (upd H a (.frz o u)) s := by
  have ha := I.hok a u h
  have hob : ∃ o, s.heap.get? a = some o := by
    cases u with
    | lst xs => obtain ⟨_, _, _, _, e⟩ := ha; exact ⟨_, e⟩
    | dK kvs => obtain ⟨_, _, _, _, o, _, _, e, _⟩ := ha; exact ⟨o, e⟩
    | _ => exact k.elim
  obtain ⟨o, e⟩ := hob
  have nt : ∀ xs, u ≠ .tup xs := fun xs z => by subst z; exact k
  have nf : ∀ o w, u ≠ .frz o w := fun o w z => by subst z; exact k
  have no : ∀ x, u ≠ .own x := fun x z => by subst z; exact k
  have nb : ∀ p, u ≠ .tbl p := fun x z => by subst z; exact k
  refine ⟨o, ?_⟩
  have un : Un X.fs [] H (upd H a (.frz o u)) s.heap s.heap := by
    refine ⟨fun b ob q _ _ _ => q, fun b ob q _ _ _ => ⟨ob.slots, q⟩, fun b ob q n _ => ?_, fun b ob q _ => ⟨ob, q⟩, fun b xs q => ?_, fun b ob w q => ?_, fun b ps q => ⟨#[], ?_⟩⟩
    · rw [upd_ne (ne_of_none h n).symm]; exact n
    · rw [upd_ne (ne_of q h (nt xs).symm)]; exact q
    · rw [upd_ne (ne_of q h (nf ob w).symm)]; exact q
    · rw [upd_ne (ne_of q h (nb ps).symm), q]; simp
  have hok : HOk X.prog X.w (upd H a (.frz o u)) s.heap := fun b w q => by
    by_cases hb : b = a
    · subst hb
      rw [upd_same] at q; cases q
      refine ⟨e, ?_⟩
      cases u with
      | lst xs => exact ha
      | dK kvs => exact ha
      | _ => exact k.elim
    · rw [upd_ne hb] at q
      refine (I.hok b w q).stay (fun c v _ r => r) (fun c r => ?_) fun c xs r => ?_
      · rw [upd_ne (ne_of r h (no b).symm)]; exact r
      · rw [upd_ne (ne_of r h (nt xs).symm)]; exact r
  exact I.un (h' := s.heap) (t' := s.toks) un hok
/-- as it is, or kept -/
def kQ (Q : VK) : VK := fun v H1 => Q v H1 ∨ ∃ a u, v = .ref a ∧ H1 a = some u ∧ Keepable u ∧ ∀ o, Q v (upd H1 a (.frz o u))
theorem PE.kp {X : Cx} {e : Expr} {t : TE} (h : PE X e t) : PE X e (fun σ H Q => t σ H (kQ Q)) := by
  refine ⟨fun pins s σ H Q I q => ?_⟩
  refine thn (h.run pins s σ H _ I q) fun u s1 ⟨v, H1, I1, r, q1⟩ => ?_
  rcases q1 with q1 | ⟨a, w, e1, e2, k, q1⟩
  · exact ⟨v, H1, I1, r, q1⟩
  · obtain ⟨o, I2⟩ := Inv.keep I1 e2 k
    exact ⟨v, _, I2, r, q1 o⟩
section
variable {K : PySem.W.Frag} {H : Hp} {h : PH} {Q' : PK} {Q : VK} {a : Addr}
/-- a new list, kept -/
theorem keep_l {ps : List PV} {xs : List V} (l : LQ K H h Q' Q) (s : Sim K H h) (r : Rels K H ps xs) (q : Q' (.lst ps) h) (e : H a = none) : kQ Q (.ref a) (upd H a (.lst xs)) := by
  refine .inr ⟨a, _, rfl, upd_same, trivial, fun o => ?_⟩
  rw [upd_upd]
  have m : Mono H (upd H a (.frz o (.lst xs))) := Mono.new e
  refine l _ _ _ _ q (.new e) ?_ (s.new e)
  simp only [Rel]
  exact ⟨a, xs, rfl, .inl ⟨o, upd_same⟩, r.mono m⟩
/-- .. one that may change -/
theorem make_l {ps : List PV} {xs : List V} (l : LQ K H h Q' Q) (s : Sim K H h) (r : Rels K H ps xs) (q : ∀ a, h a = none → Q' (.ref a) (up h a (.lst ps))) (e : H a = none) : kQ Q (.ref a) (upd H a (.lst xs)) := by
  refine .inl ?_
  have m : Mono H (upd H a (.lst xs)) := Mono.new e
  refine l _ _ _ _ (q a (s.fresh e)) (.add e) ?_ (s.put m ⟨xs, rfl, r.mono m⟩)
  simp only [Rel]
/-- a new dict, kept; one that may change -/
theorem keep_d {ks : List Key} {vs : List PV} {kvs : List (Key × V)} (l : LQ K H h Q' Q) (s : Sim K H h) (r1 : ks = kvs.map (·.1)) (r2 : Rels K H vs (kvs.map (·.2))) (q : Q' (.dct ks vs) h) (e : H a = none) : kQ Q (.ref a) (upd H a (.dK kvs)) := by
  refine .inr ⟨a, _, rfl, upd_same, trivial, fun o => ?_⟩
  rw [upd_upd]
  have m : Mono H (upd H a (.frz o (.dK kvs))) := Mono.new e
  refine l _ _ _ _ q (.new e) ?_ (s.new e)
  simp only [Rel]
  exact ⟨a, kvs, rfl, ⟨o, upd_same⟩, r1, r2.mono m⟩
theorem make_d {ks : List Key} {vs : List PV} {kvs : List (Key × V)} (l : LQ K H h Q' Q) (s : Sim K H h) (r1 : ks = kvs.map (·.1)) (r2 : Rels K H vs (kvs.map (·.2))) (q : ∀ a, h a = none → Q' (.ref a) (up h a (.dct ks vs))) (e : H a = none) : kQ Q (.ref a) (upd H a (.dK kvs)) := by
  refine .inl ?_
  have m : Mono H (upd H a (.dK kvs)) := Mono.new e
  refine l _ _ _ _ (q a (s.fresh e)) (.add e) ?_ (s.put m ⟨kvs, rfl, r1, r2.mono m⟩)
  simp only [Rel]
/-- a new tuple -/
theorem make_t {ps : List PV} {xs : List V} (l : LQ K H h Q' Q) (s : Sim K H h) (r : Rels K H ps xs) (q : Q' (.tup ps) h) (e : H a = none) : Q (.ref a) (upd H a (.tup xs)) := by
  have m : Mono H (upd H a (.tup xs)) := Mono.new e
  refine l _ _ _ _ q (.new e) ?_ (s.new e)
  simp only [Rel]
  exact ⟨a, xs, rfl, .inl (.inl upd_same), r.mono m⟩
end
/-- what an operation on values asks, at this level and at the other one -/
abbrev PR1 := PV → PH → PK → Prop
abbrev PR2 := PV → PV → PH → PK → Prop
abbrev PRA := List PV → PH → PK → Prop
def Lf1 (K : PySem.W.Frag) (r : V → Hp → VK → Prop) (r' : PR1) : Prop := ∀ x H p h Q' Q, Rel K H p x → Sim K H h → r' p h Q' → LQ K H h Q' Q → r x H Q
def Lf2 (K : PySem.W.Frag) (r : R2) (r' : PR2) : Prop := ∀ x y H p q h Q' Q, Rel K H p x → Rel K H q y → Sim K H h → r' p q h Q' → LQ K H h Q' Q → r x y H Q
def LfA (K : PySem.W.Frag) (r : List V → Hp → VK → Prop) (r' : PRA) : Prop := ∀ xs H ps h Q' Q, Rels K H ps xs → Sim K H h → r' ps h Q' → LQ K H h Q' Q → r xs H Q
/-- .. of one that may make a list -/
def Kf1 (K : PySem.W.Frag) (r : V → Hp → VK → Prop) (r' : PR1) : Prop := ∀ x H p h Q' Q, Rel K H p x → Sim K H h → r' p h Q' → LQ K H h Q' Q → r x H (kQ Q)
def Kf2 (K : PySem.W.Frag) (r : R2) (r' : PR2) : Prop := ∀ x y H p q h Q' Q, Rel K H p x → Rel K H q y → Sim K H h → r' p q h Q' → LQ K H h Q' Q → r x y H (kQ Q)
def KfA (K : PySem.W.Frag) (r : List V → Hp → VK → Prop) (r' : PRA) : Prop := ∀ xs H ps h Q' Q, Rels K H ps xs → Sim K H h → r' ps h Q' → LQ K H h Q' Q → r xs H (kQ Q)
theorem LQ.kq {K : PySem.W.Frag} {H : Hp} {h : PH} {Q' : PK} {Q : VK} (l : LQ K H h Q' Q) : LQ K H h Q' (kQ Q) := fun p h v H1 q m r s => .inl (l p h v H1 q m r s)

/-! ### expressions -/
def mVar (i : Nat) : ME := fun τ h Q => match gt τ i with | some p => Q p h | none => False
def mC (p : PV) : ME := fun _ h Q => Q p h
/-- a name whose list is kept from here on -/
def mKeep (m : ME) : ME := fun τ h Q => m τ h fun p h1 => match p with
  | .ref a => (match h1 a with
    | some (.lst ps) => Q (.lst ps) (lose h1 a)
    | some (.dct ks vs) => Q (.dct ks vs) (lose h1 a)
    | _ => False)
  | p => Q p h1
section
variable {X : Cx} {pos : Pos}
theorem le_var {i : Nat} {x : Str} (hN : X.N[i]? = some x := by rfl) (hv : Vis X.env.scope x := by first | exact Or.inl rfl | exact Or.inr (Or.inl rfl) | exact Or.inr (Or.inr rfl)) (hd : (x == ("__debug__" : Str)) = false := by decide)
    (hcd : (x == ("__classdict__" : Str)) = false := by decide) : LE X (.Name x pos) (mVar i) :=
  PE.weak (pe_var hN hv hd hcd) fun σ H Q ⟨τ, h, Q', s, sh, q, l⟩ => by
    unfold mVar at q
    cases e : gt τ i with
    | none => rw [e] at q; exact q.elim
    | some p =>
      rw [e] at q
      obtain ⟨v, e1, r⟩ := s.get e
      exact ⟨v, e1, l p h v H q .refl r sh⟩
theorem le_c {e : Expr} {v : V} {p : PV} (h : PE X e (tC v)) (r : ∀ H, Rel X.K H p v) : LE X e (mC p) :=
  PE.weak h fun σ H Q ⟨τ, h, Q', s, sh, q, l⟩ => l p h v H q .refl (r H) sh
theorem le_int {i : Int} {k : Nat} : LE X (.Constant (.int i) k pos) (mC (.int i)) := le_c pe_int fun _ => by simp only [Rel]
theorem le_bl {b : Bool} {k : Nat} : LE X (.Constant (.bool b) k pos) (mC (.bl b)) := le_c pe_bl fun _ => by simp only [Rel]
theorem le_non {k : Nat} : LE X (.Constant .none k pos) (mC .non) := le_c pe_non fun _ => by simp only [Rel]
theorem le_str {x : Str} {k : Nat} : LE X (.Constant (.str x) k pos) (mC (.str x)) := le_c pe_str fun _ => by simp only [Rel]
theorem le_keep {e : Expr} {m : ME} (he : LE X e m) : LE X e (mKeep m) := by
  refine PE.weak (PE.kp he) fun σ H Q ⟨τ, h, Q', s, sh, q, l⟩ => ?_
  refine ⟨τ, h, _, s, sh, q, fun p h1 v H1 q1 m1 r s1 => ?_⟩
  cases p with
  | ref a =>
    simp only at q1
    have ev : v = .ref a := by simpa only [Rel] using r
    subst ev
    cases e1 : h1 a with
    | none => rw [e1] at q1; exact q1.elim
    | some o =>
      rw [e1] at q1
      obtain ⟨u, e2, ro⟩ := s1 a o e1
      cases o with
      | lst ps =>
        obtain ⟨xs, rfl, rx⟩ := ro
        refine .inr ⟨a, _, rfl, e2, trivial, fun ob => ?_⟩
        have mm : Mono H1 (upd H1 a (.frz ob (.lst xs))) := Mono.lst e2
        refine l _ _ _ _ q1 (m1.trans (.lose e1 mm)) ?_ ?_
        · simp only [Rel]; exact ⟨a, xs, rfl, .inl ⟨ob, upd_same⟩, rx.mono mm⟩
        · exact Sim.drop (h := lose h1 a) (s1.less fun b o q => by unfold lose at q; split at q; cases q; exact q) mm lose_same
      | dct ks vs =>
        obtain ⟨kvs, rfl, r1, r2⟩ := ro
        refine .inr ⟨a, _, rfl, e2, trivial, fun ob => ?_⟩
        have mm : Mono H1 (upd H1 a (.frz ob (.dK kvs))) := Mono.dK e2
        refine l _ _ _ _ q1 (m1.trans (.lose e1 mm)) ?_ ?_
        · simp only [Rel]; exact ⟨a, kvs, rfl, ⟨ob, upd_same⟩, r1, r2.mono mm⟩
        · exact Sim.drop (h := lose h1 a) (s1.less fun b o q => by unfold lose at q; split at q; cases q; exact q) mm lose_same
      | ins C ns vs => exact q1.elim
      | lck ks vs => exact q1.elim
  | _ => exact .inl (l _ _ _ _ q1 m1 r s1)

def mB (r : PR2) (a b : ME) : ME := fun τ h Q => a τ h fun p h1 => b τ h1 fun q h2 => r p q h2 Q
def mU (r : PR1) (a : ME) : ME := fun τ h Q => a τ h fun p h1 => r p h1 Q
/-- from two expressions: what the elder rule asks -/
theorem two_up {K : PySem.W.Frag} {r : R2} {r' : PR2} {Z : VK → VK} (hr : ∀ x y H p q h Q' Q, Rel K H p x → Rel K H q y → Sim K H h → r' p q h Q' → LQ K H h Q' Q → r x y H (Z Q)) {a b : ME} {σ : L2.St} {H : Hp} {Q : VK} (h : upE K (mB r' a b) σ H Q) : tOp r (upE K a) (upE K b) σ H (Z Q) := by
  obtain ⟨τ, h, Q', s, sh, q, l⟩ := h
  refine ⟨τ, h, _, s, sh, q, fun p h1 x H1 q1 m1 r1 s1 => ?_⟩
  refine ⟨τ, h1, _, s.mono m1.mono, s1, q1, fun p2 h2 y H2 q2 m2 r2 s2 => ?_⟩
  exact hr x y H2 p p2 h2 Q' Q (r1.mono m2.mono) r2 s2 q2 (l.mono (m1.trans m2))
theorem le_op {op : Operator} {r : R2} {r' : PR2} {a b : Expr} {ma mb : ME} (ho : OpR X (binaryOp op) r) (hr : Kf2 X.K r r') (ha : LE X a ma) (hb : LE X b mb) : LE X (.BinOp a op b pos) (mB r' ma mb) :=
  PE.weak (PE.kp (pe_op ho ha hb)) fun _ _ _ h => two_up (Z := kQ) hr h
theorem le_cmp {op : CmpOp} {r : R2} {r' : PR2} {a b : Expr} {ma mb : ME} (ho : OpR X (compareOp op) r) (hr : Lf2 X.K r r') (ha : LE X a ma) (hb : LE X b mb) (hm : behindInMarks op b = false) : LE X (.Compare a [op] [b] pos) (mB r' ma mb) :=
  PE.weak (pe_cmpR ho ha hb hm) fun _ _ _ h => two_up (Z := fun Q => Q) hr h
theorem le_un {op : UnaryOp} {r : V → Hp → VK → Prop} {r' : PR1} {a : Expr} {ma : ME} (ho : UnR X (unaryOp op) r) (hr : Lf1 X.K r r') (ha : LE X a ma) : LE X (.UnaryOp op a pos) (mU r' ma) := by
  refine PE.weak (pe_un ho ha) fun σ H Q ⟨τ, h, Q', s, sh, q, l⟩ => ?_
  exact ⟨τ, h, _, s, sh, q, fun p h1 x H1 q1 m1 r1 s1 => hr x H1 p h1 Q' Q r1 s1 q1 (l.mono m1)⟩

/-! ### tests -/
def mTest (m : ME) : MT := fun τ h Q => m τ h fun p h1 => match p with | .bl b => Q b h1 | _ => False
theorem LB.test {K : PySem.W.Frag} {H : Hp} {h : PH} {Q' : Bool → PH → Prop} {Q : Bool → Hp → Prop} (l : LB K H h Q' Q) : LQ K H h (fun p h1 => match p with | .bl b => Q' b h1 | _ => False) (fun x H' => ∃ k, x = .bl k ∧ Q k H') := fun p h1 v H1 q1 m1 r s1 => by
  cases p with
  | bl b =>
    have ev : v = .bl b := by simpa only [Rel] using r
    exact ⟨b, ev, l b h1 H1 q1 m1 s1⟩
  | _ => exact q1.elim
theorem lt_val {e : Expr} {m : ME} (he : LE X e m) (hw : ∀ whole, isTrue e X.env whole = (do let v ← whole; standAt e.pos; holding [v] (truthy v)) := by intro _; rfl) : LT X e (mTest m) :=
  PT.weak (pt_val he hw) fun σ H Q ⟨τ, h, Q', s, sh, q, l⟩ => ⟨τ, h, _, s, sh, q, l.test⟩
/-- a comparison as a test -/
theorem lt_cmp {op : CmpOp} {r : R2} {r' : PR2} {a b : Expr} {ma mb : ME} (ho : OpR X (compareOp op) r) (hr : Lf2 X.K r r') (ha : LE X a ma) (hb : LE X b mb) (hm : behindInMarks op b = false) : LT X (.Compare a [op] [b] pos) (mTest (mB r' ma mb)) :=
  PT.weak (pt_cmpR ho ha hb hm) fun σ H Q ⟨τ, h, Q', s, sh, q, l⟩ => two_up (Z := fun Q => Q) hr (Q := fun x H' => ∃ k, x = .bl k ∧ Q k H') ⟨τ, h, _, s, sh, q, l.test⟩
end
end N3

namespace N3
open PySem PySem.Spec PyProof.Rows L2

/-! ### tests, put together -/
def mAndT (t u : MT) : MT := fun τ h Q => t τ h fun b h1 => if b = true then u τ h1 Q else Q false h1
def mOrT (t u : MT) : MT := fun τ h Q => t τ h fun b h1 => if b = true then Q true h1 else u τ h1 Q
def mNotT (t : MT) : MT := fun τ h Q => t τ h fun b h1 => Q (!b) h1
def mAnd (a b : ME) : ME := fun τ h Q => a τ h fun p h1 => match p with | .bl c => (if c = true then b τ h1 Q else Q (.bl false) h1) | _ => False
def mOr (a b : ME) : ME := fun τ h Q => a τ h fun p h1 => match p with | .bl c => (if c = true then Q (.bl true) h1 else b τ h1 Q) | _ => False
def mNot (a : ME) : ME := fun τ h Q => a τ h fun p h1 => match p with | .bl c => Q (.bl (!c)) h1 | _ => False
def mIf (t : MT) (a b : ME) : ME := fun τ h Q => t τ h fun c h1 => if c = true then a τ h1 Q else b τ h1 Q
def mChn (r r' : PR2) (a b c : ME) : ME := fun τ h Q => a τ h fun p h1 => b τ h1 fun q h2 => r p q h2 fun z h3 => match z with
  | .bl k => (if k = true then c τ h3 fun s h4 => r' q s h4 Q else Q (.bl false) h3)
  | _ => False
section
variable {X : Cx} {pos : Pos} {a b c : Expr} {rest : List Expr}
theorem lw_and1 {t : MT} (ha : LT X a t) : LW X (.BoolOp .And [a] pos) t := pw_and1 ha
theorem lw_or1 {t : MT} (ha : LT X a t) : LW X (.BoolOp .Or [a] pos) t := pw_or1 ha
theorem lw_and {t u : MT} (ha : LT X a t) (hb : LW X (.BoolOp .And (b :: rest) pos) u) : LW X (.BoolOp .And (a :: b :: rest) pos) (mAndT t u) := by
  refine PW.weak (pw_and ha hb) fun σ H Q ⟨τ, h, Q', s, sh, q, l⟩ => ?_
  refine ⟨τ, h, _, s, sh, q, fun c h1 H1 q1 m1 s1 => ?_⟩
  cases c with
  | true => exact ⟨τ, h1, Q', s.mono m1.mono, s1, q1, l.mono m1⟩
  | false => exact l _ _ _ q1 m1 s1
theorem lw_or {t u : MT} (ha : LT X a t) (hb : LW X (.BoolOp .Or (b :: rest) pos) u) : LW X (.BoolOp .Or (a :: b :: rest) pos) (mOrT t u) := by
  refine PW.weak (pw_or ha hb) fun σ H Q ⟨τ, h, Q', s, sh, q, l⟩ => ?_
  refine ⟨τ, h, _, s, sh, q, fun c h1 H1 q1 m1 s1 => ?_⟩
  cases c with
  | true => exact l _ _ _ q1 m1 s1
  | false => exact ⟨τ, h1, Q', s.mono m1.mono, s1, q1, l.mono m1⟩
theorem lt_w {e : Expr} {t : MT} (h : LW X e t) : LT X e t := h.pt
theorem lt_not {t : MT} (ha : LT X a t) : LT X (.UnaryOp .Not a pos) (mNotT t) := by
  refine PT.weak (pt_not ha) fun σ H Q ⟨τ, h, Q', s, sh, q, l⟩ => ?_
  exact ⟨τ, h, _, s, sh, q, fun c h1 H1 q1 m1 s1 => l _ _ _ q1 m1 s1⟩
theorem le_one {op} {m : ME} (h : LE X a m) : LE X (.BoolOp op [a] pos) m := pe_one h
theorem le_and {ma mb : ME} (ha : LE X a ma) (hb : LE X (.BoolOp .And (b :: rest) pos) mb) : LE X (.BoolOp .And (a :: b :: rest) pos) (mAnd ma mb) := by
  refine PE.weak (pe_and ha hb) fun σ H Q ⟨τ, h, Q', s, sh, q, l⟩ => ?_
  refine ⟨τ, h, _, s, sh, q, fun p h1 v H1 q1 m1 r s1 => ?_⟩
  cases p with
  | bl c =>
    refine ⟨c, by simpa only [Rel] using r, ?_⟩
    cases c with
    | true => exact ⟨τ, h1, Q', s.mono m1.mono, s1, q1, l.mono m1⟩
    | false => exact l _ _ _ _ q1 m1 (by simp only [Rel]) s1
  | _ => exact q1.elim
theorem le_or {ma mb : ME} (ha : LE X a ma) (hb : LE X (.BoolOp .Or (b :: rest) pos) mb) : LE X (.BoolOp .Or (a :: b :: rest) pos) (mOr ma mb) := by
  refine PE.weak (pe_or ha hb) fun σ H Q ⟨τ, h, Q', s, sh, q, l⟩ => ?_
  refine ⟨τ, h, _, s, sh, q, fun p h1 v H1 q1 m1 r s1 => ?_⟩
  cases p with
  | bl c =>
    refine ⟨c, by simpa only [Rel] using r, ?_⟩
    cases c with
    | true => exact l _ _ _ _ q1 m1 (by simp only [Rel]) s1
    | false => exact ⟨τ, h1, Q', s.mono m1.mono, s1, q1, l.mono m1⟩
  | _ => exact q1.elim
theorem le_not {ma : ME} (ha : LE X a ma) : LE X (.UnaryOp .Not a pos) (mNot ma) := by
  refine PE.weak (pe_not ha) fun σ H Q ⟨τ, h, Q', s, sh, q, l⟩ => ?_
  refine ⟨τ, h, _, s, sh, q, fun p h1 v H1 q1 m1 r s1 => ?_⟩
  cases p with
  | bl c => exact ⟨c, by simpa only [Rel] using r, l _ _ _ _ q1 m1 (by simp only [Rel]) s1⟩
  | _ => exact q1.elim
theorem le_if {t : MT} {ma mb : ME} (hc : LT X c t) (ha : LE X a ma) (hb : LE X b mb) : LE X (.IfExp c a b pos) (mIf t ma mb) := by
  refine PE.weak (pe_ifExp hc ha hb) fun σ H Q ⟨τ, h, Q', s, sh, q, l⟩ => ?_
  refine ⟨τ, h, _, s, sh, q, fun c h1 H1 q1 m1 s1 => ?_⟩
  cases c with
  | true => exact ⟨τ, h1, Q', s.mono m1.mono, s1, q1, l.mono m1⟩
  | false => exact ⟨τ, h1, Q', s.mono m1.mono, s1, q1, l.mono m1⟩
theorem chn_up {K : PySem.W.Frag} {r r' : R2} {s s' : PR2} (hr : Lf2 K r s) (hr' : Lf2 K r' s') {ma mb mc : ME} {σ : L2.St} {H : Hp} {Q : VK} (h : upE K (mChn s s' ma mb mc) σ H Q) :
    upE K ma σ H fun x H1 => upE K mb σ H1 fun y H2 => r x y H2 fun z H3 => ∃ k, z = .bl k ∧ if k = true then upE K mc σ H3 fun w H4 => r' y w H4 Q else Q (.bl false) H3 := by
  obtain ⟨τ, h, Q', ss, sh, q, l⟩ := h
  refine ⟨τ, h, _, ss, sh, q, fun p h1 x H1 q1 m1 r1 s1 => ?_⟩
  refine ⟨τ, h1, _, ss.mono m1.mono, s1, q1, fun p2 h2 y H2 q2 m2 r2 s2 => ?_⟩
  refine hr x y H2 p p2 h2 _ _ (r1.mono m2.mono) r2 s2 q2 fun p3 h3 z H3 q3 m3 r3 s3 => ?_
  cases p3 with
  | bl k =>
    refine ⟨k, by simpa only [Rel] using r3, ?_⟩
    cases k with
    | true =>
      refine ⟨τ, h3, _, ((ss.mono m1.mono).mono m2.mono).mono m3.mono, s3, q3, fun p4 h4 w H4 q4 m4 r4 s4 => ?_⟩
      exact hr' y w H4 p2 p4 h4 Q' Q ((r2.mono m3.mono).mono m4.mono) r4 s4 q4 (l.mono (((m1.trans m2).trans m3).trans m4))
    | false => exact l _ _ _ _ q3 ((m1.trans m2).trans m3) (by simp only [Rel]) s3
  | _ => exact q3.elim
theorem le_chn {op op' : CmpOp} {r r' : R2} {s s' : PR2} {ma mb mc : ME} (ho : OpR X (compareOp op) r) (ho' : OpR X (compareOp op') r') (hr : Lf2 X.K r s) (hr' : Lf2 X.K r' s') (ha : LE X a ma) (hb : LE X b mb) (hc : LE X c mc)
    (hm : lastMarks [op, op'] [b, c] = false := by with_unfolding_all rfl) : LE X (.Compare a [op, op'] [b, c] pos) (mChn s s' ma mb mc) :=
  PE.weak (pe_chain ho ho' ha hb hc hm) fun σ H Q h => chn_up hr hr' h
theorem lt_chn {op op' : CmpOp} {r r' : R2} {s s' : PR2} {ma mb mc : ME} (ho : OpR X (compareOp op) r) (ho' : OpR X (compareOp op') r') (hr : Lf2 X.K r s) (hr' : Lf2 X.K r' s') (ha : LE X a ma) (hb : LE X b mb) (hc : LE X c mc)
    (hm : lastMarks [op, op'] [b, c] = false := by with_unfolding_all rfl) : LT X (.Compare a [op, op'] [b, c] pos) (mTest (mChn s s' ma mb mc)) :=
  PT.weak (pt_chain ho ho' ha hb hc hm) fun σ H Q ⟨τ, h, Q', s, sh, q, l⟩ => chn_up hr hr' (Q := fun (x : V) H' => ∃ k, x = V.bl k ∧ Q k H') ⟨τ, h, _, s, sh, q, l.test⟩
end

/-! ### arguments -/
def LLn (K : PySem.W.Frag) (H : Hp) (h : PH) (n : Nat) (Q' : List PV → PH → Prop) (Q : List V → Hp → Prop) : Prop := ∀ ps h1 vs H1, Q' ps h1 → ps.length = n → Go H h H1 h1 → Rels K H1 ps vs → Sim K H1 h1 → Q vs H1
def upL (K : PySem.W.Frag) (n : Nat) (m : MA) : TA := fun σ H Q => ∃ τ h Q', SimS K H σ τ ∧ Sim K H h ∧ m τ h Q' ∧ LLn K H h n Q' Q
abbrev LAn (X : Cx) (es : List Expr) (n : Nat) (m : MA) : Prop := PA X es (upL X.K n m)
def mNil : MA := fun _ h Q => Q [] h
def mCons (a : ME) (r : MA) : MA := fun τ h Q => a τ h fun p h1 => r τ h1 fun ps h2 => Q (p :: ps) h2
section
variable {X : Cx} {pos : Pos} {e : Expr} {es : List Expr} {n : Nat}
theorem la_nil : LAn X [] 0 mNil := PA.weak pa_nil fun σ H Q ⟨τ, h, Q', s, sh, q, l⟩ => l [] h [] H q rfl .refl .nil sh
theorem la_cons {ma : ME} {mr : MA} (ha : LE X e ma) (hr : LAn X es n mr) (hs : starEach (e :: es) X.env = (false, eval e X.env) :: starEach es X.env := by rfl) : LAn X (e :: es) (n + 1) (mCons ma mr) := by
  refine PA.weak (pa_cons ha hr hs) fun σ H Q ⟨τ, h, Q', s, sh, q, l⟩ => ?_
  refine ⟨τ, h, _, s, sh, q, fun p h1 v H1 q1 m1 r s1 => ?_⟩
  refine ⟨τ, h1, _, s.mono m1.mono, s1, q1, fun ps h2 vs H2 q2 hn m2 r2 s2 => ?_⟩
  exact l _ _ _ _ q2 (by rw [List.length_cons, hn]) (m1.trans m2) (.cons (r.mono m2.mono) r2) s2
def mTup (m : MA) : ME := fun τ h Q => m τ h fun ps h1 => Q (.tup ps) h1
/-- a list, kept; one that may change -/
def mLst (m : MA) : ME := fun τ h Q => m τ h fun ps h1 => Q (.lst ps) h1
def mLstM (m : MA) : ME := fun τ h Q => m τ h fun ps h1 => ∀ a, h1 a = none → Q (.ref a) (up h1 a (.lst ps))
theorem few {n : Nat} (h : n ≤ 1000) : n ≤ sizeLine := Nat.le_trans h (by decide)
theorem le_tup {x1} {m : MA} (h : LAn X es n m) (hn : n ≤ 1000 := by decide) : LE X (.Tuple es x1 pos) (mTup m) := by
  refine PE.weak (pe_tup h) fun σ H Q ⟨τ, h, Q', s, sh, q, l⟩ => ?_
  refine ⟨τ, h, _, s, sh, q, fun ps h1 vs H1 q1 hl m1 r s1 => ⟨?_, fun p e => make_t (l.mono m1) s1 r q1 e⟩⟩
  rw [← r.length, hl]; exact few hn
theorem le_lst {m : MA} (h : LAn X es n m) (hn : n ≤ 1000 := by decide) : LE X (.List es pos) (mLst m) := by
  refine PE.weak (PE.kp (pe_lst h)) fun σ H Q ⟨τ, h, Q', s, sh, q, l⟩ => ?_
  refine ⟨τ, h, _, s, sh, q, fun ps h1 vs H1 q1 hl m1 r s1 => ⟨?_, fun p e => keep_l (l.mono m1) s1 r q1 e⟩⟩
  rw [← r.length, hl]; exact few hn
theorem le_lstM {m : MA} (h : LAn X es n m) (hn : n ≤ 1000 := by decide) : LE X (.List es pos) (mLstM m) := by
  refine PE.weak (PE.kp (pe_lst h)) fun σ H Q ⟨τ, h, Q', s, sh, q, l⟩ => ?_
  refine ⟨τ, h, _, s, sh, q, fun ps h1 vs H1 q1 hl m1 r s1 => ⟨?_, fun p e => make_l (l.mono m1) s1 r q1 e⟩⟩
  rw [← r.length, hl]; exact few hn
/-- a built-in called by its name -/
def mBlt (r : PRA) (m : MA) : ME := fun τ h Q => m τ h fun ps h1 => r ps h1 Q
theorem args_up {K : PySem.W.Frag} {r : List V → Hp → VK → Prop} {r' : PRA} {Z : VK → VK} (hr : ∀ xs H ps h Q' Q, Rels K H ps xs → Sim K H h → r' ps h Q' → LQ K H h Q' Q → r xs H (Z Q)) {m : MA} {σ : L2.St} {H : Hp} {Q : VK}
    (h : upE K (mBlt r' m) σ H Q) : tCB r (upL K n m) σ H (Z Q) := by
  obtain ⟨τ, h, Q', s, sh, q, l⟩ := h
  exact ⟨τ, h, _, s, sh, q, fun ps h1 vs H1 q1 hl m1 r1 s1 => hr vs H1 ps h1 Q' Q r1 s1 q1 (l.mono m1)⟩
theorem le_blt {x : Str} {id : String} {p : Pos} {r : List V → Hp → VK → Prop} {r' : PRA} {m : MA} (hc : CallR X (.builtin id) r) (hr : LfA X.K r r') (hm : X.mg x = none) (ha : LAn X (e :: es) n m) (hg : Gl X x := by rfl) (hv : bootBuiltins x = some (.builtin id) := by decide +kernel)
    (hn : x ≠ "__name__" := by decide) (hdb : (x == ("__debug__" : Str)) = false := by decide)
    (h1 : starEach (e :: es) X.env = (false, eval e X.env) :: starEach es X.env := by rfl) (h2 : (backTo pos (starEach es X.env)).any (·.1) = false := by rfl) : LE X (.Call (.Name x p) (e :: es) [] pos) (mBlt r' m) :=
  PE.weak (pe_callB hc hg hm hv ha hn hdb h1 h2) fun _ _ _ h => args_up (Z := fun Q => Q) hr h
theorem le_bltK {x : Str} {id : String} {p : Pos} {r : List V → Hp → VK → Prop} {r' : PRA} {m : MA} (hc : CallR X (.builtin id) r) (hr : KfA X.K r r') (hm : X.mg x = none) (ha : LAn X (e :: es) n m) (hg : Gl X x := by rfl) (hv : bootBuiltins x = some (.builtin id) := by decide +kernel)
    (hn : x ≠ "__name__" := by decide) (hdb : (x == ("__debug__" : Str)) = false := by decide)
    (h1 : starEach (e :: es) X.env = (false, eval e X.env) :: starEach es X.env := by rfl) (h2 : (backTo pos (starEach es X.env)).any (·.1) = false := by rfl) : LE X (.Call (.Name x p) (e :: es) [] pos) (mBlt r' m) :=
  PE.weak (PE.kp (pe_callB hc hg hm hv ha hn hdb h1 h2)) fun _ _ _ h => args_up (Z := kQ) hr h
theorem le_ty {x : Str} {T : String} {p : Pos} {r : List V → Hp → VK → Prop} {r' : PRA} {m : MA} (hc : CallR X (.type T) r) (hr : LfA X.K r r') (hm : X.mg x = none) (ha : LAn X (e :: es) n m) (hg : Gl X x := by rfl) (hv : bootBuiltins x = some (.type T) := by decide +kernel)
    (hn : x ≠ "__name__" := by decide) (hdb : (x == ("__debug__" : Str)) = false := by decide)
    (h1 : starEach (e :: es) X.env = (false, eval e X.env) :: starEach es X.env := by rfl) (h2 : (backTo pos (starEach es X.env)).any (·.1) = false := by rfl) : LE X (.Call (.Name x p) (e :: es) [] pos) (mBlt r' m) :=
  PE.weak (pe_callTy hc hg hm hv ha hn hdb h1 h2) fun _ _ _ h => args_up (Z := fun Q => Q) hr h
theorem le_tyK {x : Str} {T : String} {p : Pos} {r : List V → Hp → VK → Prop} {r' : PRA} {m : MA} (hc : CallR X (.type T) r) (hr : KfA X.K r r') (hm : X.mg x = none) (ha : LAn X (e :: es) n m) (hg : Gl X x := by rfl) (hv : bootBuiltins x = some (.type T) := by decide +kernel)
    (hn : x ≠ "__name__" := by decide) (hdb : (x == ("__debug__" : Str)) = false := by decide)
    (h1 : starEach (e :: es) X.env = (false, eval e X.env) :: starEach es X.env := by rfl) (h2 : (backTo pos (starEach es X.env)).any (·.1) = false := by rfl) : LE X (.Call (.Name x p) (e :: es) [] pos) (mBlt r' m) :=
  PE.weak (PE.kp (pe_callTy hc hg hm hv ha hn hdb h1 h2)) fun _ _ _ h => args_up (Z := kQ) hr h
end

/-! ### what a def does -/
abbrev SpP := List PV → PH → PK → Prop
def upF (K : PySem.W.Frag) (n : Nat) (sp : SpP) : Sp := fun vs H Q _ => ∃ ps h Q', ps.length = n ∧ Rels K H ps vs ∧ Sim K H h ∧ sp ps h Q' ∧ LQ K H h Q' Q
/-- what a def promises where no text of a list, tuple, dict is just being made (so all the while here) -/
structure FnG (P : Program) (w : World) (K : PySem.W.Frag) (mg : Str → Option Value) (base : Heap) (k : Nat) (f : Addr) (fd : FuncData) (ps : List Str) (sp : SpP) : Prop where
  run : ∀ (A : Around) (outer : List Env) (s : Shared) (H : Hp) (args : Args) (us : List Value) (vs : List V) (Q : VK), Room k A → A.guards = some [] → Env0 P w K mg base A outer s H → BindsTo s fd args (ps.zip us) → Vals vs us →
    upF K ps.length sp vs H Q E0 → codeAny (model P w) A (.call (.ref f) args) (CR CX0 outer P w H s Q E0) s
section
variable {P : Program} {w : World} {K : PySem.W.Frag} {mg : Str → Option Value} {base : Heap} {j k : Nat} {f : Addr} {fd : FuncData} {ps : List Str} {sp sp' : SpP}
theorem FnG.mono (F : FnG P w K mg base j f fd ps sp) (h : j ≤ k) : FnG P w K mg base k f fd ps sp :=
  ⟨fun A outer s H args us vs Q hr => F.run A outer s H args us vs Q (hr.mono h)⟩
theorem FnG.imp (F : FnG P w K mg base k f fd ps sp) (h : ∀ qs h Q, qs.length = ps.length → sp' qs h Q → sp qs h Q) : FnG P w K mg base k f fd ps sp' :=
  ⟨fun A outer s H args us vs Q hr hg he hb r ⟨qs, h1, Q', hl, rr, ss, z, l⟩ => F.run A outer s H args us vs Q hr hg he hb r ⟨qs, h1, Q', hl, rr, ss, h qs h1 Q' hl z, l⟩⟩
/-- nothing is promised -/
theorem FnG.never : FnG P w K mg base k f fd ps (fun _ _ _ => False) := ⟨fun _ _ _ _ _ _ _ _ _ _ _ _ _ ⟨_, _, _, _, _, _, z, _⟩ => z.elim⟩
end
/-- the arguments by place, then those by keywords, in the parameters' order -/
structure KwB (fd : FuncData) (ps ks : List Str) (g : List Value → List Value → List Value) (gV : List V → List V → List V) (gP : List PV → List PV → List PV) (i j : Nat) : Prop where
  to : ∀ (s : Shared) (us ws : List Value), us.length = i → ws.length = j → BindsTo s fd ⟨us, ks.zip ws⟩ (ps.zip (g us ws))
  rel : ∀ {vs : List V} {us : List Value} {zs : List V} {ws : List Value}, us.length = i → ws.length = j → Vals vs us → Vals zs ws → Vals (gV vs zs) (g us ws)
  relP : ∀ {K : PySem.W.Frag} {H : Hp} {ps : List PV} {vs : List V} {qs : List PV} {zs : List V}, ps.length = i → qs.length = j → Rels K H ps vs → Rels K H qs zs → Rels K H (gP ps qs) (gV vs zs)
  len : ∀ {qs zs : List PV}, qs.length = i → zs.length = j → (gP qs zs).length = ps.length
section
variable {X : Cx} {pos : Pos} {e : Expr} {es : List Expr} {n : Nat}
theorem call_g {k : Nat} {f : Addr} {fd : FuncData} {ps : List Str} {sp : SpP} {pins : List (Addr × Obj)} {σ : L2.St} {H : Hp} {s : Shared} {Q : VK} {us xs : List Value} {kw : List (Str × Value)} {vs : List V} (F : FnG X.prog X.w X.K X.mg X.base k f fd ps sp) (hr : Room k X.A) (hG : X.A.guards = some [])
    (I : Inv X pins σ H s) (hb : BindsTo s fd ⟨xs, kw⟩ (ps.zip us)) (r : Vals vs us) (h : upF X.K ps.length sp vs H Q E0) : wpAny (model X.prog X.w) X.A (call (.ref f) xs kw) (EP X pins σ Q) X.xe s :=
  wpAny_call (codeAny_mono (F.run X.A X.stack s H ⟨xs, kw⟩ us vs Q hr hG I.env0 hb r h) fun r s' hq => by
    cases r with
    | error e => exact False.elim hq
    | ok fl =>
      cases fl with
      | ret u => exact I.after hq
      | _ => exact False.elim hq)
/-- a def of the text, called by its name -/
theorem le_call {x : Str} {p : Pos} {k : Nat} {f : Addr} {fd : FuncData} {ps : List Str} {sp : SpP} {m : MA} (F : FnG X.prog X.w X.K X.mg X.base k f fd ps sp) (hr : Room k X.A) (hG : X.A.guards = some []) (hm : X.mg x = some (.ref f)) (hk : PySem.W.keepIn X.K (.ref f) = true) (hb : Binds X.K fd ps [])
    (ha : LAn X (e :: es) n m) (hp : n = ps.length := by rfl) (hg : Gl X x := by rfl) (hdb : (x == ("__debug__" : Str)) = false := by decide)
    (he : starEach (e :: es) X.env = (false, eval e X.env) :: starEach es X.env := by rfl) (hpl : (backTo pos (starEach es X.env)).any (·.1) = false := by rfl) : LE X (.Call (.Name x p) (e :: es) [] pos) (mBlt sp m) := by
  refine ⟨fun pins s σ H Q I ⟨τ, h, Q', ss, sh, q, l⟩ => ?_⟩
  refine wpAny_Call_Name_kw (ld_glob I hg hm ?_ hdb)
  refine PySem.W.callWith_K (h₀ := X.base) I.ok.mod.kin hk (thn (ha.run pos pins s σ H (fun vs H1 => vs.length = ps.length ∧ upF X.K ps.length sp vs H1 Q E0) I
    ⟨τ, h, _, ss, sh, q, fun qs h1 vs H1 q1 hl g1 r1 s1 => ⟨by rw [← r1.length, hl, hp], qs, h1, Q', by rw [hl, hp], r1, s1, q1, l.mono g1⟩⟩) fun us s1 ⟨vs, H1, I1, r, hl, q⟩ => ⟨I1.kIn, ?_⟩) he hpl
  have z := hb s1 us I1.kIn (by rw [List.append_nil, ← r.length, hl])
  rw [List.append_nil] at z
  exact call_g (kw := []) F hr hG I1 z r q
theorem le_call0 {x : Str} {p : Pos} {k : Nat} {f : Addr} {fd : FuncData} {sp : SpP} (F : FnG X.prog X.w X.K X.mg X.base k f fd [] sp) (hr : Room k X.A) (hG : X.A.guards = some []) (hm : X.mg x = some (.ref f)) (hk : PySem.W.keepIn X.K (.ref f) = true) (hb : Binds X.K fd [] [])
    (hg : Gl X x := by rfl) (hdb : (x == ("__debug__" : Str)) = false := by decide) : LE X (.Call (.Name x p) [] [] pos) (mBlt sp mNil) := by
  refine ⟨fun pins s σ H Q I ⟨τ, h, Q', ss, sh, q, l⟩ => ?_⟩
  refine wpAny_Call_Name_kw (ld_glob I hg hm ?_ hdb)
  exact PySem.W.callWith_K0 I.kIn hk (call_g (kw := []) (xs := []) (us := []) F hr hG I (hb s [] I.kIn rfl) .nil ⟨[], h, Q', rfl, .nil, sh, q, l⟩)
/-- keywords' values -/
abbrev LKn (X : Cx) (kws : List Keyword) (n : Nat) (m : MA) : Prop := L2.PK X kws (upL X.K n m)
theorem lk_nil : LKn X [] 0 mNil := ⟨fun pos pins s σ H Q I ⟨τ, h, Q', ss, sh, q, l⟩ => pk_nil.run pos pins s σ H Q I (l [] h [] H q rfl .refl .nil sh)⟩
theorem lk_cons {nm : Option Str} {kpos : Pos} {kws : List Keyword} {ma : ME} {mr : MA} (ha : LE X e ma) (hr : LKn X kws n mr) : LKn X (⟨nm, e, kpos⟩ :: kws) (n + 1) (mCons ma mr) :=
  ⟨fun pos pins s σ H Q I ⟨τ, h, Q', ss, sh, q, l⟩ => (pk_cons ha hr).run pos pins s σ H Q I ⟨τ, h, _, ss, sh, q, fun p h1 v H1 q1 g1 r s1 => ⟨τ, h1, _, ss.mono g1.mono, s1, q1, fun ps h2 vs H2 q2 hn g2 r2 s2 =>
    l _ _ _ _ q2 (by rw [List.length_cons, hn]) (g1.trans g2) (.cons (r.mono g2.mono) r2) s2⟩⟩⟩
def mKw (sp : SpP) (gP : List PV → List PV → List PV) (m mk : MA) : ME := fun τ h Q => m τ h fun ps h1 => mk τ h1 fun qs h2 => sp (gP ps qs) h2 Q
theorem vals_len {vs : List V} {us : List Value} {n : Nat} (r : Vals vs us) (h : vs.length = n) : us.length = n := by rw [← r.length, h]
/-- f(e, .., k = v, ..) -/
theorem le_callK {x : Str} {p : Pos} {k i j : Nat} {f : Addr} {fd : FuncData} {ps ks : List Str} {sp : SpP} {m mk : MA} {kws : List Keyword} {g : List Value → List Value → List Value} {gV : List V → List V → List V} {gP : List PV → List PV → List PV}
    (F : FnG X.prog X.w X.K X.mg X.base k f fd ps sp) (hr : Room k X.A) (hG : X.A.guards = some []) (hm : X.mg x = some (.ref f)) (hk : PySem.W.keepIn X.K (.ref f) = true) (hb : KwB fd ps ks g gV gP i j)
    (ha : LAn X (e :: es) i m) (hkw : LKn X kws j mk) (hg : Gl X x := by rfl) (hall : (backToKw pos (keywordEach kws X.env)).all (·.1.isSome) = true := by rfl) (hks : (backToKw pos (keywordEach kws X.env)).filterMap (·.1) = ks := by rfl)
    (hdb : (x == ("__debug__" : Str)) = false := by decide) (he : starEach (e :: es) X.env = (false, eval e X.env) :: starEach es X.env := by rfl)
    (hpl : ((backTo pos (starEach (e :: es) X.env)).any (·.1) || (backToKw pos (keywordEach kws X.env)).any (·.1.isNone)) = false := by rfl) : LE X (.Call (.Name x p) (e :: es) kws pos) (mKw sp gP m mk) := by
  refine ⟨fun pins s σ H Q I ⟨τ, h, Q', ss, sh, q, l⟩ => ?_⟩
  refine wpAny_Call_Name_kw (ld_glob I hg hm ?_ hdb)
  refine PySem.W.callWith_KW (h₀ := X.base) I.ok.mod.kin hk hall (thn (ha.run pos pins s σ H (fun vs H1 => ∃ qs h1, qs.length = i ∧ vs.length = i ∧ Rels X.K H1 qs vs ∧ SimS X.K H1 σ τ ∧ Sim X.K H1 h1 ∧ LQ X.K H1 h1 Q' Q ∧ mk τ h1 fun zs h2 => sp (gP qs zs) h2 Q') I
    ⟨τ, h, _, ss, sh, q, fun qs h1 vs H1 q1 hl g1 r1 s1 => ⟨qs, h1, hl, by rw [← r1.length, hl], r1, ss.mono g1.mono, s1, l.mono g1, q1⟩⟩) fun us s1 ⟨vs, H1, I1, r, qs, h1, hl, hv, rq, ss1, sh1, l1, q1⟩ => ?_) hpl he
  refine thn (hkw.run pos pins s1 σ H1 (fun zs H2 => zs.length = j ∧ upF X.K ps.length sp (gV vs zs) H2 Q E0) I1
    ⟨τ, h1, _, ss1, sh1, q1, fun zs h2 ws H2 q2 hz g2 r2 s2 => ⟨by rw [← r2.length, hz], gP qs zs, h2, Q', hb.len hl hz, hb.relP hl hz (rq.mono g2.mono) r2, s2, q2, l1.mono g2⟩⟩) fun ws s2 ⟨zs, H2, I2, rz, hz, q2⟩ => ⟨I2.kIn, ?_⟩
  rw [hks]
  exact call_g F hr hG I2 (hb.to s2 us ws (vals_len r hv) (vals_len rz hz)) (hb.rel (vals_len r hv) (vals_len rz hz) r rz) q2
theorem le_callK0 {x : Str} {p : Pos} {k j : Nat} {f : Addr} {fd : FuncData} {ps ks : List Str} {sp : SpP} {mk : MA} {kws : List Keyword} {g : List Value → List Value → List Value} {gV : List V → List V → List V} {gP : List PV → List PV → List PV}
    (F : FnG X.prog X.w X.K X.mg X.base k f fd ps sp) (hr : Room k X.A) (hG : X.A.guards = some []) (hm : X.mg x = some (.ref f)) (hk : PySem.W.keepIn X.K (.ref f) = true) (hb : KwB fd ps ks g gV gP 0 j)
    (hkw : LKn X kws j mk) (hg : Gl X x := by rfl) (hall : (backToKw pos (keywordEach kws X.env)).all (·.1.isSome) = true := by rfl) (hks : (backToKw pos (keywordEach kws X.env)).filterMap (·.1) = ks := by rfl)
    (hdb : (x == ("__debug__" : Str)) = false := by decide) (hpl : ((backTo pos (starEach [] X.env)).any (·.1) || (backToKw pos (keywordEach kws X.env)).any (·.1.isNone)) = false := by rfl) : LE X (.Call (.Name x p) [] kws pos) (mKw sp gP mNil mk) := by
  refine ⟨fun pins s σ H Q I ⟨τ, h, Q', ss, sh, q, l⟩ => ?_⟩
  refine wpAny_Call_Name_kw (ld_glob I hg hm ?_ hdb)
  refine PySem.W.callWith_KW0 (h₀ := X.base) I.ok.mod.kin hk hall (thn (hkw.run pos pins s σ H (fun zs H2 => zs.length = j ∧ upF X.K ps.length sp (gV [] zs) H2 Q E0) I
    ⟨τ, h, _, ss, sh, q, fun zs h2 ws H2 q2 hz g2 r2 s2 => ⟨by rw [← r2.length, hz], gP [] zs, h2, Q', hb.len rfl hz, hb.relP rfl hz .nil r2, s2, q2, l.mono g2⟩⟩) fun ws s2 ⟨zs, H2, I2, rz, hz, q2⟩ => ⟨I2.kIn, ?_⟩) hpl
  rw [hks]
  exact call_g F hr hG I2 (hb.to s2 [] ws rfl (vals_len rz hz)) (hb.rel rfl (vals_len rz hz) .nil rz) q2
end

/-! ### statements -/
def mNx : MS := fun D τ h => D.nx τ h
def mSeq (a b : MS) : MS := fun D τ h => a { D with nx := b D } τ h
def mDrop (e : ME) : MS := fun D τ h => e τ h fun _ h1 => D.nx τ h1
def mRet (e : ME) : MS := fun D τ h => e τ h D.rt
def mRetN : MS := fun D _ h => D.rt .non h
def mIfS (t : MT) (a b : MS) : MS := fun D τ h => t τ h fun c h1 => if c = true then a D τ h1 else b D τ h1
def mBrk : MS := fun D τ h => D.bk τ h
def mCnt : MS := fun D τ h => D.ct τ h
section
variable {X : Cx} {pos : Pos} {s : Stmt} {rest : List Stmt} {e : Expr}
theorem LD.seq {K : PySem.W.Frag} {H : Hp} {h : PH} {D' : PEnds} {D : Ends} (l : LD K H h D' D) (b : MS) : LD K H h { D' with nx := b D' } { D with nx := upS K b D } :=
  ⟨fun τ h1 σ H1 q m s sh => ⟨τ, h1, D', s, sh, q, l.mono m⟩, l.rt, l.bk, l.ct⟩
theorem ls_nil : LSs X [] mNx := PSs.weak pss_nil fun D σ H ⟨τ, h, D', s, sh, q, l⟩ => l.nx τ h σ H q .refl s sh
theorem ls_cons {a b : MS} (h1 : LS X s a) (h2 : LSs X rest b) : LSs X (s :: rest) (mSeq a b) :=
  PSs.weak (pss_cons h1 h2) fun D σ H ⟨τ, h, D', s, sh, q, l⟩ => ⟨τ, h, _, s, sh, q, l.seq b⟩
theorem ls_one {a : MS} (h1 : LS X s a) : LSs X [s] a := pss_one h1
theorem ls_pass : LS X (.Pass pos) mNx := PS.weak ps_pass fun D σ H ⟨τ, h, D', s, sh, q, l⟩ => l.nx τ h σ H q .refl s sh
theorem ls_brk : LS X (.Break pos) mBrk := PS.weak ps_break fun D σ H ⟨τ, h, D', s, sh, q, l⟩ => l.bk τ h σ H q .refl s sh
theorem ls_cnt : LS X (.Continue pos) mCnt := PS.weak ps_continue fun D σ H ⟨τ, h, D', s, sh, q, l⟩ => l.ct τ h σ H q .refl s sh
theorem ls_expr {m : ME} (he : LE X e m) (hs : swapsWith e none pos.line X.env = pure false := by rfl) : LS X (.Expr e pos) (mDrop m) :=
  PS.weak (ps_expr he hs) fun D σ H ⟨τ, h, D', s, sh, q, l⟩ => ⟨τ, h, _, s, sh, q, fun p h1 v H1 q1 m1 r s1 => l.nx τ h1 σ H1 q1 m1 (s.mono m1.mono) s1⟩
theorem ls_ret {m : ME} (he : LE X e m) : LS X (.Return (some e) pos) (mRet m) :=
  PS.weak (ps_ret he) fun D σ H ⟨τ, h, D', s, sh, q, l⟩ => ⟨τ, h, _, s, sh, q, l.rt⟩
theorem ls_retN : LS X (.Return none pos) mRetN := PS.weak ps_retN fun D σ H ⟨τ, h, D', s, sh, q, l⟩ => l.rt _ _ _ _ q .refl (by simp only [Rel]) sh
theorem ls_if {c : Expr} {a b : List Stmt} {t : MT} {ma mb : MS} (hc : LT X c t) (ha : LSs X a ma) (hb : LSs X b mb) : LS X (.If c a b pos) (mIfS t ma mb) := by
  refine PS.weak (ps_if hc ha hb) fun D σ H ⟨τ, h, D', s, sh, q, l⟩ => ?_
  refine ⟨τ, h, _, s, sh, q, fun c h1 H1 q1 m1 s1 => ?_⟩
  cases c with
  | true => exact ⟨τ, h1, D', s.mono m1.mono, s1, q1, l.mono m1⟩
  | false => exact ⟨τ, h1, D', s.mono m1.mono, s1, q1, l.mono m1⟩
end

/-! ### targets -/
abbrev MG := PV → PSt → PH → (PSt → PH → Prop) → Prop
abbrev MGs := List PV → PSt → PH → (PSt → PH → Prop) → Prop
def upG (K : PySem.W.Frag) (vs : List Nat) (g : MG) : TG := fun v σ H Q => ∃ p τ h Q', Rel K H p v ∧ SimS K H σ τ ∧ Sim K H h ∧ g p τ h Q' ∧
  ∀ τ1 h1 σ1 H1, Q' τ1 h1 → Go H h H1 h1 → SimS K H1 σ1 τ1 → Sim K H1 h1 → wipe σ1 vs = wipe σ vs → Q σ1 H1
def upGs (K : PySem.W.Frag) (vs : List Nat) (g : MGs) : TGs := fun us σ H Q => ∃ ps τ h Q', Rels K H ps us ∧ SimS K H σ τ ∧ Sim K H h ∧ g ps τ h Q' ∧
  ∀ τ1 h1 σ1 H1, Q' τ1 h1 → Go H h H1 h1 → SimS K H1 σ1 τ1 → Sim K H1 h1 → wipe σ1 vs = wipe σ vs → Q σ1 H1
abbrev LG (X : Cx) (t : Expr) (vs : List Nat) (g : MG) : Prop := PG X t (upG X.K vs g)
abbrev LGs (X : Cx) (ts : List Expr) (vs : List Nat) (g : MGs) : Prop := PGs X ts (upGs X.K vs g)
def gN (i : Nat) : MG := fun p τ h Q => Q (st τ i (some p)) h
def gsNil : MGs := fun ps τ h Q => ps = [] ∧ Q τ h
def gsCons (g : MG) (r : MGs) : MGs := fun ps τ h Q => match ps with | p :: qs => g p τ h fun τ1 h1 => r qs τ1 h1 Q | [] => False
def gT (n : Nat) (g : MGs) : MG := fun p τ h Q => match p with | .tup ps => ps.length = n ∧ g ps τ h Q | _ => False
theorem wipe_set {σ : L2.St} {i : Nat} {x : Option V} : ∀ {vs : List Nat}, i ∈ vs → wipe (σ.set i x) vs = wipe σ vs
  | v :: vs, hi => by
    unfold wipe
    by_cases e : v = i
    · subst e
      by_cases hm : v ∈ vs
      · rw [wipe_set hm]
      · clear hi
        have : ∀ vs : List Nat, v ∉ vs → wipe (σ.set v x) vs = (wipe σ vs).set v x := by
          intro vs
          induction vs with
          | nil => intro _; rfl
          | cons u us ih =>
            intro hn
            unfold wipe
            rw [ih fun z => hn (List.mem_cons_of_mem _ z), List.set_comm _ _ fun z => hn (by rw [z]; exact List.mem_cons_self)]
        rw [this vs hm, List.set_set]
    · have hm : i ∈ vs := by
        rcases List.mem_cons.mp hi with z | z
        · exact absurd z.symm e
        · exact z
      rw [wipe_set hm]
section
variable {X : Cx} {pos : Pos} {vs : List Nat} {e : Expr} {es : List Expr}
theorem PG.weak {t u : TG} (h : PG X e t) (w : ∀ v σ H Q, u v σ H Q → t v σ H Q) : PG X e u := ⟨fun pins s σ H v uu Q I r q => h.run pins s σ H v uu Q I r (w v σ H Q q)⟩
theorem PGs.weak {t u : TGs} (h : PGs X es t) (w : ∀ v σ H Q, u v σ H Q → t v σ H Q) : PGs X es u := ⟨fun pins s σ H v uu Q I r q => h.run pins s σ H v uu Q I r (w v σ H Q q)⟩
theorem lg_name {i : Nat} {x : Str} (hN : X.N.Nodup) (hi : X.N[i]? = some x := by rfl) (hx : Loc X.env.scope x := by first | exact Or.inl rfl | exact Or.inr rfl) (hv : i ∈ vs := by simp) (hf : X.fn x = true ∨ X.env.scope.names.lookup x = some .local := by first | exact .inl rfl | exact .inr rfl | assumption) : LG X (.Name x pos) vs (gN i) :=
  PG.weak (pg_name hN hi hx hf) fun v σ H Q ⟨p, τ, h, Q', r, s, sh, q, l⟩ => l _ _ _ _ q .refl (s.set r) sh (wipe_set hv)
theorem lgs_nil : LGs X [] vs gsNil := PGs.weak pgs_nil fun us σ H Q ⟨ps, τ, h, Q', r, s, sh, ⟨q1, q2⟩, l⟩ => by
  subst q1
  exact ⟨r.len0, l _ _ _ _ q2 .refl s sh rfl⟩
theorem lgs_cons {g : MG} {r : MGs} (h1 : LG X e vs g) (h2 : LGs X es vs r) (hs : (assignEach (e :: es) X.env).map (·.2) = assign e X.env :: (assignEach es X.env).map (·.2) := by rfl) : LGs X (e :: es) vs (gsCons g r) := by
  refine PGs.weak (pgs_cons h1 h2 hs) fun us σ H Q ⟨ps, τ, h, Q', rr, s, sh, q, l⟩ => ?_
  cases ps with
  | nil => exact q.elim
  | cons p qs =>
    obtain ⟨v, ws, rfl, r1, r2⟩ := rr.uncons
    refine ⟨v, ws, rfl, p, τ, h, _, r1, s, sh, q, fun τ1 h1 σ1 H1 q1 m1 s1 sh1 w1 => ?_⟩
    refine ⟨qs, τ1, h1, _, r2.mono m1.mono, s1, sh1, q1, fun τ2 h2 σ2 H2 q2 m2 s2 sh2 w2 => ?_⟩
    exact l _ _ _ _ q2 (m1.trans m2) s2 sh2 (w2.trans w1)
theorem lg_tup {k : Nat} {g : MGs} {n : Nat} (hc : X.calm = true) (h : LGs X es vs g) (hn : (assignEach es X.env).length = n := by rfl) (hst : (assignEach es X.env).findIdx? (·.1) = none := by rfl) : LG X (.Tuple es k pos) vs (gT n g) := by
  refine PG.weak (pg_tup hc h hn hst) fun v σ H Q ⟨p, τ, h, Q', r, s, sh, q, l⟩ => ?_
  cases p with
  | tup ps =>
    obtain ⟨ql, q⟩ := q
    simp only [Rel] at r
    obtain ⟨a, xs, e1, e2, rx⟩ := r
    exact ⟨a, xs, e1, e2, by rw [← rx.length, ql], ps, τ, h, Q', rx, s, sh, q, l⟩
  | _ => exact q.elim
/-- target = value -/
def mAsg (m : ME) (g : MG) : MS := fun D τ h => m τ h fun p h1 => g p τ h1 D.nx
theorem ls_asg {tg : Expr} {m : ME} {g : MG} (he : LE X e m) (hg : LG X tg vs g) (hs : swapsWithSole [tg] e pos.line X.env = pure false := by rfl) (hw : swappedStores [tg] e X.env = pure none := by rfl)
    (h1 : (assignEach [tg] X.env).map (·.2) = [assign tg X.env] := by rfl) : LS X (.Assign [tg] e pos) (mAsg m g) := by
  refine PS.weak (ps_asg he hg hs hw h1) fun D σ H ⟨τ, h, D', s, sh, q, l⟩ => ?_
  refine ⟨τ, h, _, s, sh, q, fun p h1 v H1 q1 m1 r s1 => ?_⟩
  exact ⟨p, τ, h1, _, r, s.mono m1.mono, s1, q1, fun τ1 h2 σ1 H2 q2 m2 s2 sh2 _ => l.nx _ _ _ _ q2 (m1.trans m2) s2 sh2⟩
theorem ls_set {i : Nat} {x : Str} {m : ME} {pos' : Pos} (hN : X.N.Nodup) (he : LE X e m) (hi : X.N[i]? = some x := by rfl) (hx : Loc X.env.scope x := by first | exact Or.inl rfl | exact Or.inr rfl) (hs : swapsWith e (some (.Name x pos')) pos.line X.env = pure false := by rfl) (hf : X.fn x = true ∨ X.env.scope.names.lookup x = some .local := by first | exact .inl rfl | exact .inr rfl | assumption) :
    LS X (.Assign [.Name x pos'] e pos) (mAsg m (gN i)) := by
  refine PS.weak (ps_set hN hi hx he hs hf) fun D σ H ⟨τ, h, D', s, sh, q, l⟩ => ?_
  exact ⟨τ, h, _, s, sh, q, fun p h1 v H1 q1 m1 r s1 => l.nx _ _ _ _ q1 m1 ((s.mono m1.mono).set r) s1⟩
/-- a, b = x, y with plain local names -/
def mPar (i j : Nat) (m : MA) : MS := fun D τ h => m τ h fun ps h1 => match ps with | [p, q] => D.nx (st (st τ i (some p)) j (some q)) h1 | _ => False
theorem ls_par {i j : Nat} {x y : Str} {a b : Expr} {ta : MA} {px py pt : Pos} {kt k2 pt2} (hc : X.calm = true) (hN : X.N.Nodup) (ha : LAn X [a, b] 2 ta) (hi : X.N[i]? = some x := by rfl) (hj : X.N[j]? = some y := by rfl) (hij : i ≠ j := by decide)
    (hx : X.env.scope.names.lookup x = some .local := by rfl) (hy : X.env.scope.names.lookup y = some .local := by rfl)
    (hw : swappedStores [.Tuple [.Name x px, .Name y py] kt pt] (.Tuple [a, b] k2 pt2) X.env = pure (some [x, y]) := by rfl)
    (hs : swapsWithSole [.Tuple [.Name x px, .Name y py] kt pt] (.Tuple [a, b] k2 pt2) pos.line X.env = pure false := by rfl) :
    LS X (.Assign [.Tuple [.Name x px, .Name y py] kt pt] (.Tuple [a, b] k2 pt2) pos) (mPar i j ta) := by
  refine PS.weak (ps_par hc hN hi hj hij hx hy ha hw hs) fun D σ H ⟨τ, h, D', s, sh, q, l⟩ => ?_
  refine ⟨τ, h, _, s, sh, q, fun ps h1 vs H1 q1 hl m1 r s1 => ?_⟩
  match ps, q1, r with
  | [p, q], q1, r =>
    obtain ⟨v, w, rfl, r1, r2⟩ := r.two
    exact ⟨v, w, rfl, l.nx _ _ _ _ q1 m1 (((s.mono m1.mono).set r1).set r2) s1⟩
  | [], q1, _ => exact q1.elim
  | [_], q1, _ => exact q1.elim
  | _ :: _ :: _ :: _, q1, _ => exact q1.elim
end
end N3

namespace N3
open PySem PySem.Spec PyProof.Rows L2

/-! ### while -/
/-- I: what holds ahead of each turn, by a number that falls -/
def mWhile (t : MT) (b : MS) : MS := fun D τ h => ∃ I : Nat → PSt → PH → Prop, (∃ n, I n τ h) ∧ ∀ n τ h, I n τ h →
  t τ h fun c h1 => if c = true then b { D with nx := fun τ' h' => ∃ m, m < n ∧ I m τ' h', ct := fun τ' h' => ∃ m, m < n ∧ I m τ' h', bk := D.nx } τ h1 else D.nx τ h1
section
variable {X : Cx} {pos : Pos} {e : Expr}
theorem ls_while {c : Expr} {body : List Stmt} {t : MT} {b : MS} (hp : PassesOwn (model X.prog X.w) X.A X.env X.xe) (hc : LT X c t) (hb : LSs X body b) : LS X (.While c body [] pos) (mWhile t b) := by
  refine PS.weak (ps_while hp hc hb) fun D σ0 H0 ⟨τ0, h0, D', s0, sh0, ⟨I, ⟨n0, i0⟩, turn⟩, l⟩ => ?_
  refine ⟨fun n σ H => ∃ τ h, Go H0 h0 H h ∧ SimS X.K H σ τ ∧ Sim X.K H h ∧ I n τ h, ⟨n0, τ0, h0, .refl, s0, sh0, i0⟩, ?_⟩
  rintro n σ H ⟨τ, h, g, s, sh, i⟩
  refine ⟨τ, h, _, s, sh, turn n τ h i, fun c h1 H1 q1 g1 s1 => ?_⟩
  cases c with
  | true =>
    rw [if_pos rfl] at q1 ⊢
    refine ⟨fun σ' H' => ∃ m, m < n ∧ ∃ τ h, Go H0 h0 H' h ∧ SimS X.K H' σ' τ ∧ Sim X.K H' h ∧ I m τ h, fun σ' H' z => z, ?_⟩
    refine ⟨τ, h1, _, s.mono g1.mono, s1, q1, ?_⟩
    have l' := l.mono (g.trans g1)
    have again : LN X.K H1 h1 (fun τ' h' => ∃ m, m < n ∧ I m τ' h') (fun σ' H' => ∃ m, m < n ∧ ∃ τ h, Go H0 h0 H' h ∧ SimS X.K H' σ' τ ∧ Sim X.K H' h ∧ I m τ h) := fun τ2 h2 σ2 H2 ⟨m, hm, i2⟩ g2 s2 sh2 =>
      ⟨m, hm, τ2, h2, (g.trans g1).trans g2, s2, sh2, i2⟩
    exact ⟨again, l'.rt, l'.nx, again⟩
  | false =>
    rw [if_neg Bool.false_ne_true] at q1 ⊢
    exact l.nx τ h1 σ H1 q1 (g.trans g1) (s.mono g1.mono) s1

/-! ### what is gone along -/
/-- the items, and what must stand at each turn -/
abbrev MI := PSt → PH → (List PV → (PH → Prop) → PH → Prop) → Prop
structure Wk (K : PySem.W.Frag) (J : It) (ps : List PV) (gd : PH → Prop) (H1 : Hp) : Prop where
  few : ps.length ≤ sizeLine
  goes : ∀ i H h, i < ps.length → Mono H1 H → Sim K H h → gd h → J.go i H
  stops : ∀ H h, Mono H1 H → Sim K H h → gd h → J.stop ps.length H
  yields : ∀ (i : Nat) H h x H' p, ps[i]? = some p → Mono H1 H → Sim K H h → gd h → J.yld i H x H' → Go H h H' h ∧ Sim K H' h ∧ Rel K H' p x
def upI (K : PySem.W.Frag) (mi : MI) : TI := fun σ H R => ∃ τ h Q', SimS K H σ τ ∧ Sim K H h ∧ mi τ h Q' ∧
  ∀ ps gd h1 H1 J, Q' ps gd h1 → Go H h H1 h1 → Sim K H1 h1 → Wk K J ps gd H1 → R J H1
abbrev LI (X : Cx) (tg iter : Expr) (mi : MI) : Prop := PI X tg iter (upI X.K mi)
theorem PI.weak {tg iter : Expr} {t u : TI} (h : PI X tg iter t) (w : ∀ σ H R, u σ H R → t σ H R) : PI X tg iter u := ⟨fun pins s σ H R I q => h.run pins s σ H R I (w σ H R q)⟩

def forL (gd : PH → Prop) (g : MG) (b : MS) (D : PEnds) : List PV → PSt → PH → Prop
  | [], τ, h => gd h ∧ D.nx τ h
  | p :: ps, τ, h => gd h ∧ g p τ h fun τ1 h1 => b { D with nx := forL gd g b D ps, ct := forL gd g b D ps, bk := D.nx } τ1 h1
def mFor (mi : MI) (g : MG) (b : MS) : MS := fun D τ h => mi τ h fun ps gd h1 => forL gd g b D ps τ h1
theorem ls_for {tg iter : Expr} {body : List Stmt} {mi : MI} {vs : List Nat} {g : MG} {b : MS} (hp : PassesOwn (model X.prog X.w) X.A X.env X.xe) (hc : X.calm = true) (hi : LI X tg iter mi) (hg : LG X tg vs g) (hb : LSs X body b)
    (hs : ∀ x, foldedSetIterable iter X.env x = pure x := by intro _; rfl) : LS X (.For tg iter body [] pos) (mFor mi g b) := by
  refine PS.weak (ps_for hp hc hi hg hb hs) fun D σ0 H0 ⟨τ0, h0, D', s0, sh0, q0, l⟩ => ?_
  refine ⟨τ0, h0, _, s0, sh0, q0, fun ps gd h1 H1 J q1 g1 s1 wk => ?_⟩
  have l1 := l.mono g1
  refine ⟨fun i m σ H => ∃ τ h, i ≤ ps.length ∧ m = ps.length - i ∧ Go H1 h1 H h ∧ SimS X.K H σ τ ∧ Sim X.K H h ∧ forL gd g b D' (ps.drop i) τ h,
    ⟨ps.length, τ0, h1, Nat.zero_le _, rfl, .refl, s0.mono g1.mono, s1, q1⟩, ?_⟩
  rintro i m σ H ⟨τ, h, hi, rfl, gg, s, sh, q⟩
  by_cases hlt : i < ps.length
  · have e : ps.drop i = ps[i] :: ps.drop (i + 1) := List.drop_eq_getElem_cons hlt
    rw [e] at q
    obtain ⟨hgd, q⟩ := q
    refine .inr ⟨wk.goes i H h hlt gg.mono sh hgd, fun σ' H' => ∃ τ h, Go H1 h1 H' h ∧ SimS X.K H' σ' τ ∧ Sim X.K H' h ∧ forL gd g b D' (ps.drop (i + 1)) τ h, fun σ' H' ⟨τ, h, a, b', c, d⟩ => ⟨ps.length - (i + 1), by omega, τ, h, hlt, rfl, a, b', c, d⟩, fun x H' y => ?_⟩
    obtain ⟨g2, sh2, rx⟩ := wk.yields i H h x H' ps[i] (List.getElem?_eq_getElem hlt) gg.mono sh hgd y
    refine ⟨ps[i], τ, h, _, rx, s.mono g2.mono, sh2, q, fun τ3 h3 σ3 H3 q3 g3 s3 sh3 _ => ?_⟩
    refine ⟨τ3, h3, _, s3, sh3, q3, ?_⟩
    have g13 := (gg.trans g2).trans g3
    have l3 := l1.mono g13
    have again : LN X.K H3 h3 (forL gd g b D' (ps.drop (i + 1))) (fun σ' H' => ∃ τ h, Go H1 h1 H' h ∧ SimS X.K H' σ' τ ∧ Sim X.K H' h ∧ forL gd g b D' (ps.drop (i + 1)) τ h) := fun τ4 h4 σ4 H4 q4 g4 s4 sh4 =>
      ⟨τ4, h4, g13.trans g4, s4, sh4, q4⟩
    exact ⟨again, l3.rt, l3.nx, again⟩
  · have e : i = ps.length := by omega
    subst e
    rw [List.drop_length] at q
    exact .inl ⟨wk.stops H h gg.mono sh q.1, l1.nx τ h σ H q.2 gg s sh⟩

/-! ### [e for t in it if ..] -/
def mTs : List MT → MT
  | [] => fun _ h Q => Q true h
  | [t] => t
  | _ => fun _ _ _ => False
def mYes : MT := fun _ h Q => Q true h
abbrev LTs (X : Cx) (ifs : List Expr) (t : MT) : Prop := PTs X ifs (upT X.K t)
theorem lts_nil : LTs X [] mYes := ⟨fun pins s σ H Q I ⟨τ, h, Q', ss, sh, q, l⟩ => pts_nil.run pins s σ H Q I (l _ _ _ q .refl sh)⟩
theorem lts_one {c : Expr} {t : MT} (h : LT X c t) : LTs X [c] t := pts_one h
def lcL (gd : PH → Prop) (τ : PSt) (g : MG) (t : MT) (m : ME) : List PV → List PV → PH → (List PV → PH → Prop) → Prop
  | [], acc, h, Q => gd h ∧ Q acc h
  | p :: ps, acc, h, Q => gd h ∧ g p τ h fun τ1 h1 => t τ1 h1 fun b h2 => if b = true then m τ1 h2 fun v h3 => lcL gd τ g t m ps (acc ++ [v]) h3 Q else lcL gd τ g t m ps acc h2 Q
def wp (τ : PSt) : List Nat → PSt
  | [] => τ
  | v :: vs => st (wp τ vs) v none
theorem SimS.wipe {K : PySem.W.Frag} {H : Hp} {σ : L2.St} {τ : PSt} (s : SimS K H σ τ) : ∀ vs : List Nat, SimS K H (wipe σ vs) (wp τ vs)
  | [] => s
  | v :: vs => by
    have ih := SimS.wipe s vs
    unfold L2.wipe wp
    refine ⟨by rw [List.length_set, st_eq, List.length_set]; exact ih.1, fun i p e => ?_⟩
    rw [st_eq, gt_eq] at e
    by_cases hv : v = i
    · subst hv
      by_cases hl : v < (wp τ vs).length
      · rw [List.getElem?_set_self hl] at e; simp at e
      · rw [List.getElem?_eq_none (by simpa using hl)] at e; simp at e
    · rw [List.getElem?_set_ne hv] at e ⊢
      exact ih.2 i p (by rw [gt_eq]; exact e)
/-- the list kept; one that may change -/
def mLc (mi : MI) (vs : List Nat) (g : MG) (t : MT) (m : ME) : ME := fun τ h Q => mi τ h fun ps gd h1 => lcL gd (wp τ vs) g t m ps [] h1 fun zs h2 => Q (.lst zs) h2
def mLcM (mi : MI) (vs : List Nat) (g : MG) (t : MT) (m : ME) : ME := fun τ h Q => mi τ h fun ps gd h1 => lcL gd (wp τ vs) g t m ps [] h1 fun zs h2 => ∀ a, h2 a = none → Q (.ref a) (up h2 a (.lst zs))
theorem wipe_wipe {σ : L2.St} {vs : List Nat} : wipe (wipe σ vs) vs = wipe σ vs := by
  have key : ∀ us : List Nat, (∀ u ∈ us, u ∈ vs) → wipe (wipe σ us) vs = wipe σ vs := by
    intro us
    induction us with
    | nil => intro _; rfl
    | cons u us ih =>
      intro hs
      show wipe ((wipe σ us).set u none) vs = wipe σ vs
      rw [wipe_set (hs u List.mem_cons_self)]
      exact ih fun w hw => hs w (List.mem_cons_of_mem _ hw)
  exact key vs fun _ h => h
/-- the reading of a comprehension, whatever is done with the list -/
theorem lc_up {K : PySem.W.Frag} {mi : MI} {vs : List Nat} {g : MG} {t : MT} {m : ME} {Y : List PV → PH → Prop} {σ : L2.St} {H0 : Hp} {τ : PSt} {h0 : PH} {Q : VK} (s0 : SimS K H0 σ τ) (sh0 : Sim K H0 h0)
    (q : mi τ h0 fun ps gd h1 => lcL gd (wp τ vs) g t m ps [] h1 Y)
    (fin : ∀ zs h2 xs D H2, Y zs h2 → H0 D = none → H2 D = some (.lst xs) → h2 D = none → Sim K H2 h2 → Rels K H2 zs xs → Go H0 h0 H2 h2 → Q (.ref D) H2) :
    tLc (upI K mi) (upG K vs g) (upT K t) (upE K m) vs σ H0 Q := by
  refine ⟨τ, h0, _, s0, sh0, q, fun ps gd h1 H1 J q1 g1 s1 wk D hD => ?_⟩
  have hD1 : h1 D = none := s1.fresh hD
  have gD : Go H1 h1 (upd H1 D (.lst [])) h1 := .new hD
  refine ⟨fun i n H => ∃ h acc xs, i ≤ ps.length ∧ n = ps.length - i ∧ Go H1 h1 H h ∧ H D = some (.lst xs) ∧ h D = none ∧ Rels K H acc xs ∧ xs.length ≤ i ∧ Sim K H h ∧ lcL gd (wp τ vs) g t m (ps.drop i) acc h Y,
    ⟨ps.length, h1, [], [], Nat.zero_le _, rfl, gD, upd_same, hD1, .nil, Nat.le_refl _, s1.new hD, q1⟩, ?_⟩
  rintro i n H ⟨h, acc, xs, hi, rfl, gg, hx, hd, ra, hl, sh, q⟩
  by_cases hlt : i < ps.length
  · have e : ps.drop i = ps[i] :: ps.drop (i + 1) := List.drop_eq_getElem_cons hlt
    rw [e] at q
    obtain ⟨hgd, q⟩ := q
    refine .inr ⟨wk.goes i H h hlt gg.mono sh hgd, fun H' => ∃ h acc xs, Go H1 h1 H' h ∧ H' D = some (.lst xs) ∧ h D = none ∧ Rels K H' acc xs ∧ xs.length ≤ i + 1 ∧ Sim K H' h ∧ lcL gd (wp τ vs) g t m (ps.drop (i + 1)) acc h Y,
      fun H' ⟨h, acc, xs, a1, a2, a3, a4, a5, a6, a7⟩ => ⟨ps.length - (i + 1), by omega, h, acc, xs, hlt, rfl, a1, a2, a3, a4, a5, a6, a7⟩, fun x H' y => ?_⟩
    obtain ⟨g2, sh2, rx⟩ := wk.yields i H h x H' ps[i] (List.getElem?_eq_getElem hlt) gg.mono sh hgd y
    have gw : Mono H0 H' := (g1.trans (gg.trans g2)).mono
    refine ⟨ps[i], wp τ vs, h, _, rx, (s0.mono gw).wipe vs, sh2, q, fun τ3 h3 σ3 H3 q3 g3 s3 sh3 w3 => ⟨by rw [w3, wipe_wipe], ?_⟩⟩
    refine ⟨τ3, h3, _, s3, sh3, q3, fun b h4 H4 q4 g4 s4 => ?_⟩
    have g24 := (g2.trans g3).trans g4
    have x4 : H4 D = some (.lst xs) := g24.frame D _ hx hd
    have d4 : h4 D = none := g24.dom D _ hx hd
    cases b with
    | true =>
      simp only [if_true] at q4 ⊢
      refine ⟨τ3, h4, _, s3.mono g4.mono, s4, q4, fun v h5 y5 H5 q5 g5 r5 s5 => ?_⟩
      have x5 : H5 D = some (.lst xs) := g5.frame D _ x4 d4
      have d5 : h5 D = none := g5.dom D _ x4 d4
      have few := wk.few
      refine ⟨xs, x5, by omega, h5, acc ++ [v], xs ++ [y5], ?_, upd_same, d5, ?_, by rw [List.length_append]; simp; omega, s5.drop (Mono.lst x5) d5, q5⟩
      · have gA := ((gg.trans g24).trans g5)
        exact gA.renew hD (Mono.lst x5)
      · exact ((ra.mono (g24.trans g5).mono).append (.cons r5 .nil)).mono (Mono.lst x5)
    | false =>
      simp only [Bool.false_eq_true, if_false] at q4 ⊢
      exact ⟨h4, acc, xs, gg.trans g24, x4, d4, ra.mono g24.mono, by omega, s4, q4⟩
  · have e : i = ps.length := by omega
    subst e
    rw [List.drop_length] at q
    have g0 := g1.trans gg
    exact .inl ⟨wk.stops H h gg.mono sh q.1, fin acc h xs D H q.2 (g1.live D hD) hx hd sh ra g0⟩
theorem le_lc {elt tg iter : Expr} {ifs : List Expr} {scope : Scope} {mi : MI} {g : MG} {t : MT} {m : ME} (own : List (Str × Nat)) (hc : X.calm = true) (hN : X.N.Nodup) (hi : LI X tg iter mi) (ok : BlkOk X.N X.env.scope scope own)
    (hg : ∀ (s : Shared) (H : Hp) (C : Addr) (cl : List (Str × Addr)) (fp : List Addr), LG (X.blk s H scope (compEnvC scope cl C X.env) fp) tg (own.map (·.2)) g) (ht : ∀ (s : Shared) (H : Hp) (C : Addr) (cl : List (Str × Addr)) (fp : List Addr), LTs (X.blk s H scope (compEnvC scope cl C X.env) fp) ifs t)
    (he : ∀ (s : Shared) (H : Hp) (C : Addr) (cl : List (Str × Addr)) (fp : List Addr), LE (X.blk s H scope (compEnvC scope cl C X.env) fp) elt m) (hs : ∀ x, foldedSetIterable iter X.env x = pure x := by intro _; rfl) :
    LE X (.ListComp elt [⟨tg, iter, ifs, 0⟩] scope pos) (mLc mi (own.map (·.2)) g t m) :=
  PE.weak (PE.kp (pe_lc hc hN hi ok hg ht he hs)) fun σ H Q ⟨τ, h, Q', s, sh, q, l⟩ => lc_up s sh q fun zs h2 xs D H2 q2 h0 hD hd s2 r2 g2 => .inr ⟨D, _, rfl, hD, trivial, fun o => by
    have mm : Mono H2 (upd H2 D (.frz o (.lst xs))) := Mono.lst hD
    refine l (.lst zs) h2 (.ref D) _ q2 (g2.renew h0 mm) ?_ (s2.drop mm hd)
    simp only [Rel]
    exact ⟨D, xs, rfl, .inl ⟨o, upd_same⟩, r2.mono mm⟩⟩
theorem le_lcM {elt tg iter : Expr} {ifs : List Expr} {scope : Scope} {mi : MI} {g : MG} {t : MT} {m : ME} (own : List (Str × Nat)) (hc : X.calm = true) (hN : X.N.Nodup) (hi : LI X tg iter mi) (ok : BlkOk X.N X.env.scope scope own)
    (hg : ∀ (s : Shared) (H : Hp) (C : Addr) (cl : List (Str × Addr)) (fp : List Addr), LG (X.blk s H scope (compEnvC scope cl C X.env) fp) tg (own.map (·.2)) g) (ht : ∀ (s : Shared) (H : Hp) (C : Addr) (cl : List (Str × Addr)) (fp : List Addr), LTs (X.blk s H scope (compEnvC scope cl C X.env) fp) ifs t)
    (he : ∀ (s : Shared) (H : Hp) (C : Addr) (cl : List (Str × Addr)) (fp : List Addr), LE (X.blk s H scope (compEnvC scope cl C X.env) fp) elt m) (hs : ∀ x, foldedSetIterable iter X.env x = pure x := by intro _; rfl) :
    LE X (.ListComp elt [⟨tg, iter, ifs, 0⟩] scope pos) (mLcM mi (own.map (·.2)) g t m) :=
  PE.weak (pe_lc hc hN hi ok hg ht he hs) fun σ H Q ⟨τ, h, Q', s, sh, q, l⟩ => lc_up s sh q fun zs h2 xs D H2 q2 h0 hD hd s2 r2 g2 => by
    refine l (.ref D) _ (.ref D) H2 (q2 D hd) (g2.own h0) (by simp only [Rel]) fun b p e => ?_
    by_cases hb : b = D
    · subst hb
      rw [up_same] at e; cases e
      exact ⟨_, hD, xs, rfl, r2⟩
    · rw [up_ne hb] at e
      exact s2 b p e
/-- name = [..]: the list may change behind it -/
theorem ls_setLcM {i : Nat} {y : Str} {py : Pos} {elt tg iter : Expr} {ifs : List Expr} {scope : Scope} {spos : Pos} {mi : MI} {g : MG} {t : MT} {m : ME} (own : List (Str × Nat)) (hc : X.calm = true) (hN : X.N.Nodup) (hi : LI X tg iter mi) (ok : BlkOk X.N X.env.scope scope own)
    (hg : ∀ (s : Shared) (H : Hp) (C : Addr) (cl : List (Str × Addr)) (fp : List Addr), LG (X.blk s H scope (compEnvC scope cl C X.env) fp) tg (own.map (·.2)) g) (ht : ∀ (s : Shared) (H : Hp) (C : Addr) (cl : List (Str × Addr)) (fp : List Addr), LTs (X.blk s H scope (compEnvC scope cl C X.env) fp) ifs t)
    (he : ∀ (s : Shared) (H : Hp) (C : Addr) (cl : List (Str × Addr)) (fp : List Addr), LE (X.blk s H scope (compEnvC scope cl C X.env) fp) elt m)
    (hy : X.N[i]? = some y := by rfl) (hyl : X.env.scope.names.lookup y = some .local := by rfl)
    (hsw : swapsWith (.ListComp elt [⟨tg, iter, ifs, 0⟩] scope pos) (some (.Name y py)) spos.line X.env = pure true := by exact sw_true rfl rfl rfl (by decide +kernel)) (hs : ∀ x, foldedSetIterable iter X.env x = pure x := by intro _; rfl) :
    LS X (.Assign [.Name y py] (.ListComp elt [⟨tg, iter, ifs, 0⟩] scope pos) spos) (mAsg (mLcM mi (own.map (·.2)) g t m) (gN i)) :=
  PS.weak (ps_setLc hc hN hy hyl hsw hi ok hg ht he hs) fun D0 σ H ⟨τ, h, D', s, sh, q, l⟩ => lc_up s sh q fun zs h2 xs D H2 q2 h0 hD hd s2 r2 g2 => by
    refine l.nx _ _ _ H2 (q2 D hd) (g2.own h0) ((s.mono g2.mono).set (by simp only [Rel])) fun b p e => ?_
    by_cases hb : b = D
    · subst hb
      rw [up_same] at e; cases e
      exact ⟨_, hD, xs, rfl, r2⟩
    · rw [up_ne hb] at e
      exact s2 b p e
end
end N3

namespace N3
open PySem PySem.Spec PyProof.Rows L2

/-! ### keeping behind a statement -/
def kN (N : L2.St → Hp → Prop) : L2.St → Hp → Prop := fun σ H => N σ H ∨ ∃ a u, H a = some u ∧ Keepable u ∧ ∀ o, N σ (upd H a (.frz o u))
section
variable {X : Cx} {pos : Pos} {s : Stmt}
theorem PS.kp {t : TS} (h : PS X s t) : PS X s (fun D σ H => t { D with nx := kN D.nx } σ H) := by
  refine ⟨fun pins s σ H D I q => ?_⟩
  refine thn (h.run pins s σ H _ I q) fun f s1 q1 => ?_
  cases f with
  | next =>
    obtain ⟨σ1, H1, I1, q2⟩ := q1
    rcases q2 with q2 | ⟨a, u, e, k, q2⟩
    · exact ⟨σ1, H1, I1, q2⟩
    · obtain ⟨o, I2⟩ := Inv.keep I1 e k
      exact ⟨σ1, _, I2, q2 o⟩
  | ret v => exact q1
  | brk => exact q1
  | cont => exact q1
/-- name = [..]: the list is kept -/
theorem ls_setLc {i : Nat} {y : Str} {py : Pos} {elt tg iter : Expr} {ifs : List Expr} {scope : Scope} {spos : Pos} {mi : MI} {g : MG} {t : MT} {m : ME} (own : List (Str × Nat)) (hc : X.calm = true) (hN : X.N.Nodup) (hi : LI X tg iter mi) (ok : BlkOk X.N X.env.scope scope own)
    (hg : ∀ (s : Shared) (H : Hp) (C : Addr) (cl : List (Str × Addr)) (fp : List Addr), LG (X.blk s H scope (compEnvC scope cl C X.env) fp) tg (own.map (·.2)) g) (ht : ∀ (s : Shared) (H : Hp) (C : Addr) (cl : List (Str × Addr)) (fp : List Addr), LTs (X.blk s H scope (compEnvC scope cl C X.env) fp) ifs t)
    (he : ∀ (s : Shared) (H : Hp) (C : Addr) (cl : List (Str × Addr)) (fp : List Addr), LE (X.blk s H scope (compEnvC scope cl C X.env) fp) elt m)
    (hy : X.N[i]? = some y := by rfl) (hyl : X.env.scope.names.lookup y = some .local := by rfl)
    (hsw : swapsWith (.ListComp elt [⟨tg, iter, ifs, 0⟩] scope pos) (some (.Name y py)) spos.line X.env = pure true := by exact sw_true rfl rfl rfl (by decide +kernel)) (hs : ∀ x, foldedSetIterable iter X.env x = pure x := by intro _; rfl) :
    LS X (.Assign [.Name y py] (.ListComp elt [⟨tg, iter, ifs, 0⟩] scope pos) spos) (mAsg (mLc mi (own.map (·.2)) g t m) (gN i)) :=
  PS.weak (PS.kp (ps_setLc hc hN hy hyl hsw hi ok hg ht he hs)) fun D0 σ H ⟨τ, h, D', s, sh, q, l⟩ => lc_up s sh q fun zs h2 xs D H2 q2 h0 hD hd s2 r2 g2 => .inr ⟨D, _, hD, trivial, fun o => by
    have mm : Mono H2 (upd H2 D (.frz o (.lst xs))) := Mono.lst hD
    refine l.nx _ h2 _ _ q2 (g2.renew h0 mm) ((s.mono (g2.mono.trans mm)).set ?_) (s2.drop mm hd)
    simp only [Rel]
    exact ⟨D, xs, rfl, .inl ⟨o, upd_same⟩, r2.mono mm⟩⟩
end

/-! ### a def from its body -/
def sp0 : Nat → List PV → PSt
  | 0, _ => []
  | n + 1, [] => none :: sp0 n []
  | n + 1, p :: ps => some p :: sp0 n ps
theorem sp0_eq : ∀ (n : Nat) (ps : List PV), ps.length ≤ n → sp0 n ps = ps.map some ++ List.replicate (n - ps.length) none
  | 0, [], _ => rfl
  | 0, _ :: _, h => by simp at h
  | n + 1, [], _ => by
    have ih := sp0_eq n [] (Nat.zero_le _)
    simp only [sp0, ih, List.map_nil, List.nil_append, List.length_nil, Nat.sub_zero, List.replicate_succ]
  | n + 1, p :: ps, h => by
    have ih := sp0_eq n ps (by simpa using h)
    simp only [sp0, ih, List.map_cons, List.cons_append, List.length_cons, Nat.add_sub_add_right]
theorem simS_start {K : PySem.W.Frag} {H : Hp} {N : List Str} {vs : List V} {ps : List PV} (r : Rels K H ps vs) (hl : ps.length ≤ N.length) : SimS K H (L2.start N vs) (sp0 N.length ps) := by
  have e := r.length
  rw [sp0_eq _ _ hl]
  unfold L2.start
  refine ⟨by simp [e], fun i p hp => ?_⟩
  rw [gt_eq] at hp
  by_cases hi : i < ps.length
  · rw [List.getElem?_append_left (by simpa using hi)] at hp
    rw [List.getElem?_append_left (by simp; omega)]
    rw [List.getElem?_map, List.getElem?_eq_getElem hi] at hp
    simp at hp
    subst hp
    obtain ⟨v, e1, r1⟩ := r.get (List.getElem?_eq_getElem hi)
    exact ⟨v, by rw [List.getElem?_map, e1]; rfl, r1⟩
  · rw [List.getElem?_append_right (by simp; omega)] at hp
    rw [List.getElem?_replicate] at hp
    split at hp <;> simp at hp
def ends (Q : PK) : PEnds := ⟨fun _ h => Q .non h, Q, fun _ _ => False, fun _ _ => False⟩
section
variable {P : Program} {w : World} {K : PySem.W.Frag} {mg : Str → Option Value} {base : Heap}
/-- THE RULE: from what the body does (m) to what the def does (sp) -/
theorem fn_ok {x qual : Str} {st : Stmt} {f : Addr} {fd : FuncData} {N ps : List Str} {k : Nat} {sp : SpP} {m : MS} (F : Fun K x qual st f fd) (S : FnScope N ps (defScope st))
    (hb : ∀ (cdv : Value) (A : Around) (outer : List Env) (s : Shared) (H : Hp) (E : XK), Room k (A.deeper (envOfC qual (defScope st) s.heap.objs.size f cdv)) → A.guards = some [] →
      LSs (cxOf CX0 P w K mg base N qual (defScope st) f cdv A outer s H E).nox (defBody st) m)
    (hm : ∀ qs h Q, qs.length = ps.length → sp qs h Q → m (ends Q) (sp0 N.length qs) h) : FnG P w K mg base (k + 1) f fd ps sp := by
  obtain ⟨oc, od, kV, doc, pm, an, cdv, ct, osl, rfl, lk, hcd⟩ := F.ex
  have hN : ps.length ≤ N.length := by
    have e := congrArg List.length S.pre
    rw [List.length_take] at e; omega
  refine ⟨fun A outer s H args us vs Q hr hG e0 hbi r ⟨qs, h, Q', hl, rr, sh, q, l⟩ => ?_⟩
  have lv : vs.length = ps.length := by rw [← rr.length, hl]
  have KX : K.In s.heap := e0.mod.kin.keeps fun b o e => (e0.bs b o e).1
  have hkind : ∀ y ∈ ps.zip us, (defScope st).names.lookup y.1 = some .local ∨ ((defScope st).names.lookup y.1 = some .cell ∧ ((cellsFrom (s.heap.objs.size + 1) (defScope st).names []).lookup y.1).isSome = true) := fun ⟨n, v⟩ hy =>
    (S.par n (List.of_mem_zip hy).1).imp id fun z => ⟨z, PySem.W.cellsFrom_some _ _ _ (.inl z)⟩
  refine codeAny_call_function hr.depth (KX _ _ lk) rfl S.co S.gen rfl (PySem.W.codeRec_of KX hcd) (hbi _ _ _ _ (wpAny_newFunctionEnv_cells S.kind hkind fun env he s1 x => ?_))
  subst he
  refine ⟨(e0.mod.nolimit.keeps fun b o e => (e0.bs b o e).1).keeps x.toInCall.keep, codeAny_func ?_⟩
  have I : Inv (cxOf CX0 P w K mg base N qual (defScope st) f cdv A outer s H E0) [] (L2.start N vs) H s1 := inv_start S hr.hd e0 lv r x
  have hrun := (hb cdv A outer s H E0 (hr.deeper _) hG).nox.run [] s1 (L2.start N vs) H { nx := fun _ H' => Q .non H', rt := Q } I
    ⟨sp0 N.length qs, h, ends Q', simS_start rr (by omega), sh, hm qs h Q' hl q, fun τ h1 σ H1 q1 g1 s1 sh1 => l _ _ _ _ q1 g1 (by simp only [Rel]) sh1, l, fun _ _ _ _ z => z.elim, fun _ _ _ _ z => z.elim⟩
  refine wpAny_mono hrun (fun fl s' hs => ?_) fun e s' hs => hs
  have fin : ∀ {σ' : L2.St} {H' : Hp} {v : V} {u : Value}, Inv (cxOf CX0 P w K mg base N qual (defScope st) f cdv A outer s H E0) [] σ' H' s' → RelV v u → Q v H' → CE outer P w H s Q u s' :=
    fun {σ' H' v u} J rv z => ⟨v, H', J.os, J.bare, J.base, J.hok, rv, z⟩
  cases fl with
  | ret u => obtain ⟨v, σ', H', J, rv, z⟩ := hs; exact fin J rv z
  | next => obtain ⟨σ', H', J, z⟩ := hs; exact fin (v := V.non) (u := Value.none) J rfl z
  | brk => obtain ⟨_, _, _, z⟩ := hs; exact False.elim z
  | cont => obtain ⟨_, _, _, z⟩ := hs; exact False.elim z
end

/-! ### numbers -/
abbrev SZ : Nat := 16777216
theorem sz_eq : (sizeLine : Nat) = 16777216 := sizeLine_eq
theorem sz_le {n : Nat} (h : n ≤ SZ) : n ≤ sizeLine := by rw [sz_eq]; exact h
theorem sz_lt {n : Nat} (h : n < SZ) : n < sizeLine := by rw [sz_eq]; exact h
section
variable {K : PySem.W.Frag} {H : Hp} {h : PH} {v : V} {i : Int} {x : Str} {b : Bool} {a : Addr}
theorem rel_int : Rel K H (.int i) v ↔ v = .int i := by simp only [Rel]
theorem rel_str : Rel K H (.str x) v ↔ v = .str x := by simp only [Rel]
theorem rel_bl : Rel K H (.bl b) v ↔ v = .bl b := by simp only [Rel]
theorem rel_non : Rel K H .non v ↔ v = .non := by simp only [Rel]
theorem rel_ref : Rel K H (.ref a) v ↔ v = .ref a := by simp only [Rel]
theorem rel_tup {ps : List PV} : Rel K H (.tup ps) v ↔ ∃ a xs, v = .ref a ∧ SqT K H a xs ∧ Rels K H ps xs := by simp only [Rel]
theorem rel_lst {ps : List PV} : Rel K H (.lst ps) v ↔ ∃ a xs, v = .ref a ∧ FrL K H a xs ∧ Rels K H ps xs := by simp only [Rel]
theorem rel_dct {ks : List Key} {vs : List PV} : Rel K H (.dct ks vs) v ↔ ∃ a kvs, v = .ref a ∧ FrD H a kvs ∧ ks = kvs.map (·.1) ∧ Rels K H vs (kvs.map (·.2)) := by simp only [Rel]
end
/-- the items of a list, kept or not -/
def seqL (h : PH) : PV → Option (List PV)
  | .lst xs => some xs
  | .ref a => match h a with | some (.lst xs) => some xs | _ => none
  | _ => none
theorem seqL_sq {K : PySem.W.Frag} {H : Hp} {h : PH} {p : PV} {v : V} {ps : List PV} (r : Rel K H p v) (s : Sim K H h) (e : seqL h p = some ps) : ∃ a xs, v = .ref a ∧ SqL K H a xs ∧ Rels K H ps xs := by
  cases p with
  | lst qs =>
    simp only [seqL, Option.some.injEq] at e
    subst e
    obtain ⟨a, xs, e1, f, rr⟩ := rel_lst.mp r
    exact ⟨a, xs, e1, f.sq, rr⟩
  | ref a =>
    have ev := rel_ref.mp r
    simp only [seqL] at e
    cases q : h a with
    | none => rw [q] at e; cases e
    | some o =>
      rw [q] at e
      cases o with
      | lst qs =>
        simp only [Option.some.injEq] at e
        subst e
        obtain ⟨u, e2, xs, rfl, rr⟩ := s a _ q
        exact ⟨a, xs, ev, .of e2, rr⟩
      | dct _ _ => cases e
      | ins _ _ _ => cases e
      | lck _ _ => cases e
  | _ => simp [seqL] at e
/-- list + list, whatever lists -/
def rCatL (K : PySem.W.Frag) : R2 := fun x y H Q => ∃ l b xs zs, x = .ref l ∧ y = .ref b ∧ SqL K H l xs ∧ SqL K H b zs ∧ xs.length + zs.length ≤ sizeLine ∧ ∀ p, H p = none → Q (.ref p) (upd H p (.lst (xs ++ zs)))
theorem op_catL {X : Cx} : OpR X (binaryOp .Add) (rCatL X.K) := by
  intro pins s σ H x y v u Q I rx ry h
  obtain ⟨l, b, xs, zs, rfl, rfl, hH, hB, hz, q⟩ := h
  cases rx
  cases ry
  obtain ⟨its, r, ⟨⟨cls, dd, data, sl⟩, n, ho, hc, hd0, hd⟩, _⟩ := I.list hH
  obtain ⟨its2, r2, ⟨⟨cls2, dd2, data2, sl2⟩, n2, ho2, hc2, hd02, hd2⟩, _⟩ := I.list hB
  simp only at hc hd hc2 hd2
  subst hc hd hc2 hd2
  have e : its.toArray ++ its2.toArray = (its ++ its2).toArray := by simp
  have hl := r.length
  have hl2 := r2.length
  refine concat_meets ⟨_, ho, rfl⟩ ⟨_, ho2, rfl⟩ noFill_list_add seq_list_add PySem.F.slot_list_add PySem.F.entry_list_add (PySem.F.args_list_add_2 _ _) (list_addW l b its.toArray its2.toArray n n2 dd dd2 sl sl2 (by simp; omega)) ⟨ho, ho2, ?_⟩
  rw [e]
  exact ⟨.ref _, _, I.lnew (t' := s.toks) (r.append r2) (by rw [List.length_append]; omega), rfl, q _ I.fresh⟩
end N3

namespace N3
open PySem PySem.Spec PyProof.Rows L2

/-! ### texts as lists of signs -/
def cl (x : Str) : List Nat := x.cps.toList
def S (l : List Nat) : Str := ⟨l.toArray⟩
theorem S_cl (x : Str) : S (cl x) = x := by cases x; rfl
theorem cl_S (l : List Nat) : cl (S l) = l := rfl
theorem cl_inj {x y : Str} (h : cl x = cl y) : x = y := by rw [← S_cl x, ← S_cl y, h]
theorem cl_length (x : Str) : x.length = (cl x).length := by show x.cps.size = _; simp [cl]
theorem cl_append (x y : Str) : cl (x ++ y) = cl x ++ cl y := by show (x.cps ++ y.cps).toList = _; simp [cl]
theorem S_length (l : List Nat) : (S l).length = l.length := by rw [cl_length, cl_S]
theorem S_append (l m : List Nat) : S l ++ S m = S (l ++ m) := cl_inj (by rw [cl_append, cl_S, cl_S, cl_S])

/-! ### + - * // % ** -/
def rAdd : PR2 := fun p q h Q => match p, q with
  | .int i, .int j => Q (.int (i + j)) h
  | .str x, .str y => x.length + y.length ≤ SZ ∧ Q (.str (x ++ y)) h
  | .tup xs, .tup ys => xs.length + ys.length ≤ SZ ∧ Q (.tup (xs ++ ys)) h
  | p, q => match seqL h p, seqL h q with
    | some xs, some ys => xs.length + ys.length ≤ SZ ∧ Q (.lst (xs ++ ys)) h
    | _, _ => False
def oAdd (K : PySem.W.Frag) : R2 := fun x y H Q => (((∃ i j, x = .int i ∧ y = .int j ∧ Q (.int (i + j)) H) ∨ (∃ i j, x = .str i ∧ y = .str j ∧ i.length + j.length ≤ sizeLine ∧ Q (.str (i ++ j)) H)) ∨ rCatA K x y H Q) ∨ rCatL K x y H Q
theorem op_addA {X : Cx} : OpR X (binaryOp .Add) (oAdd X.K) := ((op_add.or op_add_str).or op_catA).or op_catL
theorem kf_add {K : PySem.W.Frag} : Kf2 K (oAdd K) rAdd := by
  intro x y H p q h Q' Q rp rq s r l
  have lists : ∀ {xs ys : List PV}, seqL h p = some xs → seqL h q = some ys → xs.length + ys.length ≤ SZ → Q' (.lst (xs ++ ys)) h → oAdd K x y H (kQ Q) := fun {xs ys} e1 e2 hz z => by
    obtain ⟨a, us, ea, ha, ra⟩ := seqL_sq rp s e1
    obtain ⟨b, ws, eb, hb, rb⟩ := seqL_sq rq s e2
    refine .inr ⟨a, b, us, ws, ea, eb, ha, hb, ?_, fun c hc => keep_l l s (ra.append rb) z hc⟩
    rw [← ra.length, ← rb.length]; exact sz_le hz
  unfold rAdd at r
  split at r
  · have e1 := rel_int.mp rp
    have e2 := rel_int.mp rq
    exact .inl (.inl (.inl ⟨_, _, e1, e2, .inl (l _ _ _ _ r .refl (rel_int.mpr rfl) s)⟩))
  · have e1 := rel_str.mp rp
    have e2 := rel_str.mp rq
    exact .inl (.inl (.inr ⟨_, _, e1, e2, sz_le r.1, .inl (l _ _ _ _ r.2 .refl (rel_str.mpr rfl) s)⟩))
  · rename_i ps qs
    obtain ⟨a, xs, e1, h1, r1⟩ := rel_tup.mp rp
    obtain ⟨b, ys, e2, h2, r2⟩ := rel_tup.mp rq
    obtain ⟨hz, r⟩ := r
    refine .inl (.inr ⟨a, b, xs, ys, e1, e2, h1, h2, by rw [← r1.length, ← r2.length]; exact sz_le hz, fun e => .inl ?_, fun e e' => .inl ?_, fun e e' c hc => .inl (make_t l s (r1.append r2) r hc)⟩)
    · subst e
      have e0 := r1.length
      have e3 : ps = [] := List.length_eq_zero_iff.mp (by rw [e0]; rfl)
      rw [e3, List.nil_append] at r
      exact l _ _ _ _ r .refl (rel_tup.mpr ⟨b, ys, rfl, h2, r2⟩) s
    · subst e'
      have e0 := r2.length
      have e3 : qs = [] := List.length_eq_zero_iff.mp (by rw [e0]; rfl)
      rw [e3, List.append_nil] at r
      exact l _ _ _ _ r .refl (rel_tup.mpr ⟨a, xs, rfl, h1, r1⟩) s
  · split at r
    · rename_i e1 e2
      exact lists e1 e2 r.1 r.2
    · exact r.elim
/-- two ints -/
def rII (C : Int → Int → Prop) (g : Int → Int → Int) : PR2 := fun p q h Q => match p, q with
  | .int i, .int j => C i j ∧ Q (.int (g i j)) h
  | _, _ => False
def rII0 (g : Int → Int → Int) : PR2 := fun p q h Q => match p, q with
  | .int i, .int j => Q (.int (g i j)) h
  | _, _ => False
def rIB (g : Int → Int → Bool) : PR2 := fun p q h Q => match p, q with
  | .int i, .int j => Q (.bl (g i j)) h
  | _, _ => False
theorem kf_ii {K : PySem.W.Frag} {C : Int → Int → Prop} {g : Int → Int → Int} : Kf2 K (rI C fun i j => .int (g i j)) (rII C g) := by
  intro x y H p q h Q' Q rp rq s r l
  unfold rII at r
  split at r
  · exact ⟨_, _, rel_int.mp rp, rel_int.mp rq, r.1, .inl (l _ _ _ _ r.2 .refl (rel_int.mpr rfl) s)⟩
  · exact r.elim
theorem kf_ii0 {K : PySem.W.Frag} {g : Int → Int → Int} : Kf2 K (rI0 fun i j => .int (g i j)) (rII0 g) := by
  intro x y H p q h Q' Q rp rq s r l
  unfold rII0 at r
  split at r
  · exact ⟨_, _, rel_int.mp rp, rel_int.mp rq, .inl (l _ _ _ _ r .refl (rel_int.mpr rfl) s)⟩
  · exact r.elim
theorem lf_ib {K : PySem.W.Frag} {g : Int → Int → Bool} : Lf2 K (rI0 fun i j => .bl (g i j)) (rIB g) := by
  intro x y H p q h Q' Q rp rq s r l
  unfold rIB at r
  split at r
  · exact ⟨_, _, rel_int.mp rp, rel_int.mp rq, l _ _ _ _ r .refl (rel_bl.mpr rfl) s⟩
  · exact r.elim
abbrev rSub : PR2 := rII0 fun i j => i - j
/-- a divisor from 1 to 2^30 - 1 -/
abbrev rDiv : PR2 := rII CDiv fun i j => i / j
abbrev rMod : PR2 := rII (fun _ j => 0 < j) fun i j => i % j
abbrev rPow : PR2 := rII CPow fun i j => i ^ j.toNat
/-- * of ints, of a text and an int -/
def rMul : PR2 := fun p q h Q => match p, q with
  | .int i, .int j => CMul i j ∧ Q (.int (i * j)) h
  | .str x, .int n => n < 16777216 ∧ x.length * n.toNat ≤ SZ ∧ -16777216 ≤ n ∧ Q (.str (S (List.replicate n.toNat (cl x)).flatten)) h
  | .tup xs, .int n => 0 ≤ n ∧ n ≤ 1 ∧ Q (.tup (if n = 1 then xs else [])) h
  | _, _ => False
theorem mul_text (x : Str) (n : Int) : Txt.mul x n = S (List.replicate n.toNat (cl x)).flatten := by
  have key : ∀ (m : Nat) (acc : Array Nat), (List.replicate m x.cps).foldl (· ++ ·) acc = (acc.toList ++ (List.replicate m (cl x)).flatten).toArray := by
    intro m
    induction m with
    | zero => intro acc; simp
    | succ m ih => intro acc; rw [List.replicate_succ, List.foldl_cons, ih, List.replicate_succ, List.flatten_cons]; simp [cl]
  unfold Txt.mul
  by_cases h1 : n < 1
  · rw [if_pos h1, show n.toNat = 0 by omega]; rfl
  · rw [if_neg h1]
    by_cases h2 : (n == 1 || x.length == 0) = true
    · rw [if_pos h2]
      rcases (Bool.or_eq_true _ _).mp h2 with h | h
      · have e : n = 1 := by simpa using h
        subst e
        refine cl_inj ?_
        show cl x = (List.replicate 1 (cl x)).flatten
        simp
      · have e : cl x = [] := by
          have z : x.length = 0 := by simpa using h
          rw [cl_length] at z
          exact List.length_eq_zero_iff.mp z
        refine cl_inj ?_
        show cl x = (List.replicate n.toNat (cl x)).flatten
        rw [e]; simp
    · rw [if_neg h2, key]
      refine cl_inj ?_
      show _ = (List.replicate n.toNat (cl x)).flatten
      simp [cl]
def rMulS : R2 := fun x y H Q => ∃ a n, x = .str a ∧ y = .int n ∧ n < 16777216 ∧ a.length * n.toNat ≤ sizeLine ∧ -16777216 ≤ n ∧ Q (.str (S (List.replicate n.toNat (cl a)).flatten)) H
theorem op_mulS {X : Cx} : OpR X (binaryOp .Mult) rMulS := by
  intro pins s σ H x y v u Q I rx ry h
  obtain ⟨a, n, rfl, rfl, h1, h2, h3, q⟩ := h
  obtain ⟨t, rfl⟩ := rx
  obtain ⟨t', rfl⟩ := ry
  refine SB.mul ⟨?_, fun g1 g2 g3 => ?_, fun g1 g2 => ?_⟩ fun tt k => ?_
  · simp; omega
  · have hn : 1 ≤ n := by omega
    have hs := sz_eq
    have ha : a.length * n.toNat ≤ 16777216 := by rw [← hs]; exact h2
    have hb : a.length ≤ 16777216 := Nat.le_trans (Nat.le_mul_of_pos_right _ (by omega)) ha
    have g4 : (a.length : Int) * n ≤ 16777216 := by
      have e : ((a.length * n.toNat : Nat) : Int) = (a.length : Int) * n := by rw [Int.natCast_mul, Int.toNat_of_nonneg (by omega)]
      rw [← e]; omega
    have g5 : (a.length : Int) ≤ (2 ^ 63 - 1) / n := by
      refine (Int.le_ediv_iff_mul_le (by omega)).mpr ?_
      omega
    omega
  · unfold Builtin.Str.tooLong
    first
      | (have hs := sz_eq; simp; omega)
      | (simp [Builtin.Str.tooLong]; omega)
  · rw [mul_text]
    exact ⟨.str _, H, I.tok _, ⟨_, rfl⟩, q⟩
end N3

namespace N3
open PySem PySem.Spec PyProof.Rows L2

/-! ### == and != -/
/-- what is seen of a value: a list that may change is seen as it stands -/
def vw (h : PH) : PV → PV
  | .ref a => match h a with | some (.lst xs) => .lst xs | some (.dct ks vs) => .dct ks vs | _ => .ref a
  | p => p
def keyD : Key → PyData
  | .inl i => .int i
  | .inr x => .str x
mutual
def toD : PV → PyData
  | .bl b => .bool b
  | .int i => .int i
  | .str x => .str x
  | .tup ps => .tuple (toDs ps)
  | .lst ps => .list (toDs ps)
  | .dct ks vs => .dict ((ks.map keyD).zip (toDs vs))
  | _ => .none
def toDs : List PV → List PyData
  | [] => []
  | p :: ps => toD p :: toDs ps
end
mutual
/-- data without dicts and objects -/
def flat : PV → Bool
  | .non => true
  | .bl _ => true
  | .int _ => true
  | .str _ => true
  | .tup ps => flats ps
  | .lst ps => flats ps
  | _ => false
def flats : List PV → Bool
  | [] => true
  | p :: ps => flat p && flats ps
end
section
variable {K : PySem.W.Frag} {H : Hp}
mutual
theorem Rel.dp : ∀ (p : PV) (v : V), flat p = true → Rel K H p v → Dp K H v (toD p)
  | .non, v, _, r => by rw [rel_non.mp r]; exact .non
  | .bl b, v, _, r => by rw [rel_bl.mp r]; exact .bl b
  | .int i, v, _, r => by rw [rel_int.mp r]; exact .int i
  | .str x, v, _, r => by rw [rel_str.mp r]; exact .str x
  | .tup ps, v, f, r => by
    obtain ⟨a, xs, rfl, h, rr⟩ := rel_tup.mp r
    simp only [flat] at f
    simp only [toD]
    exact .tup h (Rels.dp ps xs f rr)
  | .lst ps, v, f, r => by
    obtain ⟨a, xs, rfl, h, rr⟩ := rel_lst.mp r
    simp only [flat] at f
    simp only [toD]
    exact .lst h.sq (Rels.dp ps xs f rr)
  | .dct _ _, _, f, _ => by simp [flat] at f
  | .ref _, _, f, _ => by simp [flat] at f
  | .ty _, _, f, _ => by simp [flat] at f
theorem Rels.dp : ∀ (ps : List PV) (xs : List V), flats ps = true → Rels K H ps xs → DpAll K H xs (toDs ps)
  | [], _, _, r => by rw [r.len0]; simp only [toDs]; exact .nil
  | p :: ps, _, f, r => by
    obtain ⟨v, vs, rfl, r1, r2⟩ := r.uncons
    simp only [flats, Bool.and_eq_true] at f
    simp only [toDs]
    exact .cons (Rel.dp p v f.1 r1) (Rels.dp ps vs f.2 r2)
end
/-- a list, kept or not, as data -/
theorem vw_dp {h : PH} {p : PV} {v : V} (f : flat (vw h p) = true) (r : Rel K H p v) (s : Sim K H h) : Dp K H v (toD (vw h p)) := by
  cases p with
  | ref a =>
    have ev := rel_ref.mp r
    subst ev
    simp only [vw] at f ⊢
    cases e : h a with
    | none => rw [e] at f; simp [flat] at f
    | some o =>
      simp only [e] at f ⊢
      cases o with
      | lst xs =>
        obtain ⟨u, e1, ys, rfl, rr⟩ := s a _ e
        simp only [flat] at f
        simp only [toD]
        exact .lst (SqL.of e1) (Rels.dp xs ys f rr)
      | dct _ _ => simp [flat] at f
      | ins _ _ _ => simp [flat] at f
      | lck _ _ => simp [flat] at f
  | _ => exact Rel.dp _ _ f r
end
mutual
theorem noDict : ∀ p : PV, flat p = true → (toD p).hasDict = false
  | .non, _ => by simp only [toD, PyData.hasDict]
  | .bl _, _ => by simp only [toD, PyData.hasDict]
  | .int _, _ => by simp only [toD, PyData.hasDict]
  | .str _, _ => by simp only [toD, PyData.hasDict]
  | .tup ps, f => by simp only [toD, PyData.hasDict]; exact noDicts ps (by simpa only [flat] using f)
  | .lst ps, f => by simp only [toD, PyData.hasDict]; exact noDicts ps (by simpa only [flat] using f)
  | .dct _ _, f => by simp [flat] at f
  | .ref _, f => by simp [flat] at f
  | .ty _, f => by simp [flat] at f
theorem noDicts : ∀ ps : List PV, flats ps = true → PyData.hasDictAll (toDs ps) = false
  | [], _ => by simp only [toDs, PyData.hasDictAll]
  | p :: ps, f => by
    simp only [flats, Bool.and_eq_true] at f
    simp only [toDs, PyData.hasDictAll, noDict p f.1, noDicts ps f.2, Bool.or_false]
end
mutual
theorem one_reading {h : Heap} : ∀ (d e : PyData) (v : Value) (as bs : List Addr), d.hasDict = false → e.hasDict = false → Reads h v d as → Reads h v e bs → d = e
  | .none, _, _, _, _, _, _, r, q => by cases r; cases q; rfl
  | .bool _, _, _, _, _, _, _, r, q => by cases r; cases q; rfl
  | .int _, _, _, _, _, _, _, r, q => by cases r; cases q; rfl
  | .str _, _, _, _, _, _, _, r, q => by cases r; cases q; rfl
  | .list xs, _, _, _, _, hd, he, r, q => by
    cases r with
    | list h1 h2 h3 h4 =>
      cases q with
      | list k1 k2 k3 k4 =>
        rw [h1] at k1; cases k1
        rw [h3] at k3; cases k3
        rw [one_readings xs _ _ _ _ (by simpa only [PyData.hasDict] using hd) (by simpa only [PyData.hasDict] using he) h4 k4]
      | tuple k1 k2 k3 k4 => rw [h1] at k1; cases k1; rw [h2] at k2; exact absurd (Value.type.inj k2) (by decide)
      | dict k1 k2 k3 k4 k5 => rw [h1] at k1; cases k1; rw [h2] at k2; exact absurd (Value.type.inj k2) (by decide)
  | .tuple xs, _, _, _, _, hd, he, r, q => by
    cases r with
    | tuple h1 h2 h3 h4 =>
      cases q with
      | tuple k1 k2 k3 k4 =>
        rw [h1] at k1; cases k1
        rw [h3] at k3; cases k3
        rw [one_readings xs _ _ _ _ (by simpa only [PyData.hasDict] using hd) (by simpa only [PyData.hasDict] using he) h4 k4]
      | list k1 k2 k3 k4 => rw [h1] at k1; cases k1; rw [h2] at k2; exact absurd (Value.type.inj k2) (by decide)
      | dict k1 k2 k3 k4 k5 => rw [h1] at k1; cases k1; rw [h2] at k2; exact absurd (Value.type.inj k2) (by decide)
  | .dict _, _, _, _, _, hd, _, _, _ => by simp [PyData.hasDict] at hd
theorem one_readings {h : Heap} : ∀ (ds es : List PyData) (vs : List Value) (as bs : List Addr), PyData.hasDictAll ds = false → PyData.hasDictAll es = false → ReadsAll h vs ds as → ReadsAll h vs es bs → ds = es
  | [], _, _, _, _, _, _, r, q => by cases r; cases q; rfl
  | d :: ds, _, _, _, _, hd, he, r, q => by
    cases r with
    | cons r1 r2 =>
      cases q with
      | cons q1 q2 =>
        simp only [PyData.hasDictAll, Bool.or_eq_false_iff] at hd he
        rw [one_reading d _ _ _ _ hd.1 he.1 r1 q1, one_readings ds _ _ _ _ hd.2 he.2 r2 q2]
end
mutual
theorem eqv_self : ∀ d : PyData, d.hasDict = false → PyData.eqv d d = true
  | .none, _ => rfl
  | .bool b, _ => by simp [PyData.eqv]
  | .int i, _ => by simp [PyData.eqv]
  | .str x, _ => by simp [PyData.eqv]
  | .list xs, h => by rw [PyData.eqv]; exact eqvs_self xs (by simpa only [PyData.hasDict] using h)
  | .tuple xs, h => by rw [PyData.eqv]; exact eqvs_self xs (by simpa only [PyData.hasDict] using h)
  | .dict _, h => by simp [PyData.hasDict] at h
theorem eqvs_self : ∀ xs : List PyData, PyData.hasDictAll xs = false → PyData.eqvAll xs xs = true
  | [], _ => rfl
  | x :: xs, h => by
    simp only [PyData.hasDictAll, Bool.or_eq_false_iff] at h
    rw [PyData.eqvAll, eqv_self x h.1, eqvs_self xs h.2]; rfl
end
section
open SeqAt
mutual
theorem eqR : ∀ (d e : PyData) (A : Around) (s : Shared) (v u : Value) (as bs : List Addr), A.units + d.depth < cLine → Reads s.heap v d as → d.hasDict = false → Reads s.heap u e bs → e.hasDict = false → EqAt A s v u (PyData.eqv d e)
  | .none, _, A, s, _, _, _, _, hu, ra, _, rb, hb => by
    cases ra
    cases rb with
    | list k1 k2 k3 k4 => exact EqAt.none_list ⟨_, k1, k2, _, k3⟩ (by omega)
    | tuple k1 k2 k3 k4 => exact EqAt.none_tuple ⟨_, k1, k2, _, k3⟩ (by omega)
    | dict k1 k2 k3 k4 k5 => simp [PyData.hasDict] at hb
    | none => exact EqAt.same Value.none
    | bool y => exact EqAt.none_bool y
    | int y w => exact EqAt.none_int y w
    | str y w => exact EqAt.none_str y w
  | .bool x, _, A, s, _, _, _, _, hu, ra, _, rb, hb => by
    cases ra
    cases rb with
    | list k1 k2 k3 k4 => exact EqAt.bool_list x ⟨_, k1, k2, _, k3⟩ (by omega)
    | tuple k1 k2 k3 k4 => exact EqAt.bool_tuple x ⟨_, k1, k2, _, k3⟩ (by omega)
    | dict k1 k2 k3 k4 k5 => simp [PyData.hasDict] at hb
    | none => exact EqAt.bool_none x
    | bool y => exact EqAt.bool_bool x y
    | int y w => exact EqAt.bool_int x y w
    | str y w => exact EqAt.bool_str x y w
  | .int x, _, A, s, _, _, _, _, hu, ra, _, rb, hb => by
    cases ra
    cases rb with
    | list k1 k2 k3 k4 => exact EqAt.int_list x _ ⟨_, k1, k2, _, k3⟩ (by omega)
    | tuple k1 k2 k3 k4 => exact EqAt.int_tuple x _ ⟨_, k1, k2, _, k3⟩ (by omega)
    | dict k1 k2 k3 k4 k5 => simp [PyData.hasDict] at hb
    | none => exact EqAt.int_none x _
    | bool y => exact EqAt.int_bool x _ y
    | int y w => exact EqAt.int_int x _ y w
    | str y w => exact EqAt.int_str x _ y w
  | .str x, _, A, s, _, _, _, _, hu, ra, _, rb, hb => by
    cases ra
    cases rb with
    | list k1 k2 k3 k4 => exact EqAt.str_list x _ ⟨_, k1, k2, _, k3⟩ (by omega)
    | tuple k1 k2 k3 k4 => exact EqAt.str_tuple x _ ⟨_, k1, k2, _, k3⟩ (by omega)
    | dict k1 k2 k3 k4 k5 => simp [PyData.hasDict] at hb
    | none => exact EqAt.str_none x _
    | bool y => exact EqAt.str_bool x _ y
    | int y w => exact EqAt.str_int x _ y w
    | str y w => exact EqAt.str_str x _ y w
  | .list xs, _, A, s, _, _, _, _, hu, ra, ha, rb, hb => by
    cases ra with
    | @list l o vs n _ a1 h1 h2 h3 h4 =>
      have hl : s.heap.IsList l vs := ⟨_, h1, h2, _, h3⟩
      simp only [PyData.depth] at hu
      simp only [PyData.hasDict] at ha
      cases rb with
      | @list l' o' vs' n' ys b1 k1 k2 k3 k4 =>
        have hl' : s.heap.IsList l' vs' := ⟨_, k1, k2, _, k3⟩
        simp only [PyData.hasDict] at hb
        have n1 : vs.size = xs.length := by simpa using ReadsAll.length _ _ _ h4
        have n2 : vs'.size = ys.length := by simpa using ReadsAll.length _ _ _ k4
        show EqAt A s (.ref l) (.ref l') (PyData.eqvAll xs ys)
        by_cases hll : l = l'
        · subst hll
          rw [h1] at k1; cases k1
          rw [h3] at k3; cases k3
          rw [← one_readings xs ys _ _ _ ha hb h4 k4, eqvs_self xs ha]
          exact EqAt.same _
        · by_cases hsz : vs.size = vs'.size
          · rw [← eqvAll_same_length (by omega : xs.length = ys.length), ← n1]
            refine EqAt.of_refs hll (RcAt.lists hl hl' hsz (by omega) fun j j1 j2 => ?_)
            have := eqRs xs ys A.in1 s vs.toList vs'.toList _ _ (by show A.units + 1 + _ < _; omega) h4 ha k4 hb j (by simpa using j1) (by simpa using j2)
            simpa using this
          · rw [eqvAll_other_length (by omega : xs.length ≠ ys.length)]
            exact EqAt.of_refs hll (RcAt.lists_lengths hl hl' (by simpa using hsz) (by omega))
      | tuple k1 k2 k3 k4 => exact EqAt.list_tuple hl ⟨_, k1, k2, _, k3⟩ (by omega)
      | dict k1 k2 k3 k4 k5 => simp [PyData.hasDict] at hb
      | none => exact EqAt.list_none hl (by omega)
      | bool y => exact EqAt.list_bool y hl (by omega)
      | int y w => exact EqAt.list_int y w hl (by omega)
      | str y w => exact EqAt.list_str y w hl (by omega)
  | .tuple xs, _, A, s, _, _, _, _, hu, ra, ha, rb, hb => by
    cases ra with
    | @tuple l o vs n _ a1 h1 h2 h3 h4 =>
      have hl : s.heap.IsTuple l vs := ⟨_, h1, h2, _, h3⟩
      simp only [PyData.depth] at hu
      simp only [PyData.hasDict] at ha
      cases rb with
      | @tuple l' o' vs' n' ys b1 k1 k2 k3 k4 =>
        have hl' : s.heap.IsTuple l' vs' := ⟨_, k1, k2, _, k3⟩
        simp only [PyData.hasDict] at hb
        have n1 : vs.size = xs.length := by simpa using ReadsAll.length _ _ _ h4
        have n2 : vs'.size = ys.length := by simpa using ReadsAll.length _ _ _ k4
        show EqAt A s (.ref l) (.ref l') (PyData.eqvAll xs ys)
        by_cases hll : l = l'
        · subst hll
          rw [h1] at k1; cases k1
          rw [h3] at k3; cases k3
          rw [← one_readings xs ys _ _ _ ha hb h4 k4, eqvs_self xs ha]
          exact EqAt.same _
        · rw [← eqvAll_eq xs ys, ← n1, ← n2]
          refine EqAt.of_refs hll (RcAt.tuples hl hl' (by omega) fun j j1 j2 => ?_)
          have := eqRs xs ys A.in1 s vs.toList vs'.toList _ _ (by show A.units + 1 + _ < _; omega) h4 ha k4 hb j (by simpa using j1) (by simpa using j2)
          simpa using this
      | list k1 k2 k3 k4 => exact EqAt.tuple_list hl ⟨_, k1, k2, _, k3⟩ (by omega)
      | dict k1 k2 k3 k4 k5 => simp [PyData.hasDict] at hb
      | none => exact EqAt.tuple_none hl (by omega)
      | bool y => exact EqAt.tuple_bool y hl (by omega)
      | int y w => exact EqAt.tuple_int y w hl (by omega)
      | str y w => exact EqAt.tuple_str y w hl (by omega)
  | .dict _, _, _, _, _, _, _, _, _, _, ha, _, _ => by simp [PyData.hasDict] at ha
theorem eqRs : ∀ (xs ys : List PyData) (A : Around) (s : Shared) (vs ws : List Value) (as bs : List Addr), A.units + PyData.depthAll xs < cLine → ReadsAll s.heap vs xs as → PyData.hasDictAll xs = false → ReadsAll s.heap ws ys bs → PyData.hasDictAll ys = false →
    ∀ j (h1 : j < vs.length) (h2 : j < ws.length), EqAt A s vs[j] ws[j] (pairEq xs ys j)
  | [], _, _, _, _, _, _, _, _, ra, _, _, _, j, h1, _ => by cases ra; exact absurd h1 (Nat.not_lt_zero _)
  | _ :: _, [], _, _, _, _, _, _, _, _, _, rb, _, j, _, h2 => by cases rb; exact absurd h2 (Nat.not_lt_zero _)
  | x :: xs, y :: ys, A, s, _, _, _, _, hu, ra, ha, rb, hb, j, h1, h2 => by
    simp only [PyData.hasDictAll, Bool.or_eq_false_iff] at ha hb
    simp only [PyData.depthAll] at hu
    have u1 : A.units + x.depth < cLine := Nat.lt_of_le_of_lt (Nat.add_le_add_left (Nat.le_max_left _ _) _) hu
    have u2 : A.units + PyData.depthAll xs < cLine := Nat.lt_of_le_of_lt (Nat.add_le_add_left (Nat.le_max_right _ _) _) hu
    cases ra with
    | cons r rs =>
      cases rb with
      | cons r' rs' =>
        cases j with
        | zero => exact eqR x y A s _ _ _ _ u1 r ha.1 r' hb.1
        | succ j => exact eqRs xs ys A s _ _ _ _ u2 rs ha.2 rs' hb.2 j (by simpa using h1) (by simpa using h2)
end
end
section
open SeqAt
theorem rcR (d e : PyData) (A : Around) (s : Shared) (v u : Value) (as bs : List Addr) (hu : A.units + d.depth < cLine) (ra : Reads s.heap v d as) (ha : d.hasDict = false) (rb : Reads s.heap u e bs) (hb : e.hasDict = false) : RcAt A s v u (PyData.eqv d e) := by
  cases ra with
  | none =>
    cases rb with
    | none => exact RcAt.none_none
    | bool y => exact RcAt.none_bool y
    | int y w => exact RcAt.none_int y w
    | str y w => exact RcAt.none_str y w
    | list k1 k2 k3 k4 => exact RcAt.none_list ⟨_, k1, k2, _, k3⟩ (by omega)
    | tuple k1 k2 k3 k4 => exact RcAt.none_tuple ⟨_, k1, k2, _, k3⟩ (by omega)
    | dict k1 k2 k3 k4 k5 => simp [PyData.hasDict] at hb
  | bool x =>
    cases rb with
    | none => exact RcAt.bool_none x
    | bool y => exact RcAt.bool_bool x y
    | int y w => exact RcAt.bool_int x y w
    | str y w => exact RcAt.bool_str x y w
    | list k1 k2 k3 k4 => exact RcAt.bool_list x ⟨_, k1, k2, _, k3⟩ (by omega)
    | tuple k1 k2 k3 k4 => exact RcAt.bool_tuple x ⟨_, k1, k2, _, k3⟩ (by omega)
    | dict k1 k2 k3 k4 k5 => simp [PyData.hasDict] at hb
  | int x t =>
    cases rb with
    | none => exact RcAt.int_none x t
    | bool y => exact RcAt.int_bool x t y
    | int y w => exact RcAt.int_int x t y w
    | str y w => exact RcAt.int_str x t y w
    | list k1 k2 k3 k4 => exact RcAt.int_list x t ⟨_, k1, k2, _, k3⟩ (by omega)
    | tuple k1 k2 k3 k4 => exact RcAt.int_tuple x t ⟨_, k1, k2, _, k3⟩ (by omega)
    | dict k1 k2 k3 k4 k5 => simp [PyData.hasDict] at hb
  | str x t =>
    cases rb with
    | none => exact RcAt.str_none x t
    | bool y => exact RcAt.str_bool x t y
    | int y w => exact RcAt.str_int x t y w
    | str y w => exact RcAt.str_str x t y w
    | list k1 k2 k3 k4 => exact RcAt.str_list x t ⟨_, k1, k2, _, k3⟩ (by omega)
    | tuple k1 k2 k3 k4 => exact RcAt.str_tuple x t ⟨_, k1, k2, _, k3⟩ (by omega)
    | dict k1 k2 k3 k4 k5 => simp [PyData.hasDict] at hb
  | @list l o vs n xs a1 h1 h2 h3 h4 =>
    have hl : s.heap.IsList l vs := ⟨_, h1, h2, _, h3⟩
    simp only [PyData.depth] at hu
    simp only [PyData.hasDict] at ha
    cases rb with
    | none => exact RcAt.list_none hl (by omega)
    | bool y => exact RcAt.list_bool y hl (by omega)
    | int y w => exact RcAt.list_int y w hl (by omega)
    | str y w => exact RcAt.list_str y w hl (by omega)
    | tuple k1 k2 k3 k4 => exact RcAt.list_tuple hl ⟨_, k1, k2, _, k3⟩ (by omega)
    | dict k1 k2 k3 k4 k5 => simp [PyData.hasDict] at hb
    | @list l' o' vs' n' ys b1 k1 k2 k3 k4 =>
      have hl' : s.heap.IsList l' vs' := ⟨_, k1, k2, _, k3⟩
      simp only [PyData.hasDict] at hb
      have n1 : vs.size = xs.length := by simpa using ReadsAll.length _ _ _ h4
      have n2 : vs'.size = ys.length := by simpa using ReadsAll.length _ _ _ k4
      have he : ∀ j (j1 : j < vs.size) (j2 : j < vs'.size), EqAt A.in1 s vs[j] vs'[j] (pairEq xs ys j) := fun j j1 j2 => by
        have z := eqRs xs ys A.in1 s vs.toList vs'.toList _ _ (by show A.units + 1 + _ < _; omega) h4 ha k4 hb j (by simpa using j1) (by simpa using j2)
        simpa using z
      show RcAt A s (.ref l) (.ref l') (PyData.eqvAll xs ys)
      by_cases hsz : vs.size = vs'.size
      · rw [← eqvAll_same_length (by omega : xs.length = ys.length), ← n1]
        exact RcAt.lists hl hl' hsz (by omega) he
      · rw [eqvAll_other_length (by omega : xs.length ≠ ys.length)]
        exact RcAt.lists_lengths hl hl' (by simpa using hsz) (by omega)
  | @tuple l o vs n xs a1 h1 h2 h3 h4 =>
    have hl : s.heap.IsTuple l vs := ⟨_, h1, h2, _, h3⟩
    simp only [PyData.depth] at hu
    simp only [PyData.hasDict] at ha
    cases rb with
    | none => exact RcAt.tuple_none hl (by omega)
    | bool y => exact RcAt.tuple_bool y hl (by omega)
    | int y w => exact RcAt.tuple_int y w hl (by omega)
    | str y w => exact RcAt.tuple_str y w hl (by omega)
    | list k1 k2 k3 k4 => exact RcAt.tuple_list hl ⟨_, k1, k2, _, k3⟩ (by omega)
    | dict k1 k2 k3 k4 k5 => simp [PyData.hasDict] at hb
    | @tuple l' o' vs' n' ys b1 k1 k2 k3 k4 =>
      have hl' : s.heap.IsTuple l' vs' := ⟨_, k1, k2, _, k3⟩
      simp only [PyData.hasDict] at hb
      have n1 : vs.size = xs.length := by simpa using ReadsAll.length _ _ _ h4
      have n2 : vs'.size = ys.length := by simpa using ReadsAll.length _ _ _ k4
      have he : ∀ j (j1 : j < vs.size) (j2 : j < vs'.size), EqAt A.in1 s vs[j] vs'[j] (pairEq xs ys j) := fun j j1 j2 => by
        have z := eqRs xs ys A.in1 s vs.toList vs'.toList _ _ (by show A.units + 1 + _ < _; omega) h4 ha k4 hb j (by simpa using j1) (by simpa using j2)
        simpa using z
      show RcAt A s (.ref l) (.ref l') (PyData.eqvAll xs ys)
      rw [← eqvAll_eq xs ys, ← n1, ← n2]
      exact RcAt.tuples hl hl' (by omega) he
  | dict k1 k2 k3 k4 k5 => simp [PyData.hasDict] at ha
theorem neR (d e : PyData) (A : Around) (s : Shared) (v u : Value) (as bs : List Addr) (hu : A.units + d.depth < cLine) (ra : Reads s.heap v d as) (ha : d.hasDict = false) (rb : Reads s.heap u e bs) (hb : e.hasDict = false) : RcNeAt A s v u (!PyData.eqv d e) := by
  cases ra with
  | none =>
    cases rb with
    | none => exact RcNeAt.none_none
    | bool y => exact RcNeAt.none_bool y
    | int y w => exact RcNeAt.none_int y w
    | str y w => exact RcNeAt.none_str y w
    | list k1 k2 k3 k4 => exact RcNeAt.none_list ⟨_, k1, k2, _, k3⟩ (by omega)
    | tuple k1 k2 k3 k4 => exact RcNeAt.none_tuple ⟨_, k1, k2, _, k3⟩ (by omega)
    | dict k1 k2 k3 k4 k5 => simp [PyData.hasDict] at hb
  | bool x =>
    cases rb with
    | none => exact RcNeAt.bool_none x
    | bool y => exact RcNeAt.bool_bool x y
    | int y w => exact RcNeAt.bool_int x y w
    | str y w => exact RcNeAt.bool_str x y w
    | list k1 k2 k3 k4 => exact RcNeAt.bool_list x ⟨_, k1, k2, _, k3⟩ (by omega)
    | tuple k1 k2 k3 k4 => exact RcNeAt.bool_tuple x ⟨_, k1, k2, _, k3⟩ (by omega)
    | dict k1 k2 k3 k4 k5 => simp [PyData.hasDict] at hb
  | int x t =>
    cases rb with
    | none => exact RcNeAt.int_none x t
    | bool y => exact RcNeAt.int_bool x t y
    | int y w => exact RcNeAt.int_int x t y w
    | str y w => exact RcNeAt.int_str x t y w
    | list k1 k2 k3 k4 => exact RcNeAt.int_list x t ⟨_, k1, k2, _, k3⟩ (by omega)
    | tuple k1 k2 k3 k4 => exact RcNeAt.int_tuple x t ⟨_, k1, k2, _, k3⟩ (by omega)
    | dict k1 k2 k3 k4 k5 => simp [PyData.hasDict] at hb
  | str x t =>
    cases rb with
    | none => exact RcNeAt.str_none x t
    | bool y => exact RcNeAt.str_bool x t y
    | int y w => exact RcNeAt.str_int x t y w
    | str y w => exact RcNeAt.str_str x t y w
    | list k1 k2 k3 k4 => exact RcNeAt.str_list x t ⟨_, k1, k2, _, k3⟩ (by omega)
    | tuple k1 k2 k3 k4 => exact RcNeAt.str_tuple x t ⟨_, k1, k2, _, k3⟩ (by omega)
    | dict k1 k2 k3 k4 k5 => simp [PyData.hasDict] at hb
  | @list l o vs n xs a1 h1 h2 h3 h4 =>
    have hl : s.heap.IsList l vs := ⟨_, h1, h2, _, h3⟩
    simp only [PyData.depth] at hu
    simp only [PyData.hasDict] at ha
    cases rb with
    | none => exact RcNeAt.list_none hl (by omega)
    | bool y => exact RcNeAt.list_bool y hl (by omega)
    | int y w => exact RcNeAt.list_int y w hl (by omega)
    | str y w => exact RcNeAt.list_str y w hl (by omega)
    | tuple k1 k2 k3 k4 => exact RcNeAt.list_tuple hl ⟨_, k1, k2, _, k3⟩ (by omega)
    | dict k1 k2 k3 k4 k5 => simp [PyData.hasDict] at hb
    | @list l' o' vs' n' ys b1 k1 k2 k3 k4 =>
      have hl' : s.heap.IsList l' vs' := ⟨_, k1, k2, _, k3⟩
      simp only [PyData.hasDict] at hb
      have n1 : vs.size = xs.length := by simpa using ReadsAll.length _ _ _ h4
      have n2 : vs'.size = ys.length := by simpa using ReadsAll.length _ _ _ k4
      have he : ∀ j (j1 : j < vs.size) (j2 : j < vs'.size), EqAt A.in1 s vs[j] vs'[j] (pairEq xs ys j) := fun j j1 j2 => by
        have z := eqRs xs ys A.in1 s vs.toList vs'.toList _ _ (by show A.units + 1 + _ < _; omega) h4 ha k4 hb j (by simpa using j1) (by simpa using j2)
        simpa using z
      show RcNeAt A s (.ref l) (.ref l') (!PyData.eqvAll xs ys)
      by_cases hsz : vs.size = vs'.size
      · rw [← eqvAll_same_length (by omega : xs.length = ys.length), ← n1]
        exact RcNeAt.lists hl hl' hsz (by omega) he
      · rw [eqvAll_other_length (by omega : xs.length ≠ ys.length)]
        exact RcNeAt.lists_lengths hl hl' (by simpa using hsz) (by omega)
  | @tuple l o vs n xs a1 h1 h2 h3 h4 =>
    have hl : s.heap.IsTuple l vs := ⟨_, h1, h2, _, h3⟩
    simp only [PyData.depth] at hu
    simp only [PyData.hasDict] at ha
    cases rb with
    | none => exact RcNeAt.tuple_none hl (by omega)
    | bool y => exact RcNeAt.tuple_bool y hl (by omega)
    | int y w => exact RcNeAt.tuple_int y w hl (by omega)
    | str y w => exact RcNeAt.tuple_str y w hl (by omega)
    | list k1 k2 k3 k4 => exact RcNeAt.tuple_list hl ⟨_, k1, k2, _, k3⟩ (by omega)
    | dict k1 k2 k3 k4 k5 => simp [PyData.hasDict] at hb
    | @tuple l' o' vs' n' ys b1 k1 k2 k3 k4 =>
      have hl' : s.heap.IsTuple l' vs' := ⟨_, k1, k2, _, k3⟩
      simp only [PyData.hasDict] at hb
      have n1 : vs.size = xs.length := by simpa using ReadsAll.length _ _ _ h4
      have n2 : vs'.size = ys.length := by simpa using ReadsAll.length _ _ _ k4
      have he : ∀ j (j1 : j < vs.size) (j2 : j < vs'.size), EqAt A.in1 s vs[j] vs'[j] (pairEq xs ys j) := fun j j1 j2 => by
        have z := eqRs xs ys A.in1 s vs.toList vs'.toList _ _ (by show A.units + 1 + _ < _; omega) h4 ha k4 hb j (by simpa using j1) (by simpa using j2)
        simpa using z
      show RcNeAt A s (.ref l) (.ref l') (!PyData.eqvAll xs ys)
      rw [← eqvAll_eq xs ys, ← n1, ← n2]
      exact RcNeAt.tuples hl hl' (by omega) he
  | dict k1 k2 k3 k4 k5 => simp [PyData.hasDict] at ha
end

/-- == and != of data -/
def rEq : PR2 := fun p q h Q => flat (vw h p) = true ∧ flat (vw h q) = true ∧ (toD (vw h p)).depth ≤ 64 ∧ Q (.bl (PyData.eqv (toD (vw h p)) (toD (vw h q)))) h
def rNe : PR2 := fun p q h Q => flat (vw h p) = true ∧ flat (vw h q) = true ∧ (toD (vw h p)).depth ≤ 64 ∧ Q (.bl (!PyData.eqv (toD (vw h p)) (toD (vw h q)))) h
def oEq (K : PySem.W.Frag) : R2 := fun x y H Q => ∃ d e, Dp K H x d ∧ Dp K H y e ∧ d.hasDict = false ∧ e.hasDict = false ∧ d.depth ≤ 64 ∧ Q (.bl (PyData.eqv d e)) H
def oNe (K : PySem.W.Frag) : R2 := fun x y H Q => ∃ d e, Dp K H x d ∧ Dp K H y e ∧ d.hasDict = false ∧ e.hasDict = false ∧ d.depth ≤ 64 ∧ Q (.bl (!PyData.eqv d e)) H
theorem op_eqA {X : Cx} (hu : X.A.units + 64 < cLine) : OpR X (compareOp .Eq) (oEq X.K) := by
  intro pins s σ H x y v u Q I rx ry h
  obtain ⟨d, e, hd, he, fd, fe, hz, q⟩ := h
  obtain ⟨as, r1⟩ := Dp.reads I d x v hd rx
  obtain ⟨bs, r2⟩ := Dp.reads I e y u he ry
  exact rcR d e X.A s v u as bs (by omega) r1 fd r2 fe X.prog X.w X.xe _ ⟨.bl _, H, I, rfl, q⟩
theorem op_neA {X : Cx} (hu : X.A.units + 64 < cLine) : OpR X (compareOp .NotEq) (oNe X.K) := by
  intro pins s σ H x y v u Q I rx ry h
  obtain ⟨d, e, hd, he, fd, fe, hz, q⟩ := h
  obtain ⟨as, r1⟩ := Dp.reads I d x v hd rx
  obtain ⟨bs, r2⟩ := Dp.reads I e y u he ry
  exact neR d e X.A s v u as bs (by omega) r1 fd r2 fe X.prog X.w X.xe _ ⟨.bl _, H, I, rfl, q⟩
theorem lf_eq {K : PySem.W.Frag} : Lf2 K (oEq K) rEq := by
  intro x y H p q h Q' Q rp rq s r l
  obtain ⟨f1, f2, hz, r⟩ := r
  exact ⟨_, _, vw_dp f1 rp s, vw_dp f2 rq s, noDict _ f1, noDict _ f2, hz, l _ _ _ _ r .refl (rel_bl.mpr rfl) s⟩
theorem lf_ne {K : PySem.W.Frag} : Lf2 K (oNe K) rNe := by
  intro x y H p q h Q' Q rp rq s r l
  obtain ⟨f1, f2, hz, r⟩ := r
  exact ⟨_, _, vw_dp f1 rp s, vw_dp f2 rq s, noDict _ f1, noDict _ f2, hz, l _ _ _ _ r .refl (rel_bl.mpr rfl) s⟩
end N3

namespace N3
open PySem PySem.Spec PyProof.Rows L2

/-! ### dicts by their keys -/
def lk : List Key → List PV → Key → Option PV
  | k' :: ks, v :: vs, k => if k' = k then some v else lk ks vs k
  | _, _, _ => none
def hasK (ks : List Key) (k : Key) : Bool := ks.any fun k' => decide (k' = k)
def pk (ks : List Key) (k : Key) : List Key := if hasK ks k = true then ks else ks ++ [k]
def pvs (ks : List Key) (vs : List PV) (k : Key) (v : PV) : List PV := if hasK ks k = true then List.zipWith (fun k' x => if k' = k then v else x) ks vs else vs ++ [v]
def kOf : PV → Option Key
  | .int i => some (.inl i)
  | .str x => some (.inr x)
  | _ => none
theorem kOf_rel {K : PySem.W.Frag} {H : Hp} {p : PV} {v : V} {k : Key} (r : Rel K H p v) (e : kOf p = some k) : v = kV k := by
  cases p with
  | int i => simp only [kOf, Option.some.injEq] at e; subst e; exact rel_int.mp r
  | str i => simp only [kOf, Option.some.injEq] at e; subst e; exact rel_str.mp r
  | _ => simp [kOf] at e
theorem lk_val {K : PySem.W.Frag} {H : Hp} : ∀ {kvs : List (Key × V)} {vs : List PV} (k : Key), Rels K H vs (kvs.map (·.2)) →
    (match lk (kvs.map (·.1)) vs k with | some p => ∃ v, valV kvs k = some v ∧ Rel K H p v | none => valV kvs k = none)
  | [], vs, k, r => by cases vs <;> simp [lk, valV]
  | (k', x) :: kvs, [], k, r => by
    have := r.length
    simp at this
  | (k', x) :: kvs, v :: vs, k, r => by
    obtain ⟨w, ws, e, r1, r2⟩ := r.uncons
    simp only [List.map_cons, List.cons.injEq] at e
    obtain ⟨rfl, rfl⟩ := e
    simp only [List.map_cons, lk]
    by_cases h : k' = k
    · rw [if_pos h]; exact ⟨x, valV_pos h, r1⟩
    · rw [if_neg h, valV_neg (p := (k', x)) h]; exact lk_val k r2
theorem put_rel {K : PySem.W.Frag} {H : Hp} {kvs : List (Key × V)} {vs : List PV} {k : Key} {p : PV} {v : V} (r : Rels K H vs (kvs.map (·.2))) (rp : Rel K H p v) :
    pk (kvs.map (·.1)) k = (putK kvs k v).map (·.1) ∧ Rels K H (pvs (kvs.map (·.1)) vs k p) ((putK kvs k v).map (·.2)) := by
  have hm : (kvs.any fun kv => decide (kv.1 = k)) = hasK (kvs.map (·.1)) k := by
    unfold hasK; rw [List.any_map]; rfl
  unfold putK pk pvs
  rw [hm]
  by_cases h : hasK (kvs.map (·.1)) k = true
  · rw [if_pos h, if_pos h, if_pos h]
    refine ⟨?_, ?_⟩
    · rw [List.map_map]
      refine List.map_congr_left fun x _ => ?_
      show x.1 = (if x.1 = k then (x.1, v) else x).1
      split <;> rfl
    · clear h hm
      induction kvs generalizing vs with
      | nil => cases vs with
        | nil => exact .nil
        | cons _ _ => have := r.length; simp at this
      | cons kv kvs ih =>
        cases vs with
        | nil => have := r.length; simp at this
        | cons q vs =>
          obtain ⟨w, ws, e, r1, r2⟩ := r.uncons
          simp only [List.map_cons, List.cons.injEq] at e
          obtain ⟨rfl, rfl⟩ := e
          simp only [List.map_cons, List.zipWith_cons_cons]
          refine .cons ?_ (ih r2)
          by_cases hk : kv.1 = k
          · rw [if_pos hk, if_pos hk]; exact rp
          · rw [if_neg hk, if_neg hk]; exact r1
  · rw [if_neg h, if_neg h, if_neg h]
    refine ⟨by simp, ?_⟩
    rw [List.map_append]
    exact r.append (.cons rp .nil)

/-! ### is None, len, places -/
def isNon : PV → Bool
  | .non => true
  | _ => false
theorem isNon_rel {K : PySem.W.Frag} {H : Hp} {p : PV} {v : V} (r : Rel K H p v) : decide (v = .non) = isNon p := by
  cases p with
  | non => rw [rel_non.mp r]; rfl
  | bl b => rw [rel_bl.mp r]; rfl
  | int b => rw [rel_int.mp r]; rfl
  | str b => rw [rel_str.mp r]; rfl
  | tup ps => obtain ⟨a, xs, rfl, _⟩ := rel_tup.mp r; rfl
  | lst ps => obtain ⟨a, xs, rfl, _⟩ := rel_lst.mp r; rfl
  | dct ks vs => obtain ⟨a, xs, rfl, _⟩ := rel_dct.mp r; rfl
  | ref a => rw [rel_ref.mp r]; rfl
  | ty n => have e : v = .ty n := by simpa only [Rel] using r
            rw [e]; rfl
def rIsN : PR2 := fun p q h Q => match q with | .non => Q (.bl (isNon p)) h | _ => False
def rNotN : PR2 := fun p q h Q => match q with | .non => Q (.bl (!isNon p)) h | _ => False
theorem lf_isN {K : PySem.W.Frag} : Lf2 K (fun x y H Q => y = .non ∧ Q (.bl (decide (x = .non))) H) rIsN := by
  intro x y H p q h Q' Q rp rq s r l
  unfold rIsN at r
  split at r
  · exact ⟨rel_non.mp rq, by rw [isNon_rel rp]; exact l _ _ _ _ r .refl (rel_bl.mpr rfl) s⟩
  · exact r.elim
theorem lf_notN {K : PySem.W.Frag} : Lf2 K (fun x y H Q => y = .non ∧ Q (.bl (!decide (x = .non))) H) rNotN := by
  intro x y H p q h Q' Q rp rq s r l
  unfold rNotN at r
  split at r
  · exact ⟨rel_non.mp rq, by rw [isNon_rel rp]; exact l _ _ _ _ r .refl (rel_bl.mpr rfl) s⟩
  · exact r.elim
def rLen : PRA := fun ps h Q => match ps with
  | [.str x] => x.length ≤ SZ ∧ Q (.int (x.length : Nat)) h
  | [.tup xs] => Q (.int (xs.length : Nat)) h
  | [p] => (match seqL h p with | some xs => Q (.int (xs.length : Nat)) h | none => False)
  | _ => False
theorem lf_len {K : PySem.W.Frag} : LfA K (fun xs H Q => ∃ x n, xs = [x] ∧ LenV K x H n ∧ Q (.int n) H) rLen := by
  intro xs H ps h Q' Q rp s r l
  unfold rLen at r
  split at r
  · obtain ⟨v, rfl, r1⟩ := rp.one
    have e := rel_str.mp r1
    subst e
    exact ⟨_, _, rfl, ⟨sz_le r.1, rfl⟩, l _ _ _ _ r.2 .refl (rel_int.mpr rfl) s⟩
  · obtain ⟨v, rfl, r1⟩ := rp.one
    obtain ⟨a, ys, rfl, hq, rr⟩ := rel_tup.mp r1
    exact ⟨_, _, rfl, .inr ⟨ys, hq, rfl⟩, by rw [← rr.length]; exact l _ _ _ _ r .refl (rel_int.mpr rfl) s⟩
  · obtain ⟨v, rfl, r1⟩ := rp.one
    split at r
    · rename_i e
      obtain ⟨a, ys, rfl, hq, rr⟩ := seqL_sq r1 s e
      exact ⟨_, _, rfl, .inl ⟨ys, hq, rfl⟩, by rw [← rr.length]; exact l _ _ _ _ r .refl (rel_int.mpr rfl) s⟩
    · exact r.elim
  · exact r.elim
theorem atI_rel {K : PySem.W.Frag} {H : Hp} {ps : List PV} {xs : List V} {i : Int} {p : PV} (r : Rels K H ps xs) (e : atI ps i = some p) : ∃ v, atI xs i = some v ∧ Rel K H p v := by
  unfold atI at e ⊢
  rw [← r.length]
  cases h : ixN ps.length i with
  | none => rw [h] at e; cases e
  | some j =>
    rw [h] at e
    exact r.get e
/-- a dict's item -/
def ixD (K : PySem.W.Frag) : R2 := fun x y H Q => ∃ a v, x = .ref a ∧ DGet H a y (some v) ∧ Q v H
theorem ix_dict {X : Cx} (hu : X.A.units + 1 < cLine) : IxR X (ixD X.K) := by
  intro value slice pins s σ H x y v u Q I rx ry h hs
  obtain ⟨a, w, rfl, g, q⟩ := h
  obtain rfl : v = Value.ref a := rx
  exact tail_any (dict_typeIs I g) PySem.F.slot_dict_getitem.lookup (d_getItem hu I g ry fun w' s3 I3 rw' => ⟨w, H, I3, rw', q⟩) hs
/-- the items of a dict, kept or not -/
def dctL (h : PH) : PV → Option (List Key × List PV)
  | .dct ks vs => some (ks, vs)
  | .ref a => match h a with | some (.dct ks vs) => some (ks, vs) | some (.lck ks vs) => some (ks, vs) | _ => none
  | _ => none
theorem dctL_rd {K : PySem.W.Frag} {H : Hp} {h : PH} {p : PV} {v : V} {ks : List Key} {vs : List PV} (r : Rel K H p v) (s : Sim K H h) (e : dctL h p = some (ks, vs)) : ∃ a kvs, v = .ref a ∧ Rd H a (.dK kvs) ∧ ks = kvs.map (·.1) ∧ Rels K H vs (kvs.map (·.2)) := by
  cases p with
  | dct ks' vs' =>
    simp only [dctL, Option.some.injEq, Prod.mk.injEq] at e
    obtain ⟨rfl, rfl⟩ := e
    obtain ⟨a, kvs, e1, ⟨o, f⟩, e2, rr⟩ := rel_dct.mp r
    exact ⟨a, kvs, e1, .inr ⟨o, f⟩, e2, rr⟩
  | ref a =>
    simp only [dctL] at e
    cases q : h a with
    | none => rw [q] at e; cases e
    | some o =>
      rw [q] at e
      cases o with
      | dct ks' vs' =>
        simp only [Option.some.injEq, Prod.mk.injEq] at e
        obtain ⟨rfl, rfl⟩ := e
        obtain ⟨u, e2, kvs, rfl, e3, rr⟩ := s a _ q
        exact ⟨a, kvs, rel_ref.mp r, .inl e2, e3, rr⟩
      | lck ks' vs' =>
        simp only [Option.some.injEq, Prod.mk.injEq] at e
        obtain ⟨rfl, rfl⟩ := e
        obtain ⟨u, e2, ob, kvs, rfl, e3, rr⟩ := s a _ q
        exact ⟨a, kvs, rel_ref.mp r, .inr ⟨ob, e2⟩, e3, rr⟩
      | lst _ => cases e
      | ins _ _ _ => cases e
  | _ => simp [dctL] at e
def rIx : PR2 := fun p q h Q => match p, q with
  | .str x, .int i => x.length ≤ SZ ∧ (match atI (cl x) i with | some c => Q (.str (S [c])) h | none => False)
  | .tup xs, .int i => (match atI xs i with | some v => Q v h | none => False)
  | p, q => (match seqL h p with
    | some xs => (match q with | .int i => (match atI xs i with | some v => Q v h | none => False) | _ => False)
    | none => (match dctL h p with
      | some (ks, vs) => (match kOf q with
        | some k => (match lk ks vs k with | some v => Q v h | none => False)
        | none => False)
      | none => False))
def oIx (K : PySem.W.Frag) : R2 := fun x y H Q => ((rIxL K x y H Q ∨ rIxT K x y H Q) ∨ rIxS x y H Q) ∨ ixD K x y H Q
theorem ix_all {X : Cx} (hu : X.A.units + 1 < cLine) : IxR X (oIx X.K) := ((ix_list.or ix_tup).or ix_str).or (ix_dict hu)
theorem lf_ix {K : PySem.W.Frag} : Lf2 K (oIx K) rIx := by
  intro x y H p q h Q' Q rp rq s r l
  unfold rIx at r
  split at r
  · rename_i z i
    obtain ⟨hz, r⟩ := r
    split at r
    · rename_i c e
      exact .inl (.inr ⟨z, i, c, rel_str.mp rp, rel_int.mp rq, sz_le hz, e, l _ _ _ _ r .refl (rel_str.mpr rfl) s⟩)
    · exact r.elim
  · rename_i xs i
    split at r
    · rename_i v e
      obtain ⟨a, ys, e1, hq, rr⟩ := rel_tup.mp rp
      obtain ⟨w, e2, rw'⟩ := atI_rel rr e
      exact .inl (.inl (.inr ⟨a, ys, i, w, e1, rel_int.mp rq, hq, e2, l _ _ _ _ r .refl rw' s⟩))
    · exact r.elim
  · split at r
    · rename_i xs e
      obtain ⟨a, ys, e1, hq, rr⟩ := seqL_sq rp s e
      cases q with
      | int i =>
        simp only at r
        split at r
        · rename_i v e2
          obtain ⟨w, e3, rw'⟩ := atI_rel rr e2
          exact .inl (.inl (.inl ⟨a, ys, i, w, e1, rel_int.mp rq, hq, e3, l _ _ _ _ r .refl rw' s⟩))
        · exact r.elim
      | _ => exact r.elim
    · split at r
      · rename_i ks vs e
        obtain ⟨a, kvs, e1, rd, rfl, rr⟩ := dctL_rd rp s e
        split at r
        · rename_i k ek
          have hy := kOf_rel rq ek
          have hv := lk_val k rr
          split at r
          · rename_i v ev
            rw [ev] at hv
            obtain ⟨w, e3, rw'⟩ := hv
            subst hy
            exact .inr ⟨a, w, e1, .inl ⟨kvs, k, rd, rfl, e3.symm⟩, l _ _ _ _ r .refl rw' s⟩
          · exact r.elim
        · exact r.elim
      · exact r.elim
section
variable {X : Cx} {pos : Pos} {a b : Expr}
theorem le_ix {ma mb : ME} (hu : X.A.units + 1 < cLine) (ha : LE X a ma) (hb : LE X b mb) (hs : PlainIx b := by exact fun _ _ => rfl) : LE X (.Subscript a b pos) (mB rIx ma mb) :=
  PE.weak (pe_ix (ix_all hu) ha hb hs) fun _ _ _ h => two_up (Z := fun Q => Q) lf_ix h
/-- d[k] = e, xs[i] = e -/
def mDput (mv mo mk : ME) : MS := fun D τ h => mv τ h fun p h1 => mo τ h1 fun d h2 => mk τ h2 fun q h3 => match d with
  | .ref a => (match h3 a with
    | some (.dct ks vs) => (match kOf q with | some k => ks.length < SZ ∧ D.nx τ (up h3 a (.dct (pk ks k) (pvs ks vs k p))) | none => False)
    | some (.lst xs) => (match q with | .int i => (match ixN xs.length i with | some j => D.nx τ (up h3 a (.lst (xs.set j p))) | none => False) | _ => False)
    | _ => False)
  | _ => False
theorem PSet_or {X : Cx} {t u : TSet} (h : PSet X t) (k : PSet X u) : PSet X (fun o i v H Q => t o i v H Q ∨ u o i v H Q) := by
  intro pins s σ H o i v ov iv w Q I ro ri rv q
  rcases q with q | q
  · exact h pins s σ H o i v ov iv w Q I ro ri rv q
  · exact k pins s σ H o i v ov iv w Q I ro ri rv q
theorem ls_dput {o i value : Expr} {pos' : Pos} {mv mo mk : ME} (hu : X.A.units + 1 < cLine) (ho : LE X o mo) (hi : LE X i mk) (hv : LE X value mv) (hs : swapsWithSole [.Subscript o i pos'] value pos.line X.env = pure false := by rfl) (hw : swappedStores [.Subscript o i pos'] value X.env = pure none := by rfl)
    (h1 : (assignEach [.Subscript o i pos'] X.env).map (·.2) = [assign (.Subscript o i pos') X.env] := by rfl)
    (ha : ∀ u, assign (.Subscript o i pos') X.env u = (do let ov ← holding [u] (eval o X.env); let iv ← holding [u, ov] (eval i X.env); standAt pos'; holding [u, ov, iv] (setItem ov iv u); release [u, ov, iv] []) := by intro _; rfl) : LS X (.Assign [.Subscript o i pos'] value pos) (mDput mv mo mk) := by
  refine PS.weak (ps_asg hv (pg_sub ho hi (PSet_or (set_dict hu) set_list) ha) hs hw h1) fun D σ H ⟨τ, h, D', s, sh, q, l⟩ => ?_
  refine ⟨τ, h, _, s, sh, q, fun p h1 v H1 q1 g1 r1 s1 => ?_⟩
  refine ⟨τ, h1, _, s.mono g1.mono, s1, q1, fun d h2 x H2 q2 g2 r2 s2 => ?_⟩
  refine ⟨τ, h2, _, (s.mono g1.mono).mono g2.mono, s2, q2, fun q h3 y H3 q3 g3 r3 s3 => ?_⟩
  cases d with
  | ref a =>
    have hx := rel_ref.mp (r2.mono g3.mono)
    simp only at q3
    split at q3
    · rename_i ks vs e
      split at q3
      · rename_i k ek
        obtain ⟨u, e1, kvs, rfl, rfl, rr⟩ := s3 a _ e
        have hy := kOf_rel r3 ek
        have hl : kvs.length < sizeLine := by
          have z := q3.1
          rw [List.length_map] at z
          exact sz_lt z
        subst hy hx
        have mm : Mono H3 (upd H3 a (.dK (putK kvs k v))) := Mono.dK e1
        obtain ⟨z1, z2⟩ := put_rel (k := k) rr ((r1.mono g2.mono).mono g3.mono)
        refine .inl ⟨a, _, rfl, DPut.k e1 hl, l.nx _ _ _ _ q3.2 (((g1.trans g2).trans g3).trans (.wr e mm)) ((((s.mono g1.mono).mono g2.mono).mono g3.mono).mono mm) (s3.put mm ⟨_, rfl, z1, z2.mono mm⟩)⟩
      · exact q3.elim
    · rename_i xs e
      split at q3
      · rename_i i
        split at q3
        · rename_i j ej
          obtain ⟨u, e1, ys, rfl, rr⟩ := s3 a _ e
          have hy := rel_int.mp r3
          subst hy hx
          have mm : Mono H3 (upd H3 a (.lst (ys.set j v))) := Mono.lst e1
          refine .inr ⟨a, ys, i, j, rfl, rfl, e1, by rw [← rr.length]; exact ej, l.nx _ _ _ _ q3 (((g1.trans g2).trans g3).trans (.wr e mm)) ((((s.mono g1.mono).mono g2.mono).mono g3.mono).mono mm) (s3.put mm ⟨_, rfl, (rr.set ((r1.mono g2.mono).mono g3.mono) j).mono mm⟩)⟩
        · exact q3.elim
      · exact q3.elim
    · exact q3.elim
  | _ => exact q3.elim
end
end N3

namespace N3
open PySem PySem.Spec PyProof.Rows L2

/-! ### * -/
theorem tup_same (l : Addr) (xs : Array Value) (n : Nat) (dd : Option Addr) (sl : Array (Option Value)) (x : Int) (u : Tok) (h0 : (decide (x < -(2 ^ 63)) || decide (x ≥ 2 ^ 63)) = false) (h1 : (xs.isEmpty || x == 1) = true) :
    Meets (Builtin.«tuple.__mul__» ⟨[.ref l, .int x u], []⟩) (fun _ R s => s.heap.get? l = some { cls := .type "tuple", dict := dd, data := .seq xs n, slots := sl } ∧ R (.ok (.ret (Value.ref l))) s) :=
  .of_wp fun prog w A R s h => by
    obtain ⟨hp, g, d, tk, os⟩ := s; obtain ⟨hl, h⟩ := h; have k1 := AutoSeq1.idx_int
    wp_walk using AutoSeq1.wpAny_loadPart' hl
    repeat (first | (refine wpAny_ite_false (decide_eq_false (by rw [h0]; simp)) ?_; wp_walk using AutoSeq1.wpAny_loadPart' hl) | (refine wpAny_ite_true (decide_eq_true h1) ?_; wp_walk using AutoSeq1.wpAny_loadPart' hl))
    exact ⟨_, rfl, h⟩
theorem tup_zero (l : Addr) (xs : Array Value) (n : Nat) (dd : Option Addr) (sl : Array (Option Value)) (x : Int) (u : Tok) (h0 : (decide (x < -(2 ^ 63)) || decide (x ≥ 2 ^ 63)) = false) (h1 : (xs.isEmpty || x == 1) = false) (h2 : (decide (x ≤ 0) || xs.isEmpty) = true) :
    Meets (Builtin.«tuple.__mul__» ⟨[.ref l, .int x u], []⟩) (fun _ R s => s.heap.get? l = some { cls := .type "tuple", dict := dd, data := .seq xs n, slots := sl } ∧
      R (.ok (.ret (Value.ref s.heap.objs.size))) { s with heap := s.heap.push { cls := Value.type "tuple", data := Data.seq #[] }, toks := s.toks }) :=
  .of_wp fun prog w A R s h => by
    obtain ⟨hp, g, d, tk, os⟩ := s; obtain ⟨hl, h⟩ := h; have k1 := AutoSeq1.idx_int
    wp_walk using AutoSeq1.wpAny_loadPart' hl
    repeat (first | (refine wpAny_ite_false (decide_eq_false (by rw [h0]; simp)) ?_; wp_walk using AutoSeq1.wpAny_loadPart' hl) | (refine wpAny_ite_false (decide_eq_false (by rw [h1]; simp)) ?_; wp_walk using AutoSeq1.wpAny_loadPart' hl) | (refine wpAny_ite_true (decide_eq_true h2) ?_; wp_walk using AutoSeq1.wpAny_loadPart' hl))
    exact ⟨_, rfl, h⟩
/-- a tuple once, or not at all -/
def rRep01 (K : PySem.W.Frag) : R2 := fun x y H Q => ∃ l k xs, x = .ref l ∧ y = .int k ∧ SqT K H l xs ∧ 0 ≤ k ∧ k ≤ 1 ∧ ((xs = [] ∨ k = 1) → Q (.ref l) H) ∧ (xs ≠ [] → k = 0 → ∀ p, H p = none → Q (.ref p) (upd H p (.tup [])))
theorem op_rep01 {X : Cx} : OpR X (binaryOp .Mult) (rRep01 X.K) := by
  intro pins s σ H x y v u Q I rx ry h
  obtain ⟨l, k, xs, rfl, rfl, hT, h1, h2, q1, q2⟩ := h
  cases rx
  obtain ⟨t, rfl⟩ := ry
  obtain ⟨its, r, ⟨⟨cls, dd, data, sl⟩, ho, hc, n, hd⟩, hs⟩ := I.tuple hT
  simp only at hc hd
  subst hc; subst hd
  have c0 : (decide (k < -(2 ^ 63)) || decide (k ≥ 2 ^ 63)) = false := by rw [decide_eq_false (by omega), decide_eq_false (by omega)]; rfl
  have go : ∀ {S : PySem.Spec}, Meets (Builtin.«tuple.__mul__» ⟨[.ref l, .int k t], []⟩) S → S X.A (wants (EP X pins σ Q) X.xe) s → wpAny (model X.prog X.w) X.A (binaryOp .Mult (.ref l) (.int k t)) (EP X pins σ Q) X.xe s := fun {S} g z =>
    wpAny_binaryOp_repeat_ref (T := "tuple") (U := "int") (by decide) ⟨_, ho, rfl⟩ (fun s' => typeIs_int s' k t) noFill_tuple_mul PySem.F.fills_int_mul PySem.F.slot_int_rmul repeat_tuple PySem.F.slot_int_index.lookup
      (call_meets PySem.F.slot_int_rmul (typeIs_int s k t) PySem.F.entry_int_rmul (PySem.F.args_int_rmul_2 _ _) (int_rmul_tuple k t l its.toArray n dd sl) ⟨ho, rfl, ⟨_, ho, rfl⟩, call_meets PySem.F.slot_tuple_mul ⟨_, ho, rfl⟩ PySem.F.entry_tuple_mul (PySem.F.args_tuple_mul_2 _ _) g z⟩)
  by_cases hx : xs = [] ∨ k = 1
  · refine go (tup_same l its.toArray n dd sl k t c0 ?_) ⟨ho, ⟨.ref l, H, I, rfl, q1 hx⟩⟩
    rcases hx with hx | hx
    · have : its = [] := r.nil_iff.mpr hx
      subst this; rfl
    · subst hx; rw [show ((1 : Int) == 1) = true from rfl, Bool.or_true]
  · have hx1 : xs ≠ [] := fun e => hx (.inl e)
    have hk : k = 0 := by
      have : k ≠ 1 := fun e => hx (.inr e)
      omega
    have hi : its.toArray.isEmpty = false := by
      cases its with
      | nil => exact absurd (r.nil_iff.mp rfl) hx1
      | cons a b => rfl
    subst hk
    refine go (tup_zero l its.toArray n dd sl 0 t c0 (by rw [hi]; rfl) (by rw [hi]; rfl)) ⟨ho, ?_⟩
    have I2 := I.laid (t' := s.toks) (o := .tup []) (fun c o q => Heap.get?_push_of_some { cls := .type "tuple", data := .seq #[] } q) (Nat.le_refl _) ⟨Nat.zero_le _, [], .nil, IsTup.new s.heap ([] : List Value).toArray⟩
    exact ⟨.ref s.heap.objs.size, _, I2, rfl, q2 hx1 rfl _ (I.hok.fresh (Nat.le_refl _))⟩
def oMul (K : PySem.W.Frag) : R2 := fun x y H Q => (rI CMul (fun i j => .int (i * j)) x y H Q ∨ rMulS x y H Q) ∨ rRep01 K x y H Q
theorem op_mulA {X : Cx} : OpR X (binaryOp .Mult) (oMul X.K) := (op_mul.or op_mulS).or op_rep01
theorem kf_mul {K : PySem.W.Frag} : Kf2 K (oMul K) rMul := by
  intro x y H p q h Q' Q rp rq s r l
  unfold rMul at r
  split at r
  · exact .inl (.inl ⟨_, _, rel_int.mp rp, rel_int.mp rq, r.1, .inl (l _ _ _ _ r.2 .refl (rel_int.mpr rfl) s)⟩)
  · exact .inl (.inr ⟨_, _, rel_str.mp rp, rel_int.mp rq, r.1, sz_le r.2.1, r.2.2.1, .inl (l _ _ _ _ r.2.2.2 .refl (rel_str.mpr rfl) s)⟩)
  · rename_i ps n
    obtain ⟨a, xs, e1, h1, r1⟩ := rel_tup.mp rp
    obtain ⟨n0, n1, r⟩ := r
    refine .inr ⟨a, n, xs, e1, rel_int.mp rq, h1, n0, n1, fun hx => .inl ?_, fun hx hn c hc => .inl ?_⟩
    · by_cases hn : n = 1
      · rw [if_pos hn] at r
        exact l _ _ _ _ r .refl (rel_tup.mpr ⟨a, xs, rfl, h1, r1⟩) s
      · rw [if_neg hn] at r
        have hx' : xs = [] := hx.resolve_right hn
        subst hx'
        exact l _ _ _ _ r .refl (rel_tup.mpr ⟨a, [], rfl, h1, .nil⟩) s
    · rw [if_neg (by omega)] at r
      exact make_t l s .nil r hc
  · exact r.elim
theorem Rels.rep {K : PySem.W.Frag} {H : Hp} {ps : List PV} {xs : List V} (r : Rels K H ps xs) : ∀ k : Nat, Rels K H (List.replicate k ps).flatten (List.replicate k xs).flatten
  | 0 => .nil
  | k + 1 => by rw [List.replicate_succ, List.replicate_succ, List.flatten_cons, List.flatten_cons]; exact r.append (Rels.rep r k)
/-- [..] * e -/
def mRep (m : MA) (mb : ME) : ME := fun τ h Q => m τ h fun ps h1 => mb τ h1 fun q h2 => match q with
  | .int k => (-16777216 ≤ k ∧ k ≤ 16777216 ∧ ps.length * k.toNat ≤ SZ) ∧ Q (.lst (List.replicate k.toNat ps).flatten) h2
  | _ => False
section
variable {X : Cx} {pos p2 : Pos} {es : List Expr} {b : Expr} {n : Nat}
theorem le_rep {m : MA} {mb : ME} (h : LAn X es n m) (hb : LE X b mb) (hn : n ≤ 1000 := by decide) : LE X (.BinOp (.List es p2) .Mult b pos) (mRep m mb) := by
  refine PE.weak (PE.kp (pe_op op_rep (pe_lst h) hb)) fun σ H Q ⟨τ, h, Q', s, sh, q, l⟩ => ?_
  refine ⟨τ, h, _, s, sh, q, fun ps h1 vs H1 q1 hl g1 r1 s1 => ⟨by rw [← r1.length, hl]; exact few hn, fun p hp => ?_⟩⟩
  have hp1 : h1 p = none := s1.fresh hp
  have gD : Go H1 h1 (upd H1 p (.lst vs)) h1 := .new hp
  refine ⟨τ, h1, _, s.mono (g1.trans gD).mono, s1.new hp, q1, fun q h2 y H2 q2 g2 r2 s2 => ?_⟩
  cases q with
  | int k =>
    obtain ⟨⟨k1, k2, hz⟩, q2⟩ := q2
    have ey := rel_int.mp r2
    have hH : H2 p = some (.lst vs) := g2.frame p _ upd_same hp1
    refine ⟨p, k, vs, rfl, ey, hH, by omega, by omega, by rw [← r1.length]; exact sz_le hz, fun c hc => ?_⟩
    have g := (g1.trans gD).trans g2
    exact keep_l (l.mono g) s2 ((r1.mono (gD.trans g2).mono).rep k.toNat) q2 hc
  | _ => exact q2.elim
end

/-! ### slices -/
abbrev MO := PSt → PH → (Option Int → PH → Prop) → Prop
def upO (K : PySem.W.Frag) (m : MO) : TO := fun σ H Q => ∃ τ h Q', SimS K H σ τ ∧ Sim K H h ∧ m τ h Q' ∧ ∀ o h1 H1, Q' o h1 → Go H h H1 h1 → Sim K H1 h1 → Q o H1
abbrev LO (X : Cx) (e : Option Expr) (m : MO) : Prop := L2.PO X e (upO X.K m)
def mNoPart : MO := fun _ h Q => Q none h
def mPart (m : ME) : MO := fun τ h Q => m τ h fun p h1 => match p with | .int i => Q (some i) h1 | _ => False
section
variable {X : Cx} {pos p2 : Pos} {e : Expr}
theorem PO.weak {e : Option Expr} {t u : TO} (h : L2.PO X e t) (w : ∀ σ H Q, u σ H Q → t σ H Q) : L2.PO X e u := ⟨fun pins s σ H Q I q => h.run pins s σ H Q I (w σ H Q q)⟩
theorem lo_none : LO X none mNoPart := PO.weak po_none fun σ H Q ⟨τ, h, Q', s, sh, q, l⟩ => l _ _ _ q .refl sh
theorem lo_some {m : ME} (he : LE X e m) : LO X (some e) (mPart m) := by
  refine PO.weak (po_some he) fun σ H Q ⟨τ, h, Q', s, sh, q, l⟩ => ?_
  refine ⟨τ, h, _, s, sh, q, fun p h1 v H1 q1 g1 r1 s1 => ?_⟩
  cases p with
  | int i => exact ⟨i, rel_int.mp r1, l _ _ _ q1 g1 s1⟩
  | _ => exact q1.elim
end
def cut {α : Type} (xs : List α) (lo hi : Option Int) : List α := (xs.drop (HT.sIx xs.length 0 lo)).take (HT.sIx xs.length xs.length hi - HT.sIx xs.length 0 lo)
theorem cut_length {α : Type} (xs : List α) (lo hi : Option Int) : (cut xs lo hi).length ≤ xs.length := by
  unfold cut; rw [List.length_take, List.length_drop]; omega
theorem Rels.cut {K : PySem.W.Frag} {H : Hp} {ps : List PV} {xs : List V} (r : Rels K H ps xs) (lo hi : Option Int) : Rels K H (cut ps lo hi) (cutV xs lo hi) := by
  unfold N3.cut cutV
  rw [r.length]
  exact (r.drop _).take _
theorem cut_all {α : Type} {xs : List α} {lo hi : Option Int} (h : HT.sIx xs.length 0 lo = 0 ∧ HT.sIx xs.length xs.length hi = xs.length) : cut xs lo hi = xs := by
  unfold cut; rw [h.1, h.2]; simp
theorem cutS_cl (z : Str) (lo hi : Option Int) : cutS z lo hi = S (cut (cl z) lo hi) := by
  unfold cutS cut; rw [cl_length]; rfl
def oSl (K : PySem.W.Frag) : V → Option Int → Option Int → Hp → VK → Prop := fun x lo hi H Q => (rSlL K x lo hi H Q ∨ rSlA K x lo hi H Q) ∨ rSlS x lo hi H Q
theorem sl_all {X : Cx} : SlR X (oSl X.K) := (sl_list.or sl_tupA).or sl_str
def rSl (p : PV) (lo hi : Option Int) (h : PH) (Q : PK) : Prop := match p with
  | .str x => x.length ≤ SZ ∧ Q (.str (S (cut (cl x) lo hi))) h
  | .tup xs => Q (.tup (cut xs lo hi)) h
  | p => match seqL h p with
    | some xs => Q (.lst (cut xs lo hi)) h
    | none => False
theorem kf_sl {K : PySem.W.Frag} {x : V} {H : Hp} {p : PV} {lo hi : Option Int} {h : PH} {Q' : PK} {Q : VK} (rp : Rel K H p x) (s : Sim K H h) (r : rSl p lo hi h Q') (l : LQ K H h Q' Q) : oSl K x lo hi H (kQ Q) := by
  unfold rSl at r
  split at r
  · rename_i z
    refine .inr ⟨z, rel_str.mp rp, sz_le r.1, .inl ?_⟩
    rw [cutS_cl]
    exact l _ _ _ _ r.2 .refl (rel_str.mpr rfl) s
  · obtain ⟨a, ys, rfl, hq, rr⟩ := rel_tup.mp rp
    refine .inl (.inr ⟨a, ys, rfl, hq, fun hw => .inl ?_, fun hw c hc => .inl (make_t l s (rr.cut lo hi) r hc)⟩)
    rw [← rr.length] at hw
    rw [cut_all hw] at r
    exact l _ _ _ _ r .refl (rel_tup.mpr ⟨a, ys, rfl, hq, rr⟩) s
  · split at r
    · rename_i e
      obtain ⟨a, ys, rfl, hq, rr⟩ := seqL_sq rp s e
      exact .inl (.inl ⟨a, ys, rfl, hq, fun c hc => keep_l l s (rr.cut lo hi) r hc⟩)
    · exact r.elim
def mSl (m : ME) (ml mh : MO) : ME := fun τ h Q => m τ h fun p h1 => ml τ h1 fun lo h2 => mh τ h2 fun hi h3 => rSl p lo hi h3 Q
/-- x[::-1] of a text or a list -/
def rRev (p : PV) (h : PH) (Q : PK) : Prop := match p with
  | .str x => x.length ≤ SZ ∧ Q (.str (S (cl x).reverse)) h
  | p => match seqL h p with
    | some xs => Q (.lst xs.reverse) h
    | none => False
def mRev (m : ME) : ME := fun τ h Q => m τ h fun p h1 => rRev p h1 Q
section
variable {X : Cx} {pos p1 p2 p3 : Pos} {e : Expr} {lo hi : Option Expr}
theorem le_sl {m : ME} {ml mh : MO} (he : LE X e m) (hl : LO X lo ml) (hh : LO X hi mh) : LE X (.Subscript e (.Slice lo hi none p2) pos) (mSl m ml mh) := by
  refine PE.weak (PE.kp (pe_slice sl_all he hl hh)) fun σ H Q ⟨τ, h, Q', s, sh, q, l⟩ => ?_
  refine ⟨τ, h, _, s, sh, q, fun p h1 v H1 q1 g1 r1 s1 => ?_⟩
  refine ⟨τ, h1, _, s.mono g1.mono, s1, q1, fun lo h2 H2 q2 g2 s2 => ?_⟩
  refine ⟨τ, h2, _, (s.mono g1.mono).mono g2.mono, s2, q2, fun hi h3 H3 q3 g3 s3 => ?_⟩
  exact kf_sl (r1.mono (g2.trans g3).mono) s3 q3 (l.mono ((g1.trans g2).trans g3))
theorem rev_text (x : Str) : (⟨((Builtin.Str.strSliceIndices none none (-1) x.length).filterMap (x.cps[·]?)).toArray⟩ : Str) = S (cl x).reverse := by
  refine cl_inj ?_
  show (Builtin.Str.strSliceIndices none none (-1) x.length).filterMap (x.cps[·]?) = (cl x).reverse
  rw [picked_rev, PySem.W.krv_range, List.filterMap_reverse]
  have := PySem.W.krv_all x.cps
  rw [show x.length = x.cps.size from rfl, this]; rfl
def tRevA (K : PySem.W.Frag) (te : TE) : TE := fun σ H Q => te σ H fun x H1 => (∃ a xs, x = .ref a ∧ SqL K H1 a xs ∧ ∀ p, H1 p = none → Q (.ref p) (upd H1 p (.lst xs.reverse))) ∨ ∃ z, x = .str z ∧ z.length ≤ sizeLine ∧ Q (.str (S (cl z).reverse)) H1
theorem pe_revA {te : TE} {k : Nat} (he : PE X e te) : PE X (.Subscript e (.Slice none none (some (.UnaryOp .USub (.Constant (.int 1) k p1) p2)) p3) pos) (tRevA X.K te) := by
  refine ⟨fun pins s σ H Q I h => ?_⟩
  refine Subscript_ (thn (he.run pins s σ H _ I h) fun v s1 ⟨x, H1, I1, r1, q1⟩ => ?_)
  have hst : L2.PO X (some (.UnaryOp .USub (.Constant (.int 1) k p1) p2)) (tPart (tUn (rU fun i => .int (-i)) (tC (.int 1)))) := po_some (pe_un un_neg pe_int)
  refine wpAny_Slice (thn (po_none.run pins s1 σ H1 (fun o H2 => o = none ∧ H2 = H1) I1 ⟨rfl, rfl⟩) fun vl s2 ⟨l, H2, I2, pl, el, e2⟩ => ?_)
  subst el e2
  refine thn (po_none.run pins s2 σ H2 (fun o H3 => o = none ∧ H3 = H2) I2 ⟨rfl, rfl⟩) fun vu s3 ⟨u, H3, I3, pu, eu, e3⟩ => ?_
  subst eu e3
  refine thn (hst.run pins s3 σ H3 (fun o H4 => o = some (-1) ∧ H4 = H3) I3 ⟨1, rfl, -1, rfl, rfl, rfl⟩) fun vs s4 ⟨o, H4, I4, ps, eo, e4⟩ => ?_
  subst eo e4
  have I5 : Inv X pins σ H4 { s4 with heap := s4.heap.push { cls := .type "slice", data := .fields #[vl, vu, vs] } } := I4.kept (t' := s4.toks) fun b ob q => Heap.get?_push_of_some _ q
  show wpAny (model X.prog X.w) X.A (subscriptTail e (.Slice none none (some (.UnaryOp .USub (.Constant (.int 1) k p1) p2)) p3) v (.ref s4.heap.objs.size)) (EP X pins σ Q) X.xe { s4 with heap := s4.heap.push { cls := .type "slice", data := .fields #[vl, vu, vs] } }
  rcases q1 with ⟨a, xs, ex, hx, q⟩ | ⟨z, ex, hz, q⟩
  · subst ex
    cases r1
    obtain ⟨its, r, ht, hz⟩ := I5.list hx
    have hlen := r.length
    refine tail_any (ops := [.ref a, .ref s4.heap.objs.size]) ht.isList.typeIs (PySem.slot_list_getitem.lookup) ?_ (by with_unfolding_all rfl)
    refine wpAny_getItem_list_slice ht.isList (Heap.IsSliceOf.new _ vl vu vs) pl pu ps (by decide) ?_ (by rw [List.size_toArray]; omega)
    rw [PySem.W.krv_pick]
    refine ⟨.ref _, _, I5.laid (t' := s4.toks) (o := .lst xs.reverse) (fun b ob q => Heap.get?_push_of_some _ q) (Nat.le_refl _) ?_, rfl, q _ (I5.hok.fresh (Nat.le_refl _))⟩
    exact ⟨by rw [List.length_reverse]; exact hz, _, 0, r.reverse, Heap.get?_push_size _ rfl⟩
  · subst ex
    obtain ⟨t, rfl⟩ := r1
    obtain ⟨l, rfl, el⟩ := IsPart.raw pl
    obtain ⟨u, rfl, eu⟩ := IsPart.raw pu
    obtain ⟨st, rfl, es⟩ := IsPart.raw ps
    refine tail_any (ops := [.str z t, .ref s4.heap.objs.size]) (typeIs_str _ _ _) PySem.F.slot_str_getitem.lookup ?_ (by with_unfolding_all rfl)
    refine wpAny_getItem_str_slice (l := l) (u := u) (st := st) (Heap.IsSliceOf.new _ _ _ _) (by rw [es]; rfl) ?_
    unfold sliceMade slicePicked
    rw [es, el, eu]
    rw [if_neg (by simp)]
    show Made.post (Made.str ⟨((Builtin.Str.strSliceIndices none none (-1) z.length).filterMap (z.cps[·]?)).toArray⟩) _ _
    rw [rev_text]
    refine ⟨?_, .str _, H4, I5.tok _, ⟨_, rfl⟩, q⟩
    rw [S_length, List.length_reverse, ← cl_length]; exact hz
theorem le_rev {m : ME} {k : Nat} (he : LE X e m) : LE X (.Subscript e (.Slice none none (some (.UnaryOp .USub (.Constant (.int 1) k p1) p2)) p3) pos) (mRev m) := by
  refine PE.weak (PE.kp (pe_revA he)) fun σ H Q ⟨τ, h, Q', s, sh, q, l⟩ => ?_
  refine ⟨τ, h, _, s, sh, q, fun p h1 v H1 q1 g1 r1 s1 => ?_⟩
  unfold rRev at q1
  split at q1
  · exact .inr ⟨_, rel_str.mp r1, sz_le q1.1, .inl (l _ _ _ _ q1.2 g1 (rel_str.mpr rfl) s1)⟩
  · split at q1
    · rename_i e
      obtain ⟨a, ys, rfl, hq, rr⟩ := seqL_sq r1 s1 e
      exact .inl ⟨a, ys, rfl, hq, fun c hc => keep_l (l.mono g1) s1 rr.reverse q1 hc⟩
    · exact q1.elim
end
end N3

namespace N3
open PySem PySem.Spec PyProof.Rows L2

/-! ### lists that may change: append, pop -/
def listAt (h : PH) (p : PV) : Prop := ∃ a xs, p = .ref a ∧ h a = some (.lst xs)
theorem ty_list {K : PySem.W.Frag} {H : Hp} {h : PH} {p : PV} {v : V} (r : Rel K H p v) (s : Sim K H h) (e : listAt h p) : tyV K "list" v H := by
  obtain ⟨a, xs, rfl, e⟩ := e
  obtain ⟨u, e1, ys, rfl, rr⟩ := s a _ e
  rw [rel_ref.mp r]
  exact .inl ⟨rfl, ys, .of e1⟩
/-- o.append(e) -/
def mAppend (mo : ME) (m : MA) : ME := fun τ h Q => mo τ h fun p h1 => listAt h1 p ∧ m τ h1 fun ps h2 => match p, ps with
  | .ref a, [q] => (match h2 a with | some (.lst xs) => xs.length < SZ ∧ Q .non (up h2 a (.lst (xs ++ [q]))) | _ => False)
  | _, _ => False
/-- o.pop() -/
def mPop (mo : ME) : ME := fun τ h Q => mo τ h fun p h1 => match p with
  | .ref a => (match h1 a with | some (.lst xs) => (match xs.getLast? with | some y => Q y (up h1 a (.lst xs.dropLast)) | none => False) | _ => False)
  | _ => False
theorem Rels.dropLast {K : PySem.W.Frag} {H : Hp} {ps : List PV} {xs : List V} (r : Rels K H ps xs) : Rels K H ps.dropLast xs.dropLast := by
  rw [List.dropLast_eq_take, List.dropLast_eq_take, r.length]; exact r.take _
section
variable {X : Cx} {o e : Expr} {es : List Expr} {n : Nat} {mo me : ME} {m : MA} {apos cpos pos : Pos}
theorem le_append (ho : LE X o mo) (he : LAn X [e] 1 m) (hbase : attributeBase o "append" X.env (eval o X.env) = eval o X.env := by rfl)
    (hfew : ((backTo cpos (starEach [e] X.env)).all (fun x => !x.1) && (backToKw cpos (keywordEach [] X.env)).all (fun x => x.1.isSome)
      && decide (([e] : List Expr).length + ([] : List Keyword).length + (if ([] : List Keyword).isEmpty then 0 else 1) < 30)) = true := by rfl)
    (hline : (apos.endLine == cpos.line) = true := by rfl) (hs : starEach [e] X.env = (false, eval e X.env) :: starEach [] X.env := by rfl) :
    LE X (.Call (.Attribute o "append" apos) [e] [] cpos) (mAppend mo m) := by
  refine PE.weak (pe_bm PySem.F.plainAttrs_list PySem.F.slot_list_append PySem.F.type_list_append mt_append ho he hbase hfew hline hs rfl) fun σ H Q ⟨τ, h, Q', s, sh, q, l⟩ => ?_
  refine ⟨τ, h, _, s, sh, q, fun p h1 v H1 q1 g1 r1 s1 => ⟨ty_list r1 s1 q1.1, ?_⟩⟩
  refine ⟨τ, h1, _, s.mono g1.mono, s1, q1.2, ?_⟩
  rintro ps h2 vs H2 q2 _ g2 rr s2
  split at q2
  · rename_i a q _
    obtain ⟨y, rfl, ry⟩ := rr.one
    split at q2
    · rename_i xs e2
      obtain ⟨u, e3, ys, rfl, rx⟩ := s2 _ _ e2
      have ea := rel_ref.mp r1
      have mm : Mono H2 (upd H2 a (.lst (ys ++ [y]))) := Mono.lst e3
      refine ⟨a, ys, y, ea, rfl, e3, by rw [← rx.length]; exact sz_lt q2.1, l _ _ _ _ q2.2 ((g1.trans g2).trans (.wr e2 mm)) (rel_non.mpr rfl) (s2.put mm ⟨_, rfl, (rx.append (.cons ry .nil)).mono mm⟩)⟩
    · exact q2.elim
  · exact q2.elim
theorem le_pop (ho : LE X o mo) (hbase : attributeBase o "pop" X.env (eval o X.env) = eval o X.env := by rfl) (hline : (apos.endLine == cpos.line) = true := by rfl) :
    LE X (.Call (.Attribute o "pop" apos) [] [] cpos) (mPop mo) := by
  refine PE.weak (pe_bm0 PySem.F.plainAttrs_list PySem.F.slot_list_pop PySem.F.type_list_pop mt_pop ho hbase hline) fun σ H Q ⟨τ, h, Q', s, sh, q, l⟩ => ?_
  refine ⟨τ, h, _, s, sh, q, fun p h1 v H1 q1 g1 r1 s1 => ?_⟩
  cases p with
  | ref a =>
    simp only at q1
    split at q1
    · rename_i xs e2
      split at q1
      · rename_i y ey
        obtain ⟨u, e3, ys, rfl, rx⟩ := s1 _ _ e2
        have ea := rel_ref.mp r1
        rw [List.getLast?_eq_getElem?] at ey
        obtain ⟨w, ew, rw'⟩ := rx.get ey
        rw [rx.length] at ew
        have mm : Mono H1 (upd H1 a (.lst ys.dropLast)) := Mono.lst e3
        refine ⟨ty_list r1 s1 ⟨a, xs, rfl, e2⟩, a, ys, w, ea, rfl, e3, ew, l _ _ _ _ q1 (g1.trans (.wr e2 mm)) (rw'.mono mm) (s1.put mm ⟨_, rfl, rx.dropLast.mono mm⟩)⟩
      · exact q1.elim
    · exact q1.elim
  | _ => exact q1.elim

/-! ### texts: join, find, count, startswith, endswith, index -/
def mM1 (r : PV → List PV → PH → PK → Prop) (mo : ME) (m : MA) : ME := fun τ h Q => mo τ h fun p h1 => (∃ x, p = .str x) ∧ m τ h1 fun ps h2 => r p ps h2 Q
theorem le_m1 {id : String} {name : Str} {r : V → List V → Hp → VK → Prop} {r' : PV → List PV → PH → PK → Prop} (slot : Slot "str" name id) (hty : typeOf (.builtin id) = pure (.type "method_descriptor")) (rule : MtR X id r)
    (hr : ∀ x xs H p ps h Q' Q, Rel X.K H p x → Rels X.K H ps xs → Sim X.K H h → r' p ps h Q' → LQ X.K H h Q' Q → r x xs H Q) (ho : LE X o mo) (ha : LAn X (e :: es) n m) (hbase : attributeBase o name X.env (eval o X.env) = eval o X.env := by rfl)
    (hfew : ((backTo cpos (starEach (e :: es) X.env)).all (fun x => !x.1) && (backToKw cpos (keywordEach [] X.env)).all (fun x => x.1.isSome)
      && decide ((e :: es).length + ([] : List Keyword).length + (if ([] : List Keyword).isEmpty then 0 else 1) < 30)) = true := by rfl)
    (hline : (apos.endLine == cpos.line) = true := by rfl) (hs : starEach (e :: es) X.env = (false, eval e X.env) :: starEach es X.env := by rfl) (hplain : (backTo cpos (starEach es X.env)).any (·.1) = false := by rfl) :
    LE X (.Call (.Attribute o name apos) (e :: es) [] cpos) (mM1 r' mo m) := by
  refine PE.weak (pe_bm PySem.F.plainAttrs_str slot hty rule ho ha hbase hfew hline hs hplain) fun σ H Q ⟨τ, h, Q', s, sh, q, l⟩ => ?_
  refine ⟨τ, h, _, s, sh, q, fun p h1 v H1 ⟨⟨x, ex⟩, q1⟩ g1 r1 s1 => ⟨by subst ex; rw [rel_str.mp r1]; rfl, ?_⟩⟩
  refine ⟨τ, h1, _, s.mono g1.mono, s1, q1, ?_⟩
  rintro ps h2 vs H2 q2 _ g2 rr s2
  exact hr _ _ _ _ _ _ _ _ (r1.mono g2.mono) rr s2 q2 (l.mono (g1.trans g2))
/-- what a method of a text and a text says -/
def rSS (g : Str → Str → PV) : PV → List PV → PH → PK → Prop := fun p ps h Q => match p, ps with
  | .str x, [.str y] => Q (g x y) h
  | _, _ => False
theorem rSS_up {K : PySem.W.Frag} {g : Str → Str → V} {g' : Str → Str → PV} (hg : ∀ a b H, Rel K H (g' a b) (g a b)) : ∀ x xs H p ps h Q' Q, Rel K H p x → Rels K H ps xs → Sim K H h → rSS g' p ps h Q' → LQ K H h Q' Q →
    ∃ a b, x = .str a ∧ xs = [.str b] ∧ Q (g a b) H := by
  intro x xs H p ps h Q' Q rp rs s r l
  unfold rSS at r
  split at r
  · obtain ⟨v, rfl, r1⟩ := rs.one
    have e1 := rel_str.mp rp
    have e2 := rel_str.mp r1
    subst e1 e2
    exact ⟨_, _, rfl, rfl, l _ _ _ _ r .refl (hg _ _ _) s⟩
  · exact r.elim
theorem le_find (ho : LE X o mo) (ha : LAn X [e] 1 m) (hbase : attributeBase o "find" X.env (eval o X.env) = eval o X.env := by rfl)
    (hfew : ((backTo cpos (starEach [e] X.env)).all (fun x => !x.1) && (backToKw cpos (keywordEach [] X.env)).all (fun x => x.1.isSome)
      && decide (([e] : List Expr).length + ([] : List Keyword).length + (if ([] : List Keyword).isEmpty then 0 else 1) < 30)) = true := by rfl)
    (hline : (apos.endLine == cpos.line) = true := by rfl) (hs : starEach [e] X.env = (false, eval e X.env) :: starEach [] X.env := by rfl) :
    LE X (.Call (.Attribute o "find" apos) [e] [] cpos) (mM1 (rSS fun a b => .int (Txt.find a b)) mo m) :=
  le_m1 PySem.F.slot_str_find PySem.F.type_str_find mt_find (rSS_up fun _ _ _ => rel_int.mpr rfl) ho ha hbase hfew hline hs
theorem le_count (ho : LE X o mo) (ha : LAn X [e] 1 m) (hbase : attributeBase o "count" X.env (eval o X.env) = eval o X.env := by rfl)
    (hfew : ((backTo cpos (starEach [e] X.env)).all (fun x => !x.1) && (backToKw cpos (keywordEach [] X.env)).all (fun x => x.1.isSome)
      && decide (([e] : List Expr).length + ([] : List Keyword).length + (if ([] : List Keyword).isEmpty then 0 else 1) < 30)) = true := by rfl)
    (hline : (apos.endLine == cpos.line) = true := by rfl) (hs : starEach [e] X.env = (false, eval e X.env) :: starEach [] X.env := by rfl) :
    LE X (.Call (.Attribute o "count" apos) [e] [] cpos) (mM1 (rSS fun a b => .int (Txt.count a b)) mo m) :=
  le_m1 PySem.F.slot_str_count PySem.F.type_str_count mt_count (rSS_up fun _ _ _ => rel_int.mpr rfl) ho ha hbase hfew hline hs
/-- sep.join(texts) -/
def rJoin : PV → List PV → PH → PK → Prop := fun p ps h Q => match p, ps with
  | .str x, [.tup ys] => ∃ zs : List (List Nat), ys = zs.map (fun z => .str (S z)) ∧ (zs.map (·.length)).sum + zs.length * x.length ≤ SZ ∧ Q (.str (S (TL.joinL (cl x) zs))) h
  | .str x, [q] => (match seqL h q with
    | some ys => ∃ zs : List (List Nat), ys = zs.map (fun z => .str (S z)) ∧ (zs.map (·.length)).sum + zs.length * x.length ≤ SZ ∧ Q (.str (S (TL.joinL (cl x) zs))) h
    | none => False)
  | _, _ => False
theorem rels_strs {K : PySem.W.Frag} {H : Hp} : ∀ {zs : List (List Nat)} {xs : List V}, Rels K H (zs.map fun z => .str (S z)) xs → xs = (zs.map S).map V.str
  | [], _, r => r.len0
  | z :: zs, _, r => by
    obtain ⟨v, vs, rfl, r1, r2⟩ := r.uncons
    rw [rel_str.mp r1, rels_strs r2]; rfl
theorem rels_ints {K : PySem.W.Frag} {H : Hp} : ∀ {ns : List Int} {xs : List V}, Rels K H (ns.map PV.int) xs → xs = ns.map V.int
  | [], _, r => r.len0
  | z :: zs, _, r => by
    obtain ⟨v, vs, rfl, r1, r2⟩ := r.uncons
    rw [rel_int.mp r1, rels_ints r2]; rfl
theorem rJoin_up {K : PySem.W.Frag} : ∀ x xs H p ps h Q' Q, Rel K H p x → Rels K H ps xs → Sim K H h → rJoin p ps h Q' → LQ K H h Q' Q →
    ∃ a p, ∃ ys : List Str, x = .str a ∧ xs = [.ref p] ∧ (SqL K H p (ys.map V.str) ∨ SqT K H p (ys.map V.str)) ∧ (ys.map (·.length)).sum + ys.length * a.length ≤ 16777216 ∧ Q (.str (Txt.join a ys)) H := by
  intro x xs H p ps h Q' Q rp rs s r l
  have fin : ∀ {a : Str} {zs : List (List Nat)}, (zs.map (·.length)).sum + zs.length * a.length ≤ SZ → Q' (.str (S (TL.joinL (cl a) zs))) h → ((zs.map S).map (·.length)).sum + (zs.map S).length * a.length ≤ 16777216 ∧ Q (.str (Txt.join a (zs.map S))) H := fun {a zs} h1 h2 => by
    refine ⟨?_, ?_⟩
    · rw [List.map_map, List.length_map]
      have e : ((fun x : Str => x.length) ∘ S) = fun z : List Nat => z.length := funext fun z => S_length z
      rw [e]; exact h1
    · have e : Txt.join a (zs.map S) = S (TL.joinL (cl a) zs) := by
        have := SX.join_S (cl a) zs
        rw [show (SX.S (cl a)) = a from S_cl a] at this
        exact this
      rw [e]
      exact l _ _ _ _ h2 .refl (rel_str.mpr rfl) s
  unfold rJoin at r
  split at r
  · rename_i a ys
    obtain ⟨zs, rfl, h1, h2⟩ := r
    obtain ⟨v, rfl, r1⟩ := rs.one
    obtain ⟨b, us, rfl, hq, rr⟩ := rel_tup.mp r1
    rw [rels_strs rr] at hq
    exact ⟨a, b, zs.map S, rel_str.mp rp, rfl, .inr hq, (fin h1 h2).1, (fin h1 h2).2⟩
  · rename_i a q _
    split at r
    · rename_i ys e
      obtain ⟨zs, rfl, h1, h2⟩ := r
      obtain ⟨v, rfl, r1⟩ := rs.one
      obtain ⟨b, us, rfl, hq, rr⟩ := seqL_sq r1 s e
      rw [rels_strs rr] at hq
      exact ⟨a, b, zs.map S, rel_str.mp rp, rfl, .inl hq, (fin h1 h2).1, (fin h1 h2).2⟩
    · exact r.elim
  · exact r.elim
theorem le_join (ho : LE X o mo) (ha : LAn X [e] 1 m) (hbase : attributeBase o "join" X.env (eval o X.env) = eval o X.env := by rfl)
    (hfew : ((backTo cpos (starEach [e] X.env)).all (fun x => !x.1) && (backToKw cpos (keywordEach [] X.env)).all (fun x => x.1.isSome)
      && decide (([e] : List Expr).length + ([] : List Keyword).length + (if ([] : List Keyword).isEmpty then 0 else 1) < 30)) = true := by rfl)
    (hline : (apos.endLine == cpos.line) = true := by rfl) (hs : starEach [e] X.env = (false, eval e X.env) :: starEach [] X.env := by rfl) :
    LE X (.Call (.Attribute o "join" apos) [e] [] cpos) (mM1 rJoin mo m) :=
  le_m1 PySem.F.slot_str_join PySem.F.type_str_join mt_join rJoin_up ho ha hbase hfew hline hs
/-- x.index(y) where y is in x -/
def rIdxS : PV → List PV → PH → PK → Prop := fun p ps h Q => match p, ps with
  | .str x, [.str y] => (match Txt.index0 x y with | some k => Q (.int (k : Nat)) h | none => False)
  | _, _ => False
theorem le_indexS (hc : X.calm = true) (ho : LE X o mo) (ha : LAn X [e] 1 m) (hbase : attributeBase o "index" X.env (eval o X.env) = eval o X.env := by rfl)
    (hfew : ((backTo cpos (starEach [e] X.env)).all (fun x => !x.1) && (backToKw cpos (keywordEach [] X.env)).all (fun x => x.1.isSome)
      && decide (([e] : List Expr).length + ([] : List Keyword).length + (if ([] : List Keyword).isEmpty then 0 else 1) < 30)) = true := by rfl)
    (hline : (apos.endLine == cpos.line) = true := by rfl) (hs : starEach [e] X.env = (false, eval e X.env) :: starEach [] X.env := by rfl) :
    LE X (.Call (.Attribute o "index" apos) [e] [] cpos) (mM1 rIdxS mo m) := by
  refine PE.weak (pe_bmS PySem.F.plainAttrs_str PySem.F.slot_str_index PySem.F.type_str_index (mt_indexX (W := fun _ _ _ _ => False) hc fun u s' ⟨a, B, sI, pins, σ, H, cls, d, e, I, nb, up, sky, na, os, ag, w⟩ => False.elim w) ho ha hbase hfew hline hs rfl) fun σ H Q ⟨τ, h, Q', s, sh, q, l⟩ => ?_
  refine ⟨τ, h, _, s, sh, q, fun p h1 v H1 ⟨⟨x, ex⟩, q1⟩ g1 r1 s1 => ⟨by subst ex; rw [rel_str.mp r1]; rfl, ?_⟩⟩
  refine ⟨τ, h1, _, s.mono g1.mono, s1, q1, ?_⟩
  rintro ps h2 vs H2 q2 _ g2 rr s2
  unfold rIdxS at q2
  split at q2
  · split at q2
    · rename_i k ek
      obtain ⟨v, rfl, r2⟩ := rr.one
      refine ⟨_, _, rel_str.mp r1, by rw [rel_str.mp r2], fun k' e' => ?_, fun e' => ?_⟩
      · rw [ek] at e'; cases e'
        exact l _ _ _ _ q2 (g1.trans g2) (rel_int.mpr rfl) s2
      · rw [ek] at e'; cases e'
    · exact q2.elim
  · exact q2.elim
end
end N3

namespace N3
open PySem PySem.Spec PyProof.Rows L2

/-! ### what is gone along: a list, a tuple, a text -/
def ones (x : Str) : List PV := (cl x).map fun c => .str (S [c])
def gdS (p : PV) (xs : List PV) : PH → Prop := match p with
  | .ref a => fun h => h a = some (.lst xs)
  | _ => fun _ => True
theorem seqL_walk {K : PySem.W.Frag} {H1 : Hp} {h1 : PH} {p : PV} {v : V} {ps : List PV} (r : Rel K H1 p v) (s : Sim K H1 h1) (e : seqL h1 p = some ps) :
    ∃ a xs, v = .ref a ∧ SqL K H1 a xs ∧ Rels K H1 ps xs ∧ ∀ H h, Mono H1 H → Sim K H h → gdS p ps h → ∃ ys, SqL K H a ys ∧ Rels K H ps ys := by
  cases p with
  | lst qs =>
    simp only [seqL, Option.some.injEq] at e
    subst e
    obtain ⟨a, xs, e1, f, rr⟩ := rel_lst.mp r
    exact ⟨a, xs, e1, f.sq, rr, fun H h m _ _ => ⟨xs, (m.frL f).sq, rr.mono m⟩⟩
  | ref a =>
    obtain ⟨b, xs, e1, f, rr⟩ := seqL_sq r s e
    have ev := rel_ref.mp r
    rw [ev] at e1; cases e1
    refine ⟨a, xs, ev, f, rr, fun H h m s' g => ?_⟩
    obtain ⟨u, e2, ys, rfl, rr'⟩ := s' a _ g
    exact ⟨ys, .of e2, rr'⟩
  | _ => simp [seqL] at e
def tSeqs (K : PySem.W.Frag) (tl : TE) : TI := fun σ H R => tl σ H fun x H1 => ((∃ a xs, x = .ref a ∧ SqL K H1 a xs ∧ (xs.length ≤ sizeLine → R (Itl K a) H1)) ∨ ∃ a xs, x = .ref a ∧ SqT K H1 a xs ∧ (xs.length ≤ sizeLine → R (Itt K a) H1)) ∨ ∃ z, x = .str z ∧ R (Its z) H1
theorem pi_seqs {X : Cx} {tg l : Expr} {tl : TE} (hl : PE X l tl) : PI X tg l (tSeqs X.K tl) := by
  refine ⟨fun pins s σ H R I h => ?_⟩
  refine thn (hl.run pins s σ H _ I h) fun v s1 ⟨x, H1, I1, r1, q1⟩ => ?_
  rcases q1 with (⟨a, xs, rfl, hq, q⟩ | ⟨a, xs, rfl, hq, q⟩) | ⟨z, rfl, q⟩
  · cases r1
    obtain ⟨its, rv, p, hz⟩ := I1.list hq
    exact wpAny_pyIter_list p.isList (pi_one (tk := s1.toks) I1 _ (turn_list a _) ⟨_, Heap.get?_push_size _ rfl, rfl, rfl⟩ (q hz))
  · cases r1
    obtain ⟨its, rv, p, hz⟩ := I1.tuple hq
    exact wpAny_pyIter_tuple (show s1.heap.IsTuple a its.toArray from p) (pi_one (tk := s1.toks) I1 _ (turn_tuple a _) ⟨_, Heap.get?_push_size _ rfl, rfl, rfl⟩ (q hz))
  · obtain ⟨t, rfl⟩ := r1
    cases ha : z.cps.all (· < 128)
    · exact wpAny_pyIter_wide ha (pi_one (tk := s1.toks) I1 _ (turn_str _ z t "str_iterator" (.inr rfl)) ⟨_, Heap.get?_push_size _ rfl, rfl, rfl⟩ q)
    · exact wpAny_pyIter_ascii ha (pi_one (tk := s1.toks) I1 _ (turn_str _ z t "str_ascii_iterator" (.inl rfl)) ⟨_, Heap.get?_push_size _ rfl, rfl, rfl⟩ q)
def mSeqs (m : ME) : MI := fun τ h Q => m τ h fun p h1 => match p with
  | .str x => x.length ≤ SZ ∧ Q (ones x) (fun _ => True) h1
  | .tup xs => Q xs (fun _ => True) h1
  | p => match seqL h1 p with
    | some xs => Q xs (gdS p xs) h1
    | none => False
section
variable {X : Cx} {tg e e2 : Expr} {pos p : Pos} {m : ME}
theorem li_seqs (he : LE X e m) : LI X tg e (mSeqs m) := by
  refine PI.weak (pi_seqs he) fun σ H R ⟨τ, h, Q', s, sh, q, l⟩ => ?_
  refine ⟨τ, h, _, s, sh, q, fun p h1 v H1 q1 g1 r1 s1 => ?_⟩
  split at q1
  · rename_i x
    refine .inr ⟨x, rel_str.mp r1, l _ _ _ _ _ q1.2 g1 s1 ⟨?_, fun i H h hi _ _ _ => ?_, fun H h _ _ _ => ?_, fun i H h y H' p hp _ sh' _ hy => ?_⟩⟩
    · unfold ones; rw [List.length_map, ← cl_length]; exact sz_le q1.1
    · unfold ones at hi; rw [List.length_map, ← cl_length] at hi; exact hi
    · show x.cps.size ≤ _
      unfold ones; rw [List.length_map, ← cl_length]; exact Nat.le_refl _
    · obtain ⟨rfl, c, hc, rfl⟩ := hy
      unfold ones at hp
      rw [List.getElem?_map] at hp
      have : (cl x)[i]? = some c := by unfold cl; rw [Array.getElem?_toList]; exact hc
      rw [this] at hp
      simp only [Option.map_some, Option.some.injEq] at hp
      subst hp
      exact ⟨.refl, sh', rel_str.mpr rfl⟩
  · rename_i xs
    obtain ⟨a, ys, rfl, hq, rr⟩ := rel_tup.mp r1
    refine .inl (.inr ⟨a, ys, rfl, hq, fun hz => l _ _ _ _ _ q1 g1 s1 ⟨by rw [rr.length]; exact hz, fun i H h hi m _ _ => ?_, fun H h m _ _ => ⟨ys, m.sqT hq, by rw [rr.length]; exact Nat.le_refl _⟩, fun i H h y H' p hp m sh' _ hy => ?_⟩⟩)
    · rw [rr.length] at hi
      exact ⟨ys, ys[i], m.sqT hq, List.getElem?_eq_getElem hi⟩
    · obtain ⟨rfl, hy⟩ := hy
      have e := hy ys (m.sqT hq)
      obtain ⟨w, e1, r2⟩ := (rr.mono m).get hp
      rw [e] at e1; cases e1
      exact ⟨.refl, sh', r2⟩
  · split at q1
    · rename_i e
      obtain ⟨a, ys, rfl, hq, rr, later⟩ := seqL_walk r1 s1 e
      refine .inl (.inl ⟨a, ys, rfl, hq, fun hz => l _ _ _ _ _ q1 g1 s1 ⟨by rw [rr.length]; exact hz, fun i H h hi m sm g => ?_, fun H h m sm g => ?_, fun i H h y H' p hp m sm g hy => ?_⟩⟩)
      · obtain ⟨us, hu, ru⟩ := later H h m sm g
        rw [ru.length] at hi
        exact ⟨us, us[i], hu, List.getElem?_eq_getElem hi⟩
      · obtain ⟨us, hu, ru⟩ := later H h m sm g
        exact ⟨us, hu, by rw [ru.length]; exact Nat.le_refl _⟩
      · obtain ⟨us, hu, ru⟩ := later H h m sm g
        obtain ⟨rfl, hy⟩ := hy
        have e := hy us hu
        obtain ⟨w, e1, r2⟩ := ru.get hp
        rw [e] at e1; cases e1
        exact ⟨.refl, sm, r2⟩
    · exact q1.elim
/-- range -/
def rng (lo : Int) (n : Nat) : List PV := (List.range n).map fun i => .int (lo + (i : Nat))
theorem rng_wk {K : PySem.W.Frag} {lo : Int} {n : Nat} {H1 : Hp} (hn : n ≤ SZ) : Wk K (Itr lo n) (rng lo n) (fun _ => True) H1 := by
  refine ⟨by unfold rng; rw [List.length_map, List.length_range]; exact sz_le hn, fun i H h hi _ _ _ => ?_, fun H h _ _ _ => ?_, fun i H h y H' p hp _ sh' _ hy => ?_⟩
  · unfold rng at hi; rw [List.length_map, List.length_range] at hi; exact hi
  · show n ≤ _; unfold rng; rw [List.length_map, List.length_range]; exact Nat.le_refl _
  · obtain ⟨rfl, rfl⟩ := hy
    unfold rng at hp
    rw [List.getElem?_map] at hp
    cases e : (List.range n)[i]? with
    | none => rw [e] at hp; cases hp
    | some j =>
      rw [e] at hp
      obtain ⟨hj, ej⟩ := List.getElem?_eq_some_iff.mp e
      rw [List.getElem_range] at ej
      subst ej
      simp only [Option.map_some, Option.some.injEq] at hp
      subst hp
      exact ⟨.refl, sh', rel_int.mpr rfl⟩
def mRng1 (m : MA) : MI := fun τ h Q => m τ h fun ps h1 => match ps with
  | [.int j] => (-16777216 ≤ j ∧ j ≤ 16777216) ∧ Q (rng 0 j.toNat) (fun _ => True) h1
  | _ => False
def mRng2 (m : MA) : MI := fun τ h Q => m τ h fun ps h1 => match ps with
  | [.int i, .int j] => (-16777216 ≤ i ∧ i ≤ 16777216 ∧ -16777216 ≤ j ∧ j ≤ 16777216 ∧ j - i ≤ 16777216) ∧ Q (rng i (j - i).toNat) (fun _ => True) h1
  | _ => False
theorem li_rng1 {m : MA} (hm : X.mg "range" = none) (ha : LAn X [e] 1 m) (hg : Gl X "range" := by rfl) (hs : starEach [e] X.env = [(false, eval e X.env)] := by rfl) : LI X tg (.Call (.Name "range" p) [e] [] pos) (mRng1 m) := by
  refine PI.weak (pi_range1 hg hm ha hs) fun σ H R ⟨τ, h, Q', s, sh, q, l⟩ => ?_
  refine ⟨τ, h, _, s, sh, q, fun ps h1 vs H1 q1 hl g1 r1 s1 => ?_⟩
  split at q1
  · rename_i j
    obtain ⟨v, rfl, r2⟩ := r1.one
    have ev := rel_int.mp r2
    subst ev
    exact ⟨j, rfl, by omega, by omega, l _ _ _ _ _ q1.2 g1 s1 (rng_wk (by show _ ≤ 16777216; omega))⟩
  · exact q1.elim
theorem li_rng2 {m : MA} (hm : X.mg "range" = none) (ha : LAn X [e, e2] 2 m) (hg : Gl X "range" := by rfl) (hs : starEach [e, e2] X.env = [(false, eval e X.env), (false, eval e2 X.env)] := by rfl) (hs2 : starEach [e2] X.env = [(false, eval e2 X.env)] := by rfl) :
    LI X tg (.Call (.Name "range" p) [e, e2] [] pos) (mRng2 m) := by
  refine PI.weak (pi_range2 hg hm ha hs hs2) fun σ H R ⟨τ, h, Q', s, sh, q, l⟩ => ?_
  refine ⟨τ, h, _, s, sh, q, fun ps h1 vs H1 q1 hl g1 r1 s1 => ?_⟩
  split at q1
  · rename_i i j
    obtain ⟨v, w, rfl, r2, r3⟩ := r1.two
    have ev := rel_int.mp r2
    have ew := rel_int.mp r3
    subst ev ew
    exact ⟨i, j, rfl, ⟨by omega, by omega, by omega, by omega⟩, l _ _ _ _ _ q1.2 g1 s1 (rng_wk (by show _ ≤ 16777216; omega))⟩
  · exact q1.elim
/-- enumerate of a list -/
def enm (xs : List PV) : List PV := xs.zipIdx.map fun x => .tup [.int (x.2 : Nat), x.1]
def mEnum (m : MA) : MI := fun τ h Q => m τ h fun ps h1 => match ps with
  | [p] => (match seqL h1 p with | some xs => xs.length ≤ SZ ∧ Q (enm xs) (gdS p xs) h1 | none => False)
  | _ => False
theorem li_enum {m : MA} {elts : List Expr} {kk : Nat} {tpos : Pos} (hm : X.mg "enumerate" = none) (ha : LAn X [e] 1 m) (hg : Gl X "enumerate" := by rfl) (hs : starEach [e] X.env = [(false, eval e X.env)] := by rfl) :
    LI X (.Tuple elts kk tpos) (.Call (.Name "enumerate" p) [e] [] pos) (mEnum m) := by
  refine PI.weak (pi_enum hg hm ha hs) fun σ H R ⟨τ, h, Q', s, sh, q, l⟩ => ?_
  refine ⟨τ, h, _, s, sh, q, fun ps h1 vs H1 q1 hl g1 r1 s1 => ?_⟩
  split at q1
  · rename_i p
    obtain ⟨v, rfl, r2⟩ := r1.one
    split at q1
    · rename_i xs e
      obtain ⟨a, ys, rfl, hq, rr, later⟩ := seqL_walk r2 s1 e
      have hlen : (enm xs).length = xs.length := by unfold enm; simp
      refine ⟨a, ys, rfl, hq, l _ _ _ _ _ q1.2 g1 s1 ⟨by rw [hlen]; exact sz_le q1.1, fun i H h hi m sm g => ?_, fun H h m sm g => ?_, fun i H h y H' p hp m sm g hy => ?_⟩⟩
      · obtain ⟨us, hu, ru⟩ := later H h m sm g
        rw [hlen, ru.length] at hi
        exact ⟨us, us[i], hu, List.getElem?_eq_getElem hi⟩
      · obtain ⟨us, hu, ru⟩ := later H h m sm g
        exact ⟨us, hu, by rw [hlen, ru.length]; exact Nat.le_refl _⟩
      · obtain ⟨us, hu, ru⟩ := later H h m sm g
        obtain ⟨T, x, rfl, hT, rfl, hy⟩ := hy
        have e := hy us hu
        unfold enm at hp
        rw [List.getElem?_map, List.getElem?_zipIdx] at hp
        cases ex : xs[i]? with
        | none => rw [ex] at hp; cases hp
        | some w =>
          rw [ex] at hp
          simp only [Option.map_some, Option.some.injEq, Nat.zero_add] at hp
          subst hp
          obtain ⟨w', e1, r3⟩ := ru.get ex
          rw [e] at e1; cases e1
          have mm : Mono H (upd H T (.tup [.int (i : Nat), x])) := Mono.new hT
          exact ⟨.new hT, sm.new hT, rel_tup.mpr ⟨T, _, rfl, .inl (.inl upd_same), .cons (rel_int.mpr rfl) (.cons (r3.mono mm) .nil)⟩⟩
    · exact q1.elim
  · exact q1.elim
/-- zip of two lists -/
def mZip (m : MA) : MI := fun τ h Q => m τ h fun ps h1 => match ps with
  | [p, q] => (match seqL h1 p, seqL h1 q with | some xs, some ys => xs.length ≤ SZ ∧ Q (List.zipWith (fun x y => .tup [x, y]) xs ys) (fun h => gdS p xs h ∧ gdS q ys h) h1 | _, _ => False)
  | _ => False
theorem li_zip {m : MA} {elts : List Expr} {kk : Nat} {tpos : Pos} (hm : X.mg "zip" = none) (ha : LAn X [e, e2] 2 m) (hg : Gl X "zip" := by rfl)
    (hs : starEach [e, e2] X.env = (false, eval e X.env) :: starEach [e2] X.env := by rfl) (hpl : (backTo pos (starEach [e2] X.env)).any (·.1) = false := by rfl) :
    LI X (.Tuple elts kk tpos) (.Call (.Name "zip" p) [e, e2] [] pos) (mZip m) := by
  refine PI.weak (pi_zip hg hm ha hs hpl) fun σ H R ⟨τ, h, Q', s, sh, q, l⟩ => ?_
  refine ⟨τ, h, _, s, sh, q, fun ps h1 vs H1 q1 hl g1 r1 s1 => ?_⟩
  split at q1
  · rename_i p p'
    obtain ⟨v, v', rfl, r2, r3⟩ := r1.two
    split at q1
    · rename_i xs ys e e'
      obtain ⟨a, us, rfl, hq, rr, later⟩ := seqL_walk r2 s1 e
      obtain ⟨b, ws, rfl, hq', rr', later'⟩ := seqL_walk r3 s1 e'
      have hlen : (List.zipWith (fun x y => PV.tup [x, y]) xs ys).length = min xs.length ys.length := List.length_zipWith
      refine ⟨a, b, us, ws, rfl, hq, hq', l _ _ _ _ _ q1.2 g1 s1 ⟨by rw [hlen]; exact sz_le (by omega), fun i H h hi m sm g => ?_, fun H h m sm g => ?_, fun i H h y H' p hp m sm g hy => ?_⟩⟩
      · obtain ⟨us1, hu, ru⟩ := later H h m sm g.1
        obtain ⟨ws1, hw, rw1⟩ := later' H h m sm g.2
        rw [hlen, ru.length, rw1.length] at hi
        exact ⟨us1, ws1, us1[i]'(by omega), ws1[i]'(by omega), hu, hw, List.getElem?_eq_getElem (by omega), List.getElem?_eq_getElem (by omega)⟩
      · obtain ⟨us1, hu, ru⟩ := later H h m sm g.1
        obtain ⟨ws1, hw, rw1⟩ := later' H h m sm g.2
        exact ⟨us1, ws1, hu, hw, by rw [hlen, ru.length, rw1.length]; omega⟩
      · obtain ⟨us1, hu, ru⟩ := later H h m sm g.1
        obtain ⟨ws1, hw, rw1⟩ := later' H h m sm g.2
        obtain ⟨T, x, y, rfl, hT, rfl, hx, hy⟩ := hy
        have ex := hx us1 hu
        have ey := hy ws1 hw
        rw [List.getElem?_zipWith] at hp
        obtain ⟨x', ex', rx⟩ := ru.get' ex
        obtain ⟨y', ey', ry⟩ := rw1.get' ey
        rw [ex', ey'] at hp
        simp only [Option.some.injEq] at hp
        subst hp
        have mm : Mono H (upd H T (.tup [x, y])) := Mono.new hT
        exact ⟨.new hT, sm.new hT, rel_tup.mpr ⟨T, _, rfl, .inl (.inl upd_same), .cons (rx.mono mm) (.cons (ry.mono mm) .nil)⟩⟩
    · exact q1.elim
  · exact q1.elim
end
end N3

namespace N3
open PySem PySem.Spec PyProof.Rows L2

/-! ### names of the module that hold an int or a text -/
section
variable {X : Cx} {pos : Pos}
theorem le_glI {x : Str} {i : Int} {t : Tok} (hm : X.mg x = some (.int i t)) (hg : Gl X x := by rfl) (hd : (x == ("__debug__" : Str)) = false := by decide) : LE X (.Name x pos) (mC (.int i)) :=
  le_c (pe_glob (v := .int i) hg hm ⟨t, rfl⟩ hd) fun _ => rel_int.mpr rfl
theorem le_glS {x : Str} {z : Str} {t : Tok} (hm : X.mg x = some (.str z t)) (hg : Gl X x := by rfl) (hd : (x == ("__debug__" : Str)) = false := by decide) : LE X (.Name x pos) (mC (.str z)) :=
  le_c (pe_glob (v := .str z) hg hm ⟨t, rfl⟩ hd) fun _ => rel_str.mpr rfl
end

/-! ### repr of data, dicts too -/
mutual
/-- data that can be read off the heap, no dict of it the modules' own -/
inductive RD (h : Heap) : Value → PyData → Prop
  | none : RD h .none .none
  | bool (b : Bool) : RD h (.bool b) (.bool b)
  | int (i : Int) (t : Tok) : RD h (.int i t) (.int i)
  | str (x : Str) (t : Tok) : RD h (.str x t) (.str x)
  | list {a : Addr} {o : Obj} {vs : Array Value} {n : Nat} {xs : List PyData} : h.get? a = some o → o.cls = .type "list" → o.data = .seq vs n → RDs h vs.toList xs → RD h (.ref a) (.list xs)
  | tuple {a : Addr} {o : Obj} {vs : Array Value} {n : Nat} {xs : List PyData} : h.get? a = some o → o.cls = .type "tuple" → o.data = .seq vs n → RDs h vs.toList xs → RD h (.ref a) (.tuple xs)
  | dict {a : Addr} {o : Obj} {es : Array DictEntry} {n : Nat} {kvs : List (PyData × PyData)} : (a == sysModules) = false → h.get? a = some o → o.cls = .type "dict" → o.data = .dict es n →
      RDs h (es.toList.map (·.key)) (kvs.map (·.1)) → RDs h (es.toList.map (·.val)) (kvs.map (·.2)) → RD h (.ref a) (.dict kvs)
inductive RDs (h : Heap) : List Value → List PyData → Prop
  | nil : RDs h [] []
  | cons {v : Value} {vs : List Value} {d : PyData} {ds : List PyData} : RD h v d → RDs h vs ds → RDs h (v :: vs) (d :: ds)
end
section
variable {prog : Program} {w : World} {h0 : Heap}
mutual
theorem RD.reads : ∀ {v : Value} {d : PyData}, RD h0 v d → ∃ as, Reads h0 v d as
  | _, _, .none => ⟨_, .none⟩
  | _, _, .bool b => ⟨_, .bool b⟩
  | _, _, .int i t => ⟨_, .int i t⟩
  | _, _, .str x t => ⟨_, .str x t⟩
  | _, _, .list h1 h2 h3 h4 => let ⟨_, r⟩ := RDs.reads h4; ⟨_, .list h1 h2 h3 r⟩
  | _, _, .tuple h1 h2 h3 h4 => let ⟨_, r⟩ := RDs.reads h4; ⟨_, .tuple h1 h2 h3 r⟩
  | _, _, .dict _ h1 h2 h3 h4 h5 => let ⟨_, r⟩ := RDs.reads h4; let ⟨_, q⟩ := RDs.reads h5; ⟨_, .dict h1 h2 h3 r q⟩
theorem RDs.reads : ∀ {vs : List Value} {ds : List PyData}, RDs h0 vs ds → ∃ as, ReadsAll h0 vs ds as
  | _, _, .nil => ⟨_, .nil⟩
  | _, _, .cons h1 h2 => let ⟨_, r⟩ := RD.reads h1; let ⟨_, q⟩ := RDs.reads h2; ⟨_, .cons r q⟩
end
mutual
theorem RD.shows : ∀ {v : Value} {d : PyData}, RD h0 v d → d.showable = true → d.shown.length ≤ sizeLine → ∃ bs, ReadAtMost h0 d.depth bs ∧ ReprK prog w bs h0 d.depth v d.shown
  | _, _, .none, _, _ => ⟨[], (fun _ z => nomatch z), by simp only [PyData.shown]; exact .of_is ReprIs.none _ _ _⟩
  | _, _, .bool b, _, _ => ⟨[], (fun _ z => nomatch z), by simp only [PyData.shown]; exact .of_is (ReprIs.bool b) _ _ _⟩
  | _, _, .int i t, hs, _ => ⟨[], (fun _ z => nomatch z), by simp only [PyData.shown]; exact .of_is (ReprIs.int t (by simpa [PyData.showable] using hs)) _ _ _⟩
  | _, _, .str x t, _, hz => ⟨[], (fun _ z => nomatch z), by simp only [PyData.shown]; exact .of_is (ReprIs.str x t (by simpa only [PyData.shown] using hz)) _ _ _⟩
  | _, _, .list (a := a) (vs := ws) (xs := ds) g1 g2 g3 g4, hs, hz => by
    have room : (listText (PyData.shownAll ds)).length ≤ sizeLine := by simpa only [PyData.shown] using hz
    obtain ⟨bs, hb, hk⟩ := RDs.shows g4 (by simpa [PyData.showable] using hs) fun t ht => Nat.le_trans (listText_mem_le ht) room
    obtain ⟨_, r⟩ := RD.reads (.list g1 g2 g3 g4)
    have out : a ∉ bs := not_mem_of_deeper r (by simp only [PyData.depth]; omega) hb
    refine ⟨a :: bs, ReadAtMost.cons r (by simp only [PyData.depth]; omega) hb, ?_⟩
    simp only [PyData.depth, PyData.shown]
    obtain ⟨l⟩ := ws
    cases l with
    | nil =>
      cases (show RDs h0 [] ds from g4)
      simp only [PyData.shownAll, listText_nil]
      exact ReprK.listEmpty g1 g2 g3
    | cons x l => exact ReprK.list g1 g2 g3 out (by simpa using hk.length_eq) fun i y e => hk.item i y (by simpa using e)
  | _, _, .tuple (a := a) (xs := ds) g1 g2 g3 g4, hs, hz => by
    have room : (tupleText (PyData.shownAll ds)).length ≤ sizeLine := by simpa only [PyData.shown] using hz
    obtain ⟨bs, hb, hk⟩ := RDs.shows g4 (by simpa [PyData.showable] using hs) fun t ht => Nat.le_trans (tupleText_mem_le ht) room
    obtain ⟨_, r⟩ := RD.reads (.tuple g1 g2 g3 g4)
    have out : a ∉ bs := not_mem_of_deeper r (by simp only [PyData.depth]; omega) hb
    refine ⟨a :: bs, ReadAtMost.cons r (by simp only [PyData.depth]; omega) hb, ?_⟩
    simp only [PyData.depth, PyData.shown]
    exact ReprK.tuple g1 g2 g3 out hk
  | _, _, .dict (a := a) (es := es) (kvs := kvs) g0 g1 g2 g3 g4 g5, hs, hz => by
    have room : (dictText (PyData.shownKv kvs)).length ≤ sizeLine := by simpa only [PyData.shown] using hz
    obtain ⟨s1, s2⟩ := PyData.showableKv_split kvs (by simpa [PyData.showable] using hs)
    obtain ⟨b1, hb1, k1⟩ := RDs.shows g4 s1 fun t ht => let ⟨p, hp, hl⟩ := PyData.shownKv_key_le kvs t ht; Nat.le_trans hl (Nat.le_trans (dictText_mem_le hp) room)
    obtain ⟨b2, hb2, k2⟩ := RDs.shows g5 s2 fun t ht => let ⟨p, hp, hl⟩ := PyData.shownKv_val_le kvs t ht; Nat.le_trans hl (Nat.le_trans (dictText_mem_le hp) room)
    obtain ⟨_, r⟩ := RD.reads (.dict g0 g1 g2 g3 g4 g5)
    have hb : ReadAtMost h0 (PyData.depthKv kvs) (b1 ++ b2) := (hb1.mono (PyData.depthAll_keys_le kvs)).append (hb2.mono (PyData.depthAll_vals_le kvs))
    have out : a ∉ b1 ++ b2 := not_mem_of_deeper r (by simp only [PyData.depth]; omega) hb
    refine ⟨a :: (b1 ++ b2), ReadAtMost.cons r (by simp only [PyData.depth]; omega) hb, ?_⟩
    simp only [PyData.depth, PyData.shown, PyData.shownKv_eq]
    exact ReprK.dict g1 g2 g3 g0 out (ReprEntriesK.of_two es.toList _ _ (k1.more_le (fun b z => List.mem_append_left _ z) (PyData.depthAll_keys_le kvs)) (k2.more_le (fun b z => List.mem_append_right _ z) (PyData.depthAll_vals_le kvs)))
theorem RDs.shows : ∀ {vs : List Value} {ds : List PyData}, RDs h0 vs ds → PyData.showableAll ds = true → (∀ t ∈ PyData.shownAll ds, t.length ≤ sizeLine) → ∃ bs, ReadAtMost h0 (PyData.depthAll ds) bs ∧ ReprAllK prog w bs h0 (PyData.depthAll ds) vs (PyData.shownAll ds)
  | _, _, .nil, _, _ => ⟨[], (fun _ z => nomatch z), by simp only [PyData.shownAll]; exact .nil⟩
  | _, _, .cons (d := d) (ds := ds) g1 g2, hs, hz => by
    have s12 : d.showable = true ∧ PyData.showableAll ds = true := by simpa [PyData.showableAll] using hs
    obtain ⟨b1, hb1, k1⟩ := RD.shows g1 s12.1 (hz _ (by simp only [PyData.shownAll]; exact List.mem_cons_self))
    obtain ⟨b2, hb2, k2⟩ := RDs.shows g2 s12.2 fun t ht => hz t (by simp only [PyData.shownAll]; exact List.mem_cons_of_mem _ ht)
    refine ⟨b1 ++ b2, ?_, ?_⟩
    · simp only [PyData.depthAll]
      exact (hb1.mono (Nat.le_max_left _ _)).append (hb2.mono (Nat.le_max_right _ _))
    · simp only [PyData.depthAll, PyData.shownAll]
      exact .cons ((k1.more fun b z => List.mem_append_left _ z).level_le (Nat.le_max_left _ _)) (k2.more_le (fun b z => List.mem_append_right _ z) (Nat.le_max_right _ _))
end
end
mutual
/-- data, dicts too -/
def okR : PV → Bool
  | .non => true
  | .bl _ => true
  | .int _ => true
  | .str _ => true
  | .tup ps => okRs ps
  | .lst ps => okRs ps
  | .dct ks vs => decide (ks.length = vs.length) && okRs vs
  | _ => false
def okRs : List PV → Bool
  | [] => true
  | p :: ps => okR p && okRs ps
end
section
variable {X : Cx} {pins : List (Addr × Obj)} {σ : L2.St} {H : Hp} {s : Shared}
/-- a dict's keys and values, read off -/
theorem dict_rd {P : Program} {w : World} {h : Heap} {es : List DictEntry} {ws : List (Key × Value)} (hp : Pairs (mixKind P w) es ws) : ∀ {kvs : List (Key × V)}, KV kvs ws →
    RDs h (es.map (·.key)) (kvs.map fun kv => keyD kv.1) ∧ Vals (kvs.map (·.2)) (es.map (·.val)) := by
  induction hp with
  | nil =>
    intro kvs r
    unfold KV at r
    cases r
    exact ⟨.nil, .nil⟩
  | @cons e w' es ws h1 h2 t ih =>
    intro kvs r
    unfold KV at r
    cases r with
    | @cons kv _ kvs _ r1 r2 =>
      obtain ⟨i1, i2⟩ := ih r2
      have q1 : RD h e.key (keyD kv.1) := by
        rw [r1.1]
        rcases keyIs_shape h1 with ⟨i, t', e1, e2⟩ | ⟨x, t', e1, e2⟩
        · rw [e1, e2]; exact .int i t'
        · rw [e1, e2]; exact .str x t'
      have q2 : L2.RelV kv.2 e.val := by rw [h2]; exact r1.2
      exact ⟨.cons q1 i1, .cons q2 i2⟩
theorem zip_fst {α β : Type} : ∀ {xs : List α} {ys : List β}, xs.length = ys.length → (xs.zip ys).map (·.1) = xs
  | [], [], _ => rfl
  | x :: xs, y :: ys, h => by simp only [List.zip_cons_cons, List.map_cons, zip_fst (xs := xs) (ys := ys) (by simpa using h)]
  | [], _ :: _, h => by simp at h
  | _ :: _, [], h => by simp at h
theorem zip_snd {α β : Type} : ∀ {xs : List α} {ys : List β}, xs.length = ys.length → (xs.zip ys).map (·.2) = ys
  | [], [], _ => rfl
  | x :: xs, y :: ys, h => by simp only [List.zip_cons_cons, List.map_cons, zip_snd (xs := xs) (ys := ys) (by simpa using h)]
  | [], _ :: _, h => by simp at h
  | _ :: _, [], h => by simp at h
theorem toDs_length : ∀ ps : List PV, (toDs ps).length = ps.length
  | [] => by simp only [toDs, List.length_nil]
  | p :: ps => by simp only [toDs, List.length_cons, toDs_length ps]
mutual
theorem Rel.rd (I : Inv X pins σ H s) : ∀ (p : PV) (v : V) (u : Value), okR p = true → Rel X.K H p v → RelV v u → RD s.heap u (toD p)
  | .non, _, _, _, r, rv => by rw [rel_non.mp r] at rv; cases rv; exact .none
  | .bl b, _, _, _, r, rv => by rw [rel_bl.mp r] at rv; cases rv; exact .bool b
  | .int i, _, _, _, r, rv => by rw [rel_int.mp r] at rv; obtain ⟨t, rfl⟩ := rv; exact .int i t
  | .str x, _, _, _, r, rv => by rw [rel_str.mp r] at rv; obtain ⟨t, rfl⟩ := rv; exact .str x t
  | .tup ps, _, _, f, r, rv => by
    obtain ⟨a, xs, rfl, hq, rr⟩ := rel_tup.mp r
    cases rv
    simp only [okR] at f
    simp only [toD]
    obtain ⟨its, rx, ⟨o, e, c, n, d⟩, _⟩ := I.tuple hq
    exact .tuple e c d (Rels.rd I ps xs its f rr rx)
  | .lst ps, _, _, f, r, rv => by
    obtain ⟨a, xs, rfl, hq, rr⟩ := rel_lst.mp r
    cases rv
    simp only [okR] at f
    simp only [toD]
    obtain ⟨its, rx, ⟨o, n, e, c, _, d⟩, _⟩ := I.list hq.sq
    exact .list e c d (Rels.rd I ps xs its f rr rx)
  | .dct ks vs, _, _, f, r, rv => by
    obtain ⟨a, kvs, rfl, ⟨o, hq⟩, ek, rr⟩ := rel_dct.mp r
    cases rv
    simp only [okR, Bool.and_eq_true, decide_eq_true_eq] at f
    simp only [toD]
    obtain ⟨hs, hgd, hx, es, ep, ws, hdt, hsz, kv, o', es', e', _, d', _, pr, _⟩ := I.frzK hq
    rw [hgd] at e'; cases e'
    rw [hdt] at d'; injection d' with d1 _; subst d1
    obtain ⟨q1, q2⟩ := dict_rd (h := s.heap) pr kv
    have len : (ks.map keyD).length = (toDs vs).length := by rw [List.length_map, toDs_length, f.1]
    refine .dict hs hgd hx.1 hdt ?_ ?_
    · rw [zip_fst len, ek, List.map_map]; exact q1
    · rw [zip_snd len]; exact Rels.rd I vs _ _ f.2 rr q2
  | .ref _, _, _, f, _, _ => by simp [okR] at f
  | .ty _, _, _, f, _, _ => by simp [okR] at f
theorem Rels.rd (I : Inv X pins σ H s) : ∀ (ps : List PV) (vs : List V) (us : List Value), okRs ps = true → Rels X.K H ps vs → Vals vs us → RDs s.heap us (toDs ps)
  | [], _, _, _, r, rv => by rw [r.len0] at rv; cases rv; simp only [toDs]; exact .nil
  | p :: ps, _, _, f, r, rv => by
    obtain ⟨v, vs, rfl, r1, r2⟩ := r.uncons
    cases rv with
    | cons q1 q2 =>
      simp only [okRs, Bool.and_eq_true] at f
      simp only [toDs]
      exact .cons (Rel.rd I p v _ f.1 r1 q1) (Rels.rd I ps vs _ f.2 r2 q2)
end
end
/-- what repr asks of a value that stands so in the heap -/
def oRepr (K : PySem.W.Frag) : List V → Hp → VK → Prop := fun xs H Q => ∃ (x : V) (d : PyData), xs = [x] ∧ d.showable = true ∧ d.depth ≤ 64 ∧ d.shown.length ≤ sizeLine ∧ Q (.str d.shown) H ∧
  ((∃ p, okR p = true ∧ Rel K H p x ∧ d = toD p) ∨ (∃ a ys ps, x = .ref a ∧ H a = some (.lst ys) ∧ okRs ps = true ∧ Rels K H ps ys ∧ d = .list (toDs ps)))
theorem repr_rd {prog : Program} {w : World} {A : Around} {E : Value → Shared → Prop} {s : Shared} {Q : Value → Shared → Prop} {u : Value} {d : PyData} (r : RD s.heap u d) (hs : d.showable = true) (hG : A.guards = some []) (hu : A.units + (d.depth + 1) < cLine) (hl : d.shown.length ≤ sizeLine)
    (hQ : ∀ h' t tk, (∀ b o, s.heap.get? b = some o → h'.get? b = some o) → Q (.str d.shown t) { s with heap := h', toks := tk }) : wpAny (model prog w) A (call (.builtin "repr") [u]) Q E s := by
  cases r with
  | none => exact P.repr_of_none (by have := hQ s.heap s.toks (s.toks + 1) fun _ _ e => e; simpa only [PyData.shown] using this)
  | bool b => exact P.repr_of_bool (by have := hQ s.heap s.toks (s.toks + 1) fun _ _ e => e; simpa only [PyData.shown] using this)
  | int i t => exact P.repr_of_int (by simpa [PyData.showable] using hs) (by have := hQ s.heap s.toks (s.toks + 1) fun _ _ e => e; simpa only [PyData.shown] using this)
  | str y t => exact P.repr_of_str (hsz := by simpa only [PyData.shown] using hl) (by have := hQ s.heap s.toks (s.toks + 1) fun _ _ e => e; simpa only [PyData.shown] using this)
  | @list a o ws n ds g1 g2 g3 g4 =>
    obtain ⟨_, r⟩ := RD.reads (.list g1 g2 g3 g4)
    have room : (listText (PyData.shownAll ds)).length ≤ sizeLine := by simpa only [PyData.shown] using hl
    obtain ⟨bs, hb, hk⟩ := RDs.shows (prog := prog) (w := w) g4 (by simpa [PyData.showable] using hs) fun t ht => Nat.le_trans (listText_mem_le ht) room
    have out : a ∉ bs := not_mem_of_deeper r (by simp only [PyData.depth]; omega) hb
    simp only [PyData.depth] at hu
    simp only [PyData.shown] at hQ
    refine call_repr_slot (by omega) ⟨o, g1, g2⟩ F.slot_list_repr.toG ?_
    obtain ⟨l⟩ := ws
    cases l with
    | nil =>
      cases (show RDs s.heap [] ds from g4)
      simp only [PyData.shownAll, listText_nil] at hQ
      exact call_list_repr_empty ⟨o, g1, g2⟩ g1 g3 ⟨_, _, rfl, hQ s.heap _ _ fun _ _ e => e⟩
    | cons x l =>
      exact call_list_reprK g1 g2 g3 out (by simpa using hk.length_eq) (fun i y e => hk.item i y (by simpa using e)) hG (fun b _ => Clear.nil b) (by show A.units + 1 + _ < cLine; omega) (fun _ _ e => e) (fun h' t tk hk' => ⟨_, _, rfl, hQ h' t tk hk'⟩) room
  | @tuple a o ws n ds g1 g2 g3 g4 =>
    obtain ⟨_, r⟩ := RD.reads (.tuple g1 g2 g3 g4)
    have room : (tupleText (PyData.shownAll ds)).length ≤ sizeLine := by simpa only [PyData.shown] using hl
    obtain ⟨bs, hb, hk⟩ := RDs.shows (prog := prog) (w := w) g4 (by simpa [PyData.showable] using hs) fun t ht => Nat.le_trans (tupleText_mem_le ht) room
    have out : a ∉ bs := not_mem_of_deeper r (by simp only [PyData.depth]; omega) hb
    simp only [PyData.depth] at hu
    simp only [PyData.shown] at hQ
    exact call_repr_slot (by omega) ⟨o, g1, g2⟩ F.slot_tuple_repr (call_tuple_reprK g1 g2 g3 out hk hG (fun b _ => Clear.nil b) (by show A.units + 1 + _ < cLine; omega) (fun _ _ e => e) (fun h' t tk hk' => ⟨_, _, rfl, hQ h' t tk hk'⟩) room)
  | @dict a o es n kvs g0 g1 g2 g3 g4 g5 =>
    obtain ⟨_, r⟩ := RD.reads (.dict g0 g1 g2 g3 g4 g5)
    have room : (dictText (PyData.shownKv kvs)).length ≤ sizeLine := by simpa only [PyData.shown] using hl
    obtain ⟨s1, s2⟩ := PyData.showableKv_split kvs (by simpa [PyData.showable] using hs)
    obtain ⟨b1, hb1, k1⟩ := RDs.shows (prog := prog) (w := w) g4 s1 fun t ht => let ⟨p, hp, hl⟩ := PyData.shownKv_key_le kvs t ht; Nat.le_trans hl (Nat.le_trans (dictText_mem_le hp) room)
    obtain ⟨b2, hb2, k2⟩ := RDs.shows (prog := prog) (w := w) g5 s2 fun t ht => let ⟨p, hp, hl⟩ := PyData.shownKv_val_le kvs t ht; Nat.le_trans hl (Nat.le_trans (dictText_mem_le hp) room)
    have hb : ReadAtMost s.heap (PyData.depthKv kvs) (b1 ++ b2) := (hb1.mono (PyData.depthAll_keys_le kvs)).append (hb2.mono (PyData.depthAll_vals_le kvs))
    have out : a ∉ b1 ++ b2 := not_mem_of_deeper r (by simp only [PyData.depth]; omega) hb
    simp only [PyData.depth] at hu
    simp only [PyData.shown, PyData.shownKv_eq] at hQ
    exact call_repr_slot (by omega) ⟨o, g1, g2⟩ F.slot_dict_repr (call_dict_reprK g1 g2 g3 g0 out (ReprEntriesK.of_two es.toList _ _ (k1.more_le (fun b z => List.mem_append_left _ z) (PyData.depthAll_keys_le kvs)) (k2.more_le (fun b z => List.mem_append_right _ z) (PyData.depthAll_vals_le kvs))) hG (fun b _ => Clear.nil b)
      (by show A.units + 1 + _ < cLine; omega) (fun _ _ e => e) (fun h' t tk hk' => ⟨_, _, rfl, hQ h' t tk hk'⟩) (by rw [← PyData.shownKv_eq]; exact room))
theorem call_reprA {X : Cx} (hG : X.A.guards = some []) (hu : X.A.units + 66 < cLine) : CallR X (.builtin "repr") (oRepr X.K) := by
  intro pins s σ H xs us Q I rx h
  obtain ⟨x, d, rfl, hs, hz, hl, q, h⟩ := h
  obtain ⟨u, rfl, ru⟩ := vals1 rx
  have rd : RD s.heap u d := by
    rcases h with ⟨p, ok, r, rfl⟩ | ⟨a, ys, ps, rfl, ha, ok, rr, rfl⟩
    · exact Rel.rd I p x u ok r ru
    · cases ru
      obtain ⟨its, rx, ⟨o, n, e, c, _, dd⟩, _⟩ := I.list (.of ha)
      exact .list e c dd (Rels.rd I ps ys its ok rr rx)
  exact repr_rd rd hs hG (by omega) hl fun h' t tk hk => ⟨.str _, H, I.kept hk, ⟨_, rfl⟩, q⟩
/-- a list that may change, as it stands -/
def vwL (h : PH) : PV → PV
  | .ref a => match h a with | some (.lst xs) => .lst xs | _ => .ref a
  | p => p
def rRepr : PRA := fun ps h Q => match ps with
  | [p] => (okR (vwL h p) = true ∧ (toD (vwL h p)).showable = true ∧ (toD (vwL h p)).depth ≤ 64 ∧ (toD (vwL h p)).shown.length ≤ SZ) ∧ Q (.str (toD (vwL h p)).shown) h
  | _ => False
theorem lf_repr {K : PySem.W.Frag} : LfA K (oRepr K) rRepr := by
  intro xs H ps h Q' Q rp s r l
  unfold rRepr at r
  split at r
  · rename_i p
    obtain ⟨v, rfl, r1⟩ := rp.one
    obtain ⟨⟨f, hs, hz, hl⟩, r⟩ := r
    refine ⟨v, _, rfl, hs, hz, sz_le hl, l _ _ _ _ r .refl (rel_str.mpr rfl) s, ?_⟩
    cases p with
    | ref a =>
      simp only [vwL] at f ⊢
      cases e : h a with
      | none => rw [e] at f; simp [okR] at f
      | some o =>
        cases o with
        | lst ys =>
          obtain ⟨u, e1, zs, rfl, rr⟩ := s a _ e
          simp only [e, okR] at f
          exact .inr ⟨a, zs, ys, rel_ref.mp r1, e1, f, rr, by simp only [toD]⟩
        | dct _ _ => simp [e, okR] at f
        | ins _ _ _ => simp [e, okR] at f
        | lck _ _ => simp [e, okR] at f
    | _ => exact .inl ⟨_, f, r1, rfl⟩
  · exact r.elim

/-! ### list(..), tuple(..), sum, int, str -/
def listed (h : PH) : PV → Option (List PV)
  | .tup xs => some xs
  | p => seqL h p
theorem listed_sq {K : PySem.W.Frag} {H : Hp} {h : PH} {p : PV} {v : V} {ps : List PV} (r : Rel K H p v) (s : Sim K H h) (e : listed h p = some ps) : ∃ a xs, v = .ref a ∧ (SqL K H a xs ∨ SqT K H a xs) ∧ Rels K H ps xs := by
  cases p with
  | tup qs =>
    simp only [listed, Option.some.injEq] at e
    subst e
    obtain ⟨a, xs, e1, f, rr⟩ := rel_tup.mp r
    exact ⟨a, xs, e1, .inr f, rr⟩
  | _ =>
    obtain ⟨a, xs, e1, f, rr⟩ := seqL_sq r s e
    exact ⟨a, xs, e1, .inl f, rr⟩
def rListOf : PRA := fun ps h Q => match ps with
  | [p] => (match listed h p with | some xs => Q (.lst xs) h | none => False)
  | _ => False
/-- .. one that may change -/
def rListOfM : PRA := fun ps h Q => match ps with
  | [p] => (match listed h p with | some xs => ∀ a, h a = none → Q (.ref a) (up h a (.lst xs)) | none => False)
  | _ => False
def oListOf (K : PySem.W.Frag) : List V → Hp → VK → Prop := fun xs H Q => ∃ p ys, xs = [.ref p] ∧ (SqL K H p ys ∨ SqT K H p ys) ∧ ∀ l, H l = none → Q (.ref l) (upd H l (.lst ys))
theorem kf_listOf {K : PySem.W.Frag} : KfA K (oListOf K) rListOf := by
  intro xs H ps h Q' Q rp s r l
  unfold rListOf at r
  split at r
  · split at r
    · rename_i e
      obtain ⟨v, rfl, r1⟩ := rp.one
      obtain ⟨a, ys, rfl, hq, rr⟩ := listed_sq r1 s e
      exact ⟨a, ys, rfl, hq, fun c hc => keep_l l s rr r hc⟩
    · exact r.elim
  · exact r.elim
theorem kf_listOfM {K : PySem.W.Frag} : KfA K (oListOf K) rListOfM := by
  intro xs H ps h Q' Q rp s r l
  unfold rListOfM at r
  split at r
  · split at r
    · rename_i e
      obtain ⟨v, rfl, r1⟩ := rp.one
      obtain ⟨a, ys, rfl, hq, rr⟩ := listed_sq r1 s e
      exact ⟨a, ys, rfl, hq, fun c hc => make_l l s rr r hc⟩
    · exact r.elim
  · exact r.elim
def rTupOf : PRA := fun ps h Q => match ps with
  | [p] => (match listed h p with | some xs => Q (.tup xs) h | none => False)
  | _ => False
def oTupOf (K : PySem.W.Frag) : List V → Hp → VK → Prop := fun xs H Q => ∃ p ys, xs = [.ref p] ∧ ((SqL K H p ys ∧ ∀ l, H l = none → Q (.ref l) (upd H l (.tup ys))) ∨ (SqT K H p ys ∧ Q (.ref p) H))
theorem lf_tupOf {K : PySem.W.Frag} : LfA K (oTupOf K) rTupOf := by
  intro xs H ps h Q' Q rp s r l
  unfold rTupOf at r
  split at r
  · rename_i p
    obtain ⟨v, rfl, r1⟩ := rp.one
    cases p with
    | tup qs =>
      obtain ⟨a, ys, rfl, hq, rr⟩ := rel_tup.mp r1
      exact ⟨a, ys, rfl, .inr ⟨hq, l _ _ _ _ r .refl (rel_tup.mpr ⟨a, ys, rfl, hq, rr⟩) s⟩⟩
    | _ =>
      simp only [listed] at r
      split at r
      · rename_i e
        obtain ⟨a, ys, rfl, hq, rr⟩ := seqL_sq r1 s e
        exact ⟨a, ys, rfl, .inl ⟨hq, fun c hc => make_t l s rr r hc⟩⟩
      · exact r.elim
  · exact r.elim
def rSumI : PRA := fun ps h Q => match ps with
  | [p] => (match seqL h p with | some xs => ∃ ns : List Int, xs = ns.map PV.int ∧ Q (.int ns.sum) h | none => False)
  | _ => False
theorem lf_sum {K : PySem.W.Frag} : LfA K (rSum K) rSumI := by
  intro xs H ps h Q' Q rp s r l
  unfold rSumI at r
  split at r
  · split at r
    · rename_i e
      obtain ⟨v, rfl, r1⟩ := rp.one
      obtain ⟨a, ys, rfl, hq, rr⟩ := seqL_sq r1 s e
      obtain ⟨ns, rfl, r⟩ := r
      rw [rels_ints rr] at hq
      exact ⟨a, ns, rfl, hq, l _ _ _ _ r .refl (rel_int.mpr rfl) s⟩
    · exact r.elim
  · exact r.elim
section
variable {X : Cx} {pos p : Pos} {e : Expr} {m : MA}
theorem le_len (hm : X.mg "len" = none) (ha : LAn X [e] 1 m) (hg : Gl X "len" := by rfl) (h1 : starEach [e] X.env = (false, eval e X.env) :: starEach [] X.env := by rfl) : LE X (.Call (.Name "len" p) [e] [] pos) (mBlt rLen m) :=
  le_blt call_len lf_len hm ha hg (h1 := h1) (h2 := rfl)
theorem le_repr (hG : X.A.guards = some []) (hu : X.A.units + 66 < cLine) (hm : X.mg "repr" = none) (ha : LAn X [e] 1 m) (hg : Gl X "repr" := by rfl) (h1 : starEach [e] X.env = (false, eval e X.env) :: starEach [] X.env := by rfl) :
    LE X (.Call (.Name "repr" p) [e] [] pos) (mBlt rRepr m) := le_blt (call_reprA hG hu) lf_repr hm ha hg (h1 := h1) (h2 := rfl)
theorem le_sum (hc : X.calm = true) (hm : X.mg "sum" = none) (ha : LAn X [e] 1 m) (hg : Gl X "sum" := by rfl) (h1 : starEach [e] X.env = (false, eval e X.env) :: starEach [] X.env := by rfl) :
    LE X (.Call (.Name "sum" p) [e] [] pos) (mBlt rSumI m) := le_blt (cr_sum hc) lf_sum hm ha hg (h1 := h1) (h2 := rfl)
theorem le_list (hm : X.mg "list" = none) (ha : LAn X [e] 1 m) (hg : Gl X "list" := by rfl) (h1 : starEach [e] X.env = (false, eval e X.env) :: starEach [] X.env := by rfl) :
    LE X (.Call (.Name "list" p) [e] [] pos) (mBlt rListOf m) := le_tyK call_list_of kf_listOf hm ha hg (h1 := h1) (h2 := rfl)
theorem le_listM (hm : X.mg "list" = none) (ha : LAn X [e] 1 m) (hg : Gl X "list" := by rfl) (h1 : starEach [e] X.env = (false, eval e X.env) :: starEach [] X.env := by rfl) :
    LE X (.Call (.Name "list" p) [e] [] pos) (mBlt rListOfM m) := le_tyK call_list_of kf_listOfM hm ha hg (h1 := h1) (h2 := rfl)
theorem le_tuple (hm : X.mg "tuple" = none) (ha : LAn X [e] 1 m) (hg : Gl X "tuple" := by rfl) (h1 : starEach [e] X.env = (false, eval e X.env) :: starEach [] X.env := by rfl) :
    LE X (.Call (.Name "tuple" p) [e] [] pos) (mBlt rTupOf m) := le_ty call_tuple_of lf_tupOf hm ha hg (h1 := h1) (h2 := rfl)
end

/-! ### x[::-1], a list that may change -/
def mRevM (m : ME) : ME := fun τ h Q => m τ h fun p h1 => match seqL h1 p with
    | some xs => ∀ a, h1 a = none → Q (.ref a) (up h1 a (.lst xs.reverse))
    | none => False
section
variable {X : Cx} {pos p1 p2 p3 : Pos} {e : Expr}
theorem le_revM {m : ME} {k : Nat} (he : LE X e m) : LE X (.Subscript e (.Slice none none (some (.UnaryOp .USub (.Constant (.int 1) k p1) p2)) p3) pos) (mRevM m) := by
  refine PE.weak (PE.kp (pe_revA he)) fun σ H Q ⟨τ, h, Q', s, sh, q, l⟩ => ?_
  refine ⟨τ, h, _, s, sh, q, fun p h1 v H1 q1 g1 r1 s1 => ?_⟩
  split at q1
  · rename_i e
    obtain ⟨a, ys, rfl, hq, rr⟩ := seqL_sq r1 s1 e
    exact .inl ⟨a, ys, rfl, hq, fun c hc => make_l (l.mono g1) s1 rr.reverse q1 hc⟩
  · exact q1.elim
end

/-! ### {k: v, ..}, keys ints and texts, one dict that may change -/
abbrev MPs := PSt → PH → (List (Key × PV) → PH → Prop) → Prop
def mPs : List (ME × ME) → MPs
  | [], _, h, Q => Q [] h
  | (mk, mv) :: r, τ, h, Q => mk τ h fun q h1 => mv τ h1 fun p h2 => match kOf q with | some k => mPs r τ h2 fun kvs h3 => Q ((k, p) :: kvs) h3 | none => False
def mDispM (l : List (ME × ME)) : ME := fun τ h Q => mPs l τ h fun kvs h1 => (kvs.map (·.1)).Nodup ∧ ∀ a, h1 a = none → Q (.ref a) (up h1 a (.dct (kvs.map (·.1)) (kvs.map (·.2))))
theorem merge_nd : ∀ (more acc : List (Key × V)), ((acc ++ more).map (·.1)).Nodup → mergeK acc more = acc ++ more
  | [], acc, _ => by show acc = acc ++ []; rw [List.append_nil]
  | p :: r, acc, h => by
    have e : putK acc p.1 p.2 = acc ++ [p] := by
      refine putK_new _ ?_
      have hn : p.1 ∉ acc.map (·.1) := by
        rw [List.map_append, List.map_cons] at h
        exact fun z => (List.nodup_append.mp h).2.2 _ z _ List.mem_cons_self rfl
      clear h
      induction acc with
      | nil => rfl
      | cons q acc ih =>
        rw [List.map_cons, List.mem_cons, not_or] at hn
        rw [valV_neg (fun z => hn.1 z.symm)]
        exact ih hn.2
    show mergeK (putK acc p.1 p.2) r = _
    rw [e, merge_nd r (acc ++ [p]) (by rw [List.append_assoc]; exact h), List.append_assoc]; rfl
def RelP (K : PySem.W.Frag) (H : Hp) : List (Key × PV) → List (V × V) → Prop
  | [], ps => ps = []
  | x :: xs, ps => ∃ v vs, ps = (kV x.1, v) :: vs ∧ Rel K H x.2 v ∧ RelP K H xs vs
theorem RelP.mono {K : PySem.W.Frag} {H H' : Hp} (m : Mono H H') : ∀ {xs : List (Key × PV)} {ps : List (V × V)}, RelP K H xs ps → RelP K H' xs ps
  | [], _, h => h
  | x :: xs, _, ⟨v, vs, e, h1, h2⟩ => ⟨v, vs, e, h1.mono m, RelP.mono m h2⟩
theorem RelP.pairs {K : PySem.W.Frag} {H : Hp} : ∀ {xs : List (Key × PV)} {ps : List (V × V)}, RelP K H xs ps → ∃ kvs : List (Key × V), ps = kvs.map (fun kv => (kV kv.1, kv.2)) ∧ xs.map (·.1) = kvs.map (·.1) ∧ Rels K H (xs.map (·.2)) (kvs.map (·.2))
  | [], _, h => ⟨[], h, rfl, .nil⟩
  | x :: xs, _, ⟨v, vs, e, h1, h2⟩ => by
    obtain ⟨kvs, e1, e2, r⟩ := RelP.pairs h2
    refine ⟨(x.1, v) :: kvs, by rw [e, e1]; rfl, by rw [List.map_cons, List.map_cons, e2], ?_⟩
    rw [List.map_cons, List.map_cons]
    exact .cons h1 r
def PsUp (K : PySem.W.Frag) (n : Nat) (trs : List (TE × TE)) (l : List (ME × ME)) : Prop := ∀ (σ : L2.St) (H : Hp) (τ : PSt) (h : PH) (Q' : List (Key × PV) → PH → Prop) (Q : List (V × V) → Hp → Prop), SimS K H σ τ → Sim K H h → mPs l τ h Q' →
  (∀ xs h1 ps H1, Q' xs h1 → xs.length = n → Go H h H1 h1 → RelP K H1 xs ps → Sim K H1 h1 → Q ps H1) → tPairs trs σ H Q
/-- the pairs of a display -/
structure LPs (X : Cx) (pos : Pos) (keys : List (Option Expr)) (values : List Expr) (n : Nat) (l : List (ME × ME)) : Prop where
  ex : ∃ trs, PPs X pos keys values trs ∧ PsUp X.K n trs l
section
variable {X : Cx} {pos : Pos} {k v : Expr} {ks : List (Option Expr)} {vs : List Expr} {n : Nat} {l : List (ME × ME)} {mk mv : ME}
theorem lps_nil : LPs X pos [] [] 0 [] := ⟨[], pps_nil, fun σ H τ h Q' Q s sh q l => l [] h [] H q rfl .refl rfl sh⟩
theorem lps_cons (hk : LE X k mk) (hv : LE X v mv) (hr : LPs X pos ks vs n l) : LPs X pos (some k :: ks) (v :: vs) (n + 1) ((mk, mv) :: l) := by
  obtain ⟨trs, h1, h2⟩ := hr.ex
  refine ⟨_, pps_cons hk hv h1, fun σ H τ h Q' Q s sh q l => ?_⟩
  refine ⟨τ, h, _, s, sh, q, fun q1 ha x H1 qa g1 r1 s1 => ?_⟩
  refine ⟨τ, ha, _, s.mono g1.mono, s1, qa, fun p hb y H2 qb g2 r2 s2 => ?_⟩
  split at qb
  · rename_i k ek
    refine h2 σ H2 τ hb _ _ ((s.mono g1.mono).mono g2.mono) s2 qb fun xs hc ps H3 qc hn g3 rp s3 => ?_
    have ex := kOf_rel r1 ek
    subst ex
    exact l _ _ _ _ qc (by rw [List.length_cons, hn]) ((g1.trans g2).trans g3) ⟨y, ps, rfl, r2.mono g3.mono, rp⟩ s3
  · exact qb.elim
theorem le_dispM (h : LPs X pos ks vs n l) (hn : n ≤ 15 := by decide) (hall : ks.all (·.isSome) = true := by rfl) (hl : ks.length = vs.length := by rfl) (h0 : ks ≠ [] := by simp) (h15 : ks.length ≤ 15 := by decide) : LE X (.Dict ks vs pos) (mDispM l) := by
  obtain ⟨trs, h1, h2⟩ := h.ex
  refine PE.weak (pe_disp h1 hall hl h0 h15) fun σ H Q ⟨τ, h, Q', s, sh, q, lq⟩ => ?_
  intro p hp
  have hp0 : h p = none := sh.fresh hp
  have g0 : Go H h (upd H p (.dK [])) h := .new hp
  refine h2 σ _ τ h _ _ (s.mono g0.mono) (sh.new hp) q fun xs h1 ps H1 q1 hl1 g1 rp s1 => ?_
  obtain ⟨nd, q1⟩ := q1
  have hH : H1 p = some (.dK []) := g1.frame p _ upd_same hp0
  have hd : h1 p = none := g1.dom p _ upd_same hp0
  obtain ⟨kvs, e1, e2, rr⟩ := rp.pairs
  have el : kvs.length = xs.length := by
    have := congrArg List.length e2
    rw [List.length_map, List.length_map] at this
    exact this.symm
  refine ⟨hH, kvs, e1, by rw [el, hl1]; exact hn, ?_⟩
  have em : mergeK [] kvs = kvs := by
    have := merge_nd kvs [] (by rw [List.nil_append, ← e2]; exact nd)
    rwa [List.nil_append] at this
  rw [em]
  have mm : Mono H1 (upd H1 p (.dK kvs)) := Mono.dK hH
  refine lq _ _ _ _ (q1 p hd) ?_ (rel_ref.mpr rfl) (s1.put mm ⟨kvs, rfl, e2, rr.mono mm⟩)
  have gr : Go H h (upd H1 p (.dK kvs)) h1 := (g0.trans g1).renew hp mm
  have : upd H1 p (.dK kvs) p = some (.dK kvs) := upd_same
  exact gr.own hp
end
end N3

namespace N3
open PySem PySem.Spec PyProof.Rows L2

/-! ### the law's own call -/
/-- what a law is handed: a list of at most n whole numbers; what it must say -/
def spLaw (n : Nat) : SpP := fun ps h Q => ∃ ns : List Int, ps = [.lst (ns.map PV.int)] ∧ ns.length ≤ n ∧ (∀ z ∈ ns, Builtin.Int.intBits z ≤ 1048576) ∧ h = (fun _ => none) ∧ ∀ h', Q (.bl true) h'
theorem rels_of_ints {K : PySem.W.Frag} {H : Hp} : ∀ ns : List Int, Rels K H (ns.map PV.int) (ns.map V.int)
  | [] => .nil
  | n :: ns => .cons (rel_int.mpr rfl) (rels_of_ints ns)
theorem call_of_law {P : Program} {w : World} {K : PySem.W.Frag} {mg mb : Str → Option Value} {k n : Nat} {fa a : Addr} {fd : FuncData} {x : Str} {s1 : Shared} {vs : List Value} {ns : List Int}
    (KX : K.In s1.heap) (hns : s1.heap.Ns mainGlobals mg) (hb : s1.heap.Ns builtinsNs mb) (hbb : ∀ x : Str, x ≠ "__name__" → mb x = bootBuiltins x) (hlim : s1.heap.NoLimit) (hg : s1.gens = #[])
    (ha : s1.heap.get? a = some { cls := .type "list", data := .seq vs.toArray }) (hi : IntsAre vs ns) (hl : ns.length ≤ n) (hn : n ≤ sizeLine) (hbits : ∀ z ∈ ns, Builtin.Int.intBits z ≤ 1048576) (hr : Room k callerA)
    (F : ∀ base : Heap, K.In base → base.Ns mainGlobals mg → FnG P w K mg base k fa fd [x] (spLaw n)) (hbind : ∀ (s : Shared) (u : Value), BindsTo s fd ⟨[u], []⟩ [(x, u)]) :
    codeAny (model P w) callerA (.call (.ref fa) ⟨[.ref a], []⟩) (fun r s' => r = .ok (.ret (.bool true)) ∧ OldK s1.heap s'.heap ∧ s'.os = s1.os ∧ AllBare s'.gens) s1 := by
  have rv := vals_ints hi
  have lenV := hi.length
  have lz : ns.length ≤ sizeLine := Nat.le_trans hl hn
  have main : ∀ H : Hp, (∀ b u, H b = some u → b = a ∧ ∃ o xs, u = .frz o (.lst xs)) → FrL K H a (ns.map V.int) → HOk P w H s1.heap → (H a ≠ none → K.lookup a = none) →
      codeAny (model P w) callerA (.call (.ref fa) ⟨[.ref a], []⟩) (fun r s' => r = .ok (.ret (.bool true)) ∧ OldK s1.heap s'.heap ∧ s'.os = s1.os ∧ AllBare s'.gens) s1 := by
    intro H only fr hok hK
    have off : ∀ {b : Addr}, b ≠ a → H b = none := fun {b} hb => by
      cases q : H b with
      | none => rfl
      | some u => exact absurd (only b u q).1 hb
    have ne_dict : ∀ {b : Addr} {o : Obj} {es : Array DictEntry} {ep : Nat}, s1.heap.get? b = some o → o.data = .dict es ep → b ≠ a := fun {b o es ep} e d z => by
      subst z
      rw [ha] at e; cases e
      cases (show Data.seq vs.toArray _ = Data.dict es ep from d)
    have nsB : ∀ {b : Addr} {m : Str → Option Value}, s1.heap.Ns b m → (hidT s1.heap H).Ns b m := fun {b m} ⟨o, es, ep, e, d, r⟩ => ⟨o, es, ep, hidT_get e (off (ne_dict e d)), d, r⟩
    have kB : K.In (hidT s1.heap H) := fun b o e => by
      refine hidT_get (KX b o e) ?_
      by_cases hb : b = a
      · subst hb
        cases q : H b with
        | none => rfl
        | some u => rw [hK (by rw [q]; exact fun z => nomatch z)] at e; cases e
      · exact off hb
    obtain ⟨mc, lim1, lim2⟩ := hlim
    have e0 : Env0 P w K mg (hidT s1.heap H) callerA [] s1 H :=
      ⟨rfl, ⟨kB, nsB hns, ⟨mb, nsB hb, hbb⟩, ⟨mc, nsB lim1, lim2⟩⟩, fun b o e => of_hidT e, Nat.le_of_eq (hidT_size _ _), trivial, fun b z => (List.not_mem_nil (show b ∈ ([] : List Addr) from z)).elim, hok, .of_eq hg⟩
    have up0 : upF K 1 (spLaw n) [.ref a] H (fun v _ => v = .bl true) E0 := by
      refine ⟨[.lst (ns.map PV.int)], fun _ => none, fun p _ => p = .bl true, rfl, .cons (rel_lst.mpr ⟨a, _, rfl, fr, rels_of_ints ns⟩) .nil, ?_, ⟨ns, rfl, hl, hbits, rfl, fun _ => rfl⟩, ?_⟩
      · intro b o z
        cases z
      · intro p h1 v H1 q _ r _
        have q' : p = .bl true := q
        subst q'
        exact rel_bl.mp r
    have go := (F _ kB (nsB hns)).run callerA [] s1 H ⟨[.ref a], []⟩ [.ref a] [.ref a] (fun v _ => v = .bl true) hr rfl e0 (hbind s1 (.ref a)) (.cons rfl .nil) up0
    refine codeAny_mono go fun r s' h => ?_
    cases r with
    | error e => exact False.elim h
    | ok fl =>
      cases fl with
      | next => exact False.elim h
      | brk => exact False.elim h
      | cont => exact False.elim h
      | ret u =>
        obtain ⟨v, H', os, bare, un, hok', r', q⟩ := h
        have q' : v = .bl true := q
        subst q'
        have eu : u = Value.bool true := r'
        subst eu
        refine ⟨rfl, OldK.of_keep fun b o e => ?_, os, bare⟩
        cases q : H b with
        | none => exact un.keep b o e q (fun z => List.not_mem_nil (show b ∈ ([] : List Addr) from z)) List.not_mem_nil
        | some u =>
          obtain ⟨_, ob, xs, rfl⟩ := only b u q
          have e1 := (hok b _ q).1
          have e2 := (hok' b _ (un.frzs b ob _ q)).1
          rw [e] at e1; cases e1
          exact e2
  cases hk : K.lookup a with
  | some o =>
    have e := KX a o hk
    rw [ha] at e; cases e
    exact main (fun _ => none) (fun b u z => nomatch z) (.inr ⟨_, vs.toArray, _, hk, rfl, rfl, rfl, by rw [List.size_toArray, lenV]; exact lz, by simpa using rv⟩) (fun b u z => nomatch z) fun z => absurd rfl z
  | none =>
    refine main (fun b => if b = a then some (.frz { cls := .type "list", data := .seq vs.toArray } (.lst (ns.map V.int))) else none) (fun b u z => ?_) (.inl ⟨_, if_pos rfl⟩) (fun b u z => ?_) fun _ => hk
    · by_cases hb : b = a
      · exact ⟨hb, _, _, (Option.some.inj ((if_pos hb).symm.trans z)).symm⟩
      · cases (if_neg hb).symm.trans z
    · by_cases hb : b = a
      · subst hb
        cases (if_pos rfl).symm.trans z
        exact ⟨ha, by rw [List.length_map]; exact lz, vs, _, rv, ha⟩
      · cases (if_neg hb).symm.trans z
theorem walk_g {l : PySem.W.OpenLaw} {n k : Nat} {q : Program} {loose : List Str} {XP : (Str → Option Value) → Heap → Prop} {YP : World → Heap → Prop} {d : DefRec} {K : Params → PySem.W.Frag} {x : Str}
    (hn : l.most = some n) (hn2 : n ≤ sizeLine) (hdf : d.params.defaults = []) (hr : Room k callerA) (hY : ∀ (w : World) (h : Heap), YP w h → (K w.params).In h)
    (F : ∀ (w : World) (mg : Str → Option Value) (fa : Addr) (h : Heap), (K w.params).In h → h.Ns mainGlobals mg → mg d.name = some (.ref fa) →
      ∃ fd : FuncData, (∀ (s : Shared) (u : Value), BindsTo s fd ⟨[u], []⟩ [(x, u)]) ∧ ∀ base : Heap, (K w.params).In base → base.Ns mainGlobals mg → FnG l.prog w (K w.params) mg base k fa fd [x] (spLaw n)) :
    PySem.W.WalkO q loose XP YP l.row.toRowW d [] (fun f vs => PySem.call f vs) := by
  refine Att.attach_callB hn hdf fun w s0 s1 mg mb fa o pm cd doc a vs ns G Y ho hd hcd hmg hobj hints hlen hbits hg => ?_
  have KX := hY w _ Y
  obtain ⟨fd, hb, hF⟩ := F w mg fa _ KX G.T.g hmg
  exact call_of_law KX G.T.g G.T.b G.T.builtins G.T.nolimit hg hobj hints hlen hn2 hbits hr hF hb
end N3
namespace N3
open PySem PySem.Spec PyProof.Rows L2

/-! ### a def of the text by its name: its object, how it takes what it is given, what it does -/
structure Fn (P : Program) (w : World) (K : PySem.W.Frag) (mg : Str → Option Value) (base : Heap) (k : Nat) (x : Str) (st : Stmt) (ps : List Str) (sp : SpP) : Prop where
  ex : ∃ (f : Addr) (fd : FuncData), mg x = some (.ref f) ∧ Fun K x x st f fd ∧ Binds K fd ps [] ∧ FnG P w K mg base k f fd ps sp
/-- an int's negative -/
def rNeg : PR1 := fun p h Q => match p with | .int i => Q (.int (-i)) h | _ => False
theorem lf_neg {K : PySem.W.Frag} : Lf1 K (rU fun i => .int (-i)) rNeg := by
  intro x H p h Q' Q rp s r l
  cases p with
  | int i => exact ⟨i, rel_int.mp rp, l _ _ _ _ r .refl (rel_int.mpr rfl) s⟩
  | _ => exact r.elim
section
variable {X : Cx} {pos p : Pos} {e : Expr} {es : List Expr} {n j k : Nat} {x : Str} {st : Stmt} {ps : List Str} {sp : SpP}
theorem le_fn {m : MA} (c : Fn X.prog X.w X.K X.mg X.base j x st ps sp) (hr : Room k X.A) (hj : j ≤ k) (hG : X.A.guards = some []) (ha : LAn X (e :: es) n m) (hp : n = ps.length := by rfl) (hg : Gl X x := by rfl) (hdb : (x == ("__debug__" : Str)) = false := by decide)
    (he : starEach (e :: es) X.env = (false, eval e X.env) :: starEach es X.env := by rfl) (hpl : (backTo pos (starEach es X.env)).any (·.1) = false := by rfl) : LE X (.Call (.Name x p) (e :: es) [] pos) (mBlt sp m) := by
  obtain ⟨f, fd, hm, F, hb, G⟩ := c.ex
  exact le_call G (hr.mono hj) hG hm F.kp hb ha hp hg hdb he hpl
theorem le_fn0 (c : Fn X.prog X.w X.K X.mg X.base j x st [] sp) (hr : Room k X.A) (hj : j ≤ k) (hG : X.A.guards = some []) (hg : Gl X x := by rfl) (hdb : (x == ("__debug__" : Str)) = false := by decide) : LE X (.Call (.Name x p) [] [] pos) (mBlt sp mNil) := by
  obtain ⟨f, fd, hm, F, hb, G⟩ := c.ex
  exact le_call0 G (hr.mono hj) hG hm F.kp hb hg hdb
/-- the keywords stand behind the arguments by place, in the parameters' order -/
def cat2 {α : Type} (xs ys : List α) : List α := xs ++ ys
theorem vals_cat {vs zs : List V} {us ws : List Value} (h1 : Vals vs us) (h2 : Vals zs ws) : Vals (cat2 vs zs) (cat2 us ws) := h1.append h2
theorem kwb_of {K : PySem.W.Frag} {f : Addr} {fd : FuncData} {ks : List Str} {i m : Nat} (F : Fun K x x st f fd) (hl : i + m = ps.length)
    (h : ∀ (kV doc pm : Value) (an : Option Addr) (cdv ct : Value) (us ws : List Value), us.length = i → ws.length = m → bindArgs (PySem.W.fnOf x x (defArgs st) (defBody st) (defScope st) .none kV doc pm an cdv ct) ⟨us, ks.zip ws⟩ = pure (ps.zip (cat2 us ws))) :
    KwB fd ps ks cat2 cat2 cat2 i m := by
  obtain ⟨oc, od, kV, doc, pm, an, cdv, ct, osl, rfl, lk, hcd⟩ := F.ex
  exact ⟨fun s us ws h1 h2 => .of_eq (h kV doc pm an cdv ct us ws h1 h2), fun _ _ r1 r2 => vals_cat r1 r2, fun _ _ r1 r2 => r1.append r2, fun {qs zs} h1 h2 => by unfold cat2; rw [List.length_append, h1, h2, hl]⟩
theorem le_fnK {i m' : Nat} {ks : List Str} {kws : List Keyword} {m mk : MA} (c : Fn X.prog X.w X.K X.mg X.base j x st ps sp) (hr : Room k X.A) (hj : j ≤ k) (hG : X.A.guards = some []) (hl : i + m' = ps.length)
    (h : ∀ (kV doc pm : Value) (an : Option Addr) (cdv ct : Value) (us ws : List Value), us.length = i → ws.length = m' → bindArgs (PySem.W.fnOf x x (defArgs st) (defBody st) (defScope st) .none kV doc pm an cdv ct) ⟨us, ks.zip ws⟩ = pure (ps.zip (cat2 us ws)))
    (ha : LAn X (e :: es) i m) (hkw : LKn X kws m' mk) (hg : Gl X x := by rfl) (hall : (backToKw pos (keywordEach kws X.env)).all (·.1.isSome) = true := by rfl) (hks : (backToKw pos (keywordEach kws X.env)).filterMap (·.1) = ks := by rfl)
    (hdb : (x == ("__debug__" : Str)) = false := by decide) (he : starEach (e :: es) X.env = (false, eval e X.env) :: starEach es X.env := by rfl)
    (hpl : ((backTo pos (starEach (e :: es) X.env)).any (·.1) || (backToKw pos (keywordEach kws X.env)).any (·.1.isNone)) = false := by rfl) : LE X (.Call (.Name x p) (e :: es) kws pos) (mKw sp cat2 m mk) := by
  obtain ⟨f, fd, hm, F, hb, G⟩ := c.ex
  exact le_callK G (hr.mono hj) hG hm F.kp (kwb_of F hl h) ha hkw hg hall hks hdb he hpl
theorem le_fnK0 {m' : Nat} {ks : List Str} {kws : List Keyword} {mk : MA} (c : Fn X.prog X.w X.K X.mg X.base j x st ps sp) (hr : Room k X.A) (hj : j ≤ k) (hG : X.A.guards = some []) (hl : 0 + m' = ps.length)
    (h : ∀ (kV doc pm : Value) (an : Option Addr) (cdv ct : Value) (us ws : List Value), us.length = 0 → ws.length = m' → bindArgs (PySem.W.fnOf x x (defArgs st) (defBody st) (defScope st) .none kV doc pm an cdv ct) ⟨us, ks.zip ws⟩ = pure (ps.zip (cat2 us ws)))
    (hkw : LKn X kws m' mk) (hg : Gl X x := by rfl) (hall : (backToKw pos (keywordEach kws X.env)).all (·.1.isSome) = true := by rfl) (hks : (backToKw pos (keywordEach kws X.env)).filterMap (·.1) = ks := by rfl)
    (hdb : (x == ("__debug__" : Str)) = false := by decide) (hpl : ((backTo pos (starEach [] X.env)).any (·.1) || (backToKw pos (keywordEach kws X.env)).any (·.1.isNone)) = false := by rfl) : LE X (.Call (.Name x p) [] kws pos) (mKw sp cat2 mNil mk) := by
  obtain ⟨f, fd, hm, F, hb, G⟩ := c.ex
  exact le_callK0 G (hr.mono hj) hG hm F.kp (kwb_of F hl h) hkw hg hall hks hdb hpl
theorem hu66 (hr : Room k X.A) : X.A.units + 66 < cLine := by have := hr.un; omega
theorem hu65 (hr : Room k X.A) : X.A.units + 65 < cLine := by have := hr.un; omega
theorem hu64 (hr : Room k X.A) : X.A.units + 64 < cLine := by have := hr.un; omega
theorem hu1 (hr : Room k X.A) : X.A.units + 1 < cLine := by have := hr.un; omega
end
end N3

namespace N3
open PySem PySem.Spec PyProof.Rows L2

/-! ### isinstance of the built-in types -/
inductive Tn where
  | non | bl | int | str | tup | lst | dct
def Tn.name : Tn → String
  | .non => "NoneType" | .bl => "bool" | .int => "int" | .str => "str" | .tup => "tuple" | .lst => "list" | .dct => "dict"
def isI : Tn → Tn → Bool
  | .non, .non => true | .bl, .bl => true | .bl, .int => true | .int, .int => true | .str, .str => true | .tup, .tup => true | .lst, .lst => true | .dct, .dct => true
  | _, _ => false
theorem isI_kit : ∀ a b : Tn, kitB a.name b.name = some (isI a b)
  | .non, b => by cases b <;> decide +kernel
  | .bl, b => by cases b <;> decide +kernel
  | .int, b => by cases b <;> decide +kernel
  | .str, b => by cases b <;> decide +kernel
  | .tup, b => by cases b <;> decide +kernel
  | .lst, b => by cases b <;> decide +kernel
  | .dct, b => by cases b <;> decide +kernel
def tn (h : PH) : PV → Option Tn
  | .non => some .non
  | .bl _ => some .bl
  | .int _ => some .int
  | .str _ => some .str
  | .tup _ => some .tup
  | .lst _ => some .lst
  | .dct _ _ => some .dct
  | .ref a => match h a with | some (.lst _) => some .lst | some (.dct _ _) => some .dct | _ => none
  | .ty _ => none
theorem tn_ty {K : PySem.W.Frag} {H : Hp} {h : PH} {p : PV} {v : V} {t : Tn} (r : Rel K H p v) (s : Sim K H h) (e : tn h p = some t) : TyX K H v (.type t.name) := by
  cases p with
  | non => cases e; rw [rel_non.mp r]; exact .base .non
  | bl b => cases e; rw [rel_bl.mp r]; exact .base (.bl b)
  | int b => cases e; rw [rel_int.mp r]; exact .base (.int b)
  | str b => cases e; rw [rel_str.mp r]; exact .base (.str b)
  | tup ps =>
    cases e
    obtain ⟨a, xs, rfl, hq, _⟩ := rel_tup.mp r
    rcases hq with (hq | ⟨o, hq⟩) | ⟨o, its, n, hk, hc, _⟩
    · exact .base (.tup hq)
    · exact .fTuple hq
    · exact .kTuple hk hc
  | lst ps =>
    cases e
    obtain ⟨a, xs, rfl, hq, _⟩ := rel_lst.mp r
    rcases hq with ⟨o, hq⟩ | ⟨o, its, n, hk, hc, _⟩
    · exact .base (.frz hq)
    · exact .kList hk hc
  | dct ks vs =>
    cases e
    obtain ⟨a, kvs, rfl, ⟨o, hq⟩, _⟩ := rel_dct.mp r
    exact .fDict hq
  | ref a =>
    simp only [tn] at e
    have ev := rel_ref.mp r
    subst ev
    split at e
    · rename_i xs eh
      cases e
      obtain ⟨u, e1, ys, rfl, _⟩ := s a _ eh
      exact .base (.lst e1)
    · rename_i ks vs eh
      cases e
      obtain ⟨u, e1, kvs, rfl, _⟩ := s a _ eh
      exact .base (.dK e1)
    · cases e
  | ty n => cases e
def rIsT (n : Tn) : PRA := fun ps h Q => match ps with
  | [p, .ty m] => m = n.name ∧ (match tn h p with | some t => Q (.bl (isI t n)) h | none => False)
  | _ => False
def mIsI (n : Tn) (m : ME) : ME := fun τ h Q => m τ h fun p h1 => match tn h1 p with | some t => Q (.bl (isI t n)) h1 | none => False
section
variable {X : Cx} {pos p p2 : Pos} {e : Expr} {m : ME}
theorem le_isi (n : Tn) {x : Str} (hm : X.mg "isinstance" = none) (hx : X.mg x = none) (he : LE X e m) (hb : bootBuiltins x = some (.type n.name) := by decide +kernel) (hg : Gl X "isinstance" := by rfl) (hgx : Gl X x := by rfl) (hn : x ≠ "__name__" := by decide) (hd : (x == ("__debug__" : Str)) = false := by decide)
    (h1 : starEach [e, .Name x p2] X.env = (false, eval e X.env) :: starEach [.Name x p2] X.env := by rfl) (h2 : starEach [.Name x p2] X.env = (false, eval (.Name x p2) X.env) :: starEach [] X.env := by rfl)
    (h3 : (backTo pos (starEach [.Name x p2] X.env)).any (·.1) = false := by rfl) : LE X (.Call (.Name "isinstance" p) [e, .Name x p2] [] pos) (mIsI n m) := by
  have ht : LE X (.Name x p2) (mC (.ty n.name)) := le_c (pe_bltn (v := .ty n.name) hgx hx hb rfl hn hd) fun _ => by simp only [Rel]
  have key := le_blt (r' := rIsT n) (pos := pos) (p := p) (call_isi (X := X)) (by
    intro xs H ps h Q' Q rp s r l
    unfold rIsT at r
    split at r
    · rename_i q m
      obtain ⟨rfl, r⟩ := r
      obtain ⟨v, w, rfl, r1, r2⟩ := rp.two
      have ew : w = .ty n.name := by simpa only [Rel] using r2
      subst ew
      split at r
      · rename_i t et
        exact ⟨v, _, _, _, isI t n, rfl, .ty _, tn_ty r1 s et, kit_ty (isI_kit t n), l _ _ _ _ r .refl (rel_bl.mpr rfl) s⟩
      · exact r.elim
    · exact r.elim) hm (la_cons he (la_cons ht la_nil h2) h1) hg (h1 := h1) (h2 := h3)
  have same : mBlt (rIsT n) (mCons m (mCons (mC (.ty n.name)) mNil)) = mIsI n m := by
    funext τ h Q
    show (m τ h fun p h1 => rIsT n [p, .ty n.name] h1 Q) = m τ h fun p h1 => _
    congr 1
    funext p h1
    show (n.name = n.name ∧ _) = _
    simp
  rwa [same] at key
end

/-! ### all, any of truths; str of an int -/
def rAllB : PRA := fun ps h Q => match ps with
  | [p] => (match seqL h p with | some xs => ∃ bs : List Bool, xs = bs.map PV.bl ∧ Q (.bl (bs.all id)) h | none => False)
  | _ => False
def rAnyB : PRA := fun ps h Q => match ps with
  | [p] => (match seqL h p with | some xs => ∃ bs : List Bool, xs = bs.map PV.bl ∧ Q (.bl (bs.any id)) h | none => False)
  | _ => False
theorem rels_bls {K : PySem.W.Frag} {H : Hp} : ∀ {ns : List Bool} {xs : List V}, Rels K H (ns.map PV.bl) xs → xs = ns.map V.bl
  | [], _, r => r.len0
  | z :: zs, _, r => by
    obtain ⟨v, vs, rfl, r1, r2⟩ := r.uncons
    rw [rel_bl.mp r1, rels_bls r2]; rfl
theorem lf_all {K : PySem.W.Frag} : LfA K (rAll K) rAllB := by
  intro xs H ps h Q' Q rp s r l
  unfold rAllB at r
  split at r
  · split at r
    · rename_i e
      obtain ⟨v, rfl, r1⟩ := rp.one
      obtain ⟨a, ys, rfl, hq, rr⟩ := seqL_sq r1 s e
      obtain ⟨bs, rfl, r⟩ := r
      rw [rels_bls rr] at hq
      exact ⟨a, bs, rfl, hq, l _ _ _ _ r .refl (rel_bl.mpr rfl) s⟩
    · exact r.elim
  · exact r.elim
theorem lf_any {K : PySem.W.Frag} : LfA K (rAny K) rAnyB := by
  intro xs H ps h Q' Q rp s r l
  unfold rAnyB at r
  split at r
  · split at r
    · rename_i e
      obtain ⟨v, rfl, r1⟩ := rp.one
      obtain ⟨a, ys, rfl, hq, rr⟩ := seqL_sq r1 s e
      obtain ⟨bs, rfl, r⟩ := r
      rw [rels_bls rr] at hq
      exact ⟨a, bs, rfl, hq, l _ _ _ _ r .refl (rel_bl.mpr rfl) s⟩
    · exact r.elim
  · exact r.elim
def rStrI : PRA := fun ps h Q => match ps with
  | [.int i] => i.natAbs.log2 < 1920 ∧ Q (.str (toString i)) h
  | _ => False
theorem lf_strI {K : PySem.W.Frag} : LfA K (fun xs H Q => ∃ i, xs = [.int i] ∧ i.natAbs.log2 < 1920 ∧ Q (.str (toString i)) H) rStrI := by
  intro xs H ps h Q' Q rp s r l
  unfold rStrI at r
  split at r
  · obtain ⟨v, rfl, r1⟩ := rp.one
    have e := rel_int.mp r1
    subst e
    exact ⟨_, rfl, r.1, l _ _ _ _ r.2 .refl (rel_str.mpr rfl) s⟩
  · exact r.elim
def rIntO : PRA := fun ps h Q => match ps with
  | [.int i] => Q (.int i) h
  | [.bl b] => Q (.int (if b = true then 1 else 0)) h
  | _ => False
theorem lf_intO {K : PySem.W.Frag} : LfA K (fun xs H Q => (∃ i, xs = [.int i] ∧ Q (.int i) H) ∨ ∃ k, xs = [.bl k] ∧ Q (.int (if k then 1 else 0)) H) rIntO := by
  intro xs H ps h Q' Q rp s r l
  unfold rIntO at r
  split at r
  · obtain ⟨v, rfl, r1⟩ := rp.one
    rw [rel_int.mp r1]
    exact .inl ⟨_, rfl, l _ _ _ _ r .refl (rel_int.mpr rfl) s⟩
  · obtain ⟨v, rfl, r1⟩ := rp.one
    rw [rel_bl.mp r1]
    exact .inr ⟨_, rfl, l _ _ _ _ r .refl (rel_int.mpr rfl) s⟩
  · exact r.elim
section
variable {X : Cx} {pos p : Pos} {e : Expr} {m : MA}
theorem le_all (hc : X.calm = true) (hm : X.mg "all" = none) (ha : LAn X [e] 1 m) (hg : Gl X "all" := by rfl) (h1 : starEach [e] X.env = (false, eval e X.env) :: starEach [] X.env := by rfl) :
    LE X (.Call (.Name "all" p) [e] [] pos) (mBlt rAllB m) := le_blt (cr_all hc) lf_all hm ha hg (h1 := h1) (h2 := rfl)
theorem le_any (hc : X.calm = true) (hm : X.mg "any" = none) (ha : LAn X [e] 1 m) (hg : Gl X "any" := by rfl) (h1 : starEach [e] X.env = (false, eval e X.env) :: starEach [] X.env := by rfl) :
    LE X (.Call (.Name "any" p) [e] [] pos) (mBlt rAnyB m) := le_blt (cr_any hc) lf_any hm ha hg (h1 := h1) (h2 := rfl)
theorem le_strI (hm : X.mg "str" = none) (ha : LAn X [e] 1 m) (hg : Gl X "str" := by rfl) (h1 : starEach [e] X.env = (false, eval e X.env) :: starEach [] X.env := by rfl) :
    LE X (.Call (.Name "str" p) [e] [] pos) (mBlt rStrI m) := le_ty call_str_int lf_strI hm ha hg (h1 := h1) (h2 := rfl)
theorem le_intO (hm : X.mg "int" = none) (ha : LAn X [e] 1 m) (hg : Gl X "int" := by rfl) (h1 : starEach [e] X.env = (false, eval e X.env) :: starEach [] X.env := by rfl) :
    LE X (.Call (.Name "int" p) [e] [] pos) (mBlt rIntO m) := le_ty call_int1 lf_intO hm ha hg (h1 := h1) (h2 := rfl)
end

/-! ### < and its kin of ints and texts -/
def rCmp (f : Int → Int → Bool) (g : List Nat → List Nat → Bool) : PR2 := fun p q h Q => match p, q with
  | .int i, .int j => Q (.bl (f i j)) h
  | .str x, .str y => Q (.bl (g (cl x) (cl y))) h
  | _, _ => False
abbrev rLt : PR2 := rCmp (fun i j => decide (i < j)) fun x y => decide (x < y)
abbrev rLe : PR2 := rCmp (fun i j => decide (i ≤ j)) fun x y => !decide (y < x)
abbrev rGt : PR2 := rCmp (fun i j => decide (j < i)) fun x y => decide (y < x)
abbrev rGe : PR2 := rCmp (fun i j => decide (j ≤ i)) fun x y => !decide (x < y)
def oCmp (f : Int → Int → Bool) (g : Str → Str → Bool) : R2 := fun x y H Q => rI0 (fun i j => .bl (f i j)) x y H Q ∨ ∃ i j, x = .str i ∧ y = .str j ∧ Q (.bl (g i j)) H
theorem lf_cmp {K : PySem.W.Frag} {f : Int → Int → Bool} {g : List Nat → List Nat → Bool} : Lf2 K (oCmp f fun i j => g i.cps.toList j.cps.toList) (rCmp f g) := by
  intro x y H p q h Q' Q rp rq s r l
  unfold rCmp at r
  split at r
  · exact .inl ⟨_, _, rel_int.mp rp, rel_int.mp rq, l _ _ _ _ r .refl (rel_bl.mpr rfl) s⟩
  · exact .inr ⟨_, _, rel_str.mp rp, rel_str.mp rq, l _ _ _ _ r .refl (rel_bl.mpr rfl) s⟩
  · exact r.elim
theorem op_ltA {X : Cx} : OpR X (compareOp .Lt) (oCmp (fun i j => decide (i < j)) fun i j => decide (i.cps.toList < j.cps.toList)) := op_lt.or op_lt_str
theorem op_leA {X : Cx} : OpR X (compareOp .LtE) (oCmp (fun i j => decide (i ≤ j)) fun i j => !decide (j.cps.toList < i.cps.toList)) := op_le.or op_le_str
theorem op_gtA {X : Cx} : OpR X (compareOp .Gt) (oCmp (fun i j => decide (j < i)) fun i j => decide (j.cps.toList < i.cps.toList)) := op_gt.or op_gt_str
theorem op_geA {X : Cx} : OpR X (compareOp .GtE) (oCmp (fun i j => decide (j ≤ i)) fun i j => !decide (i.cps.toList < j.cps.toList)) := op_ge.or op_ge_str

/-! ### in, not in: a sign in a text, data in a list or tuple -/
def rInP (neg : Bool) : PR2 := fun p q h Q => match p, q with
  | .str x, .str y => ∃ c, x = S [c] ∧ Q (.bl (decide (c ∈ cl y) != neg)) h
  | p, q => (match listed h q with
    | some xs => flat (vw h p) = true ∧ flats xs = true ∧ PyData.depthAll (toDs xs) ≤ 64 ∧ Q (.bl ((toDs xs).any (fun d => PyData.eqv d (toD (vw h p))) != neg)) h
    | none => False)
theorem eq_fun (h : Heap) (e : PyData) : ∃ f : Value → Bool, ∀ (u : Value) (d : PyData) (as : List Addr), d.hasDict = false → Reads h u d as → f u = PyData.eqv d e := by
  classical
  refine ⟨fun u => if z : ∃ d as, PyData.hasDict d = false ∧ Reads h u d as then PyData.eqv (Classical.choose z) e else false, fun u d as hd r => ?_⟩
  have hex : ∃ d as, PyData.hasDict d = false ∧ Reads h u d as := ⟨d, as, hd, r⟩
  show (if z : _ then _ else _) = _
  rw [dif_pos hex]
  obtain ⟨as', q1, q2⟩ := Classical.choose_spec hex
  rw [one_reading _ _ _ _ _ q1 hd q2 r]
theorem all_eqv {A : Around} {s : Shared} {v : Value} {e : PyData} {bs : List Addr} (re : Reads s.heap v e bs) (he : e.hasDict = false) (hu : A.units + 64 < cLine) {f : Value → Bool} (hf : ∀ (u : Value) (d : PyData) (as : List Addr), d.hasDict = false → Reads s.heap u d as → f u = PyData.eqv d e) :
    ∀ (ds : List PyData) (us : List Value) (as : List Addr), ReadsAll s.heap us ds as → PyData.hasDictAll ds = false → PyData.depthAll ds ≤ 64 → (∀ u ∈ us, SeqAt.EqAt A s u v (f u)) ∧ us.any f = ds.any fun d => PyData.eqv d e
  | [], _, _, r, _, _ => by cases r; exact ⟨fun _ h => (List.not_mem_nil h).elim, rfl⟩
  | d :: ds, _, _, r, hd, hz => by
    cases r with
    | @cons u us _ _ as1 as2 r1 r2 =>
      simp only [PyData.hasDictAll, Bool.or_eq_false_iff] at hd
      simp only [PyData.depthAll] at hz
      have z1 := Nat.le_max_left d.depth (PyData.depthAll ds)
      have z2 := Nat.le_max_right d.depth (PyData.depthAll ds)
      obtain ⟨i1, i2⟩ := all_eqv re he hu hf ds us as2 r2 hd.2 (by omega)
      refine ⟨fun w hw => ?_, by rw [List.any_cons, List.any_cons, hf u d _ hd.1 r1, i2]⟩
      rcases List.mem_cons.mp hw with e1 | hw
      · subst e1
        rw [hf w d _ hd.1 r1]
        exact eqR d e A s w v _ _ (by omega) r1 hd.1 re he
      · exact i1 w hw
theorem any_eqv {A : Around} {s : Shared} {v : Value} {e : PyData} {bs : List Addr} (re : Reads s.heap v e bs) (he : e.hasDict = false) (hu : A.units + 64 < cLine) (ds : List PyData) (us : List Value) (as : List Addr) (r : ReadsAll s.heap us ds as) (hd : PyData.hasDictAll ds = false) (hz : PyData.depthAll ds ≤ 64) :
    ∃ f : Value → Bool, (∀ u ∈ us, SeqAt.EqAt A s u v (f u)) ∧ us.any f = ds.any fun d => PyData.eqv d e := by
  obtain ⟨f, hf⟩ := eq_fun s.heap e
  exact ⟨f, all_eqv re he hu hf ds us as r hd hz⟩
def oIn (K : PySem.W.Frag) (neg : Bool) : R2 := fun x y H Q => (∃ c z, x = .str (S [c]) ∧ y = .str z ∧ Q (.bl (decide (c ∈ cl z) != neg)) H) ∨
  ∃ a ys d ds, y = .ref a ∧ (SqL K H a ys ∨ SqT K H a ys) ∧ Dp K H x d ∧ DpAll K H ys ds ∧ d.hasDict = false ∧ PyData.hasDictAll ds = false ∧ PyData.depthAll ds ≤ 64 ∧ Q (.bl (ds.any (fun e => PyData.eqv e d) != neg)) H
theorem op_inA {X : Cx} (hu : X.A.units + 65 < cLine) : OpR X (compareOp .In) (oIn X.K false) := by
  intro pins s σ H x y v u Q I rx ry h
  rcases h with ⟨c, z, rfl, rfl, q⟩ | ⟨a, ys, d, ds, rfl, hq, hd, hds, nd, nds, hz, q⟩
  · exact op_in_sign pins s σ H _ _ v u Q I rx ry ⟨c, z, rfl, rfl, by simpa [cl] using q⟩
  · cases ry
    obtain ⟨as, r1⟩ := Dp.reads I d x v hd rx
    rcases hq with hq | hq
    · obtain ⟨its, rv, pl, _⟩ := I.list hq
      obtain ⟨bs, r2⟩ := Dp.readsAll I ds ys its hds rv
      obtain ⟨f, f1, f2⟩ := any_eqv (A := X.A.in1) r1 nd (by show X.A.units + 1 + 64 < cLine; omega) ds its bs r2 nds hz
      refine SeqAt.in_listAt f pl.isList (fun w hw => f1 w (by simpa using hw)) ⟨.bl _, H, I, rfl, ?_⟩
      rw [show its.toArray.any f = its.any f by simp, f2]; simpa using q
    · obtain ⟨its, rv, pl, _⟩ := I.tuple hq
      obtain ⟨bs, r2⟩ := Dp.readsAll I ds ys its hds rv
      obtain ⟨f, f1, f2⟩ := any_eqv (A := X.A.in1) r1 nd (by show X.A.units + 1 + 64 < cLine; omega) ds its bs r2 nds hz
      refine SeqAt.in_tupleAt f pl (fun w hw => f1 w (by simpa using hw)) ⟨.bl _, H, I, rfl, ?_⟩
      rw [show its.toArray.any f = its.any f by simp, f2]; simpa using q
theorem op_notInA {X : Cx} (hu : X.A.units + 65 < cLine) : OpR X (compareOp .NotIn) (oIn X.K true) := by
  intro pins s σ H x y v u Q I rx ry h
  rcases h with ⟨c, z, rfl, rfl, q⟩ | ⟨a, ys, d, ds, rfl, hq, hd, hds, nd, nds, hz, q⟩
  · exact op_notIn_sign pins s σ H _ _ v u Q I rx ry ⟨c, z, rfl, rfl, by simpa [cl] using q⟩
  · cases ry
    obtain ⟨as, r1⟩ := Dp.reads I d x v hd rx
    rcases hq with hq | hq
    · obtain ⟨its, rv, pl, _⟩ := I.list hq
      obtain ⟨bs, r2⟩ := Dp.readsAll I ds ys its hds rv
      obtain ⟨f, f1, f2⟩ := any_eqv (A := X.A.in1) r1 nd (by show X.A.units + 1 + 64 < cLine; omega) ds its bs r2 nds hz
      refine SeqAt.notIn_listAt f pl.isList (fun w hw => f1 w (by simpa using hw)) ⟨.bl _, H, I, rfl, ?_⟩
      rw [show its.toArray.any f = its.any f by simp, f2]; simpa using q
    · obtain ⟨its, rv, pl, _⟩ := I.tuple hq
      obtain ⟨bs, r2⟩ := Dp.readsAll I ds ys its hds rv
      obtain ⟨f, f1, f2⟩ := any_eqv (A := X.A.in1) r1 nd (by show X.A.units + 1 + 64 < cLine; omega) ds its bs r2 nds hz
      refine SeqAt.notIn_tupleAt f pl (fun w hw => f1 w (by simpa using hw)) ⟨.bl _, H, I, rfl, ?_⟩
      rw [show its.toArray.any f = its.any f by simp, f2]; simpa using q
theorem lf_in {K : PySem.W.Frag} {neg : Bool} : Lf2 K (oIn K neg) (rInP neg) := by
  intro x y H p q h Q' Q rp rq s r l
  unfold rInP at r
  split at r
  · obtain ⟨c, rfl, r⟩ := r
    exact .inl ⟨c, _, rel_str.mp rp, rel_str.mp rq, l _ _ _ _ r .refl (rel_bl.mpr rfl) s⟩
  · split at r
    · rename_i xs e
      obtain ⟨f1, f2, hz, r⟩ := r
      obtain ⟨a, ys, ey, hq, rr⟩ := listed_sq rq s e
      exact .inr ⟨a, ys, _, _, ey, hq, vw_dp f1 rp s, Rels.dp xs ys f2 rr, noDict _ f1, noDicts xs f2, hz, l _ _ _ _ r .refl (rel_bl.mpr rfl) s⟩
    · exact r.elim

/-! ### dict displays, kept; the empty one -/
def mDisp (l : List (ME × ME)) : ME := fun τ h Q => mPs l τ h fun kvs h1 => (kvs.map (·.1)).Nodup ∧ Q (.dct (kvs.map (·.1)) (kvs.map (·.2))) h1
def mDct0 : ME := fun _ h Q => Q (.dct [] []) h
def mDct0M : ME := fun _ h Q => ∀ a, h a = none → Q (.ref a) (up h a (.dct [] []))
section
variable {X : Cx} {pos : Pos} {ks : List (Option Expr)} {vs : List Expr} {n : Nat} {l : List (ME × ME)}
theorem le_disp (h : LPs X pos ks vs n l) (hn : n ≤ 15 := by decide) (hall : ks.all (·.isSome) = true := by rfl) (hl : ks.length = vs.length := by rfl) (h0 : ks ≠ [] := by simp) (h15 : ks.length ≤ 15 := by decide) : LE X (.Dict ks vs pos) (mDisp l) := by
  obtain ⟨trs, h1, h2⟩ := h.ex
  refine PE.weak (PE.kp (pe_disp h1 hall hl h0 h15)) fun σ H Q ⟨τ, h, Q', s, sh, q, lq⟩ => ?_
  intro p hp
  have hp0 : h p = none := sh.fresh hp
  have g0 : Go H h (upd H p (.dK [])) h := .new hp
  refine h2 σ _ τ h _ _ (s.mono g0.mono) (sh.new hp) q fun xs h1 ps H1 q1 hl1 g1 rp s1 => ?_
  obtain ⟨nd, q1⟩ := q1
  have hH : H1 p = some (.dK []) := g1.frame p _ upd_same hp0
  have hd : h1 p = none := g1.dom p _ upd_same hp0
  obtain ⟨kvs, e1, e2, rr⟩ := rp.pairs
  have el : kvs.length = xs.length := by
    have := congrArg List.length e2
    rw [List.length_map, List.length_map] at this
    exact this.symm
  refine ⟨hH, kvs, e1, by rw [el, hl1]; exact hn, ?_⟩
  have em : mergeK [] kvs = kvs := by
    have := merge_nd kvs [] (by rw [List.nil_append, ← e2]; exact nd)
    rwa [List.nil_append] at this
  rw [em]
  refine .inr ⟨p, _, rfl, upd_same, trivial, fun o => ?_⟩
  rw [upd_upd]
  have mm : Mono H1 (upd H1 p (.frz o (.dK kvs))) := Mono.dK hH
  exact lq _ _ _ _ q1 ((g0.trans g1).renew hp mm) (rel_dct.mpr ⟨p, kvs, rfl, ⟨o, upd_same⟩, e2, rr.mono mm⟩) (s1.drop mm hd)
theorem le_dct0 : LE X (.Dict [] [] pos) mDct0 :=
  PE.weak (PE.kp pe_dnewK) fun σ H Q ⟨τ, h, Q', s, sh, q, l⟩ => fun p hp => keep_d (kvs := []) l sh rfl .nil q hp
theorem le_dct0M : LE X (.Dict [] [] pos) mDct0M :=
  PE.weak (PE.kp pe_dnewK) fun σ H Q ⟨τ, h, Q', s, sh, q, l⟩ => fun p hp => make_d (kvs := []) l sh rfl .nil q hp
/-- a, b, c = x, y, z with plain local names -/
def mPar3 (i j k : Nat) (m : MA) : MS := fun D τ h => m τ h fun ps h1 => match ps with | [p, q, r] => D.nx (st (st (st τ i (some p)) j (some q)) k (some r)) h1 | _ => False
theorem ls_par3 {i j k : Nat} {x y z : Str} {a b c : Expr} {ta : MA} {px py pz pt : Pos} {kt k2 pt2} (hc : X.calm = true) (hN : X.N.Nodup) (ha : LAn X [a, b, c] 3 ta) (hi : X.N[i]? = some x := by rfl) (hj : X.N[j]? = some y := by rfl) (hk : X.N[k]? = some z := by rfl)
    (hij : i ≠ j := by decide) (hik : i ≠ k := by decide) (hjk : j ≠ k := by decide)
    (hx : X.env.scope.names.lookup x = some .local := by rfl) (hy : X.env.scope.names.lookup y = some .local := by rfl) (hz : X.env.scope.names.lookup z = some .local := by rfl)
    (hw : swappedStores [.Tuple [.Name x px, .Name y py, .Name z pz] kt pt] (.Tuple [a, b, c] k2 pt2) X.env = pure (some [x, y, z]) := by rfl)
    (hs : swapsWithSole [.Tuple [.Name x px, .Name y py, .Name z pz] kt pt] (.Tuple [a, b, c] k2 pt2) pos.line X.env = pure false := by rfl) :
    LS X (.Assign [.Tuple [.Name x px, .Name y py, .Name z pz] kt pt] (.Tuple [a, b, c] k2 pt2) pos) (mPar3 i j k ta) := by
  refine PS.weak (ps_par3 hc hN hi hj hk hij hik hjk hx hy hz ha hw hs) fun D σ H ⟨τ, h, D', s, sh, q, l⟩ => ?_
  refine ⟨τ, h, _, s, sh, q, fun ps h1 vs H1 q1 hl m1 r s1 => ?_⟩
  match ps, hl, q1, r with
  | [p, q, r'], _, q1, r =>
    obtain ⟨v, ws, rfl, r1, r2⟩ := r.uncons
    obtain ⟨w1, w2, rfl, r3, r4⟩ := r2.two
    exact ⟨v, w1, w2, rfl, l.nx _ _ _ _ q1 m1 ((((s.mono m1.mono).set r1).set r3).set r4) s1⟩
end
end N3

/-! op= on names; list.extend, insert, pop of a place; sorted -/
namespace N3
open PySem PySem.Spec PyProof.Rows L2

/-! ### name += e -/
theorem no_tuple_iadd : typeLookup (.type "tuple") (dunderI "add") = pure none := by rw [typeLookup_type, builtinLookup_eq_fast]; kernel_rfl
theorem icat_any {prog : Program} {w : World} {A : Around} {E : Value → Shared → Prop} {s : Shared} {t b : Addr} {vs ws : List Value} {Q : Value → Shared → Prop} (ht : IsTup s.heap t vs.toArray) (hb : IsTup s.heap b ws.toArray)
    (h0 : vs = [] → Q (.ref b) s) (h1 : vs ≠ [] → ws = [] → Q (.ref t) s) (h2 : vs ≠ [] → ws ≠ [] → Q (.ref s.heap.objs.size) { s with heap := s.heap.push { cls := .type "tuple", data := .seq (vs ++ ws).toArray } }) (hz : vs.length + ws.length ≤ sizeLine) :
    wpAny (model prog w) A (inplaceOp .Add (.ref t) (.ref b)) Q E s := by
  obtain ⟨⟨c1, d1, x1, sl1⟩, ho, hc, n1, hd⟩ := id ht
  obtain ⟨⟨c2, d2, x2, sl2⟩, ho2, hc2, n2, hd2⟩ := id hb
  simp only at hc hd hc2 hd2
  subst hc; subst hd; subst hc2; subst hd2
  have go : ∀ {S : PySem.Spec}, Meets (Builtin.«tuple.__add__» ⟨[.ref t, .ref b], []⟩) S → S A (wants Q E) s → wpAny (model prog w) A (inplaceOp .Add (.ref t) (.ref b)) Q E s := fun {S} g k =>
    wpAny_inplaceOp_concat ⟨_, ho, rfl⟩ ⟨_, ho2, rfl⟩ no_tuple_iadd noFill_tuple_add seq_tuple_add (call_meets PySem.F.slot_tuple_add ⟨_, ho, rfl⟩ PySem.F.entry_tuple_add (PySem.F.args_tuple_add_2 _ _) g k)
  by_cases hv : vs = []
  · subst hv
    exact go (tuple_addW0 t b ([] : List Value).toArray ws.toArray n1 n2 d1 d2 sl1 sl2 (by simp)) ⟨ho, ho2, h0 rfl⟩
  by_cases hw : ws = []
  · subst hw
    exact go (tuple_addW1 t b vs.toArray ([] : List Value).toArray n1 n2 d1 d2 sl1 sl2 (by simpa using hv) (by simp)) ⟨ho, ho2, h1 hv rfl⟩
  · refine go (tuple_addW2 t b vs.toArray ws.toArray n1 n2 d1 d2 sl1 sl2 (by simpa using hv) (by simpa using hw) (by rw [List.size_toArray, List.size_toArray]; exact hz)) ⟨ho, ho2, ?_⟩
    have e : vs.toArray ++ ws.toArray = (vs ++ ws).toArray := by simp
    rw [e]; exact h2 hv hw
theorem iop_catA {X : Cx} : OpR X (inplaceOp .Add) (rCatA X.K) := by
  intro pins s σ H x y v u Q I rx ry h
  obtain ⟨a, b, xs, ys, rfl, rfl, ha, hb, hz, q0, q1, q2⟩ := h
  cases rx; cases ry
  obtain ⟨its, r1, p1, _⟩ := I.tuple ha
  obtain ⟨its2, r2, p2, _⟩ := I.tuple hb
  refine icat_any p1 p2 (fun z => ⟨.ref b, H, I, rfl, q0 (r1.nil_iff.mp z)⟩) (fun z z' => ⟨.ref a, H, I, rfl, q1 (fun k => z (r1.nil_iff.mpr k)) (r2.nil_iff.mp z')⟩) (fun z z' => ?_) (by rw [← r1.length, ← r2.length]; exact hz)
  have I2 := I.laid (t' := s.toks) (o := .tup (xs ++ ys)) (fun c o q => Heap.get?_push_of_some { cls := .type "tuple", data := .seq (its ++ its2).toArray } q) (Nat.le_refl _) ⟨by rw [List.length_append]; exact hz, _, r1.append r2, IsTup.new _ _⟩
  exact ⟨.ref s.heap.objs.size, _, I2, rfl, q2 (fun k => z (r1.nil_iff.mpr k)) (fun k => z' (r2.nil_iff.mpr k)) _ (I.hok.fresh (Nat.le_refl _))⟩
def rIAdd : PR2 := fun p q h Q => match p, q with
  | .int i, .int j => Q (.int (i + j)) h
  | .str x, .str y => x.length + y.length ≤ SZ ∧ Q (.str (x ++ y)) h
  | .tup xs, .tup ys => xs.length + ys.length ≤ SZ ∧ Q (.tup (xs ++ ys)) h
  | _, _ => False
def oIAdd (K : PySem.W.Frag) : R2 := fun x y H Q => ((∃ i j, x = .int i ∧ y = .int j ∧ Q (.int (i + j)) H) ∨ (∃ i j, x = .str i ∧ y = .str j ∧ i.length + j.length ≤ sizeLine ∧ Q (.str (i ++ j)) H)) ∨ rCatA K x y H Q
theorem iop_addA {X : Cx} : OpR X (inplaceOp .Add) (oIAdd X.K) := (iop_add.or iop_add_str).or iop_catA
theorem lf_iadd {K : PySem.W.Frag} : Lf2 K (oIAdd K) rIAdd := by
  intro x y H p q h Q' Q rp rq s r l
  unfold rIAdd at r
  split at r
  · exact .inl (.inl ⟨_, _, rel_int.mp rp, rel_int.mp rq, l _ _ _ _ r .refl (rel_int.mpr rfl) s⟩)
  · exact .inl (.inr ⟨_, _, rel_str.mp rp, rel_str.mp rq, sz_le r.1, l _ _ _ _ r.2 .refl (rel_str.mpr rfl) s⟩)
  · rename_i ps qs
    obtain ⟨a, xs, e1, h1, r1⟩ := rel_tup.mp rp
    obtain ⟨b, ys, e2, h2, r2⟩ := rel_tup.mp rq
    obtain ⟨hz, r⟩ := r
    refine .inr ⟨a, b, xs, ys, e1, e2, h1, h2, by rw [← r1.length, ← r2.length]; exact sz_le hz, fun e => ?_, fun e e' => ?_, fun e e' c hc => make_t l s (r1.append r2) r hc⟩
    · have e3 : ps = [] := List.length_eq_zero_iff.mp (by rw [r1.length, e]; rfl)
      rw [e3, List.nil_append] at r
      exact l _ _ _ _ r .refl (rel_tup.mpr ⟨b, ys, rfl, h2, r2⟩) s
    · have e3 : qs = [] := List.length_eq_zero_iff.mp (by rw [r2.length, e']; rfl)
      rw [e3, List.append_nil] at r
      exact l _ _ _ _ r .refl (rel_tup.mpr ⟨a, xs, rfl, h1, r1⟩) s
  · exact r.elim
def mAug (i : Nat) (m : ME) : MS := fun D τ h => match gt τ i with
  | some p => m τ h fun q h1 => rIAdd p q h1 fun z h2 => D.nx (st τ i (some z)) h2
  | none => False
theorem ls_aug {X : Cx} {pos : Pos} {i : Nat} {x : Str} {e : Expr} {m : ME} {pos' : Pos} (hN : X.N.Nodup) (he : LE X e m) (hi : X.N[i]? = some x := by rfl) (hx : Loc X.env.scope x := by first | exact Or.inl rfl | exact Or.inr rfl)
    (hf : X.fn x = true ∨ X.env.scope.names.lookup x = some .local := by first | exact .inl rfl | exact .inr rfl | assumption) : LS X (.AugAssign (.Name x pos') .Add e pos) (mAug i m) := by
  refine PS.weak (ps_aug hN hi hx he iop_addA hf) fun D σ H ⟨τ, h, D', s, sh, q, l⟩ => ?_
  unfold mAug at q
  split at q
  · rename_i p ep
    obtain ⟨v, ev, rv⟩ := s.get ep
    refine ⟨v, ev, τ, h, _, s, sh, q, fun q1 h1 y H1 q2 g1 r1 s1 => ?_⟩
    refine lf_iadd v y H1 p q1 h1 _ _ (rv.mono g1.mono) r1 s1 q2 fun z h2 zv H2 q3 g2 r2 s2 => ?_
    exact l.nx _ _ _ _ q3 (g1.trans g2) (((s.mono g1.mono).mono g2.mono).set r2) s2
  · exact q.elim

/-! ### sorted -/
open PySem.W in
/-- what is sorted: data, all alike -/
structure Srtb (bs : List PyData) : Prop where
  al : AllAlike bs
  so : Sortable bs
  nd : ∀ b ∈ bs, b.hasDict = false
  dp : ∀ b ∈ bs, b.depth ≤ 60
theorem dp_each {K : PySem.W.Frag} {H : Hp} {X : Cx} {pins : List (Addr × Obj)} {σ : L2.St} {s : Shared} (I : Inv X pins σ H s) (hK : K = X.K) : ∀ {bs : List (V × PyData)} {its : List Value}, (∀ b ∈ bs, Dp K H b.1 b.2) → Vals (bs.map Prod.fst) its →
    PySem.W.EachIs (fun u b => RelV b.1 u) its bs ∧ PySem.W.EachIs (fun u (b : V × PyData) => ∃ as, Reads s.heap u b.2 as) its bs
  | [], its, _, r => by
    have : its = [] := by cases r; rfl
    subst this
    exact ⟨.nil, .nil⟩
  | b :: bs, its, h, r => by
    cases r with
    | cons r1 r2 =>
      obtain ⟨e1, e2⟩ := dp_each I hK (fun c hc => h c (List.mem_cons_of_mem _ hc)) r2
      refine ⟨.cons r1 e1, .cons ?_ e2⟩
      have := h b List.mem_cons_self
      subst hK
      exact Dp.reads I b.2 b.1 _ this r1
theorem vals_each : ∀ {bs : List (V × PyData)} {its : List Value}, PySem.W.EachIs (fun u b => RelV b.1 u) its bs → Vals (bs.map Prod.fst) its
  | _, _, .nil => .nil
  | _, _, .cons h t => .cons h (vals_each t)
def oSort (K : PySem.W.Frag) : List V → Hp → VK → Prop := fun vs H Q => ∃ (a : Addr) (bs : List (V × PyData)), vs = [.ref a] ∧ SqL K H a (bs.map Prod.fst) ∧ (∀ b ∈ bs, Dp K H b.1 b.2) ∧ Srtb (bs.map Prod.snd) ∧
  ∀ l, H l = none → Q (.ref l) (upd H l (.lst ((bs.mergeSort (PySem.W.dataLe false Prod.snd)).map Prod.fst)))
theorem cr_sort {X : Cx} (hu : X.A.units + 66 < cLine) : CallR X (.builtin "sorted") (oSort X.K) := by
  intro pins s σ H vs us Q I r h
  obtain ⟨a, bs, rfl, ha, hd, st, q⟩ := h
  obtain ⟨u, rfl, ru⟩ := vals1 r
  cases ru
  obtain ⟨its, rv, pl, hz⟩ := I.list ha
  obtain ⟨e1, e2⟩ := dp_each I rfl hd rv
  rw [List.length_map] at hz
  refine PySem.W.sorted_data (bs := bs) (enc := Prod.snd) pl.isList e1 e2 st.al st.so hz (fun b hb => ?_) fun out hl eo => ?_
  · have := st.dp b.2 (List.mem_map_of_mem hb)
    omega
  · obtain ⟨c, hc⟩ := sortedAll_at s.heap its out.toArray
    have I2 := I.laid (t' := s.toks) (h' := sortedAll s.heap its out.toArray) (a := s.heap.objs.size + 1) (o := .lst ((bs.mergeSort (PySem.W.dataLe false Prod.snd)).map Prod.fst)) (fun _ _ => sortedAll_old) (Nat.le_succ _)
      ⟨by rw [List.length_map, List.length_mergeSort]; exact hz, out, c, vals_each eo, hc⟩
    exact ⟨.ref (s.heap.objs.size + 1), _, I2, rfl, q _ (I.hok.fresh (Nat.le_succ _))⟩
/-- sorted(xs): data, all alike, rising -/
def rSort : PRA := fun ps h Q => match ps with
  | [p] => (match seqL h p with | some xs => flats xs = true ∧ Srtb (xs.map toD) ∧ Q (.lst (xs.mergeSort (PySem.W.dataLe false toD))) h | none => False)
  | _ => False
theorem dps_zip {K : PySem.W.Frag} {H : Hp} : ∀ {ps : List PV} {xs : List V}, flats ps = true → Rels K H ps xs → ∀ b ∈ xs.zip (ps.map toD), Dp K H b.1 b.2
  | [], xs, _, r, b, hb => by rw [Rels.nil_iff] at r; subst r; exact (List.not_mem_nil hb).elim
  | p :: ps, xs, f, r, b, hb => by
    obtain ⟨v, vs, rfl, r1, r2⟩ := r.uncons
    have f' : (flat p && flats ps) = true := f
    rw [Bool.and_eq_true] at f'
    rw [List.map_cons, List.zip_cons_cons] at hb
    rcases List.mem_cons.mp hb with rfl | hb
    · exact Rel.dp p v f'.1 r1
    · exact dps_zip f'.2 r2 b hb
theorem rels_zip {K : PySem.W.Frag} {H : Hp} : ∀ {l : List (PV × V)}, (∀ x ∈ l, Rel K H x.1 x.2) → Rels K H (l.map Prod.fst) (l.map Prod.snd)
  | [], _ => .nil
  | x :: l, h => .cons (h x List.mem_cons_self) (rels_zip fun y hy => h y (List.mem_cons_of_mem _ hy))
theorem rels_pairs {K : PySem.W.Frag} {H : Hp} : ∀ {ps : List PV} {xs : List V}, Rels K H ps xs → ∀ x ∈ ps.zip xs, Rel K H x.1 x.2
  | [], _, _, x, hx => by simp at hx
  | p :: ps, xs, r, x, hx => by
    obtain ⟨v, vs, rfl, r1, r2⟩ := r.uncons
    rw [List.zip_cons_cons] at hx
    rcases List.mem_cons.mp hx with rfl | hx
    · exact r1
    · exact rels_pairs r2 x hx
theorem rels_sort {K : PySem.W.Frag} {H : Hp} {ps : List PV} {xs : List V} (r : Rels K H ps xs) : Rels K H (ps.mergeSort (PySem.W.dataLe false toD)) (((xs.zip (ps.map toD)).mergeSort (PySem.W.dataLe false Prod.snd)).map Prod.fst) := by
  have hl := r.length
  -- both are pictures of the sorted pairs
  let l := ps.zip xs
  have e1 : (l.mergeSort (PySem.W.dataLe false fun x => toD x.1)).map Prod.fst = ps.mergeSort (PySem.W.dataLe false toD) := by
    have z := PySem.W.sort_maps (r := PySem.W.dataLe false fun x : PV × V => toD x.1) (s := PySem.W.dataLe false toD) Prod.fst (l := l) (fun _ _ _ _ => rfl)
    rw [z, List.map_fst_zip (by omega)]
  have e2 : (l.mergeSort (PySem.W.dataLe false fun x => toD x.1)).map (fun x => (x.2, toD x.1)) = (xs.zip (ps.map toD)).mergeSort (PySem.W.dataLe false Prod.snd) := by
    have z := PySem.W.sort_maps (r := PySem.W.dataLe false fun x : PV × V => toD x.1) (s := PySem.W.dataLe false (Prod.snd : V × PyData → PyData)) (fun x : PV × V => (x.2, toD x.1)) (l := l) (fun _ _ _ _ => rfl)
    rw [z]
    congr 1
    show (ps.zip xs).map _ = _
    clear e1 z l
    induction ps generalizing xs with
    | nil => rw [Rels.nil_iff] at r; subst r; rfl
    | cons p ps ih =>
      obtain ⟨v, vs, rfl, r1, r2⟩ := r.uncons
      rw [List.zip_cons_cons, List.map_cons, List.map_cons, List.zip_cons_cons, ih r2 r2.length]
  rw [← e1, ← e2, List.map_map]
  exact rels_zip fun x hx => rels_pairs r x (List.mem_mergeSort.mp hx)
theorem kf_sort {K : PySem.W.Frag} : KfA K (oSort K) rSort := by
  intro xs H ps h Q' Q rp s r l
  unfold rSort at r
  split at r
  · split at r
    · rename_i p _ qs e
      obtain ⟨v, rfl, r1⟩ := rp.one
      obtain ⟨a, ys, rfl, hq, rr⟩ := seqL_sq r1 s e
      obtain ⟨f, st, r⟩ := r
      have hl := rr.length
      refine ⟨a, ys.zip (qs.map toD), rfl, by rw [List.map_fst_zip (by rw [List.length_map]; omega)]; exact hq, dps_zip f rr, by rw [List.map_snd_zip (by rw [List.length_map]; omega)]; exact st, fun c hc => keep_l l s (rels_sort rr) r hc⟩
    · exact r.elim
  · exact r.elim
theorem le_sort {X : Cx} {pos p : Pos} {e : Expr} {m : MA} (hu : X.A.units + 66 < cLine) (hm : X.mg "sorted" = none) (ha : LAn X [e] 1 m) (hg : Gl X "sorted" := by rfl) (h1 : starEach [e] X.env = (false, eval e X.env) :: starEach [] X.env := by rfl) :
    LE X (.Call (.Name "sorted" p) [e] [] pos) (mBlt rSort m) := le_bltK (cr_sort hu) kf_sort hm ha hg (h1 := h1) (h2 := rfl)
end N3

/-! list.extend, insert, pop of a place; min, max of two ints; dict of pairs; int of a text; f-strings; split -/
namespace N3
open PySem PySem.Spec PyProof.Rows L2

theorem extend_any (l : Addr) (xs : Array Value) (n : Nat) (b : Addr) (ys : Array Value) (n2 : Nat) (sl : Array (Option Value)) (hl : ¬(!xs.isEmpty && Builtin.List.listTooLong (xs.size + ys.size)) = true) (h1 : xs.size ≤ sizeLine) (h2 : xs.size + ys.size ≤ sizeLine + 1) :
    Meets (Builtin.«list.extend» ⟨[.ref l, .ref b], []⟩) (fun _ R s => s.heap.get? l = some { cls := .type "list", dict := none, data := .seq xs n, slots := #[] } ∧ s.heap.get? b = some { cls := .type "list", dict := none, data := .seq ys n2, slots := sl } ∧ R (.ok (.ret Value.none)) { s with heap := s.heap.update l (Obj.mapSeq fun x => x ++ ys), toks := s.toks }) :=
  .of_wp fun prog w A R s h => by
    obtain ⟨hp, g, d, tk, os⟩ := s; obtain ⟨ha, hb, h⟩ := h; have f1 := AutoSeq1.idx_int; have f2 := AutoSeq1.sub_tuple_tuple; have f3 := AutoSeq1.sub_list_list; have f4 := AutoSeq1.sub_tuple_list; have f5 := AutoSeq1.sub_list_tuple
    have hz : (xs ++ ys).size ≤ sizeLine + 1 := by rw [Array.size_append]; exact h2
    wp_walk using (wpAny_updateSeq ha rfl (hz := h1) (_hz' := hz)), AutoSeq1.wpAny_loadPart' ha, AutoSeq1.wpAny_loadPart' hb; exact ⟨_, rfl, h⟩
def oExtend (K : PySem.W.Frag) : V → List V → Hp → VK → Prop := fun x vs H Q => ∃ l b xs zs, x = .ref l ∧ vs = [.ref b] ∧ H l = some (.lst xs) ∧ SqL K H b zs ∧ xs.length + zs.length ≤ sizeLine ∧ Q .non (upd H l (.lst (xs ++ zs)))
theorem mt_extendA {X : Cx} : MtR X "list.extend" (oExtend X.K) := by
  intro pins s σ H x vs v us Q I rx rv h
  obtain ⟨l, b, xs, zs, rfl, rfl, hH, hB, hz, q⟩ := h
  cases rx
  obtain ⟨u, rfl, ru⟩ := rv.one
  cases ru
  obtain ⟨z, its, n, r, hl, e⟩ := I.lstM hH
  obtain ⟨its2, r2, ⟨⟨c2, d2, x2, sl2⟩, n2, e2, k1, k2, k3⟩, hz2⟩ := I.list hB
  simp only at k1 k2 k3
  subst k1; subst k2; subst k3
  have hl2 := r2.length
  have hsz : its.toArray.size + its2.toArray.size ≤ sizeLine := by rw [List.size_toArray, List.size_toArray]; omega
  have hlong : ¬ (!its.toArray.isEmpty && Builtin.List.listTooLong (its.toArray.size + its2.toArray.size)) = true := by
    rw [notLongL hsz, Bool.and_false]; simp
  refine call_meets PySem.F.slot_list_extend ⟨_, e, rfl⟩ PySem.F.entry_list_extend (PySem.F.args_list_extend_2 _ _) (extend_any l its.toArray n b its2.toArray n2 sl2 hlong (by rw [List.size_toArray]; omega) (by omega)) ⟨e, e2, ?_⟩
  exact ⟨.non, _, I.lset (its' := its ++ its2) hH e (by simp) (r.append r2) (by rw [List.length_append]; omega), rfl, q⟩
section
variable {X : Cx} {o e f : Expr} {es : List Expr} {n : Nat} {mo me : ME} {m : MA} {apos cpos pos p : Pos}
/-- xs.extend(ys): ys a list -/
def mExtend (mo : ME) (m : MA) : ME := fun τ h Q => mo τ h fun p h1 => listAt h1 p ∧ m τ h1 fun ps h2 => match p, ps with
  | .ref a, [q] => (match h2 a, seqL h2 q with | some (.lst xs), some ys => xs.length + ys.length ≤ SZ ∧ Q .non (up h2 a (.lst (xs ++ ys))) | _, _ => False)
  | _, _ => False
theorem le_extend (ho : LE X o mo) (he : LAn X [e] 1 m) (hbase : attributeBase o "extend" X.env (eval o X.env) = eval o X.env := by rfl)
    (hfew : ((backTo cpos (starEach [e] X.env)).all (fun x => !x.1) && (backToKw cpos (keywordEach [] X.env)).all (fun x => x.1.isSome) && decide (([e] : List Expr).length + ([] : List Keyword).length + (if ([] : List Keyword).isEmpty then 0 else 1) < 30)) = true := by rfl)
    (hline : (apos.endLine == cpos.line) = true := by rfl) (hs : starEach [e] X.env = (false, eval e X.env) :: starEach [] X.env := by rfl) :
    LE X (.Call (.Attribute o "extend" apos) [e] [] cpos) (mExtend mo m) := by
  refine PE.weak (pe_bm PySem.F.plainAttrs_list PySem.F.slot_list_extend PySem.F.type_list_extend mt_extendA ho he hbase hfew hline hs rfl) fun σ H Q ⟨τ, h, Q', s, sh, q, l⟩ => ?_
  refine ⟨τ, h, _, s, sh, q, fun p h1 v H1 q1 g1 r1 s1 => ⟨ty_list r1 s1 q1.1, ?_⟩⟩
  refine ⟨τ, h1, _, s.mono g1.mono, s1, q1.2, ?_⟩
  rintro ps h2 vs H2 q2 _ g2 rr s2
  split at q2
  · rename_i a q _
    obtain ⟨y, rfl, ry⟩ := rr.one
    split at q2
    · rename_i xs ys e2 e4
      obtain ⟨u, e3, us, rfl, rx⟩ := s2 _ _ e2
      obtain ⟨b, ws, rfl, hq, rw'⟩ := seqL_sq ry s2 e4
      have mm : Mono H2 (upd H2 a (.lst (us ++ ws))) := Mono.lst e3
      refine ⟨a, b, us, ws, rel_ref.mp r1, rfl, e3, hq, by rw [← rx.length, ← rw'.length]; exact sz_le q2.1, l _ _ _ _ q2.2 ((g1.trans g2).trans (.wr e2 mm)) (rel_non.mpr rfl) (s2.put mm ⟨_, rfl, (rx.append rw').mono mm⟩)⟩
    · exact q2.elim
  · exact q2.elim
/-- xs.insert(i, y), 0 ≤ i -/
def mInsert (mo : ME) (m : MA) : ME := fun τ h Q => mo τ h fun p h1 => listAt h1 p ∧ m τ h1 fun ps h2 => match p, ps with
  | .ref a, [.int i, q] => (match h2 a with | some (.lst xs) => xs.length < SZ ∧ 0 ≤ i ∧ i < 1000000 ∧ Q .non (up h2 a (.lst (xs.take i.toNat ++ [q] ++ xs.drop i.toNat))) | _ => False)
  | _, _ => False
theorem le_insert (ho : LE X o mo) (he : LAn X [e, f] 2 m) (hbase : attributeBase o "insert" X.env (eval o X.env) = eval o X.env := by rfl)
    (hfew : ((backTo cpos (starEach [e, f] X.env)).all (fun x => !x.1) && (backToKw cpos (keywordEach [] X.env)).all (fun x => x.1.isSome) && decide (([e, f] : List Expr).length + ([] : List Keyword).length + (if ([] : List Keyword).isEmpty then 0 else 1) < 30)) = true := by rfl)
    (hline : (apos.endLine == cpos.line) = true := by rfl) (hs : starEach [e, f] X.env = (false, eval e X.env) :: starEach [f] X.env := by rfl) (hp : (backTo cpos (starEach [f] X.env)).any (·.1) = false := by rfl) :
    LE X (.Call (.Attribute o "insert" apos) [e, f] [] cpos) (mInsert mo m) := by
  refine PE.weak (pe_bm PySem.F.plainAttrs_list PySem.F.slot_list_insert PySem.F.type_list_insert mt_insert ho he hbase hfew hline hs hp) fun σ H Q ⟨τ, h, Q', s, sh, q, l⟩ => ?_
  refine ⟨τ, h, _, s, sh, q, fun p h1 v H1 q1 g1 r1 s1 => ⟨ty_list r1 s1 q1.1, ?_⟩⟩
  refine ⟨τ, h1, _, s.mono g1.mono, s1, q1.2, ?_⟩
  rintro ps h2 vs H2 q2 _ g2 rr s2
  split at q2
  · rename_i a i q _
    obtain ⟨y, w, rfl, ry, rw'⟩ := rr.two
    split at q2
    · rename_i xs e2
      obtain ⟨u, e3, us, rfl, rx⟩ := s2 _ _ e2
      obtain ⟨z1, z2, z3, q2⟩ := q2
      have mm : Mono H2 (upd H2 a (.lst (us.take i.toNat ++ [w] ++ us.drop i.toNat))) := Mono.lst e3
      refine ⟨a, us, i, w, rel_ref.mp r1, by rw [rel_int.mp ry], e3, by rw [← rx.length]; exact sz_lt z1, z2, by omega, l _ _ _ _ q2 ((g1.trans g2).trans (.wr e2 mm)) (rel_non.mpr rfl) (s2.put mm ⟨_, rfl, (((rx.take _).append (.cons rw' .nil)).append (rx.drop _)).mono mm⟩)⟩
    · exact q2.elim
  · exact q2.elim
/-- xs.pop(i) -/
def mPopAt (mo : ME) (m : MA) : ME := fun τ h Q => mo τ h fun p h1 => listAt h1 p ∧ m τ h1 fun ps h2 => match p, ps with
  | .ref a, [.int i] => (match h2 a with
    | some (.lst xs) => xs.length ≤ SZ ∧ (match ixN xs.length i with | some k => (match xs[k]? with | some y => Q y (up h2 a (.lst (xs.eraseIdx k))) | none => False) | none => False)
    | _ => False)
  | _, _ => False
theorem Rels.eraseIdx {K : PySem.W.Frag} {H : Hp} {ps : List PV} {xs : List V} (r : Rels K H ps xs) (k : Nat) : Rels K H (ps.eraseIdx k) (xs.eraseIdx k) := by
  rw [List.eraseIdx_eq_take_drop_succ, List.eraseIdx_eq_take_drop_succ]
  exact (r.take _).append (r.drop _)
theorem le_popAt (ho : LE X o mo) (he : LAn X [e] 1 m) (hbase : attributeBase o "pop" X.env (eval o X.env) = eval o X.env := by rfl)
    (hfew : ((backTo cpos (starEach [e] X.env)).all (fun x => !x.1) && (backToKw cpos (keywordEach [] X.env)).all (fun x => x.1.isSome) && decide (([e] : List Expr).length + ([] : List Keyword).length + (if ([] : List Keyword).isEmpty then 0 else 1) < 30)) = true := by rfl)
    (hline : (apos.endLine == cpos.line) = true := by rfl) (hs : starEach [e] X.env = (false, eval e X.env) :: starEach [] X.env := by rfl) :
    LE X (.Call (.Attribute o "pop" apos) [e] [] cpos) (mPopAt mo m) := by
  refine PE.weak (pe_bm PySem.F.plainAttrs_list PySem.F.slot_list_pop PySem.F.type_list_pop mt_popAt ho he hbase hfew hline hs rfl) fun σ H Q ⟨τ, h, Q', s, sh, q, l⟩ => ?_
  refine ⟨τ, h, _, s, sh, q, fun p h1 v H1 q1 g1 r1 s1 => ⟨ty_list r1 s1 q1.1, ?_⟩⟩
  refine ⟨τ, h1, _, s.mono g1.mono, s1, q1.2, ?_⟩
  rintro ps h2 vs H2 q2 _ g2 rr s2
  split at q2
  · rename_i a i _
    obtain ⟨y, rfl, ry⟩ := rr.one
    split at q2
    · rename_i xs e2
      obtain ⟨u, e3, us, rfl, rx⟩ := s2 _ _ e2
      obtain ⟨z1, q2⟩ := q2
      split at q2
      · rename_i k ek
        split at q2
        · rename_i y2 ey
          obtain ⟨w, ew, rw'⟩ := rx.get ey
          obtain ⟨k1, k2, k3, k4⟩ := ixN_seq ek
          have hl := rx.length
          have hz : xs.length ≤ 16777216 := z1
          have mm : Mono H2 (upd H2 a (.lst (us.eraseIdx k))) := Mono.lst e3
          refine ⟨a, us, i, k, w, rel_ref.mp r1, by rw [rel_int.mp ry], e3, by omega, by omega, by rw [← hl]; exact k1, ew, l _ _ _ _ q2 ((g1.trans g2).trans (.wr e2 mm)) (rw'.mono mm) (s2.put mm ⟨_, rfl, (rx.eraseIdx k).mono mm⟩)⟩
        · exact q2.elim
      · exact q2.elim
    · exact q2.elim
  · exact q2.elim
/-- min, max of two ints -/
def rMin2 : PRA := fun ps h Q => match ps with | [.int i, .int j] => Q (.int (if j < i then j else i)) h | _ => False
def rMax2 : PRA := fun ps h Q => match ps with | [.int i, .int j] => Q (.int (if j > i then j else i)) h | _ => False
theorem lf_min2 {K : PySem.W.Frag} : LfA K (fun xs H Q => ∃ i j, xs = [.int i, .int j] ∧ Q (.int (if j < i then j else i)) H) rMin2 := by
  intro xs H ps h Q' Q rp s r l
  unfold rMin2 at r
  split at r
  · obtain ⟨v, w, rfl, r1, r2⟩ := rp.two
    rw [rel_int.mp r1, rel_int.mp r2]
    exact ⟨_, _, rfl, l _ _ _ _ r .refl (rel_int.mpr rfl) s⟩
  · exact r.elim
theorem lf_max2 {K : PySem.W.Frag} : LfA K (fun xs H Q => ∃ i j, xs = [.int i, .int j] ∧ Q (.int (if j > i then j else i)) H) rMax2 := by
  intro xs H ps h Q' Q rp s r l
  unfold rMax2 at r
  split at r
  · obtain ⟨v, w, rfl, r1, r2⟩ := rp.two
    rw [rel_int.mp r1, rel_int.mp r2]
    exact ⟨_, _, rfl, l _ _ _ _ r .refl (rel_int.mpr rfl) s⟩
  · exact r.elim
theorem le_min2 (hc : X.calm = true) (hm : X.mg "min" = none) (ha : LAn X [e, f] 2 m) (hg : Gl X "min" := by rfl) (h1 : starEach [e, f] X.env = (false, eval e X.env) :: starEach [f] X.env := by rfl) (h2 : (backTo pos (starEach [f] X.env)).any (·.1) = false := by rfl) :
    LE X (.Call (.Name "min" p) [e, f] [] pos) (mBlt rMin2 m) := le_blt (call_min2 hc) lf_min2 hm ha hg (h1 := h1) (h2 := h2)
theorem le_max2 (hc : X.calm = true) (hm : X.mg "max" = none) (ha : LAn X [e, f] 2 m) (hg : Gl X "max" := by rfl) (h1 : starEach [e, f] X.env = (false, eval e X.env) :: starEach [f] X.env := by rfl) (h2 : (backTo pos (starEach [f] X.env)).any (·.1) = false := by rfl) :
    LE X (.Call (.Name "max" p) [e, f] [] pos) (mBlt rMax2 m) := le_blt (call_max2 hc) lf_max2 hm ha hg (h1 := h1) (h2 := h2)
/-- int(text) -/
def rIntT : PRA := fun ps h Q => match ps with
  | [.str x] => x.length ≤ 640 ∧ (match PySem.intText? x with | some n => Q (.int n) h | none => False)
  | [.int i] => Q (.int i) h
  | [.bl b] => Q (.int (if b = true then 1 else 0)) h
  | _ => False
theorem le_intT (hm : X.mg "int" = none) (ha : LAn X [e] 1 m) (hg : Gl X "int" := by rfl) (h1 : starEach [e] X.env = (false, eval e X.env) :: starEach [] X.env := by rfl) :
    LE X (.Call (.Name "int" p) [e] [] pos) (mBlt rIntT m) := le_ty (call_int1.or call_int_str) (fun xs H ps h Q' Q rp s r l => by
  unfold rIntT at r
  split at r
  · obtain ⟨v, rfl, r1⟩ := rp.one
    obtain ⟨hl, r⟩ := r
    split at r
    · rename_i n en
      rw [rel_str.mp r1]
      exact .inr ⟨_, _, rfl, en, hl, l _ _ _ _ r .refl (rel_int.mpr rfl) s⟩
    · exact r.elim
  · obtain ⟨v, rfl, r1⟩ := rp.one
    rw [rel_int.mp r1]
    exact .inl (.inl ⟨_, rfl, l _ _ _ _ r .refl (rel_int.mpr rfl) s⟩)
  · obtain ⟨v, rfl, r1⟩ := rp.one
    rw [rel_bl.mp r1]
    exact .inl (.inr ⟨_, rfl, l _ _ _ _ r .refl (rel_int.mpr rfl) s⟩)
  · exact r.elim) hm ha hg (h1 := h1) (h2 := rfl)
/-- x.split(y): a list of texts, kept -/
def rSplit : PV → List PV → PH → PK → Prop := fun p ps h Q => match p, ps with
  | .str x, [.str y] => (y.length == 0) = false ∧ x.length + 2 ≤ SZ ∧ Q (.lst ((Txt.split x y).map PV.str)) h
  | _, _ => False
theorem rels_of_strs {K : PySem.W.Frag} {H : Hp} : ∀ ys : List Str, Rels K H (ys.map PV.str) (ys.map V.str)
  | [] => .nil
  | y :: ys => .cons (rel_str.mpr rfl) (rels_of_strs ys)
theorem le_split (ho : LE X o mo) (ha : LAn X [e] 1 m) (hbase : attributeBase o "split" X.env (eval o X.env) = eval o X.env := by rfl)
    (hfew : ((backTo cpos (starEach [e] X.env)).all (fun x => !x.1) && (backToKw cpos (keywordEach [] X.env)).all (fun x => x.1.isSome) && decide (([e] : List Expr).length + ([] : List Keyword).length + (if ([] : List Keyword).isEmpty then 0 else 1) < 30)) = true := by rfl)
    (hline : (apos.endLine == cpos.line) = true := by rfl) (hs : starEach [e] X.env = (false, eval e X.env) :: starEach [] X.env := by rfl) (hs1 : starEach [e] X.env = [(false, eval e X.env)] := by rfl) :
    LE X (.Call (.Attribute o "split" apos) [e] [] cpos) (mM1 rSplit mo m) := by
  refine PE.weak (PE.kp (pe_bm PySem.F.plainAttrs_str PySem.F.slot_str_split PySem.F.type_str_split mt_split ho ha hbase hfew hline hs rfl)) fun σ H Q ⟨τ, h, Q', s, sh, q, l⟩ => ?_
  refine ⟨τ, h, _, s, sh, q, fun p h1 v H1 ⟨⟨x, ex⟩, q1⟩ g1 r1 s1 => ⟨by subst ex; rw [rel_str.mp r1]; rfl, ?_⟩⟩
  refine ⟨τ, h1, _, s.mono g1.mono, s1, q1, ?_⟩
  rintro ps h2 vs H2 q2 _ g2 rr s2
  subst ex
  unfold rSplit at q2
  split at q2
  · rename_i x' y ex _
    cases ex
    obtain ⟨w, rfl, rw'⟩ := rr.one
    obtain ⟨z1, z2, q2⟩ := q2
    exact ⟨_, _, rel_str.mp r1, by rw [rel_str.mp rw'], z1, sz_le z2, fun a ha => keep_l (l.mono (g1.trans g2)) s2 (rels_of_strs _) q2 ha⟩
  · exact q2.elim
/-! ### f'..' -/
/-- a part: a text or an int, as a text -/
def mFmt (m : ME) : ME := fun τ h Q => m τ h fun p h1 => match p with
  | .str x => x.length ≤ SZ ∧ Q (.str x) h1
  | .int i => i.natAbs.log2 < 1920 ∧ Q (.str (toString i)) h1
  | _ => False
theorem le_fmt (he : LE X e me) : LE X (.FormattedValue e (-1) none pos) (mFmt me) := by
  refine PE.weak (pe_fmt he) fun σ H Q ⟨τ, h, Q', s, sh, q, l⟩ => ?_
  refine ⟨τ, h, _, s, sh, q, fun p h1 v H1 q1 g1 r1 s1 => ?_⟩
  cases p with
  | str x => exact .inl ⟨x, rel_str.mp r1, sz_le q1.1, l _ _ _ _ q1.2 g1 (rel_str.mpr rfl) s1⟩
  | int i => exact .inr ⟨i, rel_int.mp r1, q1.1, l _ _ _ _ q1.2 g1 (rel_str.mpr rfl) s1⟩
  | _ => exact q1.elim
/-- the parts, one behind the other -/
def mJs : List ME → List Nat → PSt → PH → (List Nat → PH → Prop) → Prop
  | [], acc, _, h, Q => Q acc h
  | m :: ms, acc, τ, h, Q => m τ h fun p h1 => match p with
    | .str y => acc.length + (cl y).length ≤ SZ ∧ mJs ms (acc ++ cl y) τ h1 Q
    | _ => False
def mJoin (ms : List ME) : ME := fun τ h Q => mJs ms [] τ h fun l h1 => Q (.str (S l)) h1
inductive LJ (X : Cx) : List Expr → List ME → Prop where
  | nil : LJ X [] []
  | cons {e : Expr} {m : ME} {es : List Expr} {ms : List ME} (h : LE X e m) (r : LJ X es ms) : LJ X (e :: es) (m :: ms)
theorem LJ.pj {es : List Expr} {ms : List ME} (h : LJ X es ms) : PJ X es (ms.map (upE X.K)) := by
  induction h with
  | nil => exact .nil
  | cons h _ ih => exact .cons h ih
theorem js_up {K : PySem.W.Frag} {σ : L2.St} {τ : PSt} : ∀ (ms : List ME) (acc : List Nat) (H : Hp) (h : PH) (Q' : List Nat → PH → Prop) (Q : Str → Hp → Prop), SimS K H σ τ → Sim K H h → mJs ms acc τ h Q' →
    (∀ l h1 H1, Q' l h1 → Go H h H1 h1 → SimS K H1 σ τ → Sim K H1 h1 → Q (S l) H1) → tJs (ms.map (upE K)) (S acc) σ H Q
  | [], acc, H, h, Q', Q, s, sh, q, k => k acc h H q .refl s sh
  | m :: ms, acc, H, h, Q', Q, s, sh, q, k => by
    show upE K m σ H _
    refine ⟨τ, h, _, s, sh, q, fun p h1 v H1 q1 g1 r1 s1 => ?_⟩
    cases p with
    | str y =>
      obtain ⟨hz, q1⟩ := q1
      have e : S acc ++ y = S (acc ++ cl y) := by rw [← S_cl y, S_append, cl_S]
      refine ⟨y, rel_str.mp r1, by rw [e, S_length, List.length_append]; exact sz_le hz, ?_⟩
      rw [e]
      exact js_up ms _ H1 h1 Q' Q (s.mono g1.mono) s1 q1 fun l h2 H2 q2 g2 => k l h2 H2 q2 (g1.trans g2)
    | _ => exact q1.elim
theorem le_fs {e1 e2 : Expr} {rest : List Expr} {ms : List ME} (h : LJ X (e1 :: e2 :: rest) ms) : LE X (.JoinedStr (e1 :: e2 :: rest) pos) (mJoin ms) := by
  refine PE.weak (pe_joined h.pj) fun σ H Q ⟨τ, h0, Q', s, sh, q, l⟩ => ?_
  exact js_up ms [] H h0 _ _ s sh q fun x h1 H1 q1 g1 _ s1 => l _ _ _ _ q1 g1 (rel_str.mpr rfl) s1
/-! ### dict(pairs), each key once -/
def prs : List PV → Option (List Key × List PV)
  | [] => some ([], [])
  | .tup [k, v] :: r => (match kOf k, prs r with | some k', some (ks, vs) => some (k' :: ks, v :: vs) | _, _ => none)
  | _ => none
theorem prs_rel {K : PySem.W.Frag} {H : Hp} : ∀ {xs : List PV} {us : List V} {ks : List Key} {vs : List PV}, Rels K H xs us → prs xs = some (ks, vs) →
    ∃ (as : List Addr) (kvs : List (Key × V)), us = as.map V.ref ∧ Paired (fun p kv => SqT K H p [kV kv.1, kv.2]) as kvs ∧ ks = kvs.map (·.1) ∧ Rels K H vs (kvs.map (·.2))
  | [], us, ks, vs, r, e => by
    rw [Rels.nil_iff] at r
    simp only [prs, Option.some.injEq, Prod.mk.injEq] at e
    obtain ⟨rfl, rfl⟩ := e
    exact ⟨[], [], r, .nil, rfl, .nil⟩
  | x :: xs, us, ks, vs, r, e => by
    obtain ⟨u, us', rfl, r1, r2⟩ := r.uncons
    unfold prs at e
    split at e
    · cases ‹_ :: _ = []›
    · rename_i k v rest e0
      cases e0
      split at e
      · rename_i k' ks' vs' ek er
        simp only [Option.some.injEq, Prod.mk.injEq] at e
        obtain ⟨rfl, rfl⟩ := e
        obtain ⟨as, kvs, e1, e2, e3, e4⟩ := prs_rel r2 er
        obtain ⟨a, ys, rfl, hq, ry⟩ := rel_tup.mp r1
        obtain ⟨w, z, rfl, rw', rz⟩ := ry.two
        have hk := kOf_rel rw' ek
        subst hk
        exact ⟨a :: as, (k', z) :: kvs, by rw [e1]; rfl, .cons hq e2, by rw [e3]; rfl, .cons rz e4⟩
      · cases e
    · cases e
def rDictP : PRA := fun ps h Q => match ps with
  | [p] => (match seqL h p with
    | some xs => (match prs xs with | some (ks, vs) => ks.Nodup ∧ Q (.dct ks vs) h | none => False)
    | none => False)
  | _ => False
theorem le_dictP (hc : X.calm = true) (hm : X.mg "dict" = none) (ha : LAn X [e] 1 m) (hg : Gl X "dict" := by rfl) (h1 : starEach [e] X.env = (false, eval e X.env) :: starEach [] X.env := by rfl) :
    LE X (.Call (.Name "dict" p) [e] [] pos) (mBlt rDictP m) := le_tyK (call_dictP hc) (fun xs H ps h Q' Q rp s r l => by
  unfold rDictP at r
  split at r
  · split at r
    · rename_i q _ ys e
      split at r
      · rename_i ks vs ek
        obtain ⟨v, rfl, r1⟩ := rp.one
        obtain ⟨a, us, rfl, hq, rr⟩ := seqL_sq r1 s e
        obtain ⟨as, kvs, rfl, e2, rfl, e4⟩ := prs_rel rr ek
        refine ⟨a, as, kvs, rfl, hq, e2, fun b hb => ?_⟩
        rw [merge_nd kvs [] (by simpa using r.1), List.nil_append]
        exact keep_d l s rfl e4 r.2 hb
      · exact r.elim
    · exact r.elim
  · exact r.elim) hm ha hg (h1 := h1) (h2 := rfl)
end
/-! ### [e, ..] * n, a list that may change -/
def mRepM (m : MA) (mb : ME) : ME := fun τ h Q => m τ h fun ps h1 => mb τ h1 fun q h2 => match q with
  | .int k => (-16777216 ≤ k ∧ k ≤ 16777216 ∧ ps.length * k.toNat ≤ SZ) ∧ ∀ a, h2 a = none → Q (.ref a) (up h2 a (.lst (List.replicate k.toNat ps).flatten))
  | _ => False
theorem le_repM {X : Cx} {pos p2 : Pos} {es : List Expr} {b : Expr} {n : Nat} {m : MA} {mb : ME} (h : LAn X es n m) (hb : LE X b mb) (hn : n ≤ 1000 := by decide) : LE X (.BinOp (.List es p2) .Mult b pos) (mRepM m mb) := by
  refine PE.weak (PE.kp (pe_op op_rep (pe_lst h) hb)) fun σ H Q ⟨τ, h, Q', s, sh, q, l⟩ => ?_
  refine ⟨τ, h, _, s, sh, q, fun ps h1 vs H1 q1 hl g1 r1 s1 => ⟨by rw [← r1.length, hl]; exact few hn, fun p hp => ?_⟩⟩
  have hp1 : h1 p = none := s1.fresh hp
  have gD : Go H1 h1 (upd H1 p (.lst vs)) h1 := .new hp
  refine ⟨τ, h1, _, s.mono (g1.trans gD).mono, s1.new hp, q1, fun q h2 y H2 q2 g2 r2 s2 => ?_⟩
  cases q with
  | int k =>
    obtain ⟨⟨k1, k2, hz⟩, q2⟩ := q2
    have hH : H2 p = some (.lst vs) := g2.frame p _ upd_same hp1
    refine ⟨p, k, vs, rfl, rel_int.mp r2, hH, by omega, by omega, by rw [← r1.length]; exact sz_le hz, fun c hc => ?_⟩
    have g := (g1.trans gD).trans g2
    exact make_l (l.mono g) s2 ((r1.mono (gD.trans g2).mono).rep k.toNat) q2 hc
  | _ => exact q2.elim
end N3

/-! what a def has made and no one needs any more may be forgotten at its end -/
namespace N3
open PySem PySem.Spec PyProof.Rows L2
def sub (h0 h1 : PH) : Prop := ∀ a o, h0 a = some o → h1 a = some o
theorem sub_refl (h : PH) : sub h h := fun _ _ e => e
theorem sub_up {h : PH} {a : Addr} {o : PO} (e : h a = none) : sub h (up h a o) := fun b u z => by
  unfold up
  by_cases hb : b = a
  · subst hb; rw [e] at z; cases z
  · rw [if_neg hb]; exact z
theorem sub_trans {h k l : PH} (a : sub h k) (b : sub k l) : sub h l := fun c o e => b c o (a c o e)
theorem sub_none {h0 h1 : PH} {b : Addr} (s : sub h0 h1) (e : h1 b = none) : h0 b = none := by
  cases z : h0 b with
  | none => rfl
  | some o => have := s b o z; rw [e] at this; cases this
def frg (Q : PK) : PK := fun p h1 => ∃ h0, sub h0 h1 ∧ Q p h0
theorem frg_of {Q : PK} {p : PV} {h : PH} (q : Q p h) : frg Q p h := ⟨h, sub_refl h, q⟩
theorem LQ.frg {K : PySem.W.Frag} {H : Hp} {h : PH} {Q' : PK} {Q : VK} (l : LQ K H h Q' Q) : LQ K H h (frg Q') Q := fun p h1 v H1 ⟨h0, s, q⟩ g r sm =>
  l p h0 v H1 q ⟨g.mono, g.frame, fun b u e n => sub_none s (g.dom b u e n), g.live⟩ r (sm.less s)
section
variable {P : Program} {w : World} {K : PySem.W.Frag} {mg : Str → Option Value} {base : Heap}
theorem FnG.frg {k : Nat} {f : Addr} {fd : FuncData} {ps : List Str} {sp : SpP} (F : FnG P w K mg base k f fd ps (fun qs h Q => ∃ Q', sp qs h Q' ∧ Q = N3.frg Q')) : FnG P w K mg base k f fd ps sp :=
  ⟨fun A outer s H args us vs Q hr hg he hb r ⟨qs, h1, Q', hl, rr, ss, z, l⟩ => F.run A outer s H args us vs Q hr hg he hb r ⟨qs, h1, N3.frg Q', hl, rr, ss, ⟨Q', z, rfl⟩, l.frg⟩⟩
theorem fn_okF {x qual : Str} {st : Stmt} {f : Addr} {fd : FuncData} {N ps : List Str} {k : Nat} {sp : SpP} {m : MS} (F : Fun K x qual st f fd) (S : FnScope N ps (defScope st))
    (hb : ∀ (cdv : Value) (A : Around) (outer : List Env) (s : Shared) (H : Hp) (E : XK), Room k (A.deeper (envOfC qual (defScope st) s.heap.objs.size f cdv)) → A.guards = some [] → LSs (cxOf CX0 P w K mg base N qual (defScope st) f cdv A outer s H E).nox (defBody st) m)
    (hm : ∀ qs h Q, qs.length = ps.length → sp qs h Q → m (ends (frg Q)) (sp0 N.length qs) h) : FnG P w K mg base (k + 1) f fd ps sp :=
  FnG.frg (fn_ok F S hb fun qs h Q hl ⟨Q', z, e⟩ => by subst e; exact hm qs h Q' hl z)
end
end N3

/-! comprehensions of two fors; sorted of a tuple -/
namespace N3
open PySem PySem.Spec PyProof.Rows L2
def lcI (gd : PH → Prop) (τ : PSt) (g : MG) (t : MT) (m : ME) : List PV → List PV → PH → (List PV → PH → Prop) → Prop
  | [], acc, h, Q => gd h ∧ Q acc h
  | p :: ps, acc, h, Q => gd h ∧ g p τ h fun τ1 h1 => t τ1 h1 fun b h2 => if b = true then m τ1 h2 fun v h3 => acc.length < SZ ∧ lcI gd τ g t m ps (acc ++ [v]) h3 Q else lcI gd τ g t m ps acc h2 Q
def lcO (gd : PH → Prop) (τ : PSt) (g : MG) (t : MT) (mi1 : MI) (vs1 : List Nat) (g1 : MG) (t1 : MT) (m : ME) : List PV → List PV → PH → (List PV → PH → Prop) → Prop
  | [], acc, h, Q => gd h ∧ Q acc h
  | p :: ps, acc, h, Q => gd h ∧ g p τ h fun τ1 h1 => t τ1 h1 fun b h2 => if b = true then mi1 τ1 h2 fun qs gd1 h3 => lcI gd1 (wp τ1 vs1) g1 t1 m qs acc h3 fun acc' h4 => lcO gd τ g t mi1 vs1 g1 t1 m ps acc' h4 Q else lcO gd τ g t mi1 vs1 g1 t1 m ps acc h2 Q
def mLc2 (mi : MI) (vs : List Nat) (g : MG) (t : MT) (mi1 : MI) (vs1 : List Nat) (g1 : MG) (t1 : MT) (m : ME) : ME := fun τ h Q => mi τ h fun ps gd h1 => lcO gd (wp τ vs) g t mi1 vs1 g1 t1 m ps [] h1 fun zs h2 => Q (.lst zs) h2
theorem lc_up2 {K : PySem.W.Frag} {mi mi1 : MI} {vs vs1 : List Nat} {g g1 : MG} {t t1 : MT} {m : ME} {Y : List PV → PH → Prop} {σ : L2.St} {H0 : Hp} {τ : PSt} {h0 : PH} {Q : VK} (s0 : SimS K H0 σ τ) (sh0 : Sim K H0 h0)
    (q : mi τ h0 fun ps gd h1 => lcO gd (wp τ vs) g t mi1 vs1 g1 t1 m ps [] h1 Y)
    (fin : ∀ zs h2 xs D H2, Y zs h2 → H0 D = none → H2 D = some (.lst xs) → h2 D = none → Sim K H2 h2 → Rels K H2 zs xs → Go H0 h0 H2 h2 → Q (.ref D) H2) :
    tLc2 (upI K mi) (upG K vs g) (upT K t) (upI K mi1) (upG K vs1 g1) (upT K t1) (upE K m) vs vs1 σ H0 Q := by
  refine ⟨τ, h0, _, s0, sh0, q, fun ps gd h1 H1 J q1 gA s1 wk D hD => ?_⟩
  have hD1 : h1 D = none := s1.fresh hD
  have gD : Go H1 h1 (upd H1 D (.lst [])) h1 := .new hD
  refine ⟨fun i n H => ∃ h acc xs, i ≤ ps.length ∧ n = ps.length - i ∧ Go H1 h1 H h ∧ H D = some (.lst xs) ∧ h D = none ∧ Rels K H acc xs ∧ Sim K H h ∧ lcO gd (wp τ vs) g t mi1 vs1 g1 t1 m (ps.drop i) acc h Y,
    ⟨ps.length, h1, [], [], Nat.zero_le _, rfl, gD, upd_same, hD1, .nil, s1.new hD, q1⟩, ?_⟩
  rintro i n H ⟨h, acc, xs, hi, rfl, gg, hx, hd, ra, sh, q⟩
  by_cases hlt : i < ps.length
  · have e : ps.drop i = ps[i] :: ps.drop (i + 1) := List.drop_eq_getElem_cons hlt
    rw [e] at q
    obtain ⟨hgd, q⟩ := q
    refine .inr ⟨wk.goes i H h hlt gg.mono sh hgd, fun H' => ∃ h acc xs, Go H1 h1 H' h ∧ H' D = some (.lst xs) ∧ h D = none ∧ Rels K H' acc xs ∧ Sim K H' h ∧ lcO gd (wp τ vs) g t mi1 vs1 g1 t1 m (ps.drop (i + 1)) acc h Y,
      fun H' ⟨h, acc, xs, a1, a2, a3, a4, a5, a7⟩ => ⟨ps.length - (i + 1), by omega, h, acc, xs, hlt, rfl, a1, a2, a3, a4, a5, a7⟩, fun x H' y => ?_⟩
    obtain ⟨g2, sh2, rx⟩ := wk.yields i H h x H' ps[i] (List.getElem?_eq_getElem hlt) gg.mono sh hgd y
    have gw : Mono H0 H' := (gA.trans (gg.trans g2)).mono
    refine ⟨ps[i], wp τ vs, h, _, rx, (s0.mono gw).wipe vs, sh2, q, fun τ3 h3 σ3 H3 q3 g3 s3 sh3 w3 => ⟨by rw [w3, wipe_wipe], ?_⟩⟩
    refine ⟨τ3, h3, _, s3, sh3, q3, fun b h4 H4 q4 g4 s4 => ?_⟩
    have g24 := (g2.trans g3).trans g4
    have x4 : H4 D = some (.lst xs) := g24.frame D _ hx hd
    have d4 : h4 D = none := g24.dom D _ hx hd
    cases b with
    | false =>
      simp only [Bool.false_eq_true, if_false] at q4 ⊢
      exact ⟨h4, acc, xs, gg.trans g24, x4, d4, ra.mono g24.mono, s4, q4⟩
    | true =>
      simp only [if_true] at q4 ⊢
      refine ⟨τ3, h4, _, s3.mono g4.mono, s4, q4, fun qs gd1 h5 H5 J1 q5 g5 s5 wk1 => ?_⟩
      have x5 : H5 D = some (.lst xs) := g5.frame D _ x4 d4
      have d5 : h5 D = none := g5.dom D _ x4 d4
      refine ⟨fun j k H => ∃ h acc xs, j ≤ qs.length ∧ k = qs.length - j ∧ Mono H5 H ∧ Go H1 h1 H h ∧ H D = some (.lst xs) ∧ h D = none ∧ Rels K H acc xs ∧ Sim K H h ∧ lcI gd1 (wp τ3 vs1) g1 t1 m (qs.drop j) acc h fun acc' h4 => lcO gd (wp τ vs) g t mi1 vs1 g1 t1 m (ps.drop (i + 1)) acc' h4 Y,
        ⟨qs.length, h5, acc, xs, Nat.zero_le _, rfl, Mono.refl _, (gg.trans g24).trans g5, x5, d5, ra.mono (g24.trans g5).mono, s5, q5⟩, ?_⟩
      rintro j k H6 ⟨h6, acc6, xs6, hj, rfl, m6, gg6, hx6, hd6, ra6, sh6, q6⟩
      by_cases hlt6 : j < qs.length
      · have e6 : qs.drop j = qs[j] :: qs.drop (j + 1) := List.drop_eq_getElem_cons hlt6
        rw [e6] at q6
        obtain ⟨hgd6, q6⟩ := q6
        refine .inr ⟨wk1.goes j H6 h6 hlt6 m6 sh6 hgd6, fun H' => ∃ h acc xs, Mono H5 H' ∧ Go H1 h1 H' h ∧ H' D = some (.lst xs) ∧ h D = none ∧ Rels K H' acc xs ∧ Sim K H' h ∧ lcI gd1 (wp τ3 vs1) g1 t1 m (qs.drop (j + 1)) acc h fun acc' h4 => lcO gd (wp τ vs) g t mi1 vs1 g1 t1 m (ps.drop (i + 1)) acc' h4 Y,
          fun H' ⟨h, acc, xs, a0, a1, a2, a3, a4, a5, a7⟩ => ⟨qs.length - (j + 1), by omega, h, acc, xs, hlt6, rfl, a0, a1, a2, a3, a4, a5, a7⟩, fun x H' y => ?_⟩
        obtain ⟨g7, sh7, rx7⟩ := wk1.yields j H6 h6 x H' qs[j] (List.getElem?_eq_getElem hlt6) m6 sh6 hgd6 y
        refine ⟨qs[j], wp τ3 vs1, h6, _, rx7, (s3.mono ((g4.trans g5).mono.trans (m6.trans g7.mono))).wipe vs1, sh7, q6, fun τ8 h8 σ8 H8 q8 g8 s8 sh8 w8 => ⟨by rw [w8, wipe_wipe], ?_⟩⟩
        refine ⟨τ8, h8, _, s8, sh8, q8, fun b h9 H9 q9 g9 s9 => ?_⟩
        have g79 := (g7.trans g8).trans g9
        have x9 : H9 D = some (.lst xs6) := g79.frame D _ hx6 hd6
        have d9 : h9 D = none := g79.dom D _ hx6 hd6
        cases b with
        | true =>
          simp only [if_true] at q9 ⊢
          refine ⟨τ8, h9, _, s8.mono g9.mono, s9, q9, fun v hA yA HA ⟨qz, qA⟩ g_A rA sA => ?_⟩
          have xA : HA D = some (.lst xs6) := g_A.frame D _ x9 d9
          have dA : hA D = none := g_A.dom D _ x9 d9
          have mw : Mono HA (upd HA D (.lst (xs6 ++ [yA]))) := Mono.lst xA
          refine ⟨xs6, xA, by rw [← ra6.length]; exact sz_lt qz, hA, acc6 ++ [v], xs6 ++ [yA], (m6.trans (g79.trans g_A).mono).trans mw, ((gg6.trans g79).trans g_A).renew hD mw, upd_same, dA, ((ra6.mono (g79.trans g_A).mono).append (.cons rA .nil)).mono mw, sA.drop mw dA, qA⟩
        | false =>
          simp only [Bool.false_eq_true, if_false] at q9 ⊢
          exact ⟨h9, acc6, xs6, m6.trans g79.mono, gg6.trans g79, x9, d9, ra6.mono g79.mono, s9, q9⟩
      · have e6 : j = qs.length := by omega
        subst e6
        rw [List.drop_length] at q6
        exact .inl ⟨wk1.stops H6 h6 m6 sh6 q6.1, h6, acc6, xs6, gg6, hx6, hd6, ra6, sh6, q6.2⟩
  · have e : i = ps.length := by omega
    subst e
    rw [List.drop_length] at q
    exact .inl ⟨wk.stops H h gg.mono sh q.1, fin acc h xs D H q.2 (gA.live D hD) hx hd sh ra (gA.trans gg)⟩
section
variable {X : Cx} {pos : Pos}
theorem le_lc2 {elt tg iter tg1 iter1 : Expr} {ifs ifs1 : List Expr} {scope : Scope} {mi mi1 : MI} {g g1 : MG} {t t1 : MT} {m : ME} (own : List (Str × Nat)) (vs1 : List Nat) (hc : X.calm = true) (hN : X.N.Nodup) (hi : LI X tg iter mi) (ok : BlkOk X.N X.env.scope scope own) (hv : ∀ i ∈ vs1, i ∈ own.map (·.2))
    (hg : ∀ (s : Shared) (H : Hp) (C : Addr) (cl : List (Str × Addr)) (fp : List Addr), LG (X.blk s H scope (compEnvC scope cl C X.env) fp) tg (own.map (·.2)) g) (ht : ∀ (s : Shared) (H : Hp) (C : Addr) (cl : List (Str × Addr)) (fp : List Addr), LTs (X.blk s H scope (compEnvC scope cl C X.env) fp) ifs t)
    (hi1 : ∀ (s : Shared) (H : Hp) (C : Addr) (cl : List (Str × Addr)) (fp : List Addr), LI (X.blk s H scope (compEnvC scope cl C X.env) fp) tg1 iter1 mi1)
    (hg1 : ∀ (s : Shared) (H : Hp) (C : Addr) (cl : List (Str × Addr)) (fp : List Addr), LG (X.blk s H scope (compEnvC scope cl C X.env) fp) tg1 vs1 g1) (ht1 : ∀ (s : Shared) (H : Hp) (C : Addr) (cl : List (Str × Addr)) (fp : List Addr), LTs (X.blk s H scope (compEnvC scope cl C X.env) fp) ifs1 t1)
    (he : ∀ (s : Shared) (H : Hp) (C : Addr) (cl : List (Str × Addr)) (fp : List Addr), LE (X.blk s H scope (compEnvC scope cl C X.env) fp) elt m) (hs : ∀ x, foldedSetIterable iter X.env x = pure x := by intro _; rfl) (hs1 : ∀ env x, foldedSetIterable iter1 env x = pure x := by intro _ _; rfl) :
    LE X (.ListComp elt [⟨tg, iter, ifs, 0⟩, ⟨tg1, iter1, ifs1, 0⟩] scope pos) (mLc2 mi (own.map (·.2)) g t mi1 vs1 g1 t1 m) :=
  PE.weak (PE.kp (pe_lc2 hc hN hi ok hv hg ht hi1 hg1 ht1 he hs hs1)) fun σ H Q ⟨τ, h, Q', s, sh, q, l⟩ => lc_up2 s sh q fun zs h2 xs D H2 q2 h0 hD hd s2 r2 g2 => .inr ⟨D, _, rfl, hD, trivial, fun o => by
    have mm : Mono H2 (upd H2 D (.frz o (.lst xs))) := Mono.lst hD
    refine l (.lst zs) h2 (.ref D) _ q2 (g2.renew h0 mm) ?_ (s2.drop mm hd)
    simp only [Rel]
    exact ⟨D, xs, rfl, .inl ⟨o, upd_same⟩, r2.mono mm⟩⟩
end

/-! ### sorted of a tuple -/
theorem collect_any {prog : Program} {w : World} {A : Around} {E : Value → Shared → Prop} {s : Shared} {l : Addr} {vs : List Value} {Q : List Value → Shared → Prop} (hl : IsTup s.heap l vs.toArray)
    (h : Q vs { s with heap := (s.heap.push (seqObj "list" #[] 0)).update s.heap.objs.size (Obj.mapSeq (· ++ vs.toArray)) }) (hz : vs.length ≤ sizeLine) : wpAny (model prog w) A (collect (.ref l)) Q E s := by
  obtain ⟨o, ho, hc, n, hd⟩ := id hl
  have ho2 : (s.heap.push (seqObj "list" #[] 0)).get? l = some o := Heap.get?_push_of_some _ ho
  unfold collect; refine wpAny_bind (wpAny_runValue (codeAny_builtin entry_proto_collect' ?_))
  show wpAny (model prog w) _ (do again (.builtin "list.__iadd__" ⟨[← newList [], .ref l], []⟩)) _ _ s
  refine wpAny_bind (wpAny_newList (wpAny_pure ⟨Code.quiet_builtin _ (by decide +kernel), codeAny_builtin entry_list_iadd' (show wpAny (model prog w) _ (Builtin.List.listExtendWith (.ref s.heap.objs.size) (.ref l) (.ref s.heap.objs.size)) _ _ { s with heap := s.heap.push (seqObj "list" #[] 0) } from ?_)⟩))
  unfold Builtin.List.listExtendWith; refine wpAny_bind (wpAny_typeOf (T := "tuple") ⟨o, ho2, hc⟩ ?_)
  rw [if_pos (by rw [show (Value.type "tuple" == Value.type "tuple") = true from by rfl, Bool.or_true])]; refine wpAny_bind (listItems_at ho2 hd (wpAny_bind (listItems_at (xs := #[]) (n := 0) (Heap.get?_push_size _ rfl) rfl ?_)))
  rw [if_neg (by simp)]; refine wpAny_bind (listUpdate_at (xs := #[]) (n := 0) (Heap.get?_push_size _ rfl) rfl (wpAny_pure ?_) (Nat.zero_le _) (by show (#[] ++ vs.toArray).size ≤ sizeLine + 1; simp only [Array.size_append, List.size_toArray, List.length_nil]; omega))
  show wpAny (model prog w) A (do let o ← load s.heap.objs.size; match o.data with | .seq xs _ => pure xs.toList | _ => unsupported "internal:collect") Q E { s with heap := (s.heap.push (seqObj "list" #[] 0)).update s.heap.objs.size (Obj.mapSeq (· ++ vs.toArray)) }
  refine wpAny_bind (wpAny_load (get?_update_seq (Heap.get?_push_size _ rfl) _) (show wpAny (model prog w) A (pure ((#[] : Array Value) ++ vs.toArray).toList) Q E _ from ?_))
  rw [show ((#[] : Array Value) ++ vs.toArray).toList = vs by simp]; exact wpAny_pure h
open PySem.W in
theorem sorted_tup {prog : Program} {w : World} {A : Around} {E : Value → Shared → Prop} {s : Shared} {β : Type} {vs : List Value} {bs : List β} {enc : β → PyData} {R : Value → β → Prop} {l : Addr} {Q : Value → Shared → Prop} (hl : IsTup s.heap l vs.toArray) (e : EachIs R vs bs) (er : EachIs (fun v b => ∃ as, Reads s.heap v (enc b) as) vs bs)
    (hal : AllAlike (bs.map enc)) (hk : Sortable (bs.map enc)) (hL : bs.length ≤ sizeLine) (hu : ∀ b, b ∈ bs → A.units + 2 + (enc b).depth < cLine)
    (h : ∀ out, out.length = bs.length → EachIs R out (bs.mergeSort (dataLe false enc)) → Q (.ref (s.heap.objs.size + 1)) { s with heap := sortedAll s.heap vs (List.toArray out) }) : wpAny (model prog w) A (call (.builtin "sorted") [.ref l]) Q E s := by
  have hv : vs.length ≤ sizeLine := by rw [e.length]; exact hL
  have er2 : EachIs (fun v b => ∃ as, Reads (sortingHeap (copyHeap s.heap vs) (s.heap.objs.size + 1) vs) v (enc b) as) vs bs := er.mono fun _ _ ⟨as, r⟩ => ⟨as, PyProof.Rows.Reads.keeps (fun _ _ => sorting_copy_old) r⟩
  have body : ∀ E' : Value → Shared → Prop, wpAny (model prog w) A.in1.in1 (Builtin.«list.sort» ⟨[.ref (s.heap.objs.size + 1)], []⟩) (fun f s' => f = .done (.ret .none) ∧ Q (.ref (s.heap.objs.size + 1)) s') E' { s with heap := copyHeap s.heap vs } := fun E' =>
    list_sort_vals (s := { s with heap := copyHeap s.heap vs }) (copyHeap_at s.heap vs) (SortsAt.data (s := { s with heap := sortingHeap (copyHeap s.heap vs) (s.heap.objs.size + 1) vs }) (each_map (R := fun v d => ∃ as, Reads (sortingHeap (copyHeap s.heap vs) (s.heap.objs.size + 1) vs) v d as) enc er2) hal hk (bound_map hu)) hv
      ⟨rfl, h _ (by rw [sortVals_length false rfl]; exact e.length) (sortVals_data false e er2 hal)⟩
  have hsz2 : ((s.heap.push (seqObj "list" #[] 0)).update s.heap.objs.size (Obj.mapSeq (· ++ vs.toArray))).objs.size = s.heap.objs.size + 1 := by rw [Heap.size_update, size_push']
  refine call_function_entry_kw kind_sorted plain_sorted entry_sorted (args_sorted1 _) ?_
  unfold Builtin.«sorted»; refine wpAny_bind (m := checkCount "sorted" 1 1 _) (wpAny_pure (wpAny_bind (collect_any hl (wpAny_bind (wpAny_newList (show wpAny (model prog w) _ _ _ _ { s with heap := copyHeap s.heap vs } from ?_) hv)) hv)))
  rw [hsz2]; refine wpAny_bind (wpAny_holding (wpAny_call_entry_kw slot_list_sort ⟨_, copyHeap_at s.heap vs, rfl⟩ entry_list_sort (show wpAny (model prog w) A.in1.in1 (Builtin.«list.sort» ⟨[.ref (s.heap.objs.size + 1)], []⟩) _ _ _ from ?_) (args_list_sort _)))
  exact wpAny_mono (body _) (fun f s' ⟨hf, hq⟩ => by subst hf; exact ⟨_, rfl, wpAny_pure ⟨_, rfl, hq⟩⟩) fun _ _ e => e
def oSortT (K : PySem.W.Frag) : List V → Hp → VK → Prop := fun vs H Q => ∃ (a : Addr) (bs : List (V × PyData)), vs = [.ref a] ∧ SqT K H a (bs.map Prod.fst) ∧ (∀ b ∈ bs, Dp K H b.1 b.2) ∧ Srtb (bs.map Prod.snd) ∧
  ∀ l, H l = none → Q (.ref l) (upd H l (.lst ((bs.mergeSort (PySem.W.dataLe false Prod.snd)).map Prod.fst)))
theorem cr_sortTup {X : Cx} (hu : X.A.units + 66 < cLine) : CallR X (.builtin "sorted") (oSortT X.K) := by
  intro pins s σ H vs us Q I r h
  obtain ⟨a, bs, rfl, ha, hd, st, q⟩ := h
  obtain ⟨u, rfl, ru⟩ := vals1 r
  cases ru
  obtain ⟨its, rv, pl, hz⟩ := I.tuple ha
  obtain ⟨e1, e2⟩ := dp_each I rfl hd rv
  rw [List.length_map] at hz
  refine sorted_tup (bs := bs) (enc := Prod.snd) pl e1 e2 st.al st.so hz (fun b hb => ?_) fun out hl eo => ?_
  · have := st.dp b.2 (List.mem_map_of_mem hb)
    omega
  · obtain ⟨c, hc⟩ := sortedAll_at s.heap its out.toArray
    have I2 := I.laid (t' := s.toks) (h' := sortedAll s.heap its out.toArray) (a := s.heap.objs.size + 1) (o := .lst ((bs.mergeSort (PySem.W.dataLe false Prod.snd)).map Prod.fst)) (fun _ _ => sortedAll_old) (Nat.le_succ _)
      ⟨by rw [List.length_map, List.length_mergeSort]; exact hz, out, c, vals_each eo, hc⟩
    exact ⟨.ref (s.heap.objs.size + 1), _, I2, rfl, q _ (I.hok.fresh (Nat.le_succ _))⟩
/-- sorted(xs), xs a list or a tuple -/
def rSortA : PRA := fun ps h Q => match ps with
  | [p] => (match listed h p with | some xs => flats xs = true ∧ Srtb (xs.map toD) ∧ Q (.lst (xs.mergeSort (PySem.W.dataLe false toD))) h | none => False)
  | _ => False
theorem kf_sortA {K : PySem.W.Frag} : KfA K (fun vs H Q => oSort K vs H Q ∨ oSortT K vs H Q) rSortA := by
  intro xs H ps h Q' Q rp s r l
  unfold rSortA at r
  split at r
  · split at r
    · rename_i p _ qs e
      obtain ⟨v, rfl, r1⟩ := rp.one
      obtain ⟨a, ys, rfl, hq, rr⟩ := listed_sq r1 s e
      obtain ⟨f, st, r⟩ := r
      have hl := rr.length
      have e1 : (ys.zip (qs.map toD)).map Prod.fst = ys := List.map_fst_zip (by rw [List.length_map]; omega)
      have e2 : (ys.zip (qs.map toD)).map Prod.snd = qs.map toD := List.map_snd_zip (by rw [List.length_map]; omega)
      rcases hq with hq | hq
      · exact .inl ⟨a, ys.zip (qs.map toD), rfl, by rw [e1]; exact hq, dps_zip f rr, by rw [e2]; exact st, fun c hc => keep_l l s (rels_sort rr) r hc⟩
      · exact .inr ⟨a, ys.zip (qs.map toD), rfl, by rw [e1]; exact hq, dps_zip f rr, by rw [e2]; exact st, fun c hc => keep_l l s (rels_sort rr) r hc⟩
    · exact r.elim
  · exact r.elim
theorem le_sortA {X : Cx} {pos p : Pos} {e : Expr} {m : MA} (hu : X.A.units + 66 < cLine) (hm : X.mg "sorted" = none) (ha : LAn X [e] 1 m) (hg : Gl X "sorted" := by rfl) (h1 : starEach [e] X.env = (false, eval e X.env) :: starEach [] X.env := by rfl) :
    LE X (.Call (.Name "sorted" p) [e] [] pos) (mBlt rSortA m) := le_bltK ((cr_sort hu).or (cr_sortTup hu)) kf_sortA hm ha hg (h1 := h1) (h2 := rfl)
/-! ### list(text) -/
theorem vals_at : ∀ {ys : List V} {us : List Value}, ys.length = us.length → (∀ (j : Nat) (y : V) (u : Value), ys[j]? = some y → us[j]? = some u → RelV y u) → Vals ys us
  | [], [], _, _ => .nil
  | y :: ys, u :: us, hl, h => .cons (h 0 y u rfl rfl) (vals_at (by simpa using hl) fun j z w e1 e2 => h (j + 1) z w (by simpa using e1) (by simpa using e2))
  | [], _ :: _, hl, _ => by simp at hl
  | _ :: _, [], hl, _ => by simp at hl
def oListT : List V → Hp → VK → Prop := fun xs H Q => ∃ x : Str, xs = [.str x] ∧ x.length ≤ sizeLine ∧ ∀ l, H l = none → Q (.ref l) (upd H l (.lst ((cl x).map fun c => V.str (S [c]))))
theorem call_listT {X : Cx} (hc : X.calm = true) : CallR X (.type "list") oListT := by
  intro pins s σ H xs us Q I r h
  obtain ⟨x, rfl, hz, q⟩ := h
  obtain ⟨u, rfl, ru⟩ := vals1 r
  obtain ⟨t, rfl⟩ := ru
  refine call_list_str (I.ok.hd hc) x t (fun h' tk acc n kp e it => ?_) hz
  have hl : acc.size = (cl x).length := by rw [it.1]; simp [cl]
  have I2 := I.laid (t' := tk) (h' := h') (a := s.heap.objs.size) (o := .lst ((cl x).map fun c => V.str (S [c]))) kp (Nat.le_refl _) ⟨by rw [List.length_map, ← cl_length]; exact hz, acc.toList, n, ?_, by simpa using e⟩
  · exact ⟨.ref s.heap.objs.size, _, I2, rfl, q _ (I.hok.fresh (Nat.le_refl _))⟩
  · refine vals_at (by rw [List.length_map]; exact hl.symm) fun j y w e1 e2 => ?_
    obtain ⟨c, k, hc', rfl⟩ := it.2 j w (by simpa using e2)
    rw [List.getElem?_map] at e1
    have e3 : (cl x)[j]? = some c := by simpa [cl] using hc'
    rw [e3] at e1
    cases e1
    exact ⟨_, rfl⟩
/-- list(xs), xs a list, a tuple, a text -/
def rListA : PRA := fun ps h Q => match ps with
  | [.str x] => x.length ≤ SZ ∧ Q (.lst (ones x)) h
  | [p] => (match listed h p with | some xs => Q (.lst xs) h | none => False)
  | _ => False
theorem rels_ones {K : PySem.W.Frag} {H : Hp} (l : List Nat) : Rels K H (l.map fun c => PV.str (S [c])) (l.map fun c => V.str (S [c])) := by
  induction l with
  | nil => exact .nil
  | cons c l ih => exact .cons (rel_str.mpr rfl) ih
theorem kf_listA {K : PySem.W.Frag} : KfA K (fun xs H Q => oListOf K xs H Q ∨ oListT xs H Q) rListA := by
  intro xs H ps h Q' Q rp s r l
  unfold rListA at r
  split at r
  · rename_i x
    obtain ⟨v, rfl, r1⟩ := rp.one
    exact .inr ⟨x, by rw [rel_str.mp r1], sz_le r.1, fun c hc => keep_l l s (rels_ones (cl x)) r.2 hc⟩
  · split at r
    · rename_i e
      obtain ⟨v, rfl, r1⟩ := rp.one
      obtain ⟨a, ys, rfl, hq, rr⟩ := listed_sq r1 s e
      exact .inl ⟨a, ys, rfl, hq, fun c hc => keep_l l s rr r hc⟩
    · exact r.elim
  · exact r.elim
theorem le_listA {X : Cx} {pos p : Pos} {e : Expr} {m : MA} (hc : X.calm = true) (hm : X.mg "list" = none) (ha : LAn X [e] 1 m) (hg : Gl X "list" := by rfl) (h1 : starEach [e] X.env = (false, eval e X.env) :: starEach [] X.env := by rfl) :
    LE X (.Call (.Name "list" p) [e] [] pos) (mBlt rListA m) := le_tyK (call_list_of.or (call_listT hc)) kf_listA hm ha hg (h1 := h1) (h2 := rfl)
end N3

/-! targets with a star; targets of a list -/
namespace N3
open PySem PySem.Spec PyProof.Rows L2
/-- what the parts of `a, *b, c = list` are -/
theorem star_parts {prog : Program} {w : World} {A : Around} {E : Value → Shared → Prop} {s : Shared} {l : Addr} {its : Array Value} {n i : Nat} {Q : List Value → Shared → Prop} (hl : s.heap.IsList l its) (hh : A.handled = none) (hi : i < n) (hn : n ≤ its.size + 1) (hz : its.size ≤ sizeLine)
    (k : ∀ (g : Heap) (tk : Nat), (∀ b o, s.heap.get? b = some o → g.get? b = some o) → Q (its.toList.take i ++ [.ref g.objs.size] ++ (its.toList.drop i).drop (its.size + 1 - n)) { s with heap := g.push { cls := .type "list", data := .seq ((its.toList.drop i).take (its.size + 1 - n)).toArray }, toks := tk }) :
    wpAny (model prog w) A (unpackItems (.ref l) n (some i)) Q E s := by
  have far : l < s.heap.objs.size := let ⟨_, ho, _⟩ := hl; Heap.lt_size ho
  have ne : l ≠ s.heap.objs.size := Nat.ne_of_lt far
  unfold unpackItems notIterableAtAll
  refine wpAny_bind (wpAny_bind (wpAny_specialOf hl.typeIs slot_list_iter.lookup (wpAny_pure ?_)))
  simp only [Bool.false_eq_true, if_false]
  refine wpAny_bind (wpAny_holding (wpAny_pyIter_list hl (wpAny_bind (wpAny_holding (PySem.W.kun_draw ne i 0 _ _ ⟨_, Heap.get?_push_size _ rfl, rfl, rfl⟩ (hl.push _) (by omega) fun g1 at1 sm => ?_)))))
  have hl1 : g1.IsList l its := (hl.push _).extBut sm.extBut ne
  rw [Nat.zero_add] at at1
  have la : s.heap.objs.size < g1.objs.size := let ⟨_, ho, _⟩ := id at1; Heap.lt_size ho
  have lb : l < g1.objs.size := let ⟨_, ho, _⟩ := id hl1; Heap.lt_size ho
  rw [List.drop_zero]
  have f1 : (its.toList.take i).length = i := by rw [List.length_take, Array.length_toList]; omega
  have f2 : (its.toList.drop i).length = its.size - i := by rw [List.length_drop, Array.length_toList]
  have f3 : (its.toList.drop i).length - (n - 1 - i) = its.size + 1 - n := by rw [f2]; omega
  rw [if_neg (by rw [f1]; omega)]
  refine wpAny_bind (wpAny_holding (PySem.W.kun_collect (s := { s with heap := g1 }) (T := "list_iterator") (.inr (.inr (.inl rfl))) (Walks.list (A := A.in1) hh s.heap.objs.size l ne its) (fun _ _ st => st.1.typeIs) (k := i) (by omega) ⟨at1, hl1⟩ la lb (fun g2 tk kp => ?_) hz))
  dsimp only
  rw [if_neg (by rw [f2]; omega), f3]
  refine wpAny_bind (wpAny_newList (wpAny_pure ?_))
  have old : ∀ b o, s.heap.get? b = some o → g2.get? b = some o := fun b o e => kp b o (Nat.ne_of_lt (Heap.lt_size e)) (sm.extBut b o (Nat.ne_of_lt (Heap.lt_size e)) (Heap.get?_push_of_some _ e))
  exact k g2 tk old
def gStr (K : PySem.W.Frag) (n i : Nat) (t : TGs) : TG := fun v σ H Q => ∃ a xs, v = .ref a ∧ SqL K H a xs ∧ n ≤ xs.length + 1 ∧
  ∀ D o, H D = none → t (xs.take i ++ [.ref D] ++ (xs.drop i).drop (xs.length + 1 - n)) σ (upd H D (.frz o (.lst ((xs.drop i).take (xs.length + 1 - n))))) Q
section
variable {X : Cx} {pos : Pos} {es : List Expr} {vs : List Nat}
theorem pg_str {k : Nat} {t : TGs} {n i : Nat} (hc : X.calm = true) (h : PGs X es t) (hn : (assignEach es X.env).length = n := by rfl) (hst : (assignEach es X.env).findIdx? (·.1) = some i := by rfl) (hi : i < n := by decide) : PG X (.Tuple es k pos) (gStr X.K n i t) := by
  refine ⟨fun pins s σ H v u Q I r hw => ?_⟩
  obtain ⟨a, xs, rfl, hq, hl, hw⟩ := hw
  cases r
  obtain ⟨its, rv, pl, hz⟩ := I.list hq
  have ll := rv.length
  rw [PyProof.Rows.assign_Tuple]; refine wpAny_bind (wpAny_standAt ?_)
  unfold unpack; rw [hn, hst]
  refine wpAny_bind (wpAny_holding (star_parts pl.isList (I.ok.hd hc) hi (by simp; omega) (by simp; omega) fun g tk old => ?_))
  have I1 : Inv X pins σ H { s with heap := g } := I.kept (t' := s.toks) old
  have e : its.toArray.toList = its := rfl
  have ez : its.toArray.size = xs.length := by simp [ll]
  rw [e, ez]
  have I2 : Inv X pins σ (upd H g.objs.size (.lst ((xs.drop i).take (xs.length + 1 - n)))) { s with heap := g.push { cls := .type "list", data := .seq ((its.drop i).take (xs.length + 1 - n)).toArray }, toks := tk } :=
    I1.laid (a := g.objs.size) (t' := tk) (fun b o z => Heap.get?_push_of_some _ z) (Nat.le_refl _) ⟨by rw [List.length_take, List.length_drop]; omega, _, _, (rv.drop i).take _, Heap.get?_push_size _ rfl⟩
  obtain ⟨o, I3⟩ := Inv.keep I2 upd_same trivial
  rw [upd_upd] at I3
  have q := hw g.objs.size o (I1.hok.fresh (Nat.le_refl _))
  refine h.run pins _ σ _ _ _ Q I3 ?_ q
  exact ((rv.take i).append (Paired.cons (show RelV (.ref g.objs.size) (.ref g.objs.size) from rfl) .nil)).append ((rv.drop i).drop _)
/-- a, *b, c = list -/
def gS (n i : Nat) (g : MGs) : MG := fun p τ h Q => match seqL h p with
  | some ps => n ≤ ps.length + 1 ∧ g (ps.take i ++ [.lst ((ps.drop i).take (ps.length + 1 - n))] ++ (ps.drop i).drop (ps.length + 1 - n)) τ h Q
  | none => False
/-- a, b = list -/
def gL (n : Nat) (g : MGs) : MG := fun p τ h Q => match seqL h p with
  | some ps => ps.length = n ∧ g ps τ h Q
  | none => False
theorem lg_str {k : Nat} {g : MGs} {n i : Nat} (hc : X.calm = true) (h : LGs X es vs g) (hn : (assignEach es X.env).length = n := by rfl) (hst : (assignEach es X.env).findIdx? (·.1) = some i := by rfl) (hi : i < n := by decide) : LG X (.Tuple es k pos) vs (gS n i g) := by
  refine PG.weak (pg_str hc h hn hst hi) fun v σ H Q ⟨p, τ, h, Q', r, s, sh, q, l⟩ => ?_
  unfold gS at q
  cases e : seqL h p with
  | none => rw [e] at q; exact q.elim
  | some ps =>
    rw [e] at q
    obtain ⟨a, xs, rfl, sq, rr⟩ := seqL_sq r sh e
    have ll := rr.length
    have q2 := q.2
    rw [ll] at q2
    refine ⟨a, xs, rfl, sq, by rw [← ll]; exact q.1, fun D o hD => ?_⟩
    have m : Mono H (upd H D (.frz o (.lst ((xs.drop i).take (xs.length + 1 - n))))) := Mono.new hD
    refine ⟨_, τ, h, Q', ?_, s.mono m, sh.new hD, q2, fun τ1 h1 σ1 H1 q1 g1 s1 sh1 w1 => l τ1 h1 σ1 H1 q1 (Go.trans (.new hD) g1) s1 sh1 w1⟩
    refine Rels.append (Rels.append ((rr.take i).mono m) (.cons ?_ .nil)) (((rr.drop i).drop _).mono m)
    simp only [Rel]
    exact ⟨D, _, rfl, .inl ⟨o, upd_same⟩, ((rr.drop i).take _).mono m⟩
theorem lg_lst {k : Nat} {g : MGs} {n : Nat} (hc : X.calm = true) (h : LGs X es vs g) (hn : (assignEach es X.env).length = n := by rfl) (hst : (assignEach es X.env).findIdx? (·.1) = none := by rfl) : LG X (.Tuple es k pos) vs (gL n g) := by
  refine PG.weak (pg_unl hc h hn hst) fun v σ H Q ⟨p, τ, h, Q', r, s, sh, q, l⟩ => ?_
  unfold gL at q
  cases e : seqL h p with
  | none => rw [e] at q; exact q.elim
  | some ps =>
    rw [e] at q
    obtain ⟨a, xs, rfl, sq, rr⟩ := seqL_sq r sh e
    exact ⟨a, xs, rfl, sq, by rw [← rr.length, q.1], ps, τ, h, Q', rr, s, sh, q.2, l⟩
theorem lgs_star {e : Expr} {p : Pos} {g : MGs} (h : LGs X (e :: es) vs g) (hs : (assignEach (.Starred e p :: es) X.env).map (·.2) = (assignEach (e :: es) X.env).map (·.2) := by rfl) : LGs X (.Starred e p :: es) vs g :=
  ⟨fun pins s σ H ws us Q I r q => by rw [hs]; exact h.run pins s σ H ws us Q I r q⟩
end
/-! ### two keywords, exchanged -/
def cat2r {α : Type} (xs ys : List α) : List α := xs ++ ys.reverse
section
variable {X : Cx} {pos p : Pos} {j k : Nat} {x : Str} {st : Stmt} {ps : List Str} {sp : SpP}
theorem kwb_turned {K : PySem.W.Frag} {f : Addr} {fd : FuncData} {ks : List Str} {i m : Nat} (F : Fun K x x st f fd) (hl : i + m = ps.length)
    (h : ∀ (kV doc pm : Value) (an : Option Addr) (cdv ct : Value) (us ws : List Value), us.length = i → ws.length = m → bindArgs (PySem.W.fnOf x x (defArgs st) (defBody st) (defScope st) .none kV doc pm an cdv ct) ⟨us, ks.zip ws⟩ = pure (ps.zip (cat2r us ws))) :
    KwB fd ps ks cat2r cat2r cat2r i m := by
  obtain ⟨oc, od, kV, doc, pm, an, cdv, ct, osl, rfl, lk, hcd⟩ := F.ex
  exact ⟨fun s us ws h1 h2 => .of_eq (h kV doc pm an cdv ct us ws h1 h2), fun _ _ r1 r2 => r1.append r2.reverse, fun _ _ r1 r2 => r1.append r2.reverse, fun {qs zs} h1 h2 => by unfold cat2r; rw [List.length_append, List.length_reverse, h1, h2, hl]⟩
theorem le_fnKr {m' : Nat} {ks : List Str} {kws : List Keyword} {mk : MA} (c : Fn X.prog X.w X.K X.mg X.base j x st ps sp) (hr : Room k X.A) (hj : j ≤ k) (hG : X.A.guards = some []) (hl : 0 + m' = ps.length)
    (h : ∀ (kV doc pm : Value) (an : Option Addr) (cdv ct : Value) (us ws : List Value), us.length = 0 → ws.length = m' → bindArgs (PySem.W.fnOf x x (defArgs st) (defBody st) (defScope st) .none kV doc pm an cdv ct) ⟨us, ks.zip ws⟩ = pure (ps.zip (cat2r us ws)))
    (hkw : LKn X kws m' mk) (hg : Gl X x := by rfl) (hall : (backToKw pos (keywordEach kws X.env)).all (·.1.isSome) = true := by rfl) (hks : (backToKw pos (keywordEach kws X.env)).filterMap (·.1) = ks := by rfl)
    (hdb : (x == ("__debug__" : Str)) = false := by decide) (hpl : ((backTo pos (starEach [] X.env)).any (·.1) || (backToKw pos (keywordEach kws X.env)).any (·.1.isNone)) = false := by rfl) : LE X (.Call (.Name x p) [] kws pos) (mKw sp cat2r mNil mk) := by
  obtain ⟨f, fd, hm, F, hb, G⟩ := c.ex
  exact le_callK0 G (hr.mono hj) hG hm F.kp (kwb_turned F hl h) hkw hg hall hks hdb hpl
end
/-! ### a slice that may change -/
def rSlM (p : PV) (lo hi : Option Int) (h : PH) (Q : PK) : Prop := match seqL h p with
  | some xs => ∀ a, h a = none → Q (.ref a) (up h a (.lst (cut xs lo hi)))
  | none => False
theorem kf_slM {K : PySem.W.Frag} {x : V} {H : Hp} {p : PV} {lo hi : Option Int} {h : PH} {Q' : PK} {Q : VK} (rp : Rel K H p x) (s : Sim K H h) (r : rSlM p lo hi h Q') (l : LQ K H h Q' Q) : oSl K x lo hi H (kQ Q) := by
  unfold rSlM at r
  split at r
  · rename_i e
    obtain ⟨a, ys, rfl, hq, rr⟩ := seqL_sq rp s e
    exact .inl (.inl ⟨a, ys, rfl, hq, fun c hc => make_l l s (rr.cut lo hi) r hc⟩)
  · exact r.elim
def mSlM (m : ME) (ml mh : MO) : ME := fun τ h Q => m τ h fun p h1 => ml τ h1 fun lo h2 => mh τ h2 fun hi h3 => rSlM p lo hi h3 Q
section
variable {X : Cx} {pos p2 : Pos} {e : Expr} {lo hi : Option Expr}
theorem le_slM {m : ME} {ml mh : MO} (he : LE X e m) (hl : LO X lo ml) (hh : LO X hi mh) : LE X (.Subscript e (.Slice lo hi none p2) pos) (mSlM m ml mh) := by
  refine PE.weak (PE.kp (pe_slice sl_all he hl hh)) fun σ H Q ⟨τ, h, Q', s, sh, q, l⟩ => ?_
  refine ⟨τ, h, _, s, sh, q, fun p h1 v H1 q1 g1 r1 s1 => ⟨τ, h1, _, s.mono g1.mono, s1, q1, fun lo h2 H2 q2 g2 s2 => ?_⟩⟩
  refine ⟨τ, h2, _, (s.mono g1.mono).mono g2.mono, s2, q2, fun hi h3 H3 q3 g3 s3 => ?_⟩
  exact kf_slM (r1.mono (g2.trans g3).mono) s3 q3 (l.mono ((g1.trans g2).trans g3))
end
end N3

/-! enumerate of a tuple -/
namespace PySem
open PySem PySem.Spec PyProof.Rows L2
theorem enumT_made (l : Addr) (its : Array Value) :
    Meets (Builtin.«enumerate.__new__» ⟨[.type "enumerate", .ref l], []⟩) (fun _ R s => s.heap.IsTuple l its ∧
      R (.ok (.ret (.ref (s.heap.objs.size + 1)))) { s with heap := (s.heap.push { cls := .type "tuple_iterator", data := .fields #[.ref l, .int 0 0] }).push { cls := .type "enumerate", data := .fields #[.none, .bool false, .ref s.heap.objs.size, rawInt 0, .none, .none] } }) :=
  .of_wp fun prog w A R s h => by
    obtain ⟨hp, g, d, tk, os⟩ := s; obtain ⟨ht, h⟩ := h
    have hsub := sub_enumerate; have gone : ∀ {A' : Around} {E : Value → Shared → Prop} {Q : Value → Shared → Prop}, Q (.ref hp.objs.size) ⟨hp.push { cls := .type "tuple_iterator", data := .fields #[.ref l, .int 0 0] }, g, d, tk, os⟩ → wpAny (model prog w) A' (pyIter (.ref l)) Q E ⟨hp, g, d, tk, os⟩ := fun q => wpAny_pyIter_tuple ht q
    wp_walk using gone
    refine wpAny_stack_any fun st => wpAny_pure ?_
    rw [← Heap.size_push hp { cls := .type "tuple_iterator", data := .fields #[.ref l, .int 0 0] }] at h
    split
    · rename_i c _ _ _ _ _
      cases (c == Value.type "enumerate") <;> (wp_walk using gone; exact ⟨_, rfl, h⟩)
    · wp_walk using gone; exact ⟨_, rfl, h⟩
end PySem
namespace PySem
open PySem PySem.Spec PyProof.Rows L2
section
variable {prog : Program} {w : World} {A : Around} {E : Value → Shared → Prop} {s : Shared}
theorem enumT_call {l : Addr} {its : Array Value} {Q : Value → Shared → Prop} (ht : s.heap.IsTuple l its)
    (k : ∀ g, IsEnum g (s.heap.objs.size + 1) s.heap.objs.size 0 .none → g.IsTupleIter s.heap.objs.size l 0 → (∀ b o, s.heap.get? b = some o → g.get? b = some o) → Q (.ref (s.heap.objs.size + 1)) { s with heap := g }) :
    wpAny (model prog w) A (call (.type "enumerate") [.ref l]) Q E s := by
  refine callType_new F.called_enumerate (by decide) (F.typeCall_enumerate_1 _) (F.newCall_enumerate_1 _) (fun obj => F.args_object_init_2 obj _) F.entry_enumerate_new (enumT_made l its) ⟨ht, ?_⟩
  have z := Heap.size_push s.heap { cls := .type "tuple_iterator", data := .fields #[.ref l, .int 0 0] }
  have top := Heap.get?_push_size (s.heap.push { cls := .type "tuple_iterator", data := .fields #[.ref l, .int 0 0] }) (o := { cls := .type "enumerate", data := .fields #[.none, .bool false, .ref s.heap.objs.size, rawInt 0, .none, .none] }) rfl
  rw [z] at top
  exact ⟨⟨_, top, rfl⟩, k _ top ⟨_, Heap.get?_push_of_some _ (Heap.get?_push_size _ rfl), rfl, rfl⟩ fun b o x => Heap.get?_push_of_some _ (Heap.get?_push_of_some _ x)⟩
end
end PySem
namespace N3
open PySem PySem.Spec PyProof.Rows L2
/-- the tuple at a at each turn, each item in a new pair -/
def IteT (K : PySem.W.Frag) (a : Addr) : It :=
  ⟨fun i H => ∃ (xs : List V) (x : V), SqT K H a xs ∧ xs[i]? = some x, fun i H v H' => ∃ T x, v = .ref T ∧ H T = none ∧ H' = upd H T (.tup [.int (i : Nat), x]) ∧ ∀ xs, SqT K H a xs → xs[i]? = some x, fun i H => ∃ xs : List V, SqT K H a xs ∧ xs.length = i⟩
theorem turn_enumT {P : Program} {w : World} {K : PySem.W.Frag} {elts : List Expr} {kk : Nat} {tpos : Pos} (a e it : Addr) (hea : e ≠ a) (hia : a ≠ it) :
    Turn P w K (.Tuple elts kk tpos) (IteT K a) [e, it] e (fun i h => (∃ old, IsEnum h e it ((i : Nat) : Int) old) ∧ h.IsTupleIter it a i ∧ e ≠ it) where
  mem := by simp
  obj := fun i h st b hb => by
    obtain ⟨⟨old, he⟩, ⟨o, ho, hc, hd⟩, _⟩ := st
    rcases (show b = e ∨ b = it by simpa using hb) with rfl | rfl
    · exact ⟨_, he, fun v q => nomatch q⟩
    · exact ⟨o, ho, fun v q => by rw [hd] at q; cases q⟩
  keep := fun i h h' st k => ⟨let ⟨⟨old, he⟩, _⟩ := st; ⟨old, k e (by simp) _ he⟩, st.2.1.at fun o q => k it (by simp) o q, st.2.2⟩
  item := by
    intro X hP hw hK hc i pins s σ H E I hf st hg
    subst hP hw hK
    obtain ⟨⟨old, he⟩, hit, hne⟩ := st
    obtain ⟨xs, x, hq, hx⟩ := hg
    obtain ⟨its, rv, p, hz⟩ := I.tuple hq
    obtain ⟨u, hu, ru⟩ := rv.get hx
    have hel := Heap.lt_size he
    have hil : it < s.heap.objs.size := let ⟨_, q, _⟩ := hit; Heap.lt_size q
    refine wpAny_pyNext_enum_itemD (Draws.tuple (A := X.A.in1) (I.ok.hd hc) it a hia its.toArray) he ⟨hit, p⟩ (by rw [List.size_toArray]; exact (List.getElem?_eq_some_iff.mp hu).1) hne (by simp [hne, hea]) fun u' g tk pu out st' tup sz k => ?_
    obtain rfl : u' = u := by rw [List.getElem?_toArray] at pu; rw [hu] at pu; exact (Option.some.inj pu).symm
    refine ⟨_, rfl, wpAny_letOwnedTupleGo_enum (s := { s with heap := g, toks := tk + 1 }) out fun g2 he2 sb => ?_⟩
    have tup2 : g2.get? s.heap.objs.size = some { cls := .type "tuple", data := .seq #[.int i tk, u'] } := (sb.2 _ (Nat.ne_of_gt hel)).trans tup
    have fr := I.hok.fresh (Nat.le_refl s.heap.objs.size)
    have J : Inv X pins σ (upd H s.heap.objs.size (.tup [.int (i : Nat), x])) { s with heap := g2, toks := tk + 1 } :=
      I.turnedNew (ch := [e, it]) (fun b ob hb q => (sb.2 b fun z => hb (by simp [z])).trans (k b ob (fun z => hb (by simp [z])) (fun z => hb (by simp [z])) q)) hf (Nat.le_refl _)
        ⟨by show 2 ≤ sizeLine; decide, [.int i tk, u'], .cons ⟨_, rfl⟩ (.cons ru .nil), ⟨_, tup2, rfl, _, rfl⟩⟩
    refine ⟨.ref s.heap.objs.size, _, J, rfl, ⟨_, x, rfl, fr, rfl, fun ys hy => by rw [I.tuple_inj hy hq]; exact hx⟩, ⟨⟨u', by rw [show ((i + 1 : Nat) : Int) = (i : Int) + 1 by omega]; exact he2⟩, st'.1.at fun o q => (sb.2 it (Ne.symm hne)).trans q, hne⟩, fun b hb => ?_⟩
    have hb' : b < s.heap.objs.size := by
      rcases (show b = e ∨ b = it by simpa using hb) with rfl | rfl
      · exact hel
      · exact hil
    rw [upd_ne (Nat.ne_of_lt hb')]; exact (hf b hb).1
  done := by
    intro X hP hw hK hc i pins s σ H E I hf st hg
    subst hP hw hK
    obtain ⟨⟨old, he⟩, hit, hne⟩ := st
    obtain ⟨xs, hq, hx⟩ := hg
    obtain ⟨its, rv, p, hz⟩ := I.tuple hq
    obtain ⟨f0, f1, f2, f3, f4, f5⟩ := hf it (by simp)
    have ll := rv.length
    have ls : its.toArray.size = i := by rw [List.size_toArray]; omega
    exact wpAny_pyNext_enum_endD (Draws.tuple (A := X.A.in1) (I.ok.hd hc) it a hia its.toArray) he ⟨by rw [ls]; exact hit, p⟩ fun h' eb => ⟨rfl, I.turned (t' := s.toks) (fun b o hb q => eb b o hb q) f0 f1 f3 f4 f5⟩
  self := fun A i s Q E st h => let ⟨⟨_, he⟩, _⟩ := st; wpAny_pyIter_enum he h
/-- enumerate of a list or a tuple -/
def iEnumA (K : PySem.W.Frag) (ta : TA) : TI := fun σ H R => ta σ H fun vs H1 => (∃ a xs, vs = [.ref a] ∧ SqL K H1 a xs ∧ R (Ite K a) H1) ∨ ∃ a xs, vs = [.ref a] ∧ SqT K H1 a xs ∧ R (IteT K a) H1
theorem pi_enumA {X : Cx} {e : Expr} {ta : TA} {p pos tpos : Pos} {elts : List Expr} {kk : Nat} (hg : Gl X "enumerate") (hm : X.mg "enumerate" = none) (ha : PA X [e] ta) (hs : starEach [e] X.env = [(false, eval e X.env)] := by rfl) :
    PI X (.Tuple elts kk tpos) (.Call (.Name "enumerate" p) [e] [] pos) (iEnumA X.K ta) := by
  refine ⟨fun pins s σ H R I h => ?_⟩
  refine Call_ (ld_blt I hg hm boot_enumerate (PyProof.Rows.callWith_type1 (thn (ha.run pos pins s σ H _ I h) fun us s1 ⟨vs, H1, I1, r1, q1⟩ => ?_) hs rfl))
  have tl : ∀ b, b ∈ [s1.heap.objs.size + 1, s1.heap.objs.size] → s1.heap.objs.size ≤ b := fun b hb => by
    have e' : b = s1.heap.objs.size + 1 ∨ b = s1.heap.objs.size := by simpa using hb
    rcases e' with z | z
    · rw [z]; exact Nat.le_add_right _ _
    · rw [z]; exact Nat.le_refl _
  rcases q1 with ⟨a, xs, ex, hq, q⟩ | ⟨a, xs, ex, hq, q⟩
  · subst ex
    cases r1 with
    | cons r rr =>
      cases rr
      cases r
      obtain ⟨its, rv, p', hz⟩ := I1.list hq
      refine call_enumerate_list p'.isList fun h' he hit hsz hk => wpAny_pyIter_enum he ?_
      have I2 : Inv X pins σ H1 { s1 with heap := h' } := I1.kept (t' := s1.toks) hk
      exact ⟨s1.heap.objs.size + 1, [s1.heap.objs.size + 1, s1.heap.objs.size], _, _, H1, rfl, I2, turn_enum a (s1.heap.objs.size + 1) s1.heap.objs.size, ⟨⟨.none, he⟩, hit, Nat.succ_ne_self _⟩, fun b hb => I1.fpOk (tl b hb) (I1.hok.fresh (tl b hb)), q⟩
  · subst ex
    cases r1 with
    | cons r rr =>
      cases rr
      cases r
      obtain ⟨its, rv, p', hz⟩ := I1.tuple hq
      have ht : s1.heap.IsTuple a its.toArray := p'
      have hl : a < s1.heap.objs.size := by obtain ⟨o, q, _⟩ := ht; exact Heap.lt_size q
      refine enumT_call ht fun h' he hit hk => wpAny_pyIter_enum he ?_
      have I2 : Inv X pins σ H1 { s1 with heap := h' } := I1.kept (t' := s1.toks) hk
      exact ⟨s1.heap.objs.size + 1, [s1.heap.objs.size + 1, s1.heap.objs.size], _, _, H1, rfl, I2, turn_enumT a (s1.heap.objs.size + 1) s1.heap.objs.size (Nat.ne_of_gt (Nat.lt_succ_of_lt hl)) (Nat.ne_of_lt hl), ⟨⟨.none, he⟩, hit, Nat.succ_ne_self _⟩, fun b hb => I1.fpOk (tl b hb) (I1.hok.fresh (tl b hb)), q⟩
def mEnumA (m : MA) : MI := fun τ h Q => m τ h fun ps h1 => match ps with
  | [.tup xs] => xs.length ≤ SZ ∧ Q (enm xs) (fun _ => True) h1
  | [p] => (match seqL h1 p with | some xs => xs.length ≤ SZ ∧ Q (enm xs) (gdS p xs) h1 | none => False)
  | _ => False
section
variable {X : Cx} {tg e e2 : Expr} {pos p : Pos} {m : ME}
theorem enm_step {K : PySem.W.Frag} {H : Hp} {h : PH} {T : Addr} {i : Nat} {x : V} {p : PV} {xs : List PV} {us : List V} (sm : Sim K H h) (ru : Rels K H xs us) (hT : H T = none) (e : us[i]? = some x) (hp : (enm xs)[i]? = some p) :
    Go H h (upd H T (.tup [.int (i : Nat), x])) h ∧ Sim K (upd H T (.tup [.int (i : Nat), x])) h ∧ Rel K (upd H T (.tup [.int (i : Nat), x])) p (.ref T) := by
  unfold enm at hp
  rw [List.getElem?_map, List.getElem?_zipIdx] at hp
  cases ex : xs[i]? with
  | none => rw [ex] at hp; cases hp
  | some w =>
    rw [ex] at hp
    simp only [Option.map_some, Option.some.injEq, Nat.zero_add] at hp
    subst hp
    obtain ⟨w', e1, r3⟩ := ru.get ex
    rw [e] at e1; cases e1
    have mm : Mono H (upd H T (.tup [.int (i : Nat), x])) := Mono.new hT
    exact ⟨.new hT, sm.new hT, rel_tup.mpr ⟨T, _, rfl, .inl (.inl upd_same), .cons (rel_int.mpr rfl) (.cons (r3.mono mm) .nil)⟩⟩
theorem li_enumA {m : MA} {elts : List Expr} {kk : Nat} {tpos : Pos} (hm : X.mg "enumerate" = none) (ha : LAn X [e] 1 m) (hg : Gl X "enumerate" := by rfl) (hs : starEach [e] X.env = [(false, eval e X.env)] := by rfl) :
    LI X (.Tuple elts kk tpos) (.Call (.Name "enumerate" p) [e] [] pos) (mEnumA m) := by
  refine PI.weak (pi_enumA hg hm ha hs) fun σ H R ⟨τ, h, Q', s, sh, q, l⟩ => ?_
  refine ⟨τ, h, _, s, sh, q, fun ps h1 vs H1 q1 hl g1 r1 s1 => ?_⟩
  have hlen : ∀ xs, (enm xs).length = xs.length := fun xs => by unfold enm; simp
  split at q1
  · rename_i xs
    obtain ⟨v, rfl, r2⟩ := r1.one
    obtain ⟨a, ys, rfl, hq, rr⟩ := rel_tup.mp r2
    refine .inr ⟨a, ys, rfl, hq, l _ _ _ _ _ q1.2 g1 s1 ⟨by rw [hlen]; exact sz_le q1.1, fun i H h hi m sm g => ?_, fun H h m sm g => ?_, fun i H h y H' p hp m sm g hy => ?_⟩⟩
    · rw [hlen, rr.length] at hi
      exact ⟨ys, ys[i], m.sqT hq, List.getElem?_eq_getElem hi⟩
    · exact ⟨ys, m.sqT hq, by rw [hlen, rr.length]⟩
    · obtain ⟨T, x, rfl, hT, rfl, hy⟩ := hy
      exact enm_step sm (rr.mono m) hT (hy ys (m.sqT hq)) hp
  · rename_i p _
    obtain ⟨v, rfl, r2⟩ := r1.one
    split at q1
    · rename_i xs e
      obtain ⟨a, ys, rfl, hq, rr, later⟩ := seqL_walk r2 s1 e
      refine .inl ⟨a, ys, rfl, hq, l _ _ _ _ _ q1.2 g1 s1 ⟨by rw [hlen]; exact sz_le q1.1, fun i H h hi m sm g => ?_, fun H h m sm g => ?_, fun i H h y H' p hp m sm g hy => ?_⟩⟩
      · obtain ⟨us, hu, ru⟩ := later H h m sm g
        rw [hlen, ru.length] at hi
        exact ⟨us, us[i], hu, List.getElem?_eq_getElem hi⟩
      · obtain ⟨us, hu, ru⟩ := later H h m sm g
        exact ⟨us, hu, by rw [hlen, ru.length]; exact Nat.le_refl _⟩
      · obtain ⟨us, hu, ru⟩ := later H h m sm g
        obtain ⟨T, x, rfl, hT, rfl, hy⟩ := hy
        exact enm_step sm ru hT (hy us hu) hp
    · exact q1.elim
  · exact q1.elim
end
/-! ### a tuple, many times -/
def rMulT : PR2 := fun p q h Q => match p, q with
  | .tup xs, .int n => 0 ≤ n ∧ n ≤ 1000 ∧ xs ≠ [] ∧ xs.length ≤ 1000 ∧ Q (.tup (List.replicate n.toNat xs).flatten) h
  | p, q => rMul p q h Q
def oMulT (K : PySem.W.Frag) : R2 := fun x y H Q => oMul K x y H Q ∨ rRepT K x y H Q
theorem op_mulT {X : Cx} : OpR X (binaryOp .Mult) (oMulT X.K) := op_mulA.or op_repT
theorem kf_mulT {K : PySem.W.Frag} : Kf2 K (oMulT K) rMulT := by
  intro x y H p q h Q' Q rp rq s r l
  unfold rMulT at r
  split at r
  · rename_i ps n
    obtain ⟨n0, n1, hne, hl, r⟩ := r
    by_cases h2 : 2 ≤ n
    · obtain ⟨a, xs, e1, h1, r1⟩ := rel_tup.mp rp
      have ll := r1.length
      refine .inr ⟨a, n, xs, e1, rel_int.mp rq, h1, fun z => hne ?_, h2, n1, by omega, fun c hc => .inl (make_t l s (r1.rep n.toNat) r hc)⟩
      subst z
      exact List.eq_nil_of_length_eq_zero ll
    · refine .inl (kf_mul x y H _ _ h Q' Q rp rq s ⟨n0, by omega, ?_⟩ l)
      by_cases h1 : n = 1
      · subst h1
        rw [if_pos rfl]
        simpa using r
      · rw [if_neg h1]
        have : n = 0 := by omega
        subst this
        simpa using r
  · exact .inl (kf_mul x y H _ _ h Q' Q rp rq s r l)
end N3

/-! lists that may change: of a text cut, of two lists; a store as a target -/
namespace N3
open PySem PySem.Spec PyProof.Rows L2
def rSplitM : PV → List PV → PH → PK → Prop := fun p ps h Q => match p, ps with
  | .str x, [.str y] => (y.length == 0) = false ∧ x.length + 2 ≤ SZ ∧ ∀ a, h a = none → Q (.ref a) (up h a (.lst ((Txt.split x y).map PV.str)))
  | _, _ => False
section
variable {X : Cx} {pos apos cpos p2 : Pos} {o e i : Expr} {m : MA} {mo mk me : ME} {vs : List Nat}
theorem le_splitM (ho : LE X o mo) (ha : LAn X [e] 1 m) (hbase : attributeBase o "split" X.env (eval o X.env) = eval o X.env := by rfl)
    (hfew : ((backTo cpos (starEach [e] X.env)).all (fun x => !x.1) && (backToKw cpos (keywordEach [] X.env)).all (fun x => x.1.isSome) && decide (([e] : List Expr).length + ([] : List Keyword).length + (if ([] : List Keyword).isEmpty then 0 else 1) < 30)) = true := by rfl)
    (hline : (apos.endLine == cpos.line) = true := by rfl) (hs : starEach [e] X.env = (false, eval e X.env) :: starEach [] X.env := by rfl) (hs1 : starEach [e] X.env = [(false, eval e X.env)] := by rfl) :
    LE X (.Call (.Attribute o "split" apos) [e] [] cpos) (mM1 rSplitM mo m) := by
  refine PE.weak (PE.kp (pe_bm PySem.F.plainAttrs_str PySem.F.slot_str_split PySem.F.type_str_split mt_split ho ha hbase hfew hline hs rfl)) fun σ H Q ⟨τ, h, Q', s, sh, q, l⟩ => ?_
  refine ⟨τ, h, _, s, sh, q, fun p h1 v H1 ⟨⟨x, ex⟩, q1⟩ g1 r1 s1 => ⟨by subst ex; rw [rel_str.mp r1]; rfl, ?_⟩⟩
  refine ⟨τ, h1, _, s.mono g1.mono, s1, q1, ?_⟩
  rintro ps h2 vs H2 q2 _ g2 rr s2
  subst ex
  unfold rSplitM at q2
  split at q2
  · rename_i x' y ex _
    cases ex
    obtain ⟨w, rfl, rw'⟩ := rr.one
    obtain ⟨z1, z2, q2⟩ := q2
    exact ⟨_, _, rel_str.mp r1, by rw [rel_str.mp rw'], z1, sz_le z2, fun a ha => make_l (l.mono (g1.trans g2)) s2 (rels_of_strs _) q2 ha⟩
  · exact q2.elim
/-- a list and a list, that may change -/
def rAddM : PR2 := fun p q h Q => match seqL h p, seqL h q with
  | some xs, some ys => xs.length + ys.length ≤ SZ ∧ ∀ a, h a = none → Q (.ref a) (up h a (.lst (xs ++ ys)))
  | _, _ => False
theorem kf_addM {K : PySem.W.Frag} : Kf2 K (oAdd K) rAddM := by
  intro x y H p q h Q' Q rp rq s r l
  unfold rAddM at r
  split at r
  · rename_i xs ys e1 e2
    obtain ⟨a, us, ea, ha, ra⟩ := seqL_sq rp s e1
    obtain ⟨b, ws, eb, hb, rb⟩ := seqL_sq rq s e2
    refine .inr ⟨a, b, us, ws, ea, eb, ha, hb, ?_, fun c hc => make_l l s (ra.append rb) r.2 hc⟩
    rw [← ra.length, ← rb.length]; exact sz_le r.1
  · exact r.elim
/-- o[i] as a target -/
def gPut (mo mk : ME) : MG := fun p τ h Q => mo τ h fun d h2 => mk τ h2 fun q h3 => match d with
  | .ref a => (match h3 a with
    | some (.dct ks vs) => (match kOf q with | some k => ks.length < SZ ∧ Q τ (up h3 a (.dct (pk ks k) (pvs ks vs k p))) | none => False)
    | some (.lst xs) => (match q with | .int i => (match ixN xs.length i with | some j => Q τ (up h3 a (.lst (xs.set j p))) | none => False) | _ => False)
    | _ => False)
  | _ => False
theorem lg_put {o i : Expr} {pos' : Pos} (hu : X.A.units + 1 < cLine) (ho : LE X o mo) (hi : LE X i mk)
    (ha : ∀ u, assign (.Subscript o i pos') X.env u = (do let ov ← holding [u] (eval o X.env); let iv ← holding [u, ov] (eval i X.env); standAt pos'; holding [u, ov, iv] (setItem ov iv u); release [u, ov, iv] []) := by intro _; rfl) : LG X (.Subscript o i pos') vs (gPut mo mk) := by
  refine PG.weak (pg_sub ho hi (PSet_or (set_dict hu) set_list) ha) fun v σ H Q ⟨p, τ, h, Q', r, s, sh, q, l⟩ => ?_
  refine ⟨τ, h, _, s, sh, q, fun d h2 x H2 q2 g2 r2 s2 => ?_⟩
  refine ⟨τ, h2, _, s.mono g2.mono, s2, q2, fun q h3 y H3 q3 g3 r3 s3 => ?_⟩
  cases d with
  | ref a =>
    have hx := rel_ref.mp (r2.mono g3.mono)
    simp only at q3
    split at q3
    · rename_i ks us e
      split at q3
      · rename_i k ek
        obtain ⟨u, e1, kvs, rfl, rfl, rr⟩ := s3 a _ e
        have hy := kOf_rel r3 ek
        have hl : kvs.length < sizeLine := by
          have z := q3.1
          rw [List.length_map] at z
          exact sz_lt z
        subst hy hx
        have mm : Mono H3 (upd H3 a (.dK (putK kvs k v))) := Mono.dK e1
        obtain ⟨z1, z2⟩ := put_rel (k := k) rr ((r.mono g2.mono).mono g3.mono)
        refine .inl ⟨a, _, rfl, DPut.k e1 hl, l _ _ _ _ q3.2 ((g2.trans g3).trans (.wr e mm)) (((s.mono g2.mono).mono g3.mono).mono mm) (s3.put mm ⟨_, rfl, z1, z2.mono mm⟩) rfl⟩
      · exact q3.elim
    · rename_i xs e
      split at q3
      · rename_i i
        split at q3
        · rename_i j ej
          obtain ⟨u, e1, ys, rfl, rr⟩ := s3 a _ e
          have hy := rel_int.mp r3
          subst hy hx
          have mm : Mono H3 (upd H3 a (.lst (ys.set j v))) := Mono.lst e1
          refine .inr ⟨a, ys, i, j, rfl, rfl, e1, by rw [← rr.length]; exact ej, l _ _ _ _ q3 ((g2.trans g3).trans (.wr e mm)) (((s.mono g2.mono).mono g3.mono).mono mm) (s3.put mm ⟨_, rfl, (rr.set ((r.mono g2.mono).mono g3.mono) j).mono mm⟩) rfl⟩
        · exact q3.elim
      · exact q3.elim
    · exact q3.elim
  | _ => exact q3.elim
end
end N3

namespace N3
open PySem PySem.Spec PyProof.Rows L2
/-! ### xs[::e], e 1 or -1 -/
def mStep (m ms : ME) : ME := fun τ h Q => m τ h fun p h1 => ms τ h1 fun q h2 => match q with
  | .int i => (match seqL h2 p with
    | some xs => (i = 1 ∨ i = -1) ∧ Q (.lst (if i = 1 then xs else xs.reverse)) h2
    | none => False)
  | _ => False
def tStepA (K : PySem.W.Frag) (te ts : TE) : TE := fun σ H Q => te σ H fun x H1 => tPart ts σ H1 fun o H2 => ∃ i, o = some i ∧ (i = 1 ∨ i = -1) ∧ ∃ a xs, x = .ref a ∧ SqL K H2 a xs ∧ ∀ p, H2 p = none → Q (.ref p) (upd H2 p (.lst (if i = 1 then xs else xs.reverse)))
theorem pick_one (its : List Value) : slicePick its.toArray none none (some 1) = its.toArray := by
  have := slicePick_cut its none none
  rw [show slicePick its.toArray none none (some 1) = slicePick its.toArray none none none from rfl, this]
  unfold HT.sIx
  simp
section
variable {X : Cx} {pos p3 : Pos} {e es : Expr}
theorem pe_stepA {te ts : TE} (he : PE X e te) (hs : PE X es ts) : PE X (.Subscript e (.Slice none none (some es) p3) pos) (tStepA X.K te ts) := by
  refine ⟨fun pins s σ H Q I h => ?_⟩
  refine Subscript_ (thn (he.run pins s σ H _ I h) fun v s1 ⟨x, H1, I1, r1, q1⟩ => ?_)
  have hst : L2.PO X (some es) (tPart ts) := po_some hs
  refine wpAny_Slice (thn (po_none.run pins s1 σ H1 (fun o H2 => o = none ∧ H2 = H1) I1 ⟨rfl, rfl⟩) fun vl s2 ⟨l, H2, I2, pl, el, e2⟩ => ?_)
  subst el e2
  refine thn (po_none.run pins s2 σ H2 (fun o H3 => o = none ∧ H3 = H2) I2 ⟨rfl, rfl⟩) fun vu s3 ⟨u, H3, I3, pu, eu, e3⟩ => ?_
  subst eu e3
  refine thn (hst.run pins s3 σ H3 (fun o H4 => ∃ i, o = some i ∧ (i = 1 ∨ i = -1) ∧ ∃ a xs, x = .ref a ∧ SqL X.K H4 a xs ∧ ∀ p, H4 p = none → Q (.ref p) (upd H4 p (.lst (if i = 1 then xs else xs.reverse)))) I3 q1) fun vs s4 ⟨o, H4, I4, ps, i, eo, hi, a, xs, ex, hx, q⟩ => ?_
  subst eo
  subst ex
  cases r1
  have I5 : Inv X pins σ H4 { s4 with heap := s4.heap.push { cls := .type "slice", data := .fields #[vl, vu, vs] } } := I4.kept (t' := s4.toks) fun b ob q => Heap.get?_push_of_some _ q
  show wpAny (model X.prog X.w) X.A (subscriptTail e (.Slice none none (some es) p3) (.ref a) (.ref s4.heap.objs.size)) (EP X pins σ Q) X.xe { s4 with heap := s4.heap.push { cls := .type "slice", data := .fields #[vl, vu, vs] } }
  obtain ⟨its, r, ht, hz⟩ := I5.list hx
  have hlen := r.length
  refine tail_any (ops := [.ref a, .ref s4.heap.objs.size]) ht.isList.typeIs (PySem.slot_list_getitem.lookup) ?_ (by with_unfolding_all rfl)
  refine wpAny_getItem_list_slice ht.isList (Heap.IsSliceOf.new _ vl vu vs) pl pu ps (by rcases hi with rfl | rfl <;> decide) ?_ (by rw [List.size_toArray]; omega)
  rcases hi with rfl | rfl
  · rw [pick_one]
    rw [if_pos rfl] at q
    refine ⟨.ref _, _, I5.laid (t' := s4.toks) (o := .lst xs) (fun b ob q => Heap.get?_push_of_some _ q) (Nat.le_refl _) ?_, rfl, q _ (I5.hok.fresh (Nat.le_refl _))⟩
    exact ⟨hz, _, 0, r, Heap.get?_push_size _ rfl⟩
  · rw [PySem.W.krv_pick]
    rw [if_neg (by decide)] at q
    refine ⟨.ref _, _, I5.laid (t' := s4.toks) (o := .lst xs.reverse) (fun b ob q => Heap.get?_push_of_some _ q) (Nat.le_refl _) ?_, rfl, q _ (I5.hok.fresh (Nat.le_refl _))⟩
    exact ⟨by rw [List.length_reverse]; exact hz, _, 0, r.reverse, Heap.get?_push_size _ rfl⟩
theorem le_stp {m ms : ME} (he : LE X e m) (hs : LE X es ms) : LE X (.Subscript e (.Slice none none (some es) p3) pos) (mStep m ms) := by
  refine PE.weak (PE.kp (pe_stepA he hs)) fun σ H Q ⟨τ, h, Q', s, sh, q, l⟩ => ?_
  refine ⟨τ, h, _, s, sh, q, fun p h1 v H1 q1 g1 r1 s1 => ?_⟩
  refine ⟨τ, h1, _, s.mono g1.mono, s1, q1, fun q2 h2 y H2 q3 g2 r2 s2 => ?_⟩
  cases q2 with
  | int i =>
    have ey := rel_int.mp r2
    simp only at q3
    split at q3
    · rename_i xs e
      obtain ⟨a, ys, rfl, hq, rr⟩ := seqL_sq (r1.mono g2.mono) s2 e
      refine ⟨i, ey, i, rfl, q3.1, a, ys, rfl, hq, fun c hc => keep_l ((l.mono g1).mono g2) s2 ?_ q3.2 hc⟩
      split
      · exact rr
      · exact rr.reverse
    · exact q3.elim
  | _ => exact q3.elim
end
end N3

namespace N3
open PySem PySem.Spec PyProof.Rows L2
/-! ### the truth of any value; a or b, a and b as values -/
def trv (h : PH) : PV → Option Bool
  | .non => some false
  | .bl b => some b
  | .int i => some (i != 0)
  | .str x => if x.length ≤ SZ then some ((x.length : Int) != 0) else none
  | .tup xs => some (!xs.isEmpty)
  | p => match seqL h p with | some xs => some (!xs.isEmpty) | none => none
theorem isEmpty_rels {K : PySem.W.Frag} {H : Hp} {ps : List PV} {xs : List V} (r : Rels K H ps xs) : ps.isEmpty = xs.isEmpty := by
  cases ps with
  | nil => rw [Rels.nil_iff] at r; subst r; rfl
  | cons p ps => obtain ⟨v, vs, rfl, _, _⟩ := r.uncons; rfl
theorem trv_up {K : PySem.W.Frag} {H : Hp} {h : PH} {p : PV} {v : V} {k : Bool} (r : Rel K H p v) (s : Sim K H h) (e : trv h p = some k) : TruV K v H k := by
  have seq : ∀ {xs}, seqL h p = some xs → k = !xs.isEmpty → TruV K v H k := fun {xs} e1 e2 => by
    obtain ⟨a, ys, rfl, hq, rr⟩ := seqL_sq r s e1
    exact .inl ⟨ys, hq, by rw [e2, isEmpty_rels rr]⟩
  cases p with
  | non => rw [rel_non.mp r]; exact (Option.some.inj e).symm
  | bl b => rw [rel_bl.mp r]; exact (Option.some.inj e).symm
  | int i => rw [rel_int.mp r]; exact (Option.some.inj e).symm
  | str x =>
    rw [rel_str.mp r]
    simp only [trv] at e
    split at e
    · rename_i hz
      exact ⟨sz_le hz, (Option.some.inj e).symm⟩
    · cases e
  | tup xs =>
    obtain ⟨a, ys, rfl, hq, rr⟩ := rel_tup.mp r
    exact .inr (.inl ⟨ys, hq, by rw [← isEmpty_rels rr]; exact (Option.some.inj e).symm⟩)
  | lst xs => exact seq (xs := xs) rfl (Option.some.inj e).symm
  | ref a =>
    have e : (match seqL h (.ref a) with | some xs => some (!xs.isEmpty) | none => none) = some k := e
    split at e
    · rename_i xs e1
      exact seq e1 (Option.some.inj e).symm
    · cases e
  | dct ks vs => cases e
  | ty n => cases e
def mOrV (a b : ME) : ME := fun τ h Q => a τ h fun p h1 => match trv h1 p with
  | some k => if k = true then Q p h1 else b τ h1 Q
  | none => False
def mAndV (a b : ME) : ME := fun τ h Q => a τ h fun p h1 => match trv h1 p with
  | some k => if k = true then b τ h1 Q else Q p h1
  | none => False
section
variable {X : Cx} {a b e : Expr} {rest : List Expr} {pos : Pos}
theorem le_orV {ma mb : ME} (ha : LE X a ma) (hb : LE X (.BoolOp .Or (b :: rest) pos) mb) : LE X (.BoolOp .Or (a :: b :: rest) pos) (mOrV ma mb) := by
  refine PE.weak (pe_orT ha hb) fun σ H Q ⟨τ, h, Q', s, sh, q, l⟩ => ?_
  refine ⟨τ, h, _, s, sh, q, fun p h1 v H1 q1 m1 r s1 => ?_⟩
  split at q1
  · rename_i k e
    refine ⟨k, trv_up r s1 e, ?_⟩
    cases k with
    | true => exact l _ _ _ _ q1 m1 r s1
    | false => exact ⟨τ, h1, Q', s.mono m1.mono, s1, q1, l.mono m1⟩
  · exact q1.elim
theorem le_andV {ma mb : ME} (ha : LE X a ma) (hb : LE X (.BoolOp .And (b :: rest) pos) mb) : LE X (.BoolOp .And (a :: b :: rest) pos) (mAndV ma mb) := by
  refine PE.weak (pe_andT ha hb) fun σ H Q ⟨τ, h, Q', s, sh, q, l⟩ => ?_
  refine ⟨τ, h, _, s, sh, q, fun p h1 v H1 q1 m1 r s1 => ?_⟩
  split at q1
  · rename_i k e
    refine ⟨k, trv_up r s1 e, ?_⟩
    cases k with
    | true => exact ⟨τ, h1, Q', s.mono m1.mono, s1, q1, l.mono m1⟩
    | false => exact l _ _ _ _ q1 m1 r s1
  · exact q1.elim
end
end N3

/-! sorted(set(xs)) of texts -/
namespace N3
open PySem PySem.Spec PyProof.Rows L2 PySem.Froz

/-! ### the table of a set of texts, as it is walked -/
def txOf : Value → Str
  | .str x _ => x
  | _ => ""
structure TsetOk (P : Program) (w : World) (D : SD) (l : List Str) : Prop where
  tx : TxOk P w D l
  nd : l.Nodup
  st : ∀ e ∈ D.1.toList, ∃ k t, e.2 = .str k t
  pm : (D.1.toList.map fun e => txOf e.2).Perm l
  ri : Ris D.2.2.place.toList
  le : w.params.followText "set-order" = true ∨ D.2.2.led = true
section
variable {P : Program} {w : World} {A : Around} {E : Value → Shared → Prop} {s : Shared} {l : List Str}
theorem tset_tail {ep : Nat} {es1 : Array (Int × Value)} {t2 : SetTable} {wd : Bool} (F : TsetOk P w (es1, ep, t2) l) : TsetOk P w (tailTx ep es1 t2 wd) l := by
  have T := tail_ok (wasDummy := wd) F.tx
  unfold tailTx at T ⊢
  by_cases c : (!wd && t2.tooFull) = true
  · rw [if_pos c] at T ⊢
    have p := relayAll_perm t2 es1 (SetTable.grown es1.size)
    exact ⟨T, F.nd, fun e he => F.st e (p.mem_iff.mp he), (p.map _).trans F.pm, relayAll_ris _ _ _, F.le.imp id fun z => (relayAll_led t2 es1 _).trans z⟩
  · rw [if_neg c] at T ⊢
    exact ⟨T, F.nd, F.st, F.pm, F.ri, F.le⟩
theorem tset_add {D : SD} {k : Str} (u : Tok) (F : TsetOk P w D l) (hk : k ∉ l) : TsetOk P w (addTx (hashStr w k) (.str k u) D) (k :: l) := by
  obtain ⟨es, ep, t⟩ := D
  have p := layNew_perm t es (hashStr w k) (.str k u)
  have r := layNew_ris t es (hashStr w k) (.str k u) F.ri
  have e := layNew_led t es (hashStr w k) (.str k u)
  have f := layNew_fits t es (hashStr w k) (.str k u)
  rw [Array.toList_push] at p
  have hr : Ris (if (layNew t es (hashStr w k) (.str k u)).2.1.plain = true then { (layNew t es (hashStr w k) (.str k u)).2.1 with plain := false } else (layNew t es (hashStr w k) (.str k u)).2.1).place.toList := by
    split <;> exact r
  have hl : (if (layNew t es (hashStr w k) (.str k u)).2.1.plain = true then { (layNew t es (hashStr w k) (.str k u)).2.1 with plain := false } else (layNew t es (hashStr w k) (.str k u)).2.1).led = t.led := by
    split <;> exact e
  have hf : (if (layNew t es (hashStr w k) (.str k u)).2.1.plain = true then { (layNew t es (hashStr w k) (.str k u)).2.1 with plain := false } else (layNew t es (hashStr w k) (.str k u)).2.1).fits (layNew t es (hashStr w k) (.str k u)).1.size = true := by
    by_cases c : (layNew t es (hashStr w k) (.str k u)).2.1.plain = true
    · rw [if_pos c]; exact SetTable.fits_plain_off f
    · rw [if_neg c]; exact f
  unfold addTx
  refine tset_tail ⟨F.tx.push (by rw [Array.toList_push]; exact p) hf, List.nodup_cons.mpr ⟨hk, F.nd⟩, fun x hx => ?_, ?_, hr, F.le.imp id fun z => hl.trans z⟩
  · rcases List.mem_append.mp (p.mem_iff.mp hx) with z | z
    · exact F.st x z
    · rw [List.mem_singleton] at z; exact ⟨k, u, by rw [z]⟩
  · refine (p.map _).trans ?_
    rw [List.map_append]
    exact (List.perm_append_singleton _ _).trans (F.pm.cons k)
/-- the set of the texts l lies at a -/
def Tset (P : Program) (w : World) (h : Heap) (a : Addr) (l : List Str) : Prop := ∃ D, h.get? a = some (sObj "set" D) ∧ TsetOk P w D l
theorem Tset.at {h h' : Heap} {a : Addr} (R : Tset P w h a l) (k : ∀ o, h.get? a = some o → h'.get? a = some o) : Tset P w h' a l := by
  obtain ⟨D, e, F⟩ := R
  exact ⟨D, k _ e, F⟩
theorem tset_new {h : Heap} {a : Addr} (ho : h.get? a = some { cls := .type "set", dict := none, data := .set #[] 0 (.fresh 0 0 (!w.params.followText "set-order")) }) : Tset P w h a [] :=
  ⟨(#[], 0, .fresh 0 0 (!w.params.followText "set-order")), ho, TxOk.nil rfl, .nil, fun e he => by simp at he, .nil, List.Pairwise.nil, by
    show _ ∨ (!w.params.followText "set-order") = true
    cases w.params.followText "set-order"
    · exact .inr rfl
    · exact .inl rfl⟩
theorem old_x {a : Addr} {D : SD} {k : Str} {u : Tok} {Q : Bool → Shared → Prop} (ho : s.heap.get? a = some (sObj "set" D)) (F : TxOk P w D l) (hk : k ∈ l) (hb : l.length < scanBound) (h : Q false s) : wpAny (model P w) A (setAddHashed a (.str k u) (hashStr w k)) Q E s := by
  obtain ⟨es, ep, t⟩ := D
  have hd : (sObj "set" (es, ep, t)).data = .set es ep t := rfl
  have hsz : es.size = l.length := F.sz
  have hsc : es.size < scanBound := by rw [hsz]; exact hb
  obtain ⟨e, he, z⟩ := (F.mem k).mp hk
  unfold setAddHashed setAddHashedIn
  refine wpAny_holding (wpAny_bind (wpAny_setState_of ho hd F.fit ?_))
  dsimp only
  rw [byScan_of (knd := strKind P w) (es := es) rfl hsc F.el]
  simp only [↓reduceIte]
  unfold setAddByScan
  refine wpAny_bind (wpAny_bind (wpAny_rule (wpAny_bind (wpAny_setScan_of (knd := strKind P w) (k := k) (is_str k u) ho hd F.fit F.el ?_))))
  cases hr : List.findIdx? (fun e => (strKind P w).is k e.2) es.toList with
  | none =>
    have := List.findIdx?_eq_none_iff.mp hr e he
    rw [z] at this; cases this
  | some j => exact wpAny_pure (wpAny_pure h)
theorem tset_set {a : Addr} {k : Str} {u : Tok} {Q : Bool → Shared → Prop} (R : Tset P w s.heap a l) (hb : l.length + 1 < scanBound)
    (h : ∀ h' b l', Heap.SameBut a s.heap h' → Tset P w h' a l' → l'.Nodup → (∀ x, x ∈ l' ↔ x ∈ l ∨ x = k) → l'.length ≤ l.length + 1 → Q b { s with heap := h' }) : wpAny (model P w) A (setAddHashed a (.str k u) (hashStr w k)) Q E s := by
  obtain ⟨D, ho, F⟩ := R
  by_cases hk : k ∈ l
  · exact old_x ho F.tx hk (by omega) (h s.heap false l (Heap.SameBut.refl _ _) ⟨D, ho, F⟩ F.nd (fun x => ⟨.inl, fun z => z.elim id fun e => by rw [e]; exact hk⟩) (by omega))
  · refine add_x ho F.tx hk hb (h _ true (k :: l) (Heap.SameBut.update _ _ _) ⟨_, get_upd _ ho rfl, tset_add u F hk⟩ (List.nodup_cons.mpr ⟨hk, F.nd⟩) (fun x => ?_) (by rw [List.length_cons]; omega))
    rw [List.mem_cons]; exact Or.comm
/-! ### set(xs) -/
theorem tset_loop {I : Addr} {fp wr : List Addr} {G : Array GenState → Array GenState → Prop} {n : Nat} {Pv : Nat → Value → Prop} {St : Nat → Shared → Prop} {R : Result → Shared → Prop}
    (W : WalksS P w A.in1 I fp wr G n Pv St) (S : Addr) (hSf : S ∉ fp) (ws : List Str) (hn : n = ws.length) (hb : ws.length + 1 < scanBound) (hval : ∀ i v, Pv i v → ∃ k t, ws[i]? = some k ∧ v = .str k t) :
    ∀ (k i : Nat) (s : Shared), n - i = k → i ≤ n → St i s → (∃ l, Tset P w s.heap S l ∧ l.Nodup ∧ (∀ x, x ∈ l ↔ x ∈ ws.take i) ∧ l.length ≤ i) →
      (∀ s' l, Moved (S :: wr) G s s' → Tset P w s'.heap S l → l.Nodup → (∀ x, x ∈ l ↔ x ∈ ws) → l.length ≤ n → R (.ok (.ret .none)) s') →
      codeAny (model P w) A (.builtin "set.update.loop" ⟨[.ref S, .ref I], []⟩) R s := by
  have hSw : S ∉ wr := fun h => hSf (W.sub _ h)
  have hsub : ∀ b ∈ wr, b ∈ S :: wr := fun b hb => List.mem_cons_of_mem _ hb
  intro k
  induction k with
  | zero =>
    intro i s hk' hi hst ⟨l, hS, nd, mm, ll⟩ hR
    have hin : i = n := by omega
    subst hin
    refine codeAny_builtin F.entry_set_update_loop ?_
    rw [Around.under_plainId F.plain_set_update_loop _]
    show wpAny _ A.in1 (pyNext (.ref I) >>= _) _ _ s
    refine wpAny_bind (W.done s _ _ hst fun s' hm => ?_)
    show wpAny _ A.in1 (ret Value.none) _ _ s'
    rw [List.take_of_length_le (by omega)] at mm
    exact wpAny_pure (hR s' l (hm.mono hsub) (hS.at fun o e => hm.heap S o hSw e) nd mm ll)
  | succ k ih =>
    intro i s hk' hi hst ⟨l, hS, nd, mm, ll⟩ hR
    have hlt : i < n := by omega
    refine codeAny_builtin F.entry_set_update_loop ?_
    rw [Around.under_plainId F.plain_set_update_loop _]
    show wpAny _ A.in1 (pyNext (.ref I) >>= _) _ _ s
    refine wpAny_bind (W.item i s _ _ hlt hst fun v s' hP hst' hm => ?_)
    obtain ⟨z, t, hz, rfl⟩ := hval i v hP
    have hS' : Tset P w s'.heap S l := hS.at fun o e => hm.heap S o hSw e
    show wpAny _ A.in1 (holding [Value.str z t] (setAdd S (.str z t)) >>= _) _ _ s'
    refine wpAny_bind (wpAny_holding ?_)
    unfold setAdd
    refine wpAny_holding ?_
    refine wpAny_bind ((strKind P w).pyHash (k := z) (is_str z t) ?_)
    refine tset_set (s := { s' with toks := s'.toks + 1 }) hS' (by omega) fun h' b l' hsb hS2 nd2 mm2 ll2 => ?_
    refine wpAny_pure ⟨plainId_quiet F.plain_set_update_loop _, ih (i + 1) _ (by omega) hlt (W.frame _ s' _ _ hst' (Nat.le_succ _) fun b hb o e => ?_) ⟨l', hS2, nd2, fun x => ?_, by omega⟩ fun s'' l2 hm'' hS'' nd' mm' ll' => ?_⟩
    · rw [hsb.2 b (fun h : b = S => hSf (by rw [← h]; exact hb))]; exact e
    · rw [mm2, mm, List.take_add_one, hz, List.mem_append]
      simp
    · refine hR s'' l2 (Moved.trans W.gtrans ((hm.mono hsub).then_heap (Nat.le_succ _) fun b o hb e => ?_) hm'') hS'' nd' mm' ll'
      rw [hsb.2 b (fun h : b = S => hb (by rw [h]; exact List.mem_cons_self))]; exact e
theorem set_tuple {l : Addr} {items : Array Value} (ws : List Str) {Q : Value → Shared → Prop} (hh : A.handled = none) (hl : s.heap.IsTuple l items) (hn : items.size = ws.length) (hi : ∀ (i : Nat) (v : Value), items[i]? = some v → ∃ k t, ws[i]? = some k ∧ v = .str k t) (hb : ws.length + 1 < scanBound)
    (h : ∀ (h' : Heap) (tk : Nat) (l' : List Str), Tset P w h' s.heap.objs.size l' → l'.Nodup → (∀ x, x ∈ l' ↔ x ∈ ws) → l'.length ≤ ws.length → (∀ b o, s.heap.get? b = some o → h'.get? b = some o) → Q (.ref s.heap.objs.size) { s with heap := h', toks := tk }) :
    wpAny (model P w) A (call (.type "set") [.ref l]) Q E s := by
  obtain ⟨c, tl, hmro⟩ := F.called_set.mro
  have hmade := F.called_set.made
  have hsub := F.called_set.sub
  refine wpAny_call (codeAny_of_tree ?_)
  show wpAny _ _ (callAny (.type "set") _) _ _ _
  refine wpAny_pure ⟨Code.quiet_builtin _ (by decide +kernel), codeAny_builtin F.entry_type_call ?_⟩
  rw [Around.under_plain (weight_type_call_type "set" [.ref l] []) rfl]
  have h1 := F.called_set.notType
  have h2 := F.called_set.canCreate
  have hct := F.typeCall_set_1 (.ref l)
  repeat (any_goals (first | assumption | wp_step))
  generalize hh0 : s.heap.push { cls := .type "set", dict := none, data := .set #[] 0 (.fresh 0 0 (!w.params.followText "set-order")) } = h0
  have hsz : h0.objs.size = s.heap.objs.size + 1 := by rw [← hh0]; exact Heap.size_push ..
  have hS : h0.get? s.heap.objs.size = some { cls := .type "set", dict := none, data := .set #[] 0 (.fresh 0 0 (!w.params.followText "set-order")) } := by rw [← hh0]; exact Heap.get?_push_size _ rfl
  have hk0 : ∀ b o, s.heap.get? b = some o → h0.get? b = some o := fun b o e => by rw [← hh0]; exact Heap.get?_push_of_some _ e
  refine codeAny_mono (code_set_led1 (.ref l) (E := E) (Q₁ := fun obj s₁ => obj = .ref s.heap.objs.size ∧ s₁ = { s with heap := h0 }) ⟨rfl, by rw [hh0]⟩) fun r s₁ hr => ?_
  cases r with
  | error e => exact hr
  | ok fl =>
    cases fl with
    | ret obj =>
      obtain ⟨rfl, rfl⟩ := hr
      have hT : Shared.TypeIs { s with heap := h0 } (.ref s.heap.objs.size) "set" := ⟨_, hS, rfl⟩
      have hli := F.called_set.init.lookup
      have hbi := F.called_set.init.bind (.ref s.heap.objs.size)
      repeat (any_goals (first | assumption | wp_step))
      refine codeAny_mono (codeAny_call_builtin (R := wants (fun r s₂ => r = .none ∧ ∃ h' tk l', s₂ = { s with heap := h', toks := tk } ∧ Tset P w h' s.heap.objs.size l' ∧ l'.Nodup ∧ (∀ x, x ∈ l' ↔ x ∈ ws) ∧ l'.length ≤ ws.length ∧
          (∀ b o, s.heap.get? b = some o → h'.get? b = some o)) E) F.called_set.init.plain F.entry_set_init (check_set_init_1 hT ?_)) fun r₂ s₂ hr₂ => ?_
      · obtain ⟨ol, hol, hcl, nl, hdl⟩ := hl
        obtain ⟨ocls, odict, odata, oslots⟩ := ol
        simp only at hcl hdl
        subst hcl; subst hdl
        have hol' := hk0 _ _ hol
        have hsls := F.sub_tuple_set
        have hslf := F.sub_tuple_frozenset
        have hne : (Value.type "tuple" == Value.type "dict") = false := by decide
        have hl1 : h0.IsTuple l items := ⟨_, hol', rfl, nl, rfl⟩
        unfold Builtin.«set.__init__» noKeywords Builtin.Frozenset.updateFrom
        generalize hPI : pyIter = PI
        wp_walk
        subst hPI
        refine wpAny_pyIter_tuple hl1 ?_
        refine wpAny_bind (wpAny_runValue ?_)
        have hlS : l < s.heap.objs.size := Heap.lt_size hol
        have hh3 : A.in1.in1.in1.handled = none := by simp [hh]
        have hneI : l ≠ h0.objs.size := by rw [hsz]; exact Nat.ne_of_lt (Nat.lt_succ_of_lt hlS)
        have hSf : s.heap.objs.size ∉ [h0.objs.size, l] := by
          simp only [List.mem_cons, List.not_mem_nil, or_false, not_or]
          exact ⟨by rw [hsz]; exact Nat.ne_of_lt (Nat.lt_succ_self _), Nat.ne_of_gt hlS⟩
        refine tset_loop ((Walks.tuple hh3 _ l hneI items).toS) s.heap.objs.size hSf ws hn hb hi (items.size - 0) 0 _ (by omega) (Nat.zero_le _)
          ⟨⟨_, Heap.get?_push_size _ rfl, rfl, rfl⟩, (hl1.push _)⟩ ⟨[], tset_new (Heap.get?_push_of_some _ hS), .nil, fun x => by simp, Nat.le_refl _⟩ ?hR
        intro s' l' hm hS' nd mm ll
        obtain ⟨h', g2, d', tk', os'⟩ := s'
        have eg : g2 = s.gens := hm.gens
        have ed : d' = s.drawn := hm.drawn
        have eo : os' = s.os := hm.os
        subst eg; subst ed; subst eo
        show wpAny _ _ _ _ _ _
        refine wpAny_pure ?_
        show wpAny _ _ (ret Value.none) _ _ _
        refine wpAny_pure ⟨rfl, h', tk', l', rfl, hS', nd, mm, by rw [← hn]; exact ll, fun b o e => ?_⟩
        have hb0 : b < s.heap.objs.size := Heap.lt_size e
        exact hm.heap b o (by simp only [List.mem_cons, List.not_mem_nil, or_false, not_or]; exact ⟨Nat.ne_of_lt hb0, by rw [hsz]; exact Nat.ne_of_lt (Nat.lt_succ_of_lt hb0)⟩) (Heap.get?_push_of_some _ (hk0 _ _ e))
      · cases r₂ with
        | error e => exact hr₂
        | ok fl₂ =>
          cases fl₂ with
          | ret r =>
            obtain ⟨rfl, h', tk, l', rfl, hS', nd, mm, ll, hk'⟩ := hr₂
            repeat (any_goals (first | assumption | wp_step))
            exact h _ _ _ hS' nd mm ll hk'
          | _ => exact hr₂.elim
    | _ => exact hr.elim
theorem set_list {l : Addr} {items : Array Value} (ws : List Str) {Q : Value → Shared → Prop} (hh : A.handled = none) (hl : s.heap.IsList l items) (hn : items.size = ws.length) (hi : ∀ (i : Nat) (v : Value), items[i]? = some v → ∃ k t, ws[i]? = some k ∧ v = .str k t) (hb : ws.length + 1 < scanBound)
    (h : ∀ (h' : Heap) (tk : Nat) (l' : List Str), Tset P w h' s.heap.objs.size l' → l'.Nodup → (∀ x, x ∈ l' ↔ x ∈ ws) → l'.length ≤ ws.length → (∀ b o, s.heap.get? b = some o → h'.get? b = some o) → Q (.ref s.heap.objs.size) { s with heap := h', toks := tk }) :
    wpAny (model P w) A (call (.type "set") [.ref l]) Q E s := by
  obtain ⟨c, tl, hmro⟩ := F.called_set.mro
  have hmade := F.called_set.made
  have hsub := F.called_set.sub
  refine wpAny_call (codeAny_of_tree ?_)
  show wpAny _ _ (callAny (.type "set") _) _ _ _
  refine wpAny_pure ⟨Code.quiet_builtin _ (by decide +kernel), codeAny_builtin F.entry_type_call ?_⟩
  rw [Around.under_plain (weight_type_call_type "set" [.ref l] []) rfl]
  have h1 := F.called_set.notType
  have h2 := F.called_set.canCreate
  have hct := F.typeCall_set_1 (.ref l)
  repeat (any_goals (first | assumption | wp_step))
  generalize hh0 : s.heap.push { cls := .type "set", dict := none, data := .set #[] 0 (.fresh 0 0 (!w.params.followText "set-order")) } = h0
  have hsz : h0.objs.size = s.heap.objs.size + 1 := by rw [← hh0]; exact Heap.size_push ..
  have hS : h0.get? s.heap.objs.size = some { cls := .type "set", dict := none, data := .set #[] 0 (.fresh 0 0 (!w.params.followText "set-order")) } := by rw [← hh0]; exact Heap.get?_push_size _ rfl
  have hk0 : ∀ b o, s.heap.get? b = some o → h0.get? b = some o := fun b o e => by rw [← hh0]; exact Heap.get?_push_of_some _ e
  refine codeAny_mono (code_set_led1 (.ref l) (E := E) (Q₁ := fun obj s₁ => obj = .ref s.heap.objs.size ∧ s₁ = { s with heap := h0 }) ⟨rfl, by rw [hh0]⟩) fun r s₁ hr => ?_
  cases r with
  | error e => exact hr
  | ok fl =>
    cases fl with
    | ret obj =>
      obtain ⟨rfl, rfl⟩ := hr
      have hT : Shared.TypeIs { s with heap := h0 } (.ref s.heap.objs.size) "set" := ⟨_, hS, rfl⟩
      have hli := F.called_set.init.lookup
      have hbi := F.called_set.init.bind (.ref s.heap.objs.size)
      repeat (any_goals (first | assumption | wp_step))
      refine codeAny_mono (codeAny_call_builtin (R := wants (fun r s₂ => r = .none ∧ ∃ h' tk l', s₂ = { s with heap := h', toks := tk } ∧ Tset P w h' s.heap.objs.size l' ∧ l'.Nodup ∧ (∀ x, x ∈ l' ↔ x ∈ ws) ∧ l'.length ≤ ws.length ∧
          (∀ b o, s.heap.get? b = some o → h'.get? b = some o)) E) F.called_set.init.plain F.entry_set_init (check_set_init_1 hT ?_)) fun r₂ s₂ hr₂ => ?_
      · obtain ⟨ol, hol, hcl, nl, hdl⟩ := hl
        obtain ⟨ocls, odict, odata, oslots⟩ := ol
        simp only at hcl hdl
        subst hcl; subst hdl
        have hol' := hk0 _ _ hol
        have hsls := F.sub_list_set
        have hslf := F.sub_list_frozenset
        have hne : (Value.type "list" == Value.type "dict") = false := by decide
        have hl1 : h0.IsList l items := ⟨_, hol', rfl, nl, rfl⟩
        unfold Builtin.«set.__init__» noKeywords Builtin.Frozenset.updateFrom
        generalize hPI : pyIter = PI
        wp_walk
        subst hPI
        refine wpAny_pyIter_list hl1 ?_
        refine wpAny_bind (wpAny_runValue ?_)
        have hlS : l < s.heap.objs.size := Heap.lt_size hol
        have hh3 : A.in1.in1.in1.handled = none := by simp [hh]
        have hneI : l ≠ h0.objs.size := by rw [hsz]; exact Nat.ne_of_lt (Nat.lt_succ_of_lt hlS)
        have hSf : s.heap.objs.size ∉ [h0.objs.size, l] := by
          simp only [List.mem_cons, List.not_mem_nil, or_false, not_or]
          exact ⟨by rw [hsz]; exact Nat.ne_of_lt (Nat.lt_succ_self _), Nat.ne_of_gt hlS⟩
        refine tset_loop ((Walks.list hh3 _ l hneI items).toS) s.heap.objs.size hSf ws hn hb hi (items.size - 0) 0 _ (by omega) (Nat.zero_le _)
          ⟨⟨_, Heap.get?_push_size _ rfl, rfl, rfl⟩, (hl1.push _)⟩ ⟨[], tset_new (Heap.get?_push_of_some _ hS), .nil, fun x => by simp, Nat.le_refl _⟩ ?hR
        intro s' l' hm hS' nd mm ll
        obtain ⟨h', g2, d', tk', os'⟩ := s'
        have eg : g2 = s.gens := hm.gens
        have ed : d' = s.drawn := hm.drawn
        have eo : os' = s.os := hm.os
        subst eg; subst ed; subst eo
        show wpAny _ _ _ _ _ _
        refine wpAny_pure ?_
        show wpAny _ _ (ret Value.none) _ _ _
        refine wpAny_pure ⟨rfl, h', tk', l', rfl, hS', nd, mm, by rw [← hn]; exact ll, fun b o e => ?_⟩
        have hb0 : b < s.heap.objs.size := Heap.lt_size e
        exact hm.heap b o (by simp only [List.mem_cons, List.not_mem_nil, or_false, not_or]; exact ⟨Nat.ne_of_lt hb0, by rw [hsz]; exact Nat.ne_of_lt (Nat.lt_succ_of_lt hb0)⟩) (Heap.get?_push_of_some _ (hk0 _ _ e))
      · cases r₂ with
        | error e => exact hr₂
        | ok fl₂ =>
          cases fl₂ with
          | ret r =>
            obtain ⟨rfl, h', tk, l', rfl, hS', nd, mm, ll, hk'⟩ := hr₂
            repeat (any_goals (first | assumption | wp_step))
            exact h _ _ _ hS' nd mm ll hk'
          | _ => exact hr₂.elim
    | _ => exact hr.elim
end
end N3

/-! sorted(set(xs)) of texts: as an expression -/
namespace N3
open PySem PySem.Spec PyProof.Rows L2 PySem.Froz
section
variable {P : Program} {w : World} {A : Around} {E : Value → Shared → Prop} {s : Shared} {l : List Str}
/-! ### sorted(set) -/
theorem each_tx {D : SD} {l : List Str} {vs : List Value} (F : TsetOk P w D l) (p : vs.Perm (D.1.toList.map (·.2))) : (vs.map txOf).Perm l ∧ ∀ v ∈ vs, ∃ t, v = .str (txOf v) t := by
  refine ⟨(p.map txOf).trans (by rw [List.map_map]; exact F.pm), fun v hv => ?_⟩
  obtain ⟨e, he, rfl⟩ := List.mem_map.mp (p.mem_iff.mp hv)
  obtain ⟨k, t, z⟩ := F.st e he
  exact ⟨t, by rw [z]; rfl⟩
theorem each_of {R : Value → Str → Prop} : ∀ {vs : List Value}, (∀ v ∈ vs, R v (txOf v)) → PySem.W.EachIs R vs (vs.map txOf)
  | [], _ => .nil
  | v :: vs, h => .cons (h v List.mem_cons_self) (each_of fun x hx => h x (List.mem_cons_of_mem _ hx))
theorem alike_tx (bs : List Str) : PySem.W.AllAlike (bs.map PyData.str) ∧ PySem.W.Sortable (bs.map PyData.str) :=
  ⟨PySem.W.AllAlike.of fun a b => by simp [PySem.W.alike], PySem.W.Sortable.others fun b => ⟨by simp, fun xs => by simp⟩⟩
open PySem.W in
theorem sorted_tset {a : Addr} {l : List Str} {Q : Value → Shared → Prop} (R : Tset P w s.heap a l) (hh : A.handled = none) (hu : A.units + 10 < cLine) (hz : l.length < scanBound)
    (hQ : ∀ s' p (bs : List Str) (out : Array Value) (c : Nat), (∀ b o, s.heap.get? b = some o → s'.heap.get? b = some o) → s'.gens = s.gens → s'.os = s.os → s.heap.objs.size ≤ p →
      s'.heap.get? p = some (seqObj "list" out c) → bs.Perm l → EachIs (fun v b => ∃ t, v = Value.str b t) out.toList (bs.mergeSort (dataLe false PyData.str)) → Q (.ref p) s') :
    wpAny (model P w) A (call (.builtin "sorted") [.ref a]) Q E s := by
  obtain ⟨⟨es, ep, t⟩, ho, F⟩ := R
  have hsz : es.size = l.length := F.tx.sz
  refine Calls.call_function_entry kind_sorted plain_sorted entry_sorted (args_sorted1 _) ?_
  unfold Builtin.«sorted»
  refine wpAny_bind (m := checkCount "sorted" 1 1 _) (wpAny_pure ?_)
  refine wpAny_bind (collect_set (A := A.in1) hh ⟨_, ho, rfl, rfl⟩ F.tx.fit (by rw [hsz]; exact hz) F.ri F.le fun s1 vs k1 hz1 g1 o1 pm => ?_)
  obtain ⟨pl, av⟩ := each_tx F pm
  have hvl : vs.length = l.length := by rw [← pl.length_eq, List.length_map]
  have hvz : vs.length ≤ sizeLine := by rw [hvl]; exact Nat.le_trans (Nat.le_of_lt hz) (by decide)
  have e0 : EachIs (fun v b => ∃ t, v = Value.str b t) vs (vs.map txOf) := each_of av
  have er : ∀ h : Heap, EachIs (fun v b => ∃ as, Reads h v (PyData.str b) as) vs (vs.map txOf) := fun h => each_of fun v hv => by
    obtain ⟨t, e⟩ := av v hv
    exact ⟨[], by rw [e]; exact .str _ _⟩
  obtain ⟨hal, hk⟩ := alike_tx (vs.map txOf)
  refine wpAny_bind (wpAny_newList ?_ hvz)
  have hoL : (s1.heap.push (seqObj "list" vs.toArray 0)).get? s1.heap.objs.size = some (seqObj "list" vs.toArray 0) := Heap.get?_push_size _ rfl
  refine wpAny_bind (wpAny_holding (wpAny_call_entry slot_list_sort ⟨_, hoL, rfl⟩ entry_list_sort
    (list_sort_vals (κ := dataKind (sortingHeap (s1.heap.push (seqObj "list" vs.toArray 0)) s1.heap.objs.size vs) ((vs.map txOf).map PyData.str)) (s := { s1 with heap := s1.heap.push (seqObj "list" vs.toArray 0) }) hoL
      (SortsAt.data (s := { s1 with heap := sortingHeap (s1.heap.push (seqObj "list" vs.toArray 0)) s1.heap.objs.size vs }) (each_map (R := fun v d => ∃ as, Reads (sortingHeap (s1.heap.push (seqObj "list" vs.toArray 0)) s1.heap.objs.size vs) v d as) PyData.str (er _)) hal hk (fun d hd => by
        obtain ⟨b, -, rfl⟩ := List.mem_map.mp hd
        show A.units + 1 + 1 + (PyData.str b).depth < cLine
        simp only [PyData.depth]; omega)) hvz ⟨.none, rfl, ?_⟩) (args_list_sort _)))
  obtain ⟨c, hc⟩ := sortedHeap_at (vs := vs) (out := (sortVals (dataKind (sortingHeap (s1.heap.push (seqObj "list" vs.toArray 0)) s1.heap.objs.size vs) ((vs.map txOf).map PyData.str)) false vs vs).toArray) hoL
  have eo := sortVals_data (h' := sortingHeap (s1.heap.push (seqObj "list" vs.toArray 0)) s1.heap.objs.size vs) false e0 (er _) hal
  refine wpAny_pure ⟨_, rfl, hQ _ s1.heap.objs.size (vs.map txOf) _ c (fun b u e => ?_) g1 o1 hz1 hc pl (by rw [List.toList_toArray]; exact eo)⟩
  have q := k1 b u e
  have hlt := Heap.lt_size q
  show (sortedHeap (s1.heap.push (seqObj "list" vs.toArray 0)) s1.heap.objs.size vs _).get? b = some u
  rw [sortedHeap_old (Nat.ne_of_lt hlt) (by rw [size_push']; exact Nat.lt_succ_of_lt hlt)]
  exact Heap.get?_push_of_some _ q
def TsetO (P : Program) (w : World) (a : Addr) (l : List Str) : HO := .ext fun h => Tset P w h a l
theorem tsetO_new {H : Hp} {h : Heap} {a : Addr} (R : Tset P w h a l) : ObjOk P w H h a (TsetO P w a l) := by
  have ⟨D, e, F⟩ := R
  exact ⟨R, ⟨_, e⟩, fun h1 h2 p k => Tset.at p k⟩
theorem strs_vals : ∀ {ws : List Str} {us : List Value}, Vals (ws.map V.str) us → us.length = ws.length ∧ ∀ (i : Nat) (v : Value), us[i]? = some v → ∃ k t, ws[i]? = some k ∧ v = .str k t
  | [], _, r => by cases r; exact ⟨rfl, fun i v e => by simp at e⟩
  | x :: ws, _, r => by
    cases r with
    | cons r1 r2 =>
      obtain ⟨h1, h2⟩ := strs_vals r2
      refine ⟨by rw [List.length_cons, List.length_cons, h1], fun i v e => ?_⟩
      cases i with
      | zero =>
        obtain ⟨t, z⟩ := r1
        rw [List.getElem?_cons_zero] at e
        cases e
        exact ⟨x, t, rfl, z⟩
      | succ i => exact h2 i v (by rw [List.getElem?_cons_succ] at e; exact e)
theorem vals_strs : ∀ {ws : List Str} {us : List Value}, PySem.W.EachIs (fun v b => ∃ t, v = Value.str b t) us ws → Vals (ws.map V.str) us
  | _, _, .nil => .nil
  | _, _, .cons h t => .cons h (vals_strs t)
theorem rels_txs {K : PySem.W.Frag} {H : Hp} : ∀ {ws : List Str} {xs : List V}, Rels K H (ws.map PV.str) xs → xs = ws.map V.str
  | [], xs, r => by simpa only [List.map_nil, Rels] using r
  | x :: ws, xs, r => by
    simp only [List.map_cons, Rels] at r
    obtain ⟨v, vs, e, h1, h2⟩ := r
    simp only [Rel] at h1
    rw [e, rels_txs h2, h1]; rfl
theorem txs_rels {K : PySem.W.Frag} {H : Hp} : ∀ (ws : List Str), Rels K H (ws.map PV.str) (ws.map V.str)
  | [] => .nil
  | x :: ws => .cons (by simp only [Rel]) (txs_rels ws)
end
def oSetTx (K : PySem.W.Frag) (P : Program) (w : World) : List V → Hp → VK → Prop := fun vs H Q => ∃ (a : Addr) (ws : List Str), vs = [.ref a] ∧ (SqL K H a (ws.map V.str) ∨ SqT K H a (ws.map V.str)) ∧ ws.length + 1 < scanBound ∧
  ∀ p l, l.Nodup → (∀ x, x ∈ l ↔ x ∈ ws) → l.length ≤ ws.length → H p = none → Q (.ref p) (upd H p (TsetO P w p l))
theorem cr_setTx {X : Cx} (hc : X.calm = true) : CallR X (.type "set") (oSetTx X.K X.prog X.w) := by
  intro pins s σ H vs us Q I r h
  obtain ⟨a, ws, rfl, hq, hb, q⟩ := h
  rw [Vals.ref1 r]
  rcases hq with hq | hq
  · obtain ⟨its, rv, pl, hz⟩ := I.list hq
    obtain ⟨e1, e2⟩ := strs_vals rv
    refine set_list (P := X.prog) (w := X.w) ws (I.ok.hd hc) pl.isList (by simpa using e1) (by simpa using e2) hb fun h' tk l' R nd mm ll k => ?_
    exact ⟨.ref s.heap.objs.size, upd H s.heap.objs.size (TsetO X.prog X.w s.heap.objs.size l'), I.laid (t' := tk) k (Nat.le_refl _) (tsetO_new R), rfl, q _ _ nd mm ll (I.hok.fresh (Nat.le_refl _))⟩
  · obtain ⟨its, rv, pl, hz⟩ := I.tuple hq
    obtain ⟨e1, e2⟩ := strs_vals rv
    refine set_tuple (P := X.prog) (w := X.w) ws (I.ok.hd hc) pl (by simpa using e1) (by simpa using e2) hb fun h' tk l' R nd mm ll k => ?_
    exact ⟨.ref s.heap.objs.size, upd H s.heap.objs.size (TsetO X.prog X.w s.heap.objs.size l'), I.laid (t' := tk) k (Nat.le_refl _) (tsetO_new R), rfl, q _ _ nd mm ll (I.hok.fresh (Nat.le_refl _))⟩
def oSortTx (P : Program) (w : World) : List V → Hp → VK → Prop := fun vs H Q => ∃ (a : Addr) (l : List Str), vs = [.ref a] ∧ H a = some (TsetO P w a l) ∧ l.length < scanBound ∧
  ∀ (bs : List Str) (p : Addr), bs.Perm l → H p = none → Q (.ref p) (upd H p (.lst ((bs.mergeSort (PySem.W.dataLe false PyData.str)).map V.str)))
theorem cr_sortTx {X : Cx} (hc : X.calm = true) (hu : X.A.units + 66 < cLine) : CallR X (.builtin "sorted") (oSortTx X.prog X.w) := by
  intro pins s σ H vs us Q I r h
  obtain ⟨a, l, rfl, ha, hb, q⟩ := h
  have R0 : Tset X.prog X.w s.heap a l := (I.hok a _ ha).1
  rw [Vals.ref1 r]
  refine sorted_tset R0 (I.ok.hd hc) (by omega) hb fun s' p bs out c k g o hp hg pm eo => ?_
  have hn : H p = none := I.hok.fresh hp
  have hv := vals_strs eo
  have hlen : ((bs.mergeSort (PySem.W.dataLe false PyData.str)).map V.str).length ≤ sizeLine := by
    rw [List.length_map, List.length_mergeSort, pm.length_eq]
    exact Nat.le_trans (Nat.le_of_lt hb) (by decide)
  have J : Inv X pins σ (upd H p (.lst ((bs.mergeSort (PySem.W.dataLe false PyData.str)).map V.str))) { s with heap := s'.heap, gens := s'.gens, drawn := s'.drawn, toks := s'.toks } :=
    I.call (ch := []) (Un.laid k hp hn) (I.hok.laid k hp ⟨hlen, out.toList, c, hv, hg⟩) (by rw [g]; exact I.bare) (fun _ z => nomatch z)
  have e : s' = { s with heap := s'.heap, gens := s'.gens, drawn := s'.drawn, toks := s'.toks } := by
    cases s'
    cases s
    cases o
    rfl
  rw [e]
  exact ⟨.ref p, _, J, rfl, q bs p pm hn⟩
/-- sorted(set(xs)), xs texts -/
def rSortSet : PRA := fun ps h Q => match ps with
  | [p] => (match listed h p with
    | some xs => ∃ ws : List Str, xs = ws.map PV.str ∧ ws.length < 4000 ∧ ∀ bs : List Str, bs.Nodup → (∀ x, x ∈ bs ↔ x ∈ ws) → bs.length ≤ ws.length → Q (.lst ((bs.mergeSort (PySem.W.dataLe false PyData.str)).map PV.str)) h
    | none => False)
  | _ => False
theorem le_sortSet {X : Cx} {pos pos2 p p2 : Pos} {e : Expr} {m : MA} (hc : X.calm = true) (hu : X.A.units + 66 < cLine) (hm : X.mg "sorted" = none) (hm2 : X.mg "set" = none) (ha : LAn X [e] 1 m) (hg : Gl X "sorted" := by rfl) (hg2 : Gl X "set" := by rfl) (h1 : starEach [e] X.env = (false, eval e X.env) :: starEach [] X.env := by rfl) :
    LE X (.Call (.Name "sorted" p) [.Call (.Name "set" p2) [e] [] pos2] [] pos) (mBlt rSortSet m) := by
  have he : PE X (.Call (.Name "set" p2) [e] [] pos2) (tCB (oSetTx X.K X.prog X.w) (upL X.K 1 m)) := pe_callTy (T := "set") (cr_setTx hc) hg2 hm2 (by decide +kernel) ha (by decide) (by decide) h1 rfl
  refine PE.weak (PE.kp (pe_callB (id := "sorted") (cr_sortTx hc hu) hg hm (by decide +kernel) (pa_cons he pa_nil rfl) (by decide) (by decide) rfl rfl)) fun σ H Q ⟨τ, h, Q', s, sh, q, l⟩ => ?_
  refine ⟨τ, h, _, s, sh, q, fun ps h1 vs H1 q1 hl m1 r1 s1 => ?_⟩
  unfold rSortSet at q1
  split at q1
  · split at q1
    · rename_i p _ qs e
      obtain ⟨v, rfl, r2⟩ := r1.one
      obtain ⟨a, ys, rfl, hq, rr⟩ := listed_sq r2 s1 e
      obtain ⟨ws, rfl, wl, q1⟩ := q1
      have := rels_txs rr
      subst this
      refine ⟨a, ws, rfl, hq, by unfold scanBound; omega, fun p l' nd mm ll hp => ⟨p, l', rfl, upd_same, by unfold scanBound; omega, fun bs p2 pm hp2 => ?_⟩⟩
      exact keep_l ((l.mono m1).mono (Go.new hp)) (s1.new hp) (txs_rels _) (q1 bs (pm.nodup_iff.mpr nd) (fun x => pm.mem_iff.trans (mm x)) (by rw [pm.length_eq]; exact ll)) hp2
    · exact q1.elim
  · exact q1.elim
end N3

/-! classes: fields, methods, instances made; calls by any pattern of places, keywords, defaults -/
namespace N3
open PySem PySem.Spec PyProof.Rows L2

/-! ### items by their places -/
def pick {α : Type} (π : List Nat) (l : List α) : List α := π.filterMap fun i => l[i]?
theorem Vals.pick {vs : List V} {us : List Value} (r : Vals vs us) : ∀ π : List Nat, Vals (pick π vs) (N3.pick π us)
  | [] => .nil
  | i :: π => by
    have ih := Vals.pick r π
    unfold N3.pick at ih ⊢
    cases e : vs[i]? with
    | none =>
      have e2 : us[i]? = none := by
        rw [List.getElem?_eq_none_iff] at e ⊢
        rw [← r.length]; exact e
      rw [List.filterMap_cons_none e, List.filterMap_cons_none e2]; exact ih
    | some v =>
      obtain ⟨u, e2, ru⟩ := r.get e
      rw [List.filterMap_cons_some e, List.filterMap_cons_some e2]
      exact .cons ru ih
theorem Rels.pick {K : PySem.W.Frag} {H : Hp} {ps : List PV} {vs : List V} (r : Rels K H ps vs) : ∀ π : List Nat, Rels K H (N3.pick π ps) (N3.pick π vs)
  | [] => .nil
  | i :: π => by
    have ih := Rels.pick r π
    unfold N3.pick at ih ⊢
    cases e : ps[i]? with
    | none =>
      have e2 : vs[i]? = none := by
        rw [List.getElem?_eq_none_iff] at e ⊢
        rw [← r.length]; exact e
      rw [List.filterMap_cons_none e, List.filterMap_cons_none e2]; exact ih
    | some v =>
      obtain ⟨u, e2, ru⟩ := r.get e
      rw [List.filterMap_cons_some e, List.filterMap_cons_some e2]
      exact .cons ru ih
/-- how a call is written: n values by place, keywords named ks, defaults ds; the parameters' values are those of all these at π -/
structure Pat where
  n : Nat
  ks : List Str
  π : List Nat
  ds : List PV
structure KbP (K : PySem.W.Frag) (fd : FuncData) (ps : List Str) (b : Pat) : Prop where
  ex : ∃ (mv : List Value) (dv : List V), Vals dv mv ∧ (∀ H, Rels K H b.ds dv) ∧
    ∀ (s : Shared) (us ws : List Value), K.In s.heap → us.length = b.n → ws.length = b.ks.length → BindsTo s fd ⟨us, b.ks.zip ws⟩ (ps.zip (pick b.π (us ++ ws ++ mv)))
  len : ∀ l : List PV, l.length = b.n + b.ks.length + b.ds.length → (pick b.π l).length = ps.length
/-- a def that is called by patterns -/
structure FnC (P : Program) (w : World) (K : PySem.W.Frag) (mg : Str → Option Value) (base : Heap) (k : Nat) (f : Addr) (fd : FuncData) (ps : List Str) (sp : SpP) (pats : List Pat) : Prop where
  kp : PySem.W.keepIn K (.ref f) = true
  b : ∀ p ∈ pats, KbP K fd ps p
  g : FnG P w K mg base k f fd ps sp
/-- .. as a method of a class -/
structure FnM (P : Program) (w : World) (K : PySem.W.Frag) (mg : Str → Option Value) (base : Heap) (k : Nat) (C : Addr) (m : Str) (ps : List Str) (sp : SpP) (pats : List Pat) : Prop where
  cl : Cls K C
  ex : ∃ (f : Addr) (fd : FuncData), Meth K C m f ∧ FnC P w K mg base k f fd ps sp pats
/-- .. as what makes an instance of a class that is called by its name -/
structure FnI (P : Program) (w : World) (K : PySem.W.Frag) (mg : Str → Option Value) (base : Heap) (k : Nat) (x : Str) (C : Addr) (ps : List Str) (sp : SpP) (pats : List Pat) : Prop where
  at_ : mg x = some (.ref C)
  ex : ∃ (f : Addr) (fd : FuncData), Mk K C f ∧ FnC P w K mg base k f fd ps sp pats

/-! ### an instance's fields -/
def fN (f : Str) : List Str → List Str
  | [] => [f]
  | k :: r => if k = f then k :: r else k :: fN f r
def fV (f : Str) (v : PV) : List Str → List PV → List PV
  | k :: r, x :: s => if k = f then v :: s else x :: fV f v r s
  | _, _ => [v]
def fG (f : Str) : List Str → List PV → Option PV
  | k :: r, x :: s => if k = f then some x else fG f r s
  | _, _ => none
theorem fN_put (f : Str) (y : V) : ∀ fs : List (Str × V), (putF f y fs).map (·.1) = fN f (fs.map (·.1))
  | [] => rfl
  | (k, x) :: r => by
    show (if k = f then (k, y) :: r else (k, x) :: putF f y r).map (·.1) = if k = f then k :: r.map (·.1) else k :: fN f (r.map (·.1))
    split
    · rfl
    · rw [List.map_cons, fN_put f y r]
theorem fV_put {K : PySem.W.Frag} {H : Hp} {f : Str} {p : PV} {y : V} (r : Rel K H p y) : ∀ {fs : List (Str × V)} {vs : List PV}, Rels K H vs (fs.map (·.2)) → Rels K H (fV f p (fs.map (·.1)) vs) ((putF f y fs).map (·.2))
  | [], vs, rr => by
    rw [show fV f p (([] : List (Str × V)).map (·.1)) vs = [p] by cases vs <;> rfl]
    exact .cons r .nil
  | (k, x) :: fs, vs, rr => by
    cases vs with
    | nil => exact absurd rr.length (by simp)
    | cons v vs =>
      obtain ⟨w, ws, e, r1, r2⟩ := rr.uncons
      injection e with e1 e2
      subst e1 e2
      show Rels K H (if k = f then p :: vs else v :: fV f p (fs.map (·.1)) vs) ((if k = f then (k, y) :: fs else (k, x) :: putF f y fs).map (·.2))
      split
      · exact .cons r r2
      · exact .cons r1 (fV_put r r2)
theorem fG_get {K : PySem.W.Frag} {H : Hp} {f : Str} {p : PV} : ∀ {fs : List (Str × V)} {vs : List PV}, Rels K H vs (fs.map (·.2)) → fG f (fs.map (·.1)) vs = some p → ∃ v, fs.lookup f = some v ∧ Rel K H p v
  | [], vs, rr, e => by cases vs <;> cases e
  | (k, x) :: fs, vs, rr, e => by
    cases vs with
    | nil => exact absurd rr.length (by simp)
    | cons v vs =>
      obtain ⟨w, ws, e0, r1, r2⟩ := rr.uncons
      injection e0 with e1 e2
      subst e1 e2
      have e : (if k = f then some v else fG f (fs.map (·.1)) vs) = some p := e
      by_cases hk : k = f
      · rw [if_pos hk] at e
        injection e with e
        subst e hk
        exact ⟨x, by simp [List.lookup], r1⟩
      · rw [if_neg hk] at e
        obtain ⟨u, e3, r3⟩ := fG_get r2 e
        refine ⟨u, ?_, r3⟩
        rw [List.lookup_cons, show (f == k) = false from beq_eq_false_iff_ne.mpr (Ne.symm hk)]
        exact e3
theorem noF_get {f : Str} : ∀ {fs : List (Str × V)}, f ∉ fs.map (·.1) → fs.lookup f = none
  | [], _ => rfl
  | (k, x) :: fs, h => by
    rw [List.map_cons, List.mem_cons, not_or] at h
    rw [List.lookup_cons, show (f == k) = false from beq_eq_false_iff_ne.mpr h.1]
    exact noF_get h.2
theorem Mono.own {H : Hp} {a : Addr} {o : HO} {x : Addr} (h : H a = some (.own x)) : Mono H (upd H a o) := .wr h (fun _ e => nomatch e) (fun _ _ e => nomatch e)
/-- o.f -/
def mFld (C : Addr) (f : Str) (m : ME) : ME := fun τ h Q => m τ h fun p h1 => match p with
  | .ref a => (match h1 a with
    | some (.ins C' ns vs) => C' = C ∧ (match fG f ns vs with | some v => Q v h1 | none => False)
    | _ => False)
  | _ => False
/-- o.f = e -/
def mPutF (C : Addr) (f : Str) (mo mv : ME) : MS := fun D τ h => mv τ h fun p h1 => mo τ h1 fun d h2 => match d with
  | .ref a => (match h2 a with
    | some (.ins C' ns vs) => C' = C ∧ ns.length < 1000 ∧ D.nx τ (up h2 a (.ins C (fN f ns) (fV f p ns vs)))
    | _ => False)
  | _ => False
/-- o.f += e, of ints -/
def mAugF (C : Addr) (f : Str) (g : Int → Int → Int) (mo mv : ME) : MS := fun D τ h => mo τ h fun d h1 => match d with
  | .ref a => (match h1 a with
    | some (.ins C' ns vs) => C' = C ∧ (match fG f ns vs with
      | some (.int i) => mv τ h1 fun q h2 => (match q with
        | .int j => (match h2 a with
          | some (.ins C2 ns2 vs2) => C2 = C ∧ ns2.length < 1000 ∧ D.nx τ (up h2 a (.ins C (fN f ns2) (fV f (.int (g i j)) ns2 vs2)))
          | _ => False)
        | _ => False)
      | _ => False)
    | _ => False)
  | _ => False
section
variable {X : Cx} {o e value : Expr} {es : List Expr} {f : Str} {pos pos' tpos apos : Pos} {mo mv m : ME} {C : Addr}
theorem le_fld (c : Cls X.K C) (n : NoAttr X.K C f) (he : LE X e m) (hb : attributeBase e f X.env (eval e X.env) = eval e X.env := by rfl) : LE X (.Attribute e f pos) (mFld C f m) := by
  refine PE.weak (pe_fld he hb) fun σ H Q ⟨τ, h, Q', s, sh, q, l⟩ => ?_
  refine ⟨τ, h, _, s, sh, q, fun p h1 v H1 q1 g1 r1 s1 => ?_⟩
  cases p with
  | ref a =>
    simp only at q1
    split at q1
    · rename_i C' ns vs e1
      obtain ⟨rfl, q1⟩ := q1
      split at q1
      · rename_i w ew
        obtain ⟨u, e2, dx, fs, rfl, rfl, rr⟩ := s1 a _ e1
        obtain ⟨y, ey, ry⟩ := fG_get rr ew
        exact ⟨a, C', dx, fs, y, rel_ref.mp r1, e2, c, n, ey, l _ _ _ _ q1 g1 ry s1⟩
      · exact q1.elim
    · exact q1.elim
  | _ => exact q1.elim
theorem ls_fld (c : Cls X.K C) (n : NoAttr X.K C f) (ho : LE X o mo) (hv : LE X value mv) (hs : swapsWith value (some (.Attribute o f pos')) pos.line X.env = pure false := by rfl) : LS X (.Assign [.Attribute o f pos'] value pos) (mPutF C f mo mv) := by
  refine PS.weak (ps_fld ho hv hs) fun D σ H ⟨τ, h, D', s, sh, q, l⟩ => ?_
  refine ⟨τ, h, _, s, sh, q, fun p h1 v H1 q1 g1 r1 s1 => ?_⟩
  refine ⟨τ, h1, _, s.mono g1.mono, s1, q1, fun d h2 x H2 q2 g2 r2 s2 => ?_⟩
  cases d with
  | ref a =>
    simp only at q2
    split at q2
    · rename_i C' ns vs e1
      obtain ⟨rfl, hl, q2⟩ := q2
      obtain ⟨u, e2, dx, fs, rfl, rfl, rr⟩ := s2 a _ e1
      have mm : Mono H2 (upd H2 a (.ins C' dx (putF f v fs))) := Mono.ins e2
      refine ⟨a, C', dx, fs, rel_ref.mp r2, e2, c, n, by simpa using hl, l.nx _ _ _ _ q2 ((g1.trans g2).trans (.wr e1 mm)) (((s.mono g1.mono).mono g2.mono).mono mm) (s2.put mm ⟨dx, _, rfl, (fN_put f v fs).symm, (fV_put (r1.mono g2.mono) rr).mono mm⟩)⟩
    · exact q2.elim
  | _ => exact q2.elim
theorem ls_augF {op : Operator} {g : Int → Int → Int} (c : Cls X.K C) (n : NoAttr X.K C f) (ho : LE X o mo) (hv : LE X value mv) (hop : InOp X op (fun x y H Q => ∃ i j, x = .int i ∧ y = .int j ∧ Q (.int (g i j)) H)) : LS X (.AugAssign (.Attribute o f tpos) op value pos) (mAugF C f g mo mv) := by
  refine PS.weak (ps_fldaug ho hv hop) fun D σ H ⟨τ, h, D', s, sh, q, l⟩ => ?_
  refine ⟨τ, h, _, s, sh, q, fun d h1 x H1 q1 g1 r1 s1 => ?_⟩
  cases d with
  | ref a =>
    simp only at q1
    split at q1
    · rename_i C' ns vs e1
      obtain ⟨rfl, q1⟩ := q1
      split at q1
      · rename_i i ei
        obtain ⟨u, e2, dx, fs, rfl, rfl, rr⟩ := s1 a _ e1
        obtain ⟨y, ey, ry⟩ := fG_get rr ei
        refine ⟨a, C', dx, fs, y, rel_ref.mp r1, e2, c, n, ey, τ, h1, _, s.mono g1.mono, s1, q1, fun p h2 v H2 q2 g2 r2 s2 => ?_⟩
        cases p with
        | int j =>
          simp only at q2
          split at q2
          · rename_i C2 ns2 vs2 e3
            obtain ⟨rfl, hl, q2⟩ := q2
            obtain ⟨u2, e4, dx2, fs2, rfl, rfl, rr2⟩ := s2 a _ e3
            have mm : Mono H2 (upd H2 a (.ins C2 dx2 (putF f (.int (g i j)) fs2))) := Mono.ins e4
            refine ⟨i, j, rel_int.mp ry, rel_int.mp r2, dx2, fs2, e4, by simpa using hl, l.nx _ _ _ _ q2 ((g1.trans g2).trans (.wr e3 mm)) (((s.mono g1.mono).mono g2.mono).mono mm) (s2.put mm ⟨dx2, _, rfl, (fN_put f _ fs2).symm, (fV_put (rel_int.mpr rfl) rr2).mono mm⟩)⟩
          · exact q2.elim
        | _ => exact q2.elim
      · exact q1.elim
    · exact q1.elim
  | _ => exact q1.elim
end
/-! ### methods -/
/-- o.m(..): the places' values, then the keywords' -/
def mMeth (C : Addr) (mn : Str) (sp : SpP) (b : Pat) (mo : ME) (m mk : MA) : ME := fun τ h Q => mo τ h fun p h1 => match p with
  | .ref a => (match h1 a with
    | some (.ins C' ns _) => C' = C ∧ mn ∉ ns ∧ m τ h1 fun ps h2 => mk τ h2 fun qs h3 => sp (pick b.π (.ref a :: ps ++ qs ++ b.ds)) h3 Q
    | _ => False)
  | _ => False
/-- C(..) -/
def mMake (C : Addr) (sp : SpP) (b : Pat) (m mk : MA) : ME := fun τ h Q => m τ h fun ps h1 => mk τ h1 fun qs h2 => ∀ a, h2 a = none → sp (pick b.π (.ref a :: ps ++ qs ++ b.ds)) (up h2 a (.ins C [] [])) fun v h3 => v = .non ∧ Q (.ref a) h3
section
variable {X : Cx} {k : Nat} {f C : Addr} {fd : FuncData} {ps : List Str} {sp : SpP} {pats : List Pat} {b : Pat} {x mn : Str} {p pos apos : Pos} {e o : Expr} {es : List Expr} {kws : List Keyword} {mo : ME} {m mk : MA}
/-- the callee runs -/
theorem call_c {pins : List (Addr × Obj)} {σ : L2.St} {H : Hp} {s : Shared} {Q : VK} {us ws : List Value} {vs zs : List V} {h : PH} {qs rs : List PV} {Q' : N3.PK} (F : FnC X.prog X.w X.K X.mg X.base k f fd ps sp pats) (hb : b ∈ pats) (hr : Room k X.A) (hG : X.A.guards = some [])
    (I : Inv X pins σ H s) (r1 : Vals vs us) (r2 : Vals zs ws) (rr1 : Rels X.K H qs vs) (rr2 : Rels X.K H rs zs) (sh : Sim X.K H h) (l1 : us.length = b.n) (l2 : ws.length = b.ks.length) (q : sp (pick b.π (qs ++ rs ++ b.ds)) h Q') (l : LQ X.K H h Q' Q) :
    wpAny (model X.prog X.w) X.A (call (.ref f) us (b.ks.zip ws)) (EP X pins σ Q) X.xe s := by
  obtain ⟨mv, dv, rv, rd, to⟩ := (F.b b hb).ex
  have R : Vals (pick b.π (vs ++ zs ++ dv)) (pick b.π (us ++ ws ++ mv)) := Vals.pick ((r1.append r2).append rv) b.π
  have RR : Rels X.K H (pick b.π (qs ++ rs ++ b.ds)) (pick b.π (vs ++ zs ++ dv)) := Rels.pick ((rr1.append rr2).append (rd H)) b.π
  have hl : (pick b.π (qs ++ rs ++ b.ds)).length = ps.length := (F.b b hb).len _ (by
    rw [List.length_append, List.length_append, rr1.length, rr2.length, r1.length, r2.length, l1, l2])
  exact call_g F.g hr hG I (to s us ws I.kIn l1 l2) R ⟨_, h, Q', hl, RR, sh, q, l⟩
theorem le_meth {pl : Sem Bool} (c : FnM X.prog X.w X.K X.mg X.base k C mn ps sp pats) {j n m' : Nat} (hb : pats[j]? = some b) {kk : Nat} (hr : Room kk X.A) (hj : k ≤ kk) (hG : X.A.guards = some []) (ho : LE X o mo) (ha : LAn X (e :: es) n m) (hkw : LKn X kws m' mk) (hn : n + 1 = b.n := by rfl) (hm : m' = b.ks.length := by rfl)
    (hst : starEach (e :: es) X.env = (false, eval e X.env) :: starEach es X.env := by rfl) (hall : (backToKw pos (keywordEach kws X.env)).all (·.1.isSome) = true := by rfl) (hks : (backToKw pos (keywordEach kws X.env)).filterMap (·.1) = b.ks := by rfl)
    (hpl : ((backTo pos (starEach (e :: es) X.env)).any (·.1) || (backToKw pos (keywordEach kws X.env)).any (·.1.isNone)) = false := by rfl)
    (ht : eval (.Call (.Attribute o mn apos) (e :: es) kws pos) X.env = (do
      let ov ← eval o X.env
      standAt apos.atName
      let (f, first) ← holding [ov] (getMethod ov mn pl)
      callWith pos f first (backTo pos (starEach (e :: es) X.env)) (backToKw pos (keywordEach kws X.env))) := by rfl) :
    LE X (.Call (.Attribute o mn apos) (e :: es) kws pos) (mMeth C mn sp b mo m mk) := by
  obtain ⟨f, fd, hM, F⟩ := c.ex
  have hbm : b ∈ pats := List.mem_of_getElem? hb
  refine ⟨fun pins s σ H Q I ⟨τ, h, Q', ss, sh, q, l⟩ => ?_⟩
  refine PySem.W.methodCall_KW (pl := pl) (thn (ho.run pins s σ H (fun v H1 => ∃ a ns vs h1, v = .ref a ∧ h1 a = some (.ins C ns vs) ∧ mn ∉ ns ∧ Go H h H1 h1 ∧ Sim X.K H1 h1 ∧ m τ h1 fun ps h2 => mk τ h2 fun qs h3 => sp (pick b.π (.ref a :: ps ++ qs ++ b.ds)) h3 Q') I
    ⟨τ, h, _, ss, sh, q, fun p h1 v H1 q1 g1 r1 s1 => ?_⟩) fun u s1 ⟨x, H1, I1, rx, a, ns, vs, h1, ex, ea, hns, g1, sh1, q1⟩ => ?_) ht
  · cases p with
    | ref a =>
      simp only at q1
      split at q1
      · rename_i C' ns vs e1
        obtain ⟨rfl, hns, q1⟩ := q1
        exact ⟨a, ns, vs, h1, rel_ref.mp r1, e1, hns, g1, s1, q1⟩
      · exact q1.elim
    | _ => exact q1.elim
  subst ex
  obtain rfl : u = Value.ref a := rx
  obtain ⟨ob, eo, dx, fs, rfl, rfl, rr⟩ := sh1 a _ ea
  refine getmeth_ok I1 eo c.cl hM (noF_get hns) ?_
  refine PySem.W.callWith_KW (first := [.ref a]) (h₀ := X.base) I1.ok.mod.kin hM.kp hall (thn (ha.run pos pins s1 σ H1 (fun vs H2 => ∃ qs h2, vs.length = n ∧ Rels X.K H2 qs vs ∧ Go H1 h1 H2 h2 ∧ Sim X.K H2 h2 ∧ mk τ h2 fun rs h3 => sp (pick b.π (.ref a :: qs ++ rs ++ b.ds)) h3 Q') I1
    ⟨τ, h1, _, ss.mono g1.mono, sh1, q1, fun qs h2 vs H2 q2 hl g2 r2 s2 => ⟨qs, h2, by rw [← r2.length, hl], r2, g2, s2, q2⟩⟩) fun us s2 ⟨vs, H2, I2, r2, qs, h2, lv, rq, g2, sh2, q2⟩ => ?_) hpl hst
  refine thn (hkw.run pos pins s2 σ H2 (fun zs H3 => ∃ rs h3, zs.length = m' ∧ Rels X.K H3 rs zs ∧ Go H2 h2 H3 h3 ∧ Sim X.K H3 h3 ∧ sp (pick b.π (.ref a :: qs ++ rs ++ b.ds)) h3 Q') I2
    ⟨τ, h2, _, (ss.mono g1.mono).mono g2.mono, sh2, q2, fun rs h3 zs H3 q3 hz g3 r3 s3 => ⟨rs, h3, by rw [← r3.length, hz], r3, g3, s3, q3⟩⟩) fun ws s3 ⟨zs, H3, I3, r3, rs, h3, lz, rz, g3, sh3, q3⟩ => ⟨I3.kIn, ?_⟩
  rw [hks]
  exact call_c (us := .ref a :: us) (vs := .ref a :: vs) (qs := .ref a :: qs) F hbm (hr.mono hj) hG I3 (.cons rfl r2) r3 (.cons (rel_ref.mpr rfl) (rq.mono g3.mono)) rz sh3 (by rw [List.length_cons, ← r2.length, lv, hn]) (by rw [← r3.length, lz, hm]) q3 (l.mono ((g1.trans g2).trans g3))
theorem le_meth0 {pl : Sem Bool} (c : FnM X.prog X.w X.K X.mg X.base k C mn ps sp pats) {j m' : Nat} (hb : pats[j]? = some b) {kk : Nat} (hr : Room kk X.A) (hj : k ≤ kk) (hG : X.A.guards = some []) (ho : LE X o mo) (hkw : LKn X kws m' mk) (hn : 1 = b.n := by rfl) (hm : m' = b.ks.length := by rfl)
    (hall : (backToKw pos (keywordEach kws X.env)).all (·.1.isSome) = true := by rfl) (hks : (backToKw pos (keywordEach kws X.env)).filterMap (·.1) = b.ks := by rfl)
    (hpl : ((backTo pos (starEach [] X.env)).any (·.1) || (backToKw pos (keywordEach kws X.env)).any (·.1.isNone)) = false := by rfl)
    (ht : eval (.Call (.Attribute o mn apos) [] kws pos) X.env = (do
      let ov ← eval o X.env
      standAt apos.atName
      let (f, first) ← holding [ov] (getMethod ov mn pl)
      callWith pos f first (backTo pos (starEach [] X.env)) (backToKw pos (keywordEach kws X.env))) := by rfl) :
    LE X (.Call (.Attribute o mn apos) [] kws pos) (mMeth C mn sp b mo mNil mk) := by
  obtain ⟨f, fd, hM, F⟩ := c.ex
  have hbm : b ∈ pats := List.mem_of_getElem? hb
  refine ⟨fun pins s σ H Q I ⟨τ, h, Q', ss, sh, q, l⟩ => ?_⟩
  refine PySem.W.methodCall_KW (pl := pl) (thn (ho.run pins s σ H (fun v H1 => ∃ a ns vs h1, v = .ref a ∧ h1 a = some (.ins C ns vs) ∧ mn ∉ ns ∧ Go H h H1 h1 ∧ Sim X.K H1 h1 ∧ mk τ h1 fun qs h3 => sp (pick b.π (.ref a :: [] ++ qs ++ b.ds)) h3 Q') I
    ⟨τ, h, _, ss, sh, q, fun p h1 v H1 q1 g1 r1 s1 => ?_⟩) fun u s1 ⟨x, H1, I1, rx, a, ns, vs, h1, ex, ea, hns, g1, sh1, q1⟩ => ?_) ht
  · cases p with
    | ref a =>
      simp only at q1
      split at q1
      · rename_i C' ns vs e1
        obtain ⟨rfl, hns, q1⟩ := q1
        exact ⟨a, ns, vs, h1, rel_ref.mp r1, e1, hns, g1, s1, q1⟩
      · exact q1.elim
    | _ => exact q1.elim
  subst ex
  obtain rfl : u = Value.ref a := rx
  obtain ⟨ob, eo, dx, fs, rfl, rfl, rr⟩ := sh1 a _ ea
  refine getmeth_ok I1 eo c.cl hM (noF_get hns) ?_
  refine PySem.W.callWith_KW0 (first := [.ref a]) (h₀ := X.base) I1.ok.mod.kin hM.kp hall (thn (hkw.run pos pins s1 σ H1 (fun zs H3 => ∃ rs h3, zs.length = m' ∧ Rels X.K H3 rs zs ∧ Go H1 h1 H3 h3 ∧ Sim X.K H3 h3 ∧ sp (pick b.π (.ref a :: [] ++ rs ++ b.ds)) h3 Q') I1
    ⟨τ, h1, _, ss.mono g1.mono, sh1, q1, fun rs h3 zs H3 q3 hz g3 r3 s3 => ⟨rs, h3, by rw [← r3.length, hz], r3, g3, s3, q3⟩⟩) fun ws s3 ⟨zs, H3, I3, r3, rs, h3, lz, rz, g3, sh3, q3⟩ => ⟨I3.kIn, ?_⟩) hpl
  rw [hks]
  exact call_c (us := [.ref a]) (vs := [.ref a]) (qs := [.ref a]) F hbm (hr.mono hj) hG I3 (.cons rfl .nil) r3 (.cons (rel_ref.mpr rfl) .nil) rz sh3 hn (by rw [← r3.length, lz, hm]) q3 (l.mono (g1.trans g3))
/-! ### instances made -/
theorem Go.made {H : Hp} {h : PH} {a dx : Addr} (e : H a = none) (e' : H dx = none) (n : dx ≠ a) : Go H h (upd (upd H dx (.own a)) a (.ins C dx [])) (up h a (.ins C [] [])) :=
  Go.trans (Go.new e') (Go.add (by rw [upd_ne (Ne.symm n)]; exact e))
theorem make_c {pins : List (Addr × Obj)} {σ : L2.St} {H : Hp} {s : Shared} {Q : VK} {us ws : List Value} {vs zs : List V} {h : PH} {qs rs : List PV} {Q' : N3.PK} (M : Mk X.K C f) (F : FnC X.prog X.w X.K X.mg X.base k f fd ps sp pats) (hb : b ∈ pats) (hr : Room (k + 1) X.A) (hG : X.A.guards = some [])
    (I : Inv X pins σ H s) (r1 : Vals vs us) (r2 : Vals zs ws) (rr1 : Rels X.K H qs vs) (rr2 : Rels X.K H rs zs) (sh : Sim X.K H h) (l1 : us.length + 1 = b.n) (l2 : ws.length = b.ks.length)
    (q : ∀ a, h a = none → sp (pick b.π (.ref a :: qs ++ rs ++ b.ds)) (up h a (.ins C [] [])) fun v h3 => v = .non ∧ Q' (.ref a) h3) (l : LQ X.K H h Q' Q) :
    wpAny (model X.prog X.w) X.A (call (.ref C) us (b.ks.zip ws)) (EP X pins σ Q) X.xe s := by
  have ea : H (s.heap.objs.size + 1) = none := I.hok.fresh (Nat.le_succ _)
  have ed : H s.heap.objs.size = none := I.hok.fresh (Nat.le_refl _)
  have ne : s.heap.objs.size ≠ s.heap.objs.size + 1 := Nat.ne_of_lt (Nat.lt_succ_self _)
  have I2 := Inv.made (C := C) I
  obtain ⟨mv, dv, rv, rd, to⟩ := (F.b b hb).ex
  have g := Go.made (C := C) (h := h) ea ed ne
  have mm := g.mono
  have R0 : Vals (.ref (s.heap.objs.size + 1) :: vs) (.ref (s.heap.objs.size + 1) :: us) := .cons rfl r1
  have R : Vals (pick b.π (.ref (s.heap.objs.size + 1) :: vs ++ zs ++ dv)) (pick b.π (.ref (s.heap.objs.size + 1) :: us ++ ws ++ mv)) := Vals.pick ((R0.append r2).append rv) b.π
  have RR : Rels X.K _ (pick b.π (.ref (s.heap.objs.size + 1) :: qs ++ rs ++ b.ds)) (pick b.π (.ref (s.heap.objs.size + 1) :: vs ++ zs ++ dv)) := Rels.pick (((Rels.cons (rel_ref.mpr rfl) (rr1.mono mm)).append (rr2.mono mm)).append (rd _)) b.π
  have hl : (pick b.π (.ref (s.heap.objs.size + 1) :: qs ++ rs ++ b.ds)).length = ps.length := (F.b b hb).len _ (by
    rw [List.length_append, List.length_append, List.length_cons, rr1.length, rr2.length, r1.length, r2.length, l1, l2])
  have sh2 : Sim X.K (upd (upd H s.heap.objs.size (.own (s.heap.objs.size + 1))) (s.heap.objs.size + 1) (.ins C s.heap.objs.size [])) (up h (s.heap.objs.size + 1) (.ins C [] [])) := by
    have s1 := sh.new (o := .own (s.heap.objs.size + 1)) ed
    exact s1.put (Mono.new (by rw [upd_ne (Ne.symm ne)]; exact ea)) ⟨_, [], rfl, rfl, .nil⟩
  refine wpAny_call (make_map (f := f) I.kIn M.makes M.init (beq_iff_eq.mp M.fn) (codeAny_mono (F.g.run _ X.stack _ _ ⟨Value.ref (s.heap.objs.size + 1) :: us, b.ks.zip ws⟩ _ _ (fun v H2 => v = .non ∧ Q (.ref (s.heap.objs.size + 1)) H2) (hr.make C us (b.ks.zip ws)) ?_
    (I2.env0.make C us (b.ks.zip ws)) (to _ (Value.ref (s.heap.objs.size + 1) :: us) ws I2.kIn (by rw [List.length_cons, l1]) l2) R ⟨_, _, _, hl, RR, sh2, q _ (sh.fresh ea), ?_⟩) fun r s' hq' => ?_))
  · exact hG
  · rintro v h3 y H3 ⟨rfl, q3⟩ g3 r3 s3
    exact ⟨rel_non.mp r3, l _ _ _ _ q3 (g.trans g3) (rel_ref.mpr rfl) s3⟩
  · cases r with
    | error e => exact False.elim hq'
    | ok fl =>
      cases fl with
      | ret u =>
        obtain ⟨v, H', I3, rv, ev, q3⟩ := I2.after hq'
        subst ev
        exact ⟨rv, ⟨V.ref (s.heap.objs.size + 1), H', I3, rfl, q3⟩⟩
      | next => exact False.elim hq'
      | brk => exact False.elim hq'
      | cont => exact False.elim hq'
theorem le_make (c : FnI X.prog X.w X.K X.mg X.base k x C ps sp pats) {j n m' : Nat} (hb : pats[j]? = some b) {kk : Nat} (hr : Room kk X.A) (hj : k + 1 ≤ kk) (hG : X.A.guards = some []) (ha : LAn X (e :: es) n m) (hkw : LKn X kws m' mk) (hn : n + 1 = b.n := by rfl) (hm : m' = b.ks.length := by rfl) (hg : Gl X x := by rfl)
    (hall : (backToKw pos (keywordEach kws X.env)).all (·.1.isSome) = true := by rfl) (hks : (backToKw pos (keywordEach kws X.env)).filterMap (·.1) = b.ks := by rfl) (hdb : (x == ("__debug__" : Str)) = false := by decide)
    (he : starEach (e :: es) X.env = (false, eval e X.env) :: starEach es X.env := by rfl) (hpl : ((backTo pos (starEach (e :: es) X.env)).any (·.1) || (backToKw pos (keywordEach kws X.env)).any (·.1.isNone)) = false := by rfl) :
    LE X (.Call (.Name x p) (e :: es) kws pos) (mMake C sp b m mk) := by
  obtain ⟨f, fd, M, F⟩ := c.ex
  have hbm : b ∈ pats := List.mem_of_getElem? hb
  refine ⟨fun pins s σ H Q I ⟨τ, h, Q', ss, sh, q, l⟩ => ?_⟩
  refine wpAny_Call_Name_kw (ld_glob I hg c.at_ ?_ hdb)
  refine PySem.W.callWith_KW (h₀ := X.base) I.ok.mod.kin M.kp hall (thn (ha.run pos pins s σ H (fun vs H2 => ∃ qs h2, vs.length = n ∧ Rels X.K H2 qs vs ∧ Go H h H2 h2 ∧ Sim X.K H2 h2 ∧ mk τ h2 fun rs h3 => ∀ a, h3 a = none → sp (pick b.π (.ref a :: qs ++ rs ++ b.ds)) (up h3 a (.ins C [] [])) fun v h4 => v = .non ∧ Q' (.ref a) h4) I
    ⟨τ, h, _, ss, sh, q, fun qs h2 vs H2 q2 hl g2 r2 s2 => ⟨qs, h2, by rw [← r2.length, hl], r2, g2, s2, q2⟩⟩) fun us s2 ⟨vs, H2, I2, r2, qs, h2, lv, rq, g2, sh2, q2⟩ => ?_) hpl he
  refine thn (hkw.run pos pins s2 σ H2 (fun zs H3 => ∃ rs h3, zs.length = m' ∧ Rels X.K H3 rs zs ∧ Go H2 h2 H3 h3 ∧ Sim X.K H3 h3 ∧ ∀ a, h3 a = none → sp (pick b.π (.ref a :: qs ++ rs ++ b.ds)) (up h3 a (.ins C [] [])) fun v h4 => v = .non ∧ Q' (.ref a) h4) I2
    ⟨τ, h2, _, ss.mono g2.mono, sh2, q2, fun rs h3 zs H3 q3 hz g3 r3 s3 => ⟨rs, h3, by rw [← r3.length, hz], r3, g3, s3, q3⟩⟩) fun ws s3 ⟨zs, H3, I3, r3, rs, h3, lz, rz, g3, sh3, q3⟩ => ⟨I3.kIn, ?_⟩
  rw [hks]
  exact make_c M F hbm (hr.mono hj) hG I3 r2 r3 (rq.mono g3.mono) rz sh3 (by show us.length + 1 = _; rw [← r2.length, lv, hn]) (by rw [← r3.length, lz, hm]) q3 (l.mono (g2.trans g3))
theorem le_make0 (c : FnI X.prog X.w X.K X.mg X.base k x C ps sp pats) {j m' : Nat} (hb : pats[j]? = some b) {kk : Nat} (hr : Room kk X.A) (hj : k + 1 ≤ kk) (hG : X.A.guards = some []) (hkw : LKn X kws m' mk) (hn : 1 = b.n := by rfl) (hm : m' = b.ks.length := by rfl) (hg : Gl X x := by rfl)
    (hall : (backToKw pos (keywordEach kws X.env)).all (·.1.isSome) = true := by rfl) (hks : (backToKw pos (keywordEach kws X.env)).filterMap (·.1) = b.ks := by rfl) (hdb : (x == ("__debug__" : Str)) = false := by decide)
    (hpl : ((backTo pos (starEach [] X.env)).any (·.1) || (backToKw pos (keywordEach kws X.env)).any (·.1.isNone)) = false := by rfl) :
    LE X (.Call (.Name x p) [] kws pos) (mMake C sp b mNil mk) := by
  obtain ⟨f, fd, M, F⟩ := c.ex
  have hbm : b ∈ pats := List.mem_of_getElem? hb
  refine ⟨fun pins s σ H Q I ⟨τ, h, Q', ss, sh, q, l⟩ => ?_⟩
  refine wpAny_Call_Name_kw (ld_glob I hg c.at_ ?_ hdb)
  refine PySem.W.callWith_KW0 (h₀ := X.base) I.ok.mod.kin M.kp hall (thn (hkw.run pos pins s σ H (fun zs H3 => ∃ rs h3, zs.length = m' ∧ Rels X.K H3 rs zs ∧ Go H h H3 h3 ∧ Sim X.K H3 h3 ∧ ∀ a, h3 a = none → sp (pick b.π (.ref a :: [] ++ rs ++ b.ds)) (up h3 a (.ins C [] [])) fun v h4 => v = .non ∧ Q' (.ref a) h4) I
    ⟨τ, h, _, ss, sh, q, fun rs h3 zs H3 q3 hz g3 r3 s3 => ⟨rs, h3, by rw [← r3.length, hz], r3, g3, s3, q3⟩⟩) fun ws s3 ⟨zs, H3, I3, r3, rs, h3, lz, rz, g3, sh3, q3⟩ => ⟨I3.kIn, ?_⟩) hpl
  rw [hks]
  exact make_c (us := []) (vs := []) (qs := []) M F hbm (hr.mono hj) hG I3 .nil r3 .nil rz sh3 hn (by rw [← r3.length, lz, hm]) q3 (l.mono g3)
end
end N3

/-! dicts: in, get, pop, del, +=; walks along keys and items; list, sorted, len; comprehensions of a dict; len of an instance -/
namespace N3
open PySem PySem.Spec PyProof.Rows L2

/-! ### in -/
def rInK (neg : Bool) : R2 := fun x y H Q => ∃ a ov, y = .ref a ∧ DGet H a x ov ∧ Q (.bl (if neg then !ov.isSome else ov.isSome)) H
theorem op_inK {X : Cx} (hu : X.A.units + 1 < cLine) : OpR X (compareOp .In) (rInK false) := by
  intro pins s σ H x y v u Q I rx ry h
  obtain ⟨a, ov, rfl, g, q⟩ := h
  cases ry
  exact d_in hu I g rx fun s3 I3 => ⟨.bl ov.isSome, H, I3, rfl, q⟩
theorem op_notInK {X : Cx} (hu : X.A.units + 1 < cLine) : OpR X (compareOp .NotIn) (rInK true) := by
  intro pins s σ H x y v u Q I rx ry h
  obtain ⟨a, ov, rfl, g, q⟩ := h
  cases ry
  exact d_notIn hu I g rx fun s3 I3 => ⟨.bl (!ov.isSome), H, I3, rfl, q⟩
/-- a key in a dict -/
def rInD (neg : Bool) : PR2 := fun p q h Q => match dctL h q, kOf p with
  | some (ks, vs), some k => Q (.bl ((lk ks vs k).isSome != neg)) h
  | _, _ => False
theorem lk_some {K : PySem.W.Frag} {H : Hp} {kvs : List (Key × V)} {vs : List PV} (k : Key) (r : Rels K H vs (kvs.map (·.2))) : (valV kvs k).isSome = (lk (kvs.map (·.1)) vs k).isSome := by
  have z := lk_val k r
  cases e : lk (kvs.map (·.1)) vs k with
  | none => rw [e] at z; rw [z]; rfl
  | some p => rw [e] at z; obtain ⟨v, ev, _⟩ := z; rw [ev]; rfl
theorem lf_inD {K : PySem.W.Frag} {neg : Bool} : Lf2 K (rInK neg) (rInD neg) := by
  intro x y H p q h Q' Q rp rq s r l
  unfold rInD at r
  split at r
  · rename_i ks vs k e ek
    obtain ⟨a, kvs, rfl, hd, rfl, rr⟩ := dctL_rd rq s e
    have ex := kOf_rel rp ek
    subst ex
    refine ⟨a, valV kvs k, rfl, .inl ⟨kvs, k, hd, rfl, rfl⟩, ?_⟩
    rw [lk_some k rr]
    have := l _ _ _ _ r .refl (rel_bl.mpr rfl) s
    cases neg with
    | true => simpa using this
    | false => simpa using this
  · exact r.elim
/-! ### get, pop, del, += -/
def mGet2 (mo mk mx : ME) : ME := fun τ h Q => mo τ h fun p h1 => (dctL h1 p).isSome = true ∧ mk τ h1 fun y h2 => mx τ h2 fun z h3 => match dctL h3 p, kOf y with
  | some (ks, vs), some k => Q ((lk ks vs k).getD z) h3
  | _, _ => False
def eK (ks : List Key) (k : Key) : List Key := ks.filter fun k' => decide (k' ≠ k)
def eV : List Key → List PV → Key → List PV
  | k' :: ks, v :: vs, k => if k' ≠ k then v :: eV ks vs k else eV ks vs k
  | _, _, _ => []
theorem drop_rel {K : PySem.W.Frag} {H : Hp} {k : Key} : ∀ {kvs : List (Key × V)} {vs : List PV}, Rels K H vs (kvs.map (·.2)) → eK (kvs.map (·.1)) k = (dropK kvs k).map (·.1) ∧ Rels K H (eV (kvs.map (·.1)) vs k) ((dropK kvs k).map (·.2))
  | [], vs, r => ⟨rfl, by cases vs <;> exact .nil⟩
  | kv :: kvs, vs, r => by
    cases vs with
    | nil => exact absurd r.length (by simp)
    | cons v vs =>
      obtain ⟨w, ws, e, r1, r2⟩ := r.uncons
      injection e with e1 e2
      subst e1 e2
      obtain ⟨i1, i2⟩ := drop_rel (k := k) r2
      unfold eK dropK at *
      by_cases hk : kv.1 ≠ k
      · simp only [List.map_cons, eV, if_pos hk, List.filter_cons, decide_eq_true hk, if_true]
        exact ⟨by rw [i1], .cons r1 i2⟩
      · simp only [List.map_cons, eV, if_neg hk, List.filter_cons, decide_eq_false hk, if_false, Bool.false_eq_true]
        exact ⟨i1, i2⟩
def mPopK (mo mk : ME) : ME := fun τ h Q => mo τ h fun p h1 => (dctL h1 p).isSome = true ∧ mk τ h1 fun y h2 => match p, kOf y with
  | .ref a, some k => (match h2 a with
    | some (.dct ks vs) => (match lk ks vs k with | some v => Q v (up h2 a (.dct (eK ks k) (eV ks vs k))) | none => False)
    | _ => False)
  | _, _ => False
def mDelK (mo mk : ME) : MS := fun D τ h => mo τ h fun p h1 => mk τ h1 fun y h2 => match p, kOf y with
  | .ref a, some k => (match h2 a with
    | some (.dct ks vs) => (lk ks vs k).isSome = true ∧ D.nx τ (up h2 a (.dct (eK ks k) (eV ks vs k)))
    | _ => False)
  | _, _ => False
def mAugD (g : Int → Int → Int) (mo mk mv : ME) : MS := fun D τ h => mo τ h fun p h1 => mk τ h1 fun y h2 => match p, kOf y with
  | .ref a, some k => (match h2 a with
    | some (.dct ks vs) => (match lk ks vs k with
      | some (.int i) => mv τ h2 fun q h3 => (match q with
        | .int j => (match h3 a with
          | some (.dct ks3 vs3) => ks3.length < SZ ∧ D.nx τ (up h3 a (.dct (pk ks3 k) (pvs ks3 vs3 k (.int (g i j)))))
          | _ => False)
        | _ => False)
      | _ => False)
    | _ => False)
  | _, _ => False
section
variable {X : Cx} {pos apos cpos tpos p2 : Pos} {o e f value : Expr} {mo mk mx mv : ME}
theorem isD_of {K : PySem.W.Frag} {H : Hp} {h : PH} {p : PV} {v : V} (r : Rel K H p v) (s : Sim K H h) (e : (dctL h p).isSome = true) : ∃ a, v = .ref a ∧ IsD H a := by
  obtain ⟨⟨ks, vs⟩, e⟩ := Option.isSome_iff_exists.mp e
  obtain ⟨a, kvs, rfl, hd, _⟩ := dctL_rd r s e
  exact ⟨a, rfl, .inl ⟨kvs, hd⟩⟩
theorem le_get2 (hu : X.A.units + 1 < cLine) (ho : LE X o mo) (he : LE X e mk) (hf : LE X f mx)
    (hbase : attributeBase o "get" X.env (eval o X.env) = eval o X.env := by rfl)
    (hfew : ((backTo cpos (starEach [e, f] X.env)).all (fun x => !x.1) && (backToKw cpos (keywordEach [] X.env)).all (fun x => x.1.isSome)
    && decide (([e, f] : List Expr).length + ([] : List Keyword).length + (if ([] : List Keyword).isEmpty then 0 else 1) < 30)) = true := by rfl)
    (hline : (apos.endLine == cpos.line) = true := by rfl) (htrees : backTo cpos (starEach [e, f] X.env) = [(false, eval e X.env), (false, eval f X.env)] := by rfl) :
    LE X (.Call (.Attribute o "get" apos) [e, f] [] cpos) (mGet2 mo mk mx) := by
  refine PE.weak (pe_dget2 hu ho he hf ⟨hbase, hfew, hline, htrees⟩) fun σ H Q ⟨τ, h, Q', s, sh, q, l⟩ => ?_
  refine ⟨τ, h, _, s, sh, q, fun p h1 v H1 ⟨q0, q1⟩ g1 r1 s1 => ?_⟩
  obtain ⟨a, rfl, hD⟩ := isD_of r1 s1 q0
  refine ⟨a, rfl, hD, τ, h1, _, s.mono g1.mono, s1, q1, fun y h2 w H2 q2 g2 r2 s2 => ?_⟩
  refine ⟨τ, h2, _, (s.mono g1.mono).mono g2.mono, s2, q2, fun z h3 u H3 q3 g3 r3 s3 => ?_⟩
  split at q3
  · rename_i ks vs k e3 ek
    obtain ⟨a', kvs, ea, hd, rfl, rr⟩ := dctL_rd (r1.mono (g2.trans g3).mono) s3 e3
    injection ea with ea
    subst ea
    have ew := kOf_rel r2 ek
    subst ew
    refine ⟨valV kvs k, .inl ⟨kvs, k, hd, rfl, rfl⟩, ?_⟩
    have z1 := lk_val k rr
    cases e5 : lk (kvs.map (·.1)) vs k with
    | none =>
      rw [e5] at z1 q3
      rw [z1]
      exact l _ _ _ _ q3 ((g1.trans g2).trans g3) r3 s3
    | some pv =>
      rw [e5] at z1 q3
      obtain ⟨vv, ev, rv⟩ := z1
      rw [ev]
      exact l _ _ _ _ q3 ((g1.trans g2).trans g3) rv s3
  · exact q3.elim
theorem le_popK (ho : LE X o mo) (he : LE X e mk)
    (hbase : attributeBase o "pop" X.env (eval o X.env) = eval o X.env := by rfl)
    (hfew : ((backTo cpos (starEach [e] X.env)).all (fun x => !x.1) && (backToKw cpos (keywordEach [] X.env)).all (fun x => x.1.isSome)
    && decide (([e] : List Expr).length + ([] : List Keyword).length + (if ([] : List Keyword).isEmpty then 0 else 1) < 30)) = true := by rfl)
    (hline : (apos.endLine == cpos.line) = true := by rfl) (htrees : backTo cpos (starEach [e] X.env) = [(false, eval e X.env)] := by rfl) :
    LE X (.Call (.Attribute o "pop" apos) [e] [] cpos) (mPopK mo mk) := by
  refine PE.weak (pe_dpop1 ho he ⟨hbase, hfew, hline, htrees⟩) fun σ H Q ⟨τ, h, Q', s, sh, q, l⟩ => ?_
  refine ⟨τ, h, _, s, sh, q, fun p h1 v H1 ⟨q0, q1⟩ g1 r1 s1 => ?_⟩
  obtain ⟨a, rfl, hD⟩ := isD_of r1 s1 q0
  refine ⟨a, rfl, hD, τ, h1, _, s.mono g1.mono, s1, q1, fun y h2 w H2 q2 g2 r2 s2 => ?_⟩
  cases ek : kOf y with
  | none => cases p <;> (rw [ek] at q2; exact q2.elim)
  | some k =>
    rw [ek] at q2
    cases p with
    | ref b =>
      obtain rfl : a = b := by have := rel_ref.mp r1; injection this
      simp only at q2
      split at q2
      · rename_i ks vs e2
        split at q2
        · rename_i pv epv
          obtain ⟨u, eu, kvs, rfl, rfl, rr⟩ := s2 a _ e2
          have ew := kOf_rel r2 ek
          subst ew
          have z1 := lk_val k rr
          rw [epv] at z1
          obtain ⟨vv, ev, rv⟩ := z1
          have mm : Mono H2 (upd H2 a (.dK (dropK kvs k))) := Mono.dK eu
          obtain ⟨d1, d2⟩ := drop_rel (k := k) rr
          exact ⟨kvs, k, vv, eu, rfl, ev, l _ _ _ _ q2 ((g1.trans g2).trans (.wr e2 mm)) (rv.mono mm) (s2.put mm ⟨_, rfl, d1, d2.mono mm⟩)⟩
        · exact q2.elim
      · exact q2.elim
    | _ => exact q2.elim
theorem ls_delK (ho : LE X o mo) (he : LE X e mk) : LS X (.Delete [.Subscript o e tpos] pos) (mDelK mo mk) := by
  refine PS.weak (ps_ddel ho he) fun D σ H ⟨τ, h, D', s, sh, q, l⟩ => ?_
  refine ⟨τ, h, _, s, sh, q, fun p h1 v H1 q1 g1 r1 s1 => ⟨τ, h1, _, s.mono g1.mono, s1, q1, fun y h2 w H2 q2 g2 r2 s2 => ?_⟩⟩
  cases ek : kOf y with
  | none => cases p <;> (rw [ek] at q2; exact q2.elim)
  | some k =>
    rw [ek] at q2
    cases p with
    | ref a =>
      simp only at q2
      split at q2
      · rename_i ks vs e2
        obtain ⟨q0, q2⟩ := q2
        obtain ⟨u, eu, kvs, rfl, rfl, rr⟩ := s2 a _ e2
        have ew := kOf_rel r2 ek
        subst ew
        have mm : Mono H2 (upd H2 a (.dK (dropK kvs k))) := Mono.dK eu
        obtain ⟨d1, d2⟩ := drop_rel (k := k) rr
        exact ⟨a, kvs, k, rel_ref.mp (r1.mono g2.mono), eu, rfl, by rw [lk_some k rr]; exact q0, l.nx _ _ _ _ q2 ((g1.trans g2).trans (.wr e2 mm)) (((s.mono g1.mono).mono g2.mono).mono mm) (s2.put mm ⟨_, rfl, d1, d2.mono mm⟩)⟩
      · exact q2.elim
    | _ => exact q2.elim
theorem ls_augD {op : Operator} {g : Int → Int → Int} (hu : X.A.units + 1 < cLine) (ho : LE X o mo) (he : LE X e mk) (hv : LE X value mv) (hop : InOp X op (fun x y H Q => ∃ i j, x = .int i ∧ y = .int j ∧ Q (.int (g i j)) H))
    (ha : ∀ ov iv new, augStore e ov iv new = (do holding [new, ov, iv] (setItem ov iv new); release [new, ov, iv] []; pure .next) := by intro _ _ _; rfl) : LS X (.AugAssign (.Subscript o e tpos) op value pos) (mAugD g mo mk mv) := by
  refine PS.weak (ps_daug hu ho he hv hop ha) fun D σ H ⟨τ, h, D', s, sh, q, l⟩ => ?_
  refine ⟨τ, h, _, s, sh, q, fun p h1 v H1 q1 g1 r1 s1 => ⟨τ, h1, _, s.mono g1.mono, s1, q1, fun y h2 w H2 q2 g2 r2 s2 => ?_⟩⟩
  cases ek : kOf y with
  | none => cases p <;> (rw [ek] at q2; exact q2.elim)
  | some k =>
    rw [ek] at q2
    cases p with
    | ref a =>
      simp only at q2
      split at q2
      · rename_i ks vs e2
        split at q2
        · rename_i i ei
          obtain ⟨u, eu, kvs, rfl, rfl, rr⟩ := s2 a _ e2
          have ew := kOf_rel r2 ek
          subst ew
          have z1 := lk_val k rr
          rw [ei] at z1
          obtain ⟨vv, ev, rv⟩ := z1
          refine ⟨a, vv, rel_ref.mp (r1.mono g2.mono), .inl ⟨kvs, k, .inl eu, rfl, ev.symm⟩, τ, h2, _, (s.mono g1.mono).mono g2.mono, s2, q2, fun q h3 w3 H3 q3 g3 r3 s3 => ?_⟩
          cases q with
          | int j =>
            simp only at q3
            split at q3
            · rename_i ks3 vs3 e4
              obtain ⟨hl, q3⟩ := q3
              obtain ⟨u3, eu3, kvs3, rfl, rfl, rr3⟩ := s3 a _ e4
              have mm : Mono H3 (upd H3 a (.dK (putK kvs3 k (.int (g i j))))) := Mono.dK eu3
              obtain ⟨z1, z2⟩ := put_rel (k := k) (p := .int (g i j)) (v := .int (g i j)) rr3 (rel_int.mpr rfl)
              exact ⟨i, j, rel_int.mp (rv.mono g3.mono), rel_int.mp r3, _, DPut.k eu3 (by have z := hl; rw [List.length_map] at z; exact sz_lt z), l.nx _ _ _ _ q3 (((g1.trans g2).trans g3).trans (.wr e4 mm)) ((((s.mono g1.mono).mono g2.mono).mono g3.mono).mono mm) (s3.put mm ⟨_, rfl, z1, z2.mono mm⟩)⟩
            · exact q3.elim
          | _ => exact q3.elim
        · exact q2.elim
      · exact q2.elim
    | _ => exact q2.elim
end
/-! ### walks along a dict -/
/-- a key as a value -/
def kP : Key → PV
  | .inl i => .int i
  | .inr x => .str x
theorem kP_rel {K : PySem.W.Frag} {H : Hp} (k : Key) : Rel K H (kP k) (kV k) := by
  cases k with
  | inl i => exact rel_int.mpr rfl
  | inr x => exact rel_str.mpr rfl
/-- the guard of a walk: the dict that is locked stays -/
def gdK (p : PV) (ks : List Key) (vs : List PV) : PH → Prop := match p with
  | .ref a => fun h => h a = some (.lck ks vs)
  | _ => fun _ => True
def mKeysI (m : ME) : MI := fun τ h Q => m τ h fun p h1 => match p with
  | .dct ks vs => ks.length ≤ SZ ∧ Q (ks.map kP) (fun _ => True) h1
  | .ref a => (match h1 a with | some (.lck ks vs) => ks.length ≤ SZ ∧ Q (ks.map kP) (gdK p ks vs) h1 | _ => False)
  | _ => False
def mItemsI (m : ME) : MI := fun τ h Q => m τ h fun p h1 => match p with
  | .dct ks vs => ks.length ≤ SZ ∧ Q (List.zipWith (fun k v => .tup [kP k, v]) ks vs) (fun _ => True) h1
  | .ref a => (match h1 a with | some (.lck ks vs) => ks.length ≤ SZ ∧ Q (List.zipWith (fun k v => .tup [kP k, v]) ks vs) (gdK p ks vs) h1 | _ => False)
  | _ => False
section
variable {X : Cx} {tg e : Expr} {pos apos cpos : Pos} {m : ME}
/-- a walked dict: frozen at a; what it is later -/
theorem frz_walk {K : PySem.W.Frag} {H1 : Hp} {h1 : PH} {p : PV} {v : V} {ks : List Key} {vs : List PV} (r : Rel K H1 p v) (s : Sim K H1 h1) (e : p = .dct ks vs ∨ ∃ a, p = .ref a ∧ h1 a = some (.lck ks vs)) :
    ∃ a o kvs, v = .ref a ∧ H1 a = some (.frz o (.dK kvs)) ∧ ks = kvs.map (·.1) ∧ Rels K H1 vs (kvs.map (·.2)) := by
  rcases e with rfl | ⟨a, rfl, e⟩
  · obtain ⟨a, kvs, e1, ⟨o, f⟩, e2, rr⟩ := rel_dct.mp r
    exact ⟨a, o, kvs, e1, f, e2, rr⟩
  · obtain ⟨u, e2, ob, kvs, rfl, e3, rr⟩ := s a _ e
    exact ⟨a, ob, kvs, rel_ref.mp r, e2, e3, rr⟩
theorem li_keys (he : LE X e m) : LI X tg e (mKeysI m) := by
  refine PI.weak (pi_keys he) fun σ H R ⟨τ, h, Q', s, sh, q, l⟩ => ?_
  refine ⟨τ, h, _, s, sh, q, fun p h1 v H1 q1 g1 r1 s1 => ?_⟩
  have go : ∀ (ks : List Key) (vs : List PV) (gd : PH → Prop), (p = .dct ks vs ∨ ∃ a, p = .ref a ∧ h1 a = some (.lck ks vs)) → ks.length ≤ SZ → Q' (ks.map kP) gd h1 →
      ∃ d o, v = .ref d ∧ ((∃ kvs, H1 d = some (.frz o (.dK kvs)) ∧ R (Itk d o kvs) H1) ∨ ∃ kvs, H1 d = some (.frz o (.dT kvs)) ∧ R (Itkt d o kvs) H1) := fun ks vs gd e hz q1 => by
    obtain ⟨a, o, kvs, rfl, hf, rfl, rr⟩ := frz_walk r1 s1 e
    refine ⟨a, o, rfl, .inl ⟨kvs, hf, l _ _ _ _ _ q1 g1 s1 ⟨by rw [List.length_map]; exact sz_le hz, fun i H h hi m _ _ => ?_, fun H h m _ _ => ?_, fun i H h y H' p hp m sh' _ hy => ?_⟩⟩⟩
    · exact ⟨m.f _ _ _ hf, by simpa using hi⟩
    · exact ⟨m.f _ _ _ hf, by simp⟩
    · obtain ⟨rfl, k, w, ek, rfl⟩ := hy
      rw [List.getElem?_map, List.getElem?_map, ek] at hp
      simp only [Option.map_some, Option.some.injEq] at hp
      subst hp
      exact ⟨.refl, sh', kP_rel k⟩
  split at q1
  · exact go _ _ _ (.inl rfl) q1.1 q1.2
  · rename_i a
    split at q1
    · rename_i ks vs e1
      exact go ks vs _ (.inr ⟨a, rfl, e1⟩) q1.1 q1.2
    · exact q1.elim
  · exact q1.elim
theorem li_items {elts : List Expr} {kk : Nat} {tpos : Pos} (he : LE X e m) (hbase : attributeBase e "items" X.env (eval e X.env) = eval e X.env := by rfl) (hline : (apos.endLine == cpos.line) = true := by rfl) :
    LI X (.Tuple elts kk tpos) (.Call (.Attribute e "items" apos) [] [] cpos) (mItemsI m) := by
  refine PI.weak (pi_items he hbase hline) fun σ H R ⟨τ, h, Q', s, sh, q, l⟩ => ?_
  refine ⟨τ, h, _, s, sh, q, fun p h1 v H1 q1 g1 r1 s1 => ?_⟩
  have go : ∀ (ks : List Key) (vs : List PV) (gd : PH → Prop), (p = .dct ks vs ∨ ∃ a, p = .ref a ∧ h1 a = some (.lck ks vs)) → ks.length ≤ SZ → Q' (List.zipWith (fun k v => .tup [kP k, v]) ks vs) gd h1 →
      ∃ d o kvs, v = .ref d ∧ H1 d = some (.frz o (.dK kvs)) ∧ R (Iti d o kvs) H1 := fun ks vs gd e hz q1 => by
    obtain ⟨a, o, kvs, rfl, hf, rfl, rr⟩ := frz_walk r1 s1 e
    have ll : vs.length = kvs.length := by rw [rr.length, List.length_map]
    refine ⟨a, o, kvs, rfl, hf, l _ _ _ _ _ q1 g1 s1 ⟨?_, fun i H h hi m _ _ => ?_, fun H h m _ _ => ?_, fun i H h y H' p hp m sh' _ hy => ?_⟩⟩
    · rw [List.length_zipWith, List.length_map, ll, Nat.min_self]
      rw [List.length_map] at hz
      exact sz_le hz
    · rw [List.length_zipWith, List.length_map, ll, Nat.min_self] at hi
      exact ⟨m.f _ _ _ hf, hi⟩
    · rw [List.length_zipWith, List.length_map, ll, Nat.min_self]
      exact ⟨m.f _ _ _ hf, Nat.le_refl _⟩
    · obtain ⟨T, k, w, ek, rfl, hT, rfl⟩ := hy
      rw [List.getElem?_zipWith, List.getElem?_map, ek] at hp
      obtain ⟨pw, epw, rw'⟩ := (rr.mono m).get' (i := i) (v := w) (by rw [List.getElem?_map, ek]; rfl)
      rw [epw] at hp
      simp only [Option.map_some, Option.some.injEq] at hp
      subst hp
      have mm : Mono H (upd H T (.tup [kV k, w])) := Mono.new hT
      exact ⟨.new hT, sh'.new hT, rel_tup.mpr ⟨T, _, rfl, .inl (.inl upd_same), .cons (kP_rel k) (.cons (rw'.mono mm) .nil)⟩⟩
  split at q1
  · exact go _ _ _ (.inl rfl) q1.1 q1.2
  · rename_i a
    split at q1
    · rename_i ks vs e1
      exact go ks vs _ (.inr ⟨a, rfl, e1⟩) q1.1 q1.2
    · exact q1.elim
  · exact q1.elim
end
/-! ### a dict is locked while it is gone along -/
/-! no kept dict stands in it -/
mutual
def nd : PV → Bool
  | .dct _ _ => false
  | .tup ps => nds ps
  | .lst ps => nds ps
  | _ => true
def nds : List PV → Bool
  | [] => true
  | p :: ps => nd p && nds ps
end
def ndO : PO → Bool
  | .lst ps => nds ps
  | .dct _ vs => nds vs
  | .ins _ _ vs => nds vs
  | .lck _ _ => true
def ndS : PSt → Bool
  | [] => true
  | none :: r => ndS r
  | some p :: r => nd p && ndS r
def ndH (h : PH) : Prop := ∀ b o, h b = some o → ndO o = true
section
variable {K : PySem.W.Frag} {H1 : Hp} {a : Addr} {od : Obj} {kvs : List (Key × V)} {u : HO}
mutual
theorem nd_rel (hA : H1 a = some (.frz od (.dK kvs))) : ∀ (p : PV) (v : V), nd p = true → Rel K H1 p v → Rel K (upd H1 a u) p v
  | .non, _, _, h => by simpa only [Rel] using h
  | .bl _, _, _, h => by simpa only [Rel] using h
  | .int _, _, _, h => by simpa only [Rel] using h
  | .str _, _, _, h => by simpa only [Rel] using h
  | .ref _, _, _, h => by simpa only [Rel] using h
  | .ty _, _, _, h => by simpa only [Rel] using h
  | .dct _ _, _, n, _ => by simp [nd] at n
  | .tup ps, v, n, h => by
    obtain ⟨b, xs, e, h1, h2⟩ := rel_tup.mp h
    refine rel_tup.mpr ⟨b, xs, e, ?_, nds_rel hA ps xs (by simpa only [nd] using n) h2⟩
    rcases h1 with (q | ⟨o, q⟩) | q
    · have hb : b ≠ a := fun z => by rw [z, hA] at q; cases q
      exact .inl (.inl (by rw [upd_ne hb]; exact q))
    · have hb : b ≠ a := fun z => by rw [z, hA] at q; cases q
      exact .inl (.inr ⟨o, by rw [upd_ne hb]; exact q⟩)
    · exact .inr q
  | .lst ps, v, n, h => by
    obtain ⟨b, xs, e, h1, h2⟩ := rel_lst.mp h
    refine rel_lst.mpr ⟨b, xs, e, ?_, nds_rel hA ps xs (by simpa only [nd] using n) h2⟩
    rcases h1 with ⟨o, q⟩ | q
    · have hb : b ≠ a := fun z => by rw [z, hA] at q; cases q
      exact .inl ⟨o, by rw [upd_ne hb]; exact q⟩
    · exact .inr q
theorem nds_rel (hA : H1 a = some (.frz od (.dK kvs))) : ∀ (ps : List PV) (xs : List V), nds ps = true → Rels K H1 ps xs → Rels K (upd H1 a u) ps xs
  | [], _, _, h => by simpa only [Rels] using h
  | p :: ps, xs, n, h => by
    simp only [nds, Bool.and_eq_true] at n
    obtain ⟨v, vs, rfl, h1, h2⟩ := h.uncons
    exact .cons (nd_rel hA p v n.1 h1) (nds_rel hA ps vs n.2 h2)
end
theorem ndO_rel (hA : H1 a = some (.frz od (.dK kvs))) {b : Addr} (hb : b ≠ a) : ∀ {o : PO} {w : HO}, H1 b = some w → (∀ ks vs, o ≠ .lck ks vs) → ndO o = true → RelO K H1 o w → RelO K (upd H1 a u) o w
  | .lst ps, _, _, _, n, ⟨xs, e, r⟩ => ⟨xs, e, nds_rel hA _ _ n r⟩
  | .dct ks vs, _, _, _, n, ⟨kvs, e, r, q⟩ => ⟨kvs, e, r, nds_rel hA _ _ n q⟩
  | .ins C ns vs, _, _, _, n, ⟨dx, fs, e, m, r⟩ => ⟨dx, fs, e, m, nds_rel hA _ _ n r⟩
  | .lck ks vs, _, _, z, _, _ => absurd rfl (z ks vs)
theorem ndS_rel {τ : PSt} {σ : L2.St} (hA : H1 a = some (.frz od (.dK kvs))) (n : ndS τ = true) (s : SimS K H1 σ τ) : SimS K (upd H1 a u) σ τ := by
  refine ⟨s.1, fun i p e => ?_⟩
  obtain ⟨v, e1, r⟩ := s.2 i p e
  refine ⟨v, e1, nd_rel hA p v ?_ r⟩
  have key : ∀ (τ : PSt) (i : Nat), ndS τ = true → gt τ i = some p → nd p = true := by
    intro τ
    induction τ with
    | nil => intro i _ e; cases i <;> cases e
    | cons x r ih =>
      intro i n e
      cases x with
      | none =>
        cases i with
        | zero => cases e
        | succ i => exact ih i n e
      | some q =>
        simp only [ndS, Bool.and_eq_true] at n
        cases i with
        | zero => cases e; exact n.1
        | succ i => exact ih i n.2 e
  exact key τ i n e
end
/-- but the one at a no dict is locked -/
def lk1 (a : Addr) (h : PH) : Prop := ∀ b ks vs, h b = some (.lck ks vs) → b = a
def unl (a : Addr) (ks : List Key) (vs : List PV) (D : PEnds) : PEnds :=
  ⟨fun τ h => (h a = some (.lck ks vs) ∧ ndS τ = true ∧ ndH h ∧ lk1 a h) ∧ D.nx τ (up h a (.dct ks vs)), fun p h => (h a = some (.lck ks vs) ∧ nd p = true ∧ ndH h ∧ lk1 a h) ∧ D.rt p (up h a (.dct ks vs)),
   fun τ h => (h a = some (.lck ks vs) ∧ ndS τ = true ∧ ndH h ∧ lk1 a h) ∧ D.bk τ (up h a (.dct ks vs)), fun τ h => (h a = some (.lck ks vs) ∧ ndS τ = true ∧ ndH h ∧ lk1 a h) ∧ D.ct τ (up h a (.dct ks vs))⟩
def mLockS (m : MS) : MS := fun D τ h => ∃ a ks vs, h a = some (.dct ks vs) ∧ m (unl a ks vs D) τ (up h a (.lck ks vs))
def mLockE (m : ME) : ME := fun τ h Q => ∃ a ks vs, h a = some (.dct ks vs) ∧ m τ (up h a (.lck ks vs)) fun p h1 => (h1 a = some (.lck ks vs) ∧ nd p = true ∧ ndH h1 ∧ lk1 a h1) ∧ Q p (up h1 a (.dct ks vs))
section
variable {K : PySem.W.Frag} {H H1 : Hp} {h h1 : PH} {a : Addr} {od : Obj} {kvs : List (Key × V)} {ks : List Key} {vs : List PV}
theorem lock_go (e : h a = some (.dct ks vs)) (he : H a = some (.dK kvs)) : Go H h (upd H a (.frz od (.dK kvs))) (up h a (.lck ks vs)) := .wr e (Mono.dK he)
theorem lock_sim (s : Sim K H h) (e : h a = some (.dct ks vs)) (he : H a = some (.dK kvs)) : Sim K (upd H a (.frz od (.dK kvs))) (up h a (.lck ks vs)) := by
  obtain ⟨u, e1, kvs', rfl, e2, rr⟩ := s a _ e
  rw [he] at e1
  cases e1
  exact s.put (Mono.dK he) ⟨od, _, rfl, e2, rr.mono (Mono.dK he)⟩
/-- the tuples, frozen things stay when a frozen dict is a dict again: by the lock's own address alone -/
theorem unlock_go (e0 : h a = some (.dct ks vs)) (he : H a = some (.dK kvs)) (g : Go (upd H a (.frz od (.dK kvs))) (up h a (.lck ks vs)) H1 h1) (e1 : H1 a = some (.frz od (.dK kvs))) : Go H h (upd H1 a (.dK kvs)) (up h1 a (.dct ks vs)) := by
  refine ⟨⟨fun b xs q => ?_, fun b o u q => ?_⟩, fun b u q n => ?_, fun b u q n => ?_, fun b q => ?_⟩
  · have hb : b ≠ a := fun z => by rw [z, he] at q; cases q
    rw [upd_ne hb]
    exact g.mono.t b xs (by rw [upd_ne hb]; exact q)
  · have hb : b ≠ a := fun z => by rw [z, he] at q; cases q
    rw [upd_ne hb]
    exact g.mono.f b o u (by rw [upd_ne hb]; exact q)
  · have hb : b ≠ a := fun z => by rw [z, e0] at n; cases n
    rw [upd_ne hb]
    exact g.frame b u (by rw [upd_ne hb]; exact q) (by rw [up_ne hb]; exact n)
  · have hb : b ≠ a := fun z => by rw [z, e0] at n; cases n
    rw [up_ne hb]
    exact g.dom b u (by rw [upd_ne hb]; exact q) (by rw [up_ne hb]; exact n)
  · have hb : b ≠ a := fun z => by rw [z, upd_same] at q; cases q
    rw [upd_ne hb] at q
    have := g.live b q
    rw [upd_ne hb] at this
    exact this
theorem unlock_sim (e0 : h a = some (.dct ks vs)) (he : H a = some (.dK kvs)) (s0 : Sim K H h) (g : Go (upd H a (.frz od (.dK kvs))) (up h a (.lck ks vs)) H1 h1) (e1 : H1 a = some (.frz od (.dK kvs))) (n : ndH h1) (n1 : lk1 a h1) (s : Sim K H1 h1) : Sim K (upd H1 a (.dK kvs)) (up h1 a (.dct ks vs)) := by
  have g2 := unlock_go e0 he g e1
  intro b o q
  by_cases hb : b = a
  · subst hb
    rw [up_same] at q
    cases q
    obtain ⟨u, e2, kvs', rfl, e3, rr⟩ := s0 b _ e0
    rw [he] at e2
    cases e2
    exact ⟨_, upd_same, _, rfl, e3, rr.mono g2.mono⟩
  · rw [up_ne hb] at q
    obtain ⟨w, e2, r⟩ := s b o q
    refine ⟨w, by rw [upd_ne hb]; exact e2, ndO_rel e1 hb e2 (fun ks vs z => hb (n1 b ks vs (by rw [q, z]))) (n b o q) r⟩
end
section
variable {X : Cx} {e : Expr} {st : Stmt} {m : ME} {ms : MS}
theorem le_lockE (he : LE X e m) : LE X e (mLockE m) := by
  refine PE.weak (pe_lock he) fun σ H Q ⟨τ, h, Q', s, sh, ⟨a, ks, vs, ea, q⟩, l⟩ => ?_
  obtain ⟨u, eu, kvs, rfl, e3, rr⟩ := sh a _ ea
  refine ⟨a, _, eu, trivial, fun od => ?_⟩
  have g0 := lock_go (od := od) ea eu
  refine ⟨τ, _, _, s.mono g0.mono, lock_sim sh ea eu, q, fun p h1 v H1 ⟨⟨q1, q2, q3, q4⟩, q5⟩ g1 r1 s1 => ?_⟩
  have e1 : H1 a = some (.frz od (.dK kvs)) := g1.mono.f a od _ upd_same
  exact ⟨e1, l _ _ _ _ q5 (unlock_go ea eu g1 e1) (nd_rel e1 p v q2 r1) (unlock_sim ea eu sh g1 e1 q3 q4 s1)⟩
theorem ls_lockS (hs : LS X st ms) : LS X st (mLockS ms) := by
  refine PS.weak (ps_lock hs) fun D σ H ⟨τ, h, D', s, sh, ⟨a, ks, vs, ea, q⟩, l⟩ => ?_
  obtain ⟨u, eu, kvs, rfl, e3, rr⟩ := sh a _ ea
  refine ⟨a, _, eu, trivial, fun od => ?_⟩
  have g0 := lock_go (od := od) ea eu
  refine ⟨τ, _, _, s.mono g0.mono, lock_sim sh ea eu, q, ⟨?_, ?_, ?_, ?_⟩⟩
  · rintro τ1 h1 σ1 H1 ⟨⟨q1, q2, q3, q4⟩, q5⟩ g1 ss1 s1
    have e1 : H1 a = some (.frz od (.dK kvs)) := g1.mono.f a od _ upd_same
    exact ⟨e1, l.nx _ _ _ _ q5 (unlock_go ea eu g1 e1) (ndS_rel e1 q2 ss1) (unlock_sim ea eu sh g1 e1 q3 q4 s1)⟩
  · rintro p h1 v H1 ⟨⟨q1, q2, q3, q4⟩, q5⟩ g1 r1 s1
    have e1 : H1 a = some (.frz od (.dK kvs)) := g1.mono.f a od _ upd_same
    exact ⟨e1, l.rt _ _ _ _ q5 (unlock_go ea eu g1 e1) (nd_rel e1 p v q2 r1) (unlock_sim ea eu sh g1 e1 q3 q4 s1)⟩
  · rintro τ1 h1 σ1 H1 ⟨⟨q1, q2, q3, q4⟩, q5⟩ g1 ss1 s1
    have e1 : H1 a = some (.frz od (.dK kvs)) := g1.mono.f a od _ upd_same
    exact ⟨e1, l.bk _ _ _ _ q5 (unlock_go ea eu g1 e1) (ndS_rel e1 q2 ss1) (unlock_sim ea eu sh g1 e1 q3 q4 s1)⟩
  · rintro τ1 h1 σ1 H1 ⟨⟨q1, q2, q3, q4⟩, q5⟩ g1 ss1 s1
    have e1 : H1 a = some (.frz od (.dK kvs)) := g1.mono.f a od _ upd_same
    exact ⟨e1, l.ct _ _ _ _ q5 (unlock_go ea eu g1 e1) (ndS_rel e1 q2 ss1) (unlock_sim ea eu sh g1 e1 q3 q4 s1)⟩
end
end N3

/-! comprehensions of a dict; list, sorted, len of a dict; len of an instance -/
namespace N3
open PySem PySem.Spec PyProof.Rows L2

def dcL (gd : PH → Prop) (τ : PSt) (g : MG) (t : MT) (mk mv : ME) : List PV → List Key → List PV → PH → (List Key → List PV → PH → Prop) → Prop
  | [], ks, vs, h, Q => gd h ∧ Q ks vs h
  | p :: ps, ks, vs, h, Q => gd h ∧ g p τ h fun τ1 h1 => t τ1 h1 fun b h2 => if b = true then mk τ1 h2 fun y h3 => mv τ1 h3 fun z h4 => (match kOf y with
    | some k => dcL gd τ g t mk mv ps (pk ks k) (pvs ks vs k z) h4 Q
    | none => False) else dcL gd τ g t mk mv ps ks vs h2 Q
def mDc (mi : MI) (vs : List Nat) (g : MG) (t : MT) (mk mv : ME) : ME := fun τ h Q => mi τ h fun ps gd h1 => dcL gd (wp τ vs) g t mk mv ps [] [] h1 fun ks us h2 => Q (.dct ks us) h2
def mDcM (mi : MI) (vs : List Nat) (g : MG) (t : MT) (mk mv : ME) : ME := fun τ h Q => mi τ h fun ps gd h1 => dcL gd (wp τ vs) g t mk mv ps [] [] h1 fun ks us h2 => ∀ a, h2 a = none → Q (.ref a) (up h2 a (.dct ks us))
theorem putK_len (kvs : List (Key × V)) (k : Key) (v : V) : (putK kvs k v).length ≤ kvs.length + 1 := by
  unfold putK
  split
  · rw [List.length_map]; omega
  · rw [List.length_append]; simp
theorem dc_up {K : PySem.W.Frag} {mi : MI} {vs : List Nat} {g : MG} {t : MT} {mk mv : ME} {Y : List Key → List PV → PH → Prop} {σ : L2.St} {H0 : Hp} {τ : PSt} {h0 : PH} {Q : VK} (s0 : SimS K H0 σ τ) (sh0 : Sim K H0 h0)
    (q : mi τ h0 fun ps gd h1 => dcL gd (wp τ vs) g t mk mv ps [] [] h1 Y)
    (fin : ∀ ks us h2 kvs D H2, Y ks us h2 → H0 D = none → H2 D = some (.dK kvs) → h2 D = none → Sim K H2 h2 → ks = kvs.map (·.1) → Rels K H2 us (kvs.map (·.2)) → Go H0 h0 H2 h2 → Q (.ref D) H2) :
    tDc (upI K mi) (upG K vs g) (upT K t) (upE K mk) (upE K mv) vs σ H0 Q := by
  refine ⟨τ, h0, _, s0, sh0, q, fun ps gd h1 H1 J q1 g1 s1 wk D hD => ?_⟩
  have hD1 : h1 D = none := s1.fresh hD
  have gD : Go H1 h1 (upd H1 D (.dK [])) h1 := .new hD
  refine ⟨fun i n H => ∃ h ks us kvs, i ≤ ps.length ∧ n = ps.length - i ∧ Go H1 h1 H h ∧ H D = some (.dK kvs) ∧ h D = none ∧ ks = kvs.map (·.1) ∧ Rels K H us (kvs.map (·.2)) ∧ kvs.length ≤ i ∧ Sim K H h ∧ dcL gd (wp τ vs) g t mk mv (ps.drop i) ks us h Y,
    ⟨ps.length, h1, [], [], [], Nat.zero_le _, rfl, gD, upd_same, hD1, rfl, .nil, Nat.le_refl _, s1.new hD, q1⟩, ?_⟩
  rintro i n H ⟨h, ks, us, kvs, hi, rfl, gg, hx, hd, rk, ra, hl, sh, q⟩
  by_cases hlt : i < ps.length
  · have e : ps.drop i = ps[i] :: ps.drop (i + 1) := List.drop_eq_getElem_cons hlt
    rw [e] at q
    obtain ⟨hgd, q⟩ := q
    refine .inr ⟨wk.goes i H h hlt gg.mono sh hgd, fun H' => ∃ h ks us kvs, Go H1 h1 H' h ∧ H' D = some (.dK kvs) ∧ h D = none ∧ ks = kvs.map (·.1) ∧ Rels K H' us (kvs.map (·.2)) ∧ kvs.length ≤ i + 1 ∧ Sim K H' h ∧ dcL gd (wp τ vs) g t mk mv (ps.drop (i + 1)) ks us h Y,
      fun H' ⟨h, ks, us, kvs, a1, a2, a3, a4, a5, a6, a7, a8⟩ => ⟨ps.length - (i + 1), by omega, h, ks, us, kvs, hlt, rfl, a1, a2, a3, a4, a5, a6, a7, a8⟩, fun x H' y => ?_⟩
    obtain ⟨g2, sh2, rx⟩ := wk.yields i H h x H' ps[i] (List.getElem?_eq_getElem hlt) gg.mono sh hgd y
    have gw : Mono H0 H' := (g1.trans (gg.trans g2)).mono
    refine ⟨ps[i], wp τ vs, h, _, rx, (s0.mono gw).wipe vs, sh2, q, fun τ3 h3 σ3 H3 q3 g3 s3 sh3 w3 => ⟨by rw [w3, wipe_wipe], ?_⟩⟩
    refine ⟨τ3, h3, _, s3, sh3, q3, fun b h4 H4 q4 g4 s4 => ?_⟩
    have g24 := (g2.trans g3).trans g4
    have x4 : H4 D = some (.dK kvs) := g24.frame D _ hx hd
    have d4 : h4 D = none := g24.dom D _ hx hd
    cases b with
    | true =>
      simp only [if_true] at q4 ⊢
      refine ⟨τ3, h4, _, s3.mono g4.mono, s4, q4, fun yk h5 yv H5 q5 g5 r5 s5 => ?_⟩
      refine ⟨τ3, h5, _, (s3.mono g4.mono).mono g5.mono, s5, q5, fun zv h6 z6 H6 q6 g6 r6 s6 => ?_⟩
      have g56 := g5.trans g6
      have x6 : H6 D = some (.dK kvs) := g56.frame D _ x4 d4
      have d6 : h6 D = none := g56.dom D _ x4 d4
      have few := wk.few
      cases ek : kOf yk with
      | none => rw [ek] at q6; exact q6.elim
      | some k =>
        rw [ek] at q6
        have ey := kOf_rel r5 ek
        subst ey
        have mm : Mono H6 (upd H6 D (.dK (putK kvs k z6))) := Mono.dK x6
        obtain ⟨z1, z2⟩ := put_rel (k := k) (ra.mono (g24.trans g56).mono) r6
        have pl := putK_len kvs k z6
        refine ⟨kvs, k, rfl, x6, by omega, h6, pk ks k, pvs ks us k zv, putK kvs k z6, ?_, upd_same, d6, ?_, ?_, by omega, s6.drop mm d6, q6⟩
        · exact (((gg.trans g24).trans g56)).renew hD mm
        · rw [rk]; exact z1
        · rw [rk]; exact z2.mono mm
    | false =>
      simp only [Bool.false_eq_true, if_false] at q4 ⊢
      exact ⟨h4, ks, us, kvs, gg.trans g24, x4, d4, rk, ra.mono g24.mono, by omega, s4, q4⟩
  · have e : i = ps.length := by omega
    subst e
    rw [List.drop_length] at q
    have g0 := g1.trans gg
    exact .inl ⟨wk.stops H h gg.mono sh q.1, fin ks us h kvs D H q.2 (g1.live D hD) hx hd sh rk ra g0⟩
section
variable {X : Cx} {pos : Pos}
theorem le_dc {kx vx tg iter : Expr} {ifs : List Expr} {scope : Scope} {mi : MI} {g : MG} {t : MT} {mk mv : ME} (own : List (Str × Nat)) (hc : X.calm = true) (hN : X.N.Nodup) (hi : LI X tg iter mi) (ok : BlkOk X.N X.env.scope scope own)
    (hg : ∀ (s : Shared) (H : Hp) (C : Addr) (cl : List (Str × Addr)) (fp : List Addr), LG (X.blk s H scope (compEnvC scope cl C X.env) fp) tg (own.map (·.2)) g) (ht : ∀ (s : Shared) (H : Hp) (C : Addr) (cl : List (Str × Addr)) (fp : List Addr), LTs (X.blk s H scope (compEnvC scope cl C X.env) fp) ifs t)
    (hk : ∀ (s : Shared) (H : Hp) (C : Addr) (cl : List (Str × Addr)) (fp : List Addr), LE (X.blk s H scope (compEnvC scope cl C X.env) fp) kx mk)
    (he : ∀ (s : Shared) (H : Hp) (C : Addr) (cl : List (Str × Addr)) (fp : List Addr), LE (X.blk s H scope (compEnvC scope cl C X.env) fp) vx mv) (hs : ∀ x, foldedSetIterable iter X.env x = pure x := by intro _; rfl) :
    LE X (.DictComp kx vx [⟨tg, iter, ifs, 0⟩] scope pos) (mDc mi (own.map (·.2)) g t mk mv) :=
  PE.weak (PE.kp (pe_dc hc hN hi ok hg ht hk he hs)) fun σ H Q ⟨τ, h, Q', s, sh, q, l⟩ => dc_up s sh q fun ks us h2 kvs D H2 q2 h0 hD hd s2 rk r2 g2 => .inr ⟨D, _, rfl, hD, trivial, fun o => by
    have mm : Mono H2 (upd H2 D (.frz o (.dK kvs))) := Mono.dK hD
    refine l (.dct ks us) h2 (.ref D) _ q2 (g2.renew h0 mm) ?_ (s2.drop mm hd)
    exact rel_dct.mpr ⟨D, kvs, rfl, ⟨o, upd_same⟩, rk, r2.mono mm⟩⟩
theorem le_dcM {kx vx tg iter : Expr} {ifs : List Expr} {scope : Scope} {mi : MI} {g : MG} {t : MT} {mk mv : ME} (own : List (Str × Nat)) (hc : X.calm = true) (hN : X.N.Nodup) (hi : LI X tg iter mi) (ok : BlkOk X.N X.env.scope scope own)
    (hg : ∀ (s : Shared) (H : Hp) (C : Addr) (cl : List (Str × Addr)) (fp : List Addr), LG (X.blk s H scope (compEnvC scope cl C X.env) fp) tg (own.map (·.2)) g) (ht : ∀ (s : Shared) (H : Hp) (C : Addr) (cl : List (Str × Addr)) (fp : List Addr), LTs (X.blk s H scope (compEnvC scope cl C X.env) fp) ifs t)
    (hk : ∀ (s : Shared) (H : Hp) (C : Addr) (cl : List (Str × Addr)) (fp : List Addr), LE (X.blk s H scope (compEnvC scope cl C X.env) fp) kx mk)
    (he : ∀ (s : Shared) (H : Hp) (C : Addr) (cl : List (Str × Addr)) (fp : List Addr), LE (X.blk s H scope (compEnvC scope cl C X.env) fp) vx mv) (hs : ∀ x, foldedSetIterable iter X.env x = pure x := by intro _; rfl) :
    LE X (.DictComp kx vx [⟨tg, iter, ifs, 0⟩] scope pos) (mDcM mi (own.map (·.2)) g t mk mv) :=
  PE.weak (pe_dc hc hN hi ok hg ht hk he hs) fun σ H Q ⟨τ, h, Q', s, sh, q, l⟩ => dc_up s sh q fun ks us h2 kvs D H2 q2 h0 hD hd s2 rk r2 g2 => by
    refine l (.ref D) _ (.ref D) H2 (q2 D hd) (g2.own h0) (by simp only [Rel]) fun b p e => ?_
    by_cases hb : b = D
    · subst hb
      rw [up_same] at e; cases e
      exact ⟨_, hD, kvs, rfl, rk, r2⟩
    · rw [up_ne hb] at e
      exact s2 b p e
end
/-! ### list, sorted, len of a dict -/
def rListK : PRA := fun ps h Q => match ps with
  | [p] => (match dctL h p with | some (ks, _) => Q (.lst (ks.map kP)) h | none => False)
  | _ => False
def rSortK : PRA := fun ps h Q => match ps with
  | [p] => (match dctL h p with | some (ks, _) => ∃ xs : List Str, ks = xs.map Sum.inr ∧ xs.length < 64 ∧ ∀ ys : List Str, ys.Perm xs → sortedS ys = true → Q (.lst (ys.map PV.str)) h | none => False)
  | _ => False
def rLenK : PRA := fun ps h Q => match ps with
  | [.ref a] => (match h a with | some (.dct ks _) => Q (.int (ks.length : Nat)) h | _ => False)
  | _ => False
theorem keys_rel {K : PySem.W.Frag} {H : Hp} : ∀ kvs : List (Key × V), Rels K H ((kvs.map (·.1)).map kP) (kvs.map fun kv => kV kv.1)
  | [] => .nil
  | kv :: kvs => .cons (kP_rel kv.1) (keys_rel kvs)
section
variable {X : Cx} {pos p : Pos} {e : Expr} {m : MA}
theorem le_listK (hc : X.calm = true) (hm : X.mg "list" = none) (ha : LAn X [e] 1 m) (hg : Gl X "list" := by rfl) (h1 : starEach [e] X.env = (false, eval e X.env) :: starEach [] X.env := by rfl) (h2 : (backTo pos (starEach [] X.env)).any (·.1) = false := by rfl) : LE X (.Call (.Name "list" p) [e] [] pos) (mBlt rListK m) := by
  refine le_tyK (T := "list") (call_listD hc) ?_ hm ha hg (by decide +kernel) (by decide) (by decide) h1 h2
  intro xs H ps h Q' Q rp s r l
  unfold rListK at r
  split at r
  · rename_i p
    obtain ⟨v, rfl, r1⟩ := rp.one
    split at r
    · rename_i ks vs e
      obtain ⟨a, kvs, rfl, hd, rfl, rr⟩ := dctL_rd r1 s e
      exact ⟨a, kvs, rfl, hd, fun c hc => keep_l l s (keys_rel kvs) r hc⟩
    · exact r.elim
  · exact r.elim
theorem le_sortK (hc : X.calm = true) (hm : X.mg "sorted" = none) (ha : LAn X [e] 1 m) (hg : Gl X "sorted" := by rfl) (h1 : starEach [e] X.env = (false, eval e X.env) :: starEach [] X.env := by rfl) (h2 : (backTo pos (starEach [] X.env)).any (·.1) = false := by rfl) : LE X (.Call (.Name "sorted" p) [e] [] pos) (mBlt rSortK m) := by
  refine le_bltK (id := "sorted") (call_sortedD hc) ?_ hm ha hg (by decide +kernel) (by decide) (by decide) h1 h2
  intro xs H ps h Q' Q rp s r l
  unfold rSortK at r
  split at r
  · rename_i p
    obtain ⟨v, rfl, r1⟩ := rp.one
    split at r
    · rename_i ks vs e
      obtain ⟨a, kvs, rfl, hd, rfl, rr⟩ := dctL_rd r1 s e
      obtain ⟨ys, ey, hl, r⟩ := r
      exact ⟨a, kvs, ys, rfl, hd, ey, hl, fun zs c hp hs hc => keep_l l s (rels_of_strs zs) (r zs hp hs) hc⟩
    · exact r.elim
  · exact r.elim
theorem le_lenK (hm : X.mg "len" = none) (ha : LAn X [e] 1 m) (hg : Gl X "len" := by rfl) (h1 : starEach [e] X.env = (false, eval e X.env) :: starEach [] X.env := by rfl) (h2 : (backTo pos (starEach [] X.env)).any (·.1) = false := by rfl) : LE X (.Call (.Name "len" p) [e] [] pos) (mBlt rLenK m) := by
  refine le_blt (id := "len") call_lenD ?_ hm ha hg (by decide +kernel) (by decide) (by decide) h1 h2
  intro xs H ps h Q' Q rp s r l
  unfold rLenK at r
  split at r
  · rename_i a
    obtain ⟨v, rfl, r1⟩ := rp.one
    have ev := rel_ref.mp r1
    subst ev
    split at r
    · rename_i ks vs e
      obtain ⟨u, eu, kvs, rfl, rfl, rr⟩ := s a _ e
      rw [List.length_map] at r
      exact ⟨a, kvs, rfl, eu, l _ _ _ _ r .refl (rel_int.mpr rfl) s⟩
    · exact r.elim
  · exact r.elim
end
/-! ### len of an instance -/
section
variable {prog : Program} {w : World} {A : Around} {E : Value → Shared → Prop} {K : PySem.W.Frag} {s : Shared} {a ox C f : Addr} {od : Option Obj}
theorem special_meth {ob : Obj} {name : Str} {args : List Value} {Q : Option Value → Shared → Prop} (X : K.In s.heap) (I : PySem.W.InstAt s.heap a ob C od) (hf : PySem.W.findIn K (.ref C) name = some (some (.ref f))) (ht : PySem.W.isFn K (.ref f) = true)
    (hc : wpAny (model prog w) A (call (.ref f) (.ref a :: args)) (fun v s' => Q (some v) s') E s) : wpAny (model prog w) A (callSpecial? (.ref a) name args) Q E s := by
  unfold callSpecial? specialOf
  refine wpAny_bind (wpAny_bind (I.type.here ((PySem.W.looks_findIn X hf).here ?_)))
  refine wpAny_holding (wpAny_bind ((PySem.W.bind_fn X (.ref a) (beq_iff_eq.mp ht)).here ?_))
  exact wpAny_bind (wpAny_mono hc (fun v s' h => wpAny_pure h) fun _ _ z => z)
theorem len_ins {ob : Obj} {Q : Value → Shared → Prop} (X : K.In s.heap) (I : PySem.W.InstAt s.heap a ob C od) (hf : PySem.W.findIn K (.ref C) "__len__" = some (some (.ref f))) (ht : PySem.W.isFn K (.ref f) = true)
    (hcall : wpAny (model prog w) A.in1 (call (.ref f) [.ref a]) (fun r s' => ∃ n u, r = .int n u ∧ 0 ≤ n ∧ n < 2 ^ 63 ∧ Q (.int n s'.toks) { s' with toks := s'.toks + 1 }) E s) :
    wpAny (model prog w) A (call (.builtin "len") [.ref a]) Q E s := by
  refine Calls.call_function_entry kind_len plain_len entry_len (args_len1 _) ?_
  unfold Builtin.«len»
  refine wpAny_bind (m := oneArg "len" _) (wpAny_pure ?_)
  refine wpAny_bind (m := callSpecial? (.ref a) (Str.ofString "__len__")) (special_meth X I hf ht (wpAny_mono hcall (fun r s' hr => ?_) fun _ _ y => y))
  obtain ⟨n, u, rfl, h0, h1, hq⟩ := hr
  refine wpAny_bind (wpAny_holding (wpAny_pure ?_))
  refine wpAny_bind (wpAny_letGo ?_)
  show wpAny _ _ (if n < 0 then _ else _) _ _ _
  rw [if_neg (by omega)]
  show wpAny _ _ (if n ≥ 2 ^ 63 then _ else _) _ _ _
  rw [if_neg (by omega)]
  exact wpAny_bind (wpAny_mkInt (wpAny_pure ⟨_, rfl, hq⟩))
end
def pat1 : Pat := ⟨1, [], [0], []⟩
/-- len(o) -/
def rLenO (C : Addr) (sp : SpP) : PRA := fun ps h Q => match ps with
  | [.ref a] => (match h a with
    | some (.ins C' _ _) => C' = C ∧ sp [.ref a] h fun v h2 => ∃ n : Nat, v = .int n ∧ n ≤ SZ ∧ Q v h2
    | _ => False)
  | _ => False
section
variable {X : Cx} {pos p : Pos} {e : Expr} {m : MA} {k : Nat} {C : Addr} {ps : List Str} {sp : SpP} {pats : List Pat}
theorem call_lenO (c : FnM X.prog X.w X.K X.mg X.base k C "__len__" ps sp pats) (hb : pat1 ∈ pats) {kk : Nat} (hr : Room kk X.A) (hj : k + 1 ≤ kk) (hG : X.A.guards = some []) :
    CallR X (.builtin "len") (fun xs H Q => ∃ a dx fs h Q', xs = [.ref a] ∧ H a = some (.ins C dx fs) ∧ Sim X.K H h ∧ sp [.ref a] h Q' ∧ LQ X.K H h Q' (fun v H2 => ∃ n : Nat, v = .int n ∧ n ≤ SZ ∧ Q v H2)) := by
  intro pins s σ H xs us Q I r hq
  obtain ⟨a, dx, fs, h, Q', rfl, ha, sh, q, l⟩ := hq
  obtain ⟨u, rfl, ru⟩ := vals1 r
  obtain rfl : u = Value.ref a := ru
  obtain ⟨f, fd, hM, F⟩ := c.ex
  obtain ⟨mA, O, _, _, _, _⟩ := ins_get I.hok ha
  obtain ⟨od, J, _⟩ := O.look
  obtain ⟨mv, dv, rv, rd, to⟩ := (F.b pat1 hb).ex
  have hl : (pick pat1.π ([PV.ref a] ++ [] ++ pat1.ds)).length = ps.length := (F.b pat1 hb).len _ rfl
  have R0 : Vals [V.ref a] [Value.ref a] := .cons rfl .nil
  have R : Vals (pick pat1.π ([V.ref a] ++ [] ++ dv)) (pick pat1.π ([Value.ref a] ++ [] ++ mv)) := Vals.pick ((R0.append (.nil : Vals [] [])).append rv) pat1.π
  have RR : Rels X.K H (pick pat1.π ([PV.ref a] ++ [] ++ pat1.ds)) (pick pat1.π ([V.ref a] ++ [] ++ dv)) := Rels.pick (((Rels.cons (rel_ref.mpr rfl) .nil).append .nil).append (rd H)) pat1.π
  refine len_ins I.kIn J hM.at_ hM.fn (wpAny_call (codeAny_mono (F.g.run X.A.in1 X.stack s H ⟨[.ref a], []⟩ _ _ (fun v H2 => ∃ n : Nat, v = .int n ∧ n ≤ SZ ∧ Q v H2) (hr.mono hj).in1 hG I.env0.in1 (to s [.ref a] [] I.kIn rfl rfl) R ⟨_, h, Q', hl, RR, sh, q, l⟩) fun r s' hq' => ?_))
  cases r with
  | error e => exact False.elim hq'
  | ok fl =>
    cases fl with
    | ret u =>
      obtain ⟨v, H', I3, rv, n, rfl, hn, q3⟩ := I.after hq'
      obtain ⟨t, rfl⟩ := rv
      have hz : SZ = 16777216 := rfl
      exact ⟨_, _, rfl, by omega, by omega, ⟨.int n, H', I3.tok _, ⟨_, rfl⟩, q3⟩⟩
    | next => exact False.elim hq'
    | brk => exact False.elim hq'
    | cont => exact False.elim hq'
theorem le_lenO (c : FnM X.prog X.w X.K X.mg X.base k C "__len__" ps sp pats) (hb : pat1 ∈ pats) {kk : Nat} (hr : Room kk X.A) (hj : k + 1 ≤ kk) (hG : X.A.guards = some []) (hm : X.mg "len" = none) (ha : LAn X [e] 1 m) (hg : Gl X "len" := by rfl)
    (h1 : starEach [e] X.env = (false, eval e X.env) :: starEach [] X.env := by rfl) (h2 : (backTo pos (starEach [] X.env)).any (·.1) = false := by rfl) : LE X (.Call (.Name "len" p) [e] [] pos) (mBlt (rLenO C sp) m) := by
  refine le_blt (id := "len") (call_lenO c hb hr hj hG) ?_ hm ha hg (by decide +kernel) (by decide) (by decide) h1 h2
  intro xs H ps h Q' Q rp s r l
  unfold rLenO at r
  split at r
  · rename_i a
    obtain ⟨v, rfl, r1⟩ := rp.one
    have ev := rel_ref.mp r1
    subst ev
    split at r
    · rename_i C' ns vs e
      obtain ⟨rfl, r⟩ := r
      obtain ⟨u, eu, dx, fs, rfl, rfl, rr⟩ := s a _ e
      refine ⟨a, dx, fs, h, _, rfl, eu, s, r, fun p h1 v H1 ⟨n, en, hn, q⟩ g1 r1 s1 => ?_⟩
      subst en
      exact ⟨n, rel_int.mp r1, hn, l _ _ _ _ q g1 r1 s1⟩
    · exact r.elim
  · exact r.elim
end
end N3

/-! what a call binds, by patterns -/
namespace N3
open PySem PySem.Spec PyProof.Rows L2
def Kwd (K : PySem.W.Frag) (D : Addr) (ms : List (Str × V)) : Prop := ∀ q ∈ ms, ∃ u, PySem.W.nsIn K D q.1 = some (some u) ∧ RelV q.2 u
theorem kwd_nil {K : PySem.W.Frag} {D : Addr} : Kwd K D [] := fun _ h => nomatch h
theorem kwd_cons {K : PySem.W.Frag} {D : Addr} {x : Str} {v : V} {u : Value} {ms : List (Str × V)} (h : PySem.W.nsIn K D x = some (some u)) (r : RelV v u) (t : Kwd K D ms) : Kwd K D ((x, v) :: ms) := List.forall_mem_cons.mpr ⟨⟨u, h, r⟩, t⟩
def toV : PV → V
  | .int n => .int n
  | .bl b => .bl b
  | .str s => .str s
  | _ => .non
theorem toV_rel {K : PySem.W.Frag} {H : Hp} : ∀ {ps : List PV} {vs : List V}, vs = ps.map toV → (∀ p ∈ ps, match p with | .int _ | .bl _ | .str _ | .non => True | _ => False) → Rels K H ps vs
  | [], _, rfl, _ => .nil
  | p :: ps, _, rfl, h => by
    refine .cons ?_ (toV_rel rfl fun q hq => h q (List.mem_cons_of_mem _ hq))
    have := h p (List.mem_cons_self ..)
    cases p with
    | int n => exact rel_int.mpr rfl
    | bl b => simp only [Rel, toV]
    | str s => exact rel_str.mpr rfl
    | non => exact rel_non.mpr rfl
    | _ => exact this.elim
section
variable {K : PySem.W.Frag} {x qual : Str} {st : Stmt} {ps : List Str} {b : Pat} {kV doc pm cdv ct : Value} {an : Option Addr} {D : Addr}
theorem kb_all (e : b.ds = []) (h : ∀ us ws : List Value, us.length = b.n → ws.length = b.ks.length → bindArgs (PySem.W.fnOf x qual (defArgs st) (defBody st) (defScope st) .none kV doc pm an cdv ct) ⟨us, b.ks.zip ws⟩ = pure (ps.zip (pick b.π (us ++ ws ++ []))))
    (hl : ∀ l : List PV, l.length = b.n + b.ks.length + b.ds.length → (pick b.π l).length = ps.length) : KbP K (PySem.W.fnOf x qual (defArgs st) (defBody st) (defScope st) .none kV doc pm an cdv ct) ps b :=
  ⟨⟨[], [], .nil, fun H => by rw [e]; exact .nil, fun s us ws _ h1 h2 => BindsTo.of_eq (h us ws h1 h2)⟩, hl⟩
theorem kb_kwo {ms : List (Str × V)} (e : ms.map (·.2) = b.ds.map toV) (hd : Kwd K D ms)
    (h : ∀ us mv ws : List Value, us.length = b.n → mv.length = ms.length → ws.length = b.ks.length → KwChain D ((ms.map (·.1)).zip mv) (bindArgs (PySem.W.fnOf x qual (defArgs st) (defBody st) (defScope st) .none (.ref D) doc pm an cdv ct) ⟨us, b.ks.zip ws⟩) (ps.zip (pick b.π (us ++ ws ++ mv))))
    (hl : ∀ l : List PV, l.length = b.n + b.ks.length + b.ds.length → (pick b.π l).length = ps.length) (hp : ∀ p ∈ b.ds, match p with | .int _ | .bl _ | .str _ | .non => True | _ => False) : KbP K (PySem.W.fnOf x qual (defArgs st) (defBody st) (defScope st) .none (.ref D) doc pm an cdv ct) ps b := by
  obtain ⟨mv, l, rk, hks⟩ := kwd_vals hd
  exact ⟨⟨mv, ms.map (·.2), rk, fun H => toV_rel e hp, fun s us ws X h1 h2 => BindsTo.of_looks fun M => KwChain.looks X hks (h us mv ws h1 l h2)⟩, hl⟩
end
end N3

/-! a dict's values gone along; plain defs called by patterns -/
namespace N3
open PySem PySem.Spec PyProof.Rows L2
def mValsI (m : ME) : MI := fun τ h Q => m τ h fun p h1 => match p with
  | .dct ks vs => ks.length ≤ SZ ∧ Q vs (fun _ => True) h1
  | .ref a => (match h1 a with | some (.lck ks vs) => ks.length ≤ SZ ∧ Q vs (gdK p ks vs) h1 | _ => False)
  | _ => False
section
variable {X : Cx} {tg e : Expr} {pos apos cpos : Pos} {m : ME}
theorem li_vals (he : LE X e m) (hbase : attributeBase e "values" X.env (eval e X.env) = eval e X.env := by rfl) (hline : (apos.endLine == cpos.line) = true := by rfl) :
    LI X tg (.Call (.Attribute e "values" apos) [] [] cpos) (mValsI m) := by
  refine PI.weak (pi_values he hbase hline) fun σ H R ⟨τ, h, Q', s, sh, q, l⟩ => ?_
  refine ⟨τ, h, _, s, sh, q, fun p h1 v H1 q1 g1 r1 s1 => ?_⟩
  have go : ∀ (ks : List Key) (vs : List PV) (gd : PH → Prop), (p = .dct ks vs ∨ ∃ a, p = .ref a ∧ h1 a = some (.lck ks vs)) → ks.length ≤ SZ → Q' vs gd h1 →
      ∃ d o kvs, v = .ref d ∧ H1 d = some (.frz o (.dK kvs)) ∧ R (Itd d o kvs) H1 := fun ks vs gd e hz q1 => by
    obtain ⟨a, o, kvs, rfl, hf, rfl, rr⟩ := frz_walk r1 s1 e
    have ll : vs.length = kvs.length := by rw [rr.length, List.length_map]
    refine ⟨a, o, kvs, rfl, hf, l _ _ _ _ _ q1 g1 s1 ⟨?_, fun i H h hi m _ _ => ?_, fun H h m _ _ => ?_, fun i H h y H' p hp m sh' _ hy => ?_⟩⟩
    · rw [ll]
      rw [List.length_map] at hz
      exact sz_le hz
    · rw [ll] at hi
      exact ⟨m.f _ _ _ hf, hi⟩
    · rw [ll]
      exact ⟨m.f _ _ _ hf, Nat.le_refl _⟩
    · obtain ⟨rfl, k, ek⟩ := hy
      obtain ⟨pw, epw, rw'⟩ := (rr.mono m).get' (i := i) (v := y) (by rw [List.getElem?_map, ek]; rfl)
      rw [epw] at hp
      simp only [Option.some.injEq] at hp
      subst hp
      exact ⟨.refl, sh', rw'⟩
  split at q1
  · exact go _ _ _ (.inl rfl) q1.1 q1.2
  · rename_i a
    split at q1
    · rename_i ks vs e1
      exact go ks vs _ (.inr ⟨a, rfl, e1⟩) q1.1 q1.2
    · exact q1.elim
  · exact q1.elim
end
/-- a def of the top that is called by patterns -/
structure FnP (P : Program) (w : World) (K : PySem.W.Frag) (mg : Str → Option Value) (base : Heap) (k : Nat) (x : Str) (ps : List Str) (sp : SpP) (pats : List Pat) : Prop where
  ex : ∃ (f : Addr) (fd : FuncData), mg x = some (.ref f) ∧ FnC P w K mg base k f fd ps sp pats
def mCallP (sp : SpP) (b : Pat) (m mk : MA) : ME := fun τ h Q => m τ h fun ps h1 => mk τ h1 fun qs h2 => sp (pick b.π (ps ++ qs ++ b.ds)) h2 Q
section
variable {X : Cx} {k : Nat} {ps : List Str} {sp : SpP} {pats : List Pat} {b : Pat} {x : Str} {p pos : Pos} {e : Expr} {es : List Expr} {kws : List Keyword} {m mk : MA}
theorem le_fnP (c : FnP X.prog X.w X.K X.mg X.base k x ps sp pats) {j n m' : Nat} (hb : pats[j]? = some b) {kk : Nat} (hr : Room kk X.A) (hj : k ≤ kk) (hG : X.A.guards = some []) (ha : LAn X (e :: es) n m) (hkw : LKn X kws m' mk) (hn : n = b.n := by rfl) (hm : m' = b.ks.length := by rfl) (hg : Gl X x := by rfl)
    (hall : (backToKw pos (keywordEach kws X.env)).all (·.1.isSome) = true := by rfl) (hks : (backToKw pos (keywordEach kws X.env)).filterMap (·.1) = b.ks := by rfl) (hdb : (x == ("__debug__" : Str)) = false := by decide)
    (he : starEach (e :: es) X.env = (false, eval e X.env) :: starEach es X.env := by rfl) (hpl : ((backTo pos (starEach (e :: es) X.env)).any (·.1) || (backToKw pos (keywordEach kws X.env)).any (·.1.isNone)) = false := by rfl) :
    LE X (.Call (.Name x p) (e :: es) kws pos) (mCallP sp b m mk) := by
  obtain ⟨f, fd, at_, F⟩ := c.ex
  have hbm : b ∈ pats := List.mem_of_getElem? hb
  refine ⟨fun pins s σ H Q I ⟨τ, h, Q', ss, sh, q, l⟩ => ?_⟩
  refine wpAny_Call_Name_kw (ld_glob I hg at_ ?_ hdb)
  refine PySem.W.callWith_KW (h₀ := X.base) I.ok.mod.kin F.kp hall (thn (ha.run pos pins s σ H (fun vs H2 => ∃ qs h2, vs.length = n ∧ Rels X.K H2 qs vs ∧ Go H h H2 h2 ∧ Sim X.K H2 h2 ∧ mk τ h2 fun rs h3 => sp (pick b.π (qs ++ rs ++ b.ds)) h3 Q') I
    ⟨τ, h, _, ss, sh, q, fun qs h2 vs H2 q2 hl g2 r2 s2 => ⟨qs, h2, by rw [← r2.length, hl], r2, g2, s2, q2⟩⟩) fun us s2 ⟨vs, H2, I2, r2, qs, h2, lv, rq, g2, sh2, q2⟩ => ?_) hpl he
  refine thn (hkw.run pos pins s2 σ H2 (fun zs H3 => ∃ rs h3, zs.length = m' ∧ Rels X.K H3 rs zs ∧ Go H2 h2 H3 h3 ∧ Sim X.K H3 h3 ∧ sp (pick b.π (qs ++ rs ++ b.ds)) h3 Q') I2
    ⟨τ, h2, _, ss.mono g2.mono, sh2, q2, fun rs h3 zs H3 q3 hz g3 r3 s3 => ⟨rs, h3, by rw [← r3.length, hz], r3, g3, s3, q3⟩⟩) fun ws s3 ⟨zs, H3, I3, r3, rs, h3, lz, rz, g3, sh3, q3⟩ => ⟨I3.kIn, ?_⟩
  rw [hks]
  exact call_c F hbm (hr.mono hj) hG I3 r2 r3 (rq.mono g3.mono) rz sh3 (by show us.length = _; rw [← r2.length, lv, hn]) (by rw [← r3.length, lz, hm]) q3 (l.mono (g2.trans g3))
end
end N3

namespace N3
open PySem PySem.Spec PyProof.Rows L2

/-! ### the deck that the laws draw from -/
abbrev kLeft : Key := .inr ("left" : Str)
abbrev kEvery : Key := .inr ("every" : Str)
abbrev kGone : Key := .inr ("gone" : Str)
abbrev dkeys : List Key := [kLeft, kEvery, kGone]
theorem lk_left {a b c : PV} : lk dkeys [a, b, c] (.inr ("left" : Str)) = some a := if_pos rfl
theorem lk_every {a b c : PV} : lk dkeys [a, b, c] (.inr ("every" : Str)) = some b := by
  have h : ¬ (kLeft = kEvery) := by decide +kernel
  exact (if_neg h).trans (if_pos rfl)
theorem lk_gone {a b c : PV} : lk dkeys [a, b, c] (.inr ("gone" : Str)) = some c := by
  have h : ¬ (kLeft = kGone) := by decide +kernel
  have h2 : ¬ (kEvery = kGone) := by decide +kernel
  exact (if_neg h).trans ((if_neg h2).trans (if_pos rfl))
theorem pk_gone : pk dkeys (.inr ("gone" : Str)) = dkeys := by
  have h : hasK dkeys kGone = true := by decide +kernel
  exact if_pos h
theorem pvs_gone {a b c v : PV} : pvs dkeys [a, b, c] (.inr ("gone" : Str)) v = [a, b, v] := by
  have h : hasK dkeys kGone = true := by decide +kernel
  have h1 : ¬ (kLeft = kGone) := by decide +kernel
  have h2 : ¬ (kEvery = kGone) := by decide +kernel
  refine (if_pos h).trans ?_
  show [if kLeft = kGone then v else a, if kEvery = kGone then v else b, if kGone = kGone then v else c] = _
  rw [if_neg h1, if_neg h2, if_pos rfl]
/-- a deck's two objects, and all else -/
structure Dk where
  d : Addr
  l : Addr
  ev : Int
  h0 : PH
  ne : d ≠ l
def Dk.hp (D : Dk) (xs : List Int) (gone : Int) : PH := up (up D.h0 D.d (.lst [.ref D.l, .int D.ev, .int gone])) D.l (.lst (xs.map PV.int))
/-- at most n draws have been made -/
def Dk.At (D : Dk) (n : Nat) (h : PH) : Prop := ∃ (xs : List Int) (gone : Int), xs.length ≤ 63 ∧ 0 ≤ gone ∧ gone ≤ n ∧ h = D.hp xs gone
theorem Dk.At.mono {D : Dk} {n m : Nat} {h : PH} (a : D.At n h) (hm : n ≤ m) : D.At m h := by
  obtain ⟨xs, g, h1, h2, h3, e⟩ := a
  exact ⟨xs, g, h1, h2, by omega, e⟩
section
variable {D : Dk} {xs ys : List Int} {g g' : Int}
theorem Dk.at_d : D.hp xs g D.d = some (.lst [.ref D.l, .int D.ev, .int g]) := by unfold Dk.hp; rw [up_ne D.ne, up_same]
theorem Dk.at_l : D.hp xs g D.l = some (.lst (xs.map PV.int)) := by unfold Dk.hp; rw [up_same]
theorem Dk.put_d : up (D.hp xs g) D.d (.lst [.ref D.l, .int D.ev, .int g']) = D.hp xs g' := by
  unfold Dk.hp; rw [up_swap D.ne.symm, up_up]
theorem Dk.put_l : up (D.hp xs g) D.l (.lst (ys.map PV.int)) = D.hp ys g := by unfold Dk.hp; rw [up_up]
end
/-- draw(deck, many): any number below many -/
def spDraw : SpP := fun ps h Q => ∃ (D : Dk) (n : Nat) (many : Int), ps = [.ref D.d, .int many] ∧ D.At n h ∧ n < 1000000000 ∧ 1 ≤ many ∧ many < 1073741824 ∧ ∀ r h', 0 ≤ r → r < many → D.At (n + 1) h' → Q (.int r) h'
/-- deck(script) -/
def spDeck : SpP := fun ps h Q => ∃ ns : List Int, ps = [.lst (ns.map PV.int)] ∧ ns.length ≤ 63 ∧ ∀ (D : Dk) (h' : PH), D.h0 = h → D.At 0 h' → Q (.ref D.d) h'
def mDraw : MS :=
  mSeq (mDput (mB rAdd (mB rIx (mVar 0) (mC (.int 2))) (mC (.int 1))) (mVar 0) (mC (.int 2)))
  (mSeq (mAsg (mB rIx (mVar 0) (mC (.int 1))) (gN 2))
  (mSeq (mIfS (mTest (mB rNe (mB rIx (mVar 0) (mC (.int 0))) (mLst (mNil)))) (mSeq (mAsg (mPop (mB rIx (mVar 0) (mC (.int 0)))) (gN 2))
  (mSeq (mIfS (mTest (mB rGe (mVar 2) (mB rPow (mC (.int 10)) (mC (.int 18))))) (mSeq (mDrop (mAppend (mB rIx (mVar 0) (mC (.int 0))) (mCons (mB rDiv (mVar 2) (mVar 1)) (mNil))))
  (mRet (mB rMod (mVar 2) (mVar 1)))) (mNx))
  (mAsg (mB rAdd (mVar 2) (mB rIx (mVar 0) (mC (.int 1)))) (gN 2)))) (mNx))
  (mSeq (mAsg (mB rMod (mB rMul (mB rAdd (mB rAdd (mB rMod (mVar 2) (mC (.int 2147483629))) (mB rMul (mB rMul (mC (.int 86028121)) (mB rIx (mVar 0) (mC (.int 2)))) (mB rIx (mVar 0) (mC (.int 2))))) (mC (.int 61))) (mC (.int 40692))) (mC (.int 2147483647))) (gN 3))
  (mSeq (mAsg (mB rMod (mB rAdd (mB rAdd (mB rMul (mVar 3) (mVar 3)) (mB rMul (mC (.int 69621)) (mB rIx (mVar 0) (mC (.int 2))))) (mC (.int 29))) (mC (.int 2147483587))) (gN 3))
  (mRet (mB rMod (mB rDiv (mB rMod (mB rMul (mVar 3) (mC (.int 48271))) (mC (.int 2147483563))) (mC (.int 64))) (mVar 1)))))))
/-- behind a statement: what its end hands on -/
theorem seq_mid {a b : MS} {D : PEnds} {τ : PSt} {h : PH} (mid : PSt → PH → Prop) (hb : ∀ τ h, mid τ h → b D τ h) (ha : ∀ P : PSt → PH → Prop, (∀ τ h, mid τ h → P τ h) → a { D with nx := P } τ h) : mSeq a b D τ h := ha (b D) hb
/-- a statement by itself, what follows unseen -/
theorem seq_step {a b : MS} {D : PEnds} {τ : PSt} {h : PH} (ha : ∀ P : PSt → PH → Prop, P = b D → a { D with nx := P } τ h) : mSeq a b D τ h := ha _ rfl
/-! ### loops by what holds at each turn -/
theorem forL_of {gd : PH → Prop} {g : MG} {b : MS} {D : PEnds} (W : List PV → PSt → PH → Prop)
    (step : ∀ p ps τ h, W (p :: ps) τ h → gd h ∧ ∀ P : PSt → PH → Prop, (∀ τ h, W ps τ h → P τ h) → g p τ h fun τ1 h1 => b { D with nx := P, ct := P, bk := D.nx } τ1 h1)
    (fin : ∀ τ h, W [] τ h → gd h ∧ D.nx τ h) : ∀ ps τ h, W ps τ h → forL gd g b D ps τ h
  | [], τ, h, w => fin τ h w
  | p :: ps, τ, h, w => ⟨(step p ps τ h w).1, (step p ps τ h w).2 (forL gd g b D ps) fun τ h w => forL_of W step fin ps τ h w⟩
theorem lcL_of {gd : PH → Prop} {τ : PSt} {g : MG} {t : MT} {m : ME} {Q : List PV → PH → Prop} (W : List PV → List PV → PH → Prop)
    (step : ∀ p ps acc h, W (p :: ps) acc h → gd h ∧ ∀ P : List PV → PH → Prop, (∀ acc h, W ps acc h → P acc h) → g p τ h fun τ1 h1 => t τ1 h1 fun b h2 => if b = true then m τ1 h2 fun v h3 => P (acc ++ [v]) h3 else P acc h2)
    (fin : ∀ acc h, W [] acc h → gd h ∧ Q acc h) : ∀ ps acc h, W ps acc h → lcL gd τ g t m ps acc h Q
  | [], acc, h, w => fin acc h w
  | p :: ps, acc, h, w => ⟨(step p ps acc h w).1, (step p ps acc h w).2 (fun acc h => lcL gd τ g t m ps acc h Q) fun acc h w => lcL_of W step fin ps acc h w⟩
theorem flats_ints : ∀ ns : List Int, flats (ns.map PV.int) = true
  | [] => rfl
  | n :: ns => by show (true && flats (ns.map PV.int)) = true; rw [flats_ints ns]; rfl
theorem depths_ints : ∀ ns : List Int, PyData.depthAll (toDs (ns.map PV.int)) = 0
  | [] => by simp [toDs, PyData.depthAll]
  | n :: ns => by
    have ih := depths_ints ns
    simp [toDs, toD, PyData.depthAll, PyData.depth, ih]
theorem depth_ints (ns : List Int) : (PyData.list (toDs (ns.map PV.int))).depth ≤ 64 := by
  simp [PyData.depth, depths_ints]
theorem Dk.list_l {D : Dk} {xs : List Int} {g : Int} : listAt (D.hp xs g) (.ref D.l) := ⟨_, _, rfl, Dk.at_l⟩
/-- a comprehension whose turns change nothing: the items' answers -/
theorem lcL_map {gd : PH → Prop} {τ : PSt} {g : MG} {m : ME} {h : PH} {Q : List PV → PH → Prop} (f : PV → PV) (hg : gd h) :
    ∀ (ps acc : List PV), (∀ p ∈ ps, ∀ P : PV → PH → Prop, P (f p) h → g p τ h fun τ1 h1 => m τ1 h1 P) → Q (acc ++ ps.map f) h → lcL gd τ g mYes m ps acc h Q
  | [], acc, _, q => ⟨hg, by simpa using q⟩
  | p :: ps, acc, hs, q => by
    refine ⟨hg, ?_⟩
    have z := hs p List.mem_cons_self (fun v h3 => lcL gd τ g mYes m ps (acc ++ [v]) h3 Q) (lcL_map f hg ps _ (fun x hx => hs x (List.mem_cons_of_mem _ hx)) (by simpa using q))
    simpa only [mYes, if_true] using z
def mDeck : MS :=
  mSeq (mPar 1 2 (mCons (mBlt rListA (mCons (mSl (mVar 0) (mNoPart) (mPart (mC (.int 63)))) (mNil))) (mCons (mC (.int 30803)) (mNil))))
  (mSeq (mFor (mSeqs (mVar 1)) (gN 3) (mAsg (mB rMod (mB rAdd (mB rAdd (mB rMul (mVar 2) (mC (.int 39373))) (mB rMod (mVar 3) (mC (.int 2147483629)))) (mC (.int 41))) (mC (.int 2147483587))) (gN 2)))
  (mRet (mLstM (mCons (mRevM (mVar 1)) (mCons (mVar 2) (mCons (mC (.int 0)) (mNil)))))))
theorem emod_ex {z n : Int} {R : Int → Prop} (hn : 0 < n) (k : ∀ w, 0 ≤ w → w < n → R w) : R (z % n) := k _ (Int.emod_nonneg _ (by omega)) (Int.emod_lt_of_pos _ hn)
theorem at_0 {a b c : PV} : atI [a, b, c] 0 = some a := rfl
theorem at_1 {a b c : PV} : atI [a, b, c] 1 = some b := rfl
theorem at_2 {a b c : PV} : atI [a, b, c] 2 = some c := rfl
theorem pure_draw : ∀ qs h Q, qs.length = 2 → spDraw qs h Q → mDraw (ends Q) (sp0 4 qs) h := by
  rintro _ _ Q - ⟨D, n, many, rfl, ⟨xs, gone, hx, hg0, hgn, rfl⟩, hn, hm1, hm2, k⟩
  unfold mDraw
  have many0 : (0 : Int) < many := by omega
  have fin : ∀ (ys : List Int) (r : Int), ys.length ≤ 63 → 0 ≤ r → r < many → Q (.int r) (D.hp ys (gone + 1)) := fun ys r hy h1 h2 => k r _ h1 h2 ⟨ys, gone + 1, hy, by omega, by omega, rfl⟩
  refine seq_step fun P hP => ?_
  simp only [N3.mDput, N3.mB, N3.mU, N3.mVar, N3.mC, N3.sp0, N3.gt, N3.st, N3.rIx, N3.seqL, N3.dctL, N3.kOf, N3.rAdd, N3.mAsg, N3.gN, N3.mIfS, N3.mTest, N3.mPop, N3.mAppend, N3.mDrop, N3.mRet, N3.mRetN, N3.mNx, N3.mBrk, N3.mCnt, N3.mLst, N3.mLstM, N3.mCons, N3.mNil, N3.mTup, N3.mBlt, N3.mKw, N3.cat2, N3.cat2r, N3.gS, N3.gL, N3.mSlM, N3.rSlM, N3.mM1, N3.mSl, N3.mRev, N3.mStep, N3.mRevM, N3.mPart, N3.mNoPart, N3.rII, N3.rII0, N3.rIB, N3.rCmp, N3.rLt, N3.rLe, N3.rGt, N3.rGe, N3.mIsI, N3.tn, N3.isI, N3.mDisp, N3.mDct0, N3.mDct0M, N3.mPar3, N3.mAug, N3.rIAdd, N3.mExtend, N3.mInsert, N3.mPopAt, N3.rMin2, N3.rMax2, N3.rIntT, N3.rSplit, N3.rSplitM, N3.rAddM, N3.gPut, N3.mFmt, N3.mJs, N3.mJoin, N3.rDictP, N3.mRepM, N3.rListA, N3.rSortA, N3.mLc2, N3.lcI, N3.lcO, N3.rAllB, N3.rAnyB, N3.rStrI, N3.rIntO, N3.vwL, N3.rMul, N3.rMulT, N3.rNeg, N3.rSub, N3.rDiv, N3.rMod, N3.rPow, N3.mPar, N3.mAndT, N3.mOrT, N3.mNotT, N3.mAnd, N3.mOr, N3.mOrV, N3.mAndV, N3.trv, N3.mNot, N3.mIf, N3.mChn, N3.mKeep, N3.mRep, N3.mDispM, N3.mPs, N3.ends, N3.rLen, N3.rListOf, N3.rListOfM, N3.rTupOf, N3.rSumI, N3.listed, N3.rSl, N3.rRev, N3.rEq, N3.rNe, N3.rIsN, N3.rNotN, N3.isNon, N3.vw, N3.mYes, N3.gT, N3.gsCons, N3.gsNil, N3.mFor, N3.mSeqs, N3.mLc, N3.mLcM, N3.mRng1, N3.mRng2, N3.mEnum, N3.mEnumA, N3.mZip, N3.wp, N3.rJoin, N3.rSS, N3.rIdxS, N3.rRepr, N3.flat, N3.flats, N3.toD, N3.toDs, List.length_cons, List.length_nil, List.append_eq, List.cons_append, List.nil_append, List.map_cons, List.map_nil, if_true, if_false, Bool.false_eq_true, decide_eq_true_eq, Option.some.injEq, true_and, and_true, Bool.not_true, Bool.not_false, reduceCtorEq, Bool.and_self, Bool.and_true, Bool.true_and, ite_true, ite_false, Dk.at_d, Dk.at_l, at_0, at_1, at_2]
  show P [some (.ref D.d), some (.int many), none, none] (up (D.hp xs gone) D.d (.lst [.ref D.l, .int D.ev, .int (gone + 1)]))
  rw [Dk.put_d]
  subst hP
  refine seq_step fun P hP => ?_
  simp only [N3.mDput, N3.mB, N3.mU, N3.mVar, N3.mC, N3.sp0, N3.gt, N3.st, N3.rIx, N3.seqL, N3.dctL, N3.kOf, N3.rAdd, N3.mAsg, N3.gN, N3.mIfS, N3.mTest, N3.mPop, N3.mAppend, N3.mDrop, N3.mRet, N3.mRetN, N3.mNx, N3.mBrk, N3.mCnt, N3.mLst, N3.mLstM, N3.mCons, N3.mNil, N3.mTup, N3.mBlt, N3.mKw, N3.cat2, N3.cat2r, N3.gS, N3.gL, N3.mSlM, N3.rSlM, N3.mM1, N3.mSl, N3.mRev, N3.mStep, N3.mRevM, N3.mPart, N3.mNoPart, N3.rII, N3.rII0, N3.rIB, N3.rCmp, N3.rLt, N3.rLe, N3.rGt, N3.rGe, N3.mIsI, N3.tn, N3.isI, N3.mDisp, N3.mDct0, N3.mDct0M, N3.mPar3, N3.mAug, N3.rIAdd, N3.mExtend, N3.mInsert, N3.mPopAt, N3.rMin2, N3.rMax2, N3.rIntT, N3.rSplit, N3.rSplitM, N3.rAddM, N3.gPut, N3.mFmt, N3.mJs, N3.mJoin, N3.rDictP, N3.mRepM, N3.rListA, N3.rSortA, N3.mLc2, N3.lcI, N3.lcO, N3.rAllB, N3.rAnyB, N3.rStrI, N3.rIntO, N3.vwL, N3.rMul, N3.rMulT, N3.rNeg, N3.rSub, N3.rDiv, N3.rMod, N3.rPow, N3.mPar, N3.mAndT, N3.mOrT, N3.mNotT, N3.mAnd, N3.mOr, N3.mOrV, N3.mAndV, N3.trv, N3.mNot, N3.mIf, N3.mChn, N3.mKeep, N3.mRep, N3.mDispM, N3.mPs, N3.ends, N3.rLen, N3.rListOf, N3.rListOfM, N3.rTupOf, N3.rSumI, N3.listed, N3.rSl, N3.rRev, N3.rEq, N3.rNe, N3.rIsN, N3.rNotN, N3.isNon, N3.vw, N3.mYes, N3.gT, N3.gsCons, N3.gsNil, N3.mFor, N3.mSeqs, N3.mLc, N3.mLcM, N3.mRng1, N3.mRng2, N3.mEnum, N3.mEnumA, N3.mZip, N3.wp, N3.rJoin, N3.rSS, N3.rIdxS, N3.rRepr, N3.flat, N3.flats, N3.toD, N3.toDs, List.length_cons, List.length_nil, List.append_eq, List.cons_append, List.nil_append, List.map_cons, List.map_nil, if_true, if_false, Bool.false_eq_true, decide_eq_true_eq, Option.some.injEq, true_and, and_true, Bool.not_true, Bool.not_false, reduceCtorEq, Bool.and_self, Bool.and_true, Bool.true_and, ite_true, ite_false, Dk.at_d, Dk.at_l, at_0, at_1, at_2]
  subst hP
  refine seq_step fun P hP => ?_
  have rest : ∀ (ys : List Int) (c : Int), ys.length ≤ 63 → P [some (PV.ref D.d), some (PV.int many), some (PV.int c), none] (D.hp ys (gone + 1)) := by
    intro ys c hy
    subst hP
    refine seq_step fun P hP => ?_
    simp only [N3.mDput, N3.mB, N3.mU, N3.mVar, N3.mC, N3.sp0, N3.gt, N3.st, N3.rIx, N3.seqL, N3.dctL, N3.kOf, N3.rAdd, N3.mAsg, N3.gN, N3.mIfS, N3.mTest, N3.mPop, N3.mAppend, N3.mDrop, N3.mRet, N3.mRetN, N3.mNx, N3.mBrk, N3.mCnt, N3.mLst, N3.mLstM, N3.mCons, N3.mNil, N3.mTup, N3.mBlt, N3.mKw, N3.cat2, N3.cat2r, N3.gS, N3.gL, N3.mSlM, N3.rSlM, N3.mM1, N3.mSl, N3.mRev, N3.mStep, N3.mRevM, N3.mPart, N3.mNoPart, N3.rII, N3.rII0, N3.rIB, N3.rCmp, N3.rLt, N3.rLe, N3.rGt, N3.rGe, N3.mIsI, N3.tn, N3.isI, N3.mDisp, N3.mDct0, N3.mDct0M, N3.mPar3, N3.mAug, N3.rIAdd, N3.mExtend, N3.mInsert, N3.mPopAt, N3.rMin2, N3.rMax2, N3.rIntT, N3.rSplit, N3.rSplitM, N3.rAddM, N3.gPut, N3.mFmt, N3.mJs, N3.mJoin, N3.rDictP, N3.mRepM, N3.rListA, N3.rSortA, N3.mLc2, N3.lcI, N3.lcO, N3.rAllB, N3.rAnyB, N3.rStrI, N3.rIntO, N3.vwL, N3.rMul, N3.rMulT, N3.rNeg, N3.rSub, N3.rDiv, N3.rMod, N3.rPow, N3.mPar, N3.mAndT, N3.mOrT, N3.mNotT, N3.mAnd, N3.mOr, N3.mOrV, N3.mAndV, N3.trv, N3.mNot, N3.mIf, N3.mChn, N3.mKeep, N3.mRep, N3.mDispM, N3.mPs, N3.ends, N3.rLen, N3.rListOf, N3.rListOfM, N3.rTupOf, N3.rSumI, N3.listed, N3.rSl, N3.rRev, N3.rEq, N3.rNe, N3.rIsN, N3.rNotN, N3.isNon, N3.vw, N3.mYes, N3.gT, N3.gsCons, N3.gsNil, N3.mFor, N3.mSeqs, N3.mLc, N3.mLcM, N3.mRng1, N3.mRng2, N3.mEnum, N3.mEnumA, N3.mZip, N3.wp, N3.rJoin, N3.rSS, N3.rIdxS, N3.rRepr, N3.flat, N3.flats, N3.toD, N3.toDs, List.length_cons, List.length_nil, List.append_eq, List.cons_append, List.nil_append, List.map_cons, List.map_nil, if_true, if_false, Bool.false_eq_true, decide_eq_true_eq, Option.some.injEq, true_and, and_true, Bool.not_true, Bool.not_false, reduceCtorEq, Bool.and_self, Bool.and_true, Bool.true_and, ite_true, ite_false, Dk.at_d, Dk.at_l, at_0, at_1, at_2]
    refine ⟨by decide, .inl (by decide), .inr ⟨by omega, by omega⟩, .inr (by decide), by decide, ?_⟩
    refine emod_ex (R := fun z => P [some (PV.ref D.d), some (PV.int many), some (PV.int c), some (PV.int z)] (D.hp ys (gone + 1))) (by decide) fun z z0 z1 => ?_
    subst hP
    refine seq_step fun P hP => ?_
    simp only [N3.mDput, N3.mB, N3.mU, N3.mVar, N3.mC, N3.sp0, N3.gt, N3.st, N3.rIx, N3.seqL, N3.dctL, N3.kOf, N3.rAdd, N3.mAsg, N3.gN, N3.mIfS, N3.mTest, N3.mPop, N3.mAppend, N3.mDrop, N3.mRet, N3.mRetN, N3.mNx, N3.mBrk, N3.mCnt, N3.mLst, N3.mLstM, N3.mCons, N3.mNil, N3.mTup, N3.mBlt, N3.mKw, N3.cat2, N3.cat2r, N3.gS, N3.gL, N3.mSlM, N3.rSlM, N3.mM1, N3.mSl, N3.mRev, N3.mStep, N3.mRevM, N3.mPart, N3.mNoPart, N3.rII, N3.rII0, N3.rIB, N3.rCmp, N3.rLt, N3.rLe, N3.rGt, N3.rGe, N3.mIsI, N3.tn, N3.isI, N3.mDisp, N3.mDct0, N3.mDct0M, N3.mPar3, N3.mAug, N3.rIAdd, N3.mExtend, N3.mInsert, N3.mPopAt, N3.rMin2, N3.rMax2, N3.rIntT, N3.rSplit, N3.rSplitM, N3.rAddM, N3.gPut, N3.mFmt, N3.mJs, N3.mJoin, N3.rDictP, N3.mRepM, N3.rListA, N3.rSortA, N3.mLc2, N3.lcI, N3.lcO, N3.rAllB, N3.rAnyB, N3.rStrI, N3.rIntO, N3.vwL, N3.rMul, N3.rMulT, N3.rNeg, N3.rSub, N3.rDiv, N3.rMod, N3.rPow, N3.mPar, N3.mAndT, N3.mOrT, N3.mNotT, N3.mAnd, N3.mOr, N3.mOrV, N3.mAndV, N3.trv, N3.mNot, N3.mIf, N3.mChn, N3.mKeep, N3.mRep, N3.mDispM, N3.mPs, N3.ends, N3.rLen, N3.rListOf, N3.rListOfM, N3.rTupOf, N3.rSumI, N3.listed, N3.rSl, N3.rRev, N3.rEq, N3.rNe, N3.rIsN, N3.rNotN, N3.isNon, N3.vw, N3.mYes, N3.gT, N3.gsCons, N3.gsNil, N3.mFor, N3.mSeqs, N3.mLc, N3.mLcM, N3.mRng1, N3.mRng2, N3.mEnum, N3.mEnumA, N3.mZip, N3.wp, N3.rJoin, N3.rSS, N3.rIdxS, N3.rRepr, N3.flat, N3.flats, N3.toD, N3.toDs, List.length_cons, List.length_nil, List.append_eq, List.cons_append, List.nil_append, List.map_cons, List.map_nil, if_true, if_false, Bool.false_eq_true, decide_eq_true_eq, Option.some.injEq, true_and, and_true, Bool.not_true, Bool.not_false, reduceCtorEq, Bool.and_self, Bool.and_true, Bool.true_and, ite_true, ite_false, Dk.at_d, Dk.at_l, at_0, at_1, at_2]
    refine ⟨.inl ⟨by omega, by omega⟩, .inl (by decide), by decide, ?_⟩
    refine emod_ex (R := fun z => P [some (PV.ref D.d), some (PV.int many), some (PV.int c), some (PV.int z)] (D.hp ys (gone + 1))) (by decide) fun y y0 y1 => ?_
    subst hP
    simp only [N3.mDput, N3.mB, N3.mU, N3.mVar, N3.mC, N3.sp0, N3.gt, N3.st, N3.rIx, N3.seqL, N3.dctL, N3.kOf, N3.rAdd, N3.mAsg, N3.gN, N3.mIfS, N3.mTest, N3.mPop, N3.mAppend, N3.mDrop, N3.mRet, N3.mRetN, N3.mNx, N3.mBrk, N3.mCnt, N3.mLst, N3.mLstM, N3.mCons, N3.mNil, N3.mTup, N3.mBlt, N3.mKw, N3.cat2, N3.cat2r, N3.gS, N3.gL, N3.mSlM, N3.rSlM, N3.mM1, N3.mSl, N3.mRev, N3.mStep, N3.mRevM, N3.mPart, N3.mNoPart, N3.rII, N3.rII0, N3.rIB, N3.rCmp, N3.rLt, N3.rLe, N3.rGt, N3.rGe, N3.mIsI, N3.tn, N3.isI, N3.mDisp, N3.mDct0, N3.mDct0M, N3.mPar3, N3.mAug, N3.rIAdd, N3.mExtend, N3.mInsert, N3.mPopAt, N3.rMin2, N3.rMax2, N3.rIntT, N3.rSplit, N3.rSplitM, N3.rAddM, N3.gPut, N3.mFmt, N3.mJs, N3.mJoin, N3.rDictP, N3.mRepM, N3.rListA, N3.rSortA, N3.mLc2, N3.lcI, N3.lcO, N3.rAllB, N3.rAnyB, N3.rStrI, N3.rIntO, N3.vwL, N3.rMul, N3.rMulT, N3.rNeg, N3.rSub, N3.rDiv, N3.rMod, N3.rPow, N3.mPar, N3.mAndT, N3.mOrT, N3.mNotT, N3.mAnd, N3.mOr, N3.mOrV, N3.mAndV, N3.trv, N3.mNot, N3.mIf, N3.mChn, N3.mKeep, N3.mRep, N3.mDispM, N3.mPs, N3.ends, N3.rLen, N3.rListOf, N3.rListOfM, N3.rTupOf, N3.rSumI, N3.listed, N3.rSl, N3.rRev, N3.rEq, N3.rNe, N3.rIsN, N3.rNotN, N3.isNon, N3.vw, N3.mYes, N3.gT, N3.gsCons, N3.gsNil, N3.mFor, N3.mSeqs, N3.mLc, N3.mLcM, N3.mRng1, N3.mRng2, N3.mEnum, N3.mEnumA, N3.mZip, N3.wp, N3.rJoin, N3.rSS, N3.rIdxS, N3.rRepr, N3.flat, N3.flats, N3.toD, N3.toDs, List.length_cons, List.length_nil, List.append_eq, List.cons_append, List.nil_append, List.map_cons, List.map_nil, if_true, if_false, Bool.false_eq_true, decide_eq_true_eq, Option.some.injEq, true_and, and_true, Bool.not_true, Bool.not_false, reduceCtorEq, Bool.and_self, Bool.and_true, Bool.true_and, ite_true, ite_false]
    exact ⟨.inr (by decide), by decide, ⟨by decide, by decide⟩, many0, fin ys _ hy (Int.emod_nonneg _ (by omega)) (Int.emod_lt_of_pos _ many0)⟩
  simp only [N3.mDput, N3.mB, N3.mU, N3.mVar, N3.mC, N3.sp0, N3.gt, N3.st, N3.rIx, N3.seqL, N3.dctL, N3.kOf, N3.rAdd, N3.mAsg, N3.gN, N3.mIfS, N3.mTest, N3.mPop, N3.mAppend, N3.mDrop, N3.mRet, N3.mRetN, N3.mNx, N3.mBrk, N3.mCnt, N3.mLst, N3.mLstM, N3.mCons, N3.mNil, N3.mTup, N3.mBlt, N3.mKw, N3.cat2, N3.cat2r, N3.gS, N3.gL, N3.mSlM, N3.rSlM, N3.mM1, N3.mSl, N3.mRev, N3.mStep, N3.mRevM, N3.mPart, N3.mNoPart, N3.rII, N3.rII0, N3.rIB, N3.rCmp, N3.rLt, N3.rLe, N3.rGt, N3.rGe, N3.mIsI, N3.tn, N3.isI, N3.mDisp, N3.mDct0, N3.mDct0M, N3.mPar3, N3.mAug, N3.rIAdd, N3.mExtend, N3.mInsert, N3.mPopAt, N3.rMin2, N3.rMax2, N3.rIntT, N3.rSplit, N3.rSplitM, N3.rAddM, N3.gPut, N3.mFmt, N3.mJs, N3.mJoin, N3.rDictP, N3.mRepM, N3.rListA, N3.rSortA, N3.mLc2, N3.lcI, N3.lcO, N3.rAllB, N3.rAnyB, N3.rStrI, N3.rIntO, N3.vwL, N3.rMul, N3.rMulT, N3.rNeg, N3.rSub, N3.rDiv, N3.rMod, N3.rPow, N3.mPar, N3.mAndT, N3.mOrT, N3.mNotT, N3.mAnd, N3.mOr, N3.mOrV, N3.mAndV, N3.trv, N3.mNot, N3.mIf, N3.mChn, N3.mKeep, N3.mRep, N3.mDispM, N3.mPs, N3.ends, N3.rLen, N3.rListOf, N3.rListOfM, N3.rTupOf, N3.rSumI, N3.listed, N3.rSl, N3.rRev, N3.rEq, N3.rNe, N3.rIsN, N3.rNotN, N3.isNon, N3.vw, N3.mYes, N3.gT, N3.gsCons, N3.gsNil, N3.mFor, N3.mSeqs, N3.mLc, N3.mLcM, N3.mRng1, N3.mRng2, N3.mEnum, N3.mEnumA, N3.mZip, N3.wp, N3.rJoin, N3.rSS, N3.rIdxS, N3.rRepr, N3.flat, N3.flats, N3.toD, N3.toDs, List.length_cons, List.length_nil, List.append_eq, List.cons_append, List.nil_append, List.map_cons, List.map_nil, if_true, if_false, Bool.false_eq_true, decide_eq_true_eq, Option.some.injEq, true_and, and_true, Bool.not_true, Bool.not_false, reduceCtorEq, Bool.and_self, Bool.and_true, Bool.true_and, ite_true, ite_false, Dk.at_d, Dk.at_l, at_0, at_1, at_2]
  refine ⟨flats_ints _, depth_ints _, ?_⟩
  rcases List.eq_nil_or_concat xs with rfl | ⟨ys, c, rfl⟩
  · rw [if_neg (by decide)]
    exact rest _ _ hx
  · rw [List.concat_eq_append] at hx ⊢
    rw [List.length_append] at hx
    have h1 : (!(PyData.list (toDs (List.map PV.int (ys ++ [c])))).eqv (PyData.list [])) = true := by
      cases ys <;> rfl
    rw [if_pos h1]
    refine seq_step fun P' hP' => ?_
    simp only [N3.mDput, N3.mB, N3.mU, N3.mVar, N3.mC, N3.sp0, N3.gt, N3.st, N3.rIx, N3.seqL, N3.dctL, N3.kOf, N3.rAdd, N3.mAsg, N3.gN, N3.mIfS, N3.mTest, N3.mPop, N3.mAppend, N3.mDrop, N3.mRet, N3.mRetN, N3.mNx, N3.mBrk, N3.mCnt, N3.mLst, N3.mLstM, N3.mCons, N3.mNil, N3.mTup, N3.mBlt, N3.mKw, N3.cat2, N3.cat2r, N3.gS, N3.gL, N3.mSlM, N3.rSlM, N3.mM1, N3.mSl, N3.mRev, N3.mStep, N3.mRevM, N3.mPart, N3.mNoPart, N3.rII, N3.rII0, N3.rIB, N3.rCmp, N3.rLt, N3.rLe, N3.rGt, N3.rGe, N3.mIsI, N3.tn, N3.isI, N3.mDisp, N3.mDct0, N3.mDct0M, N3.mPar3, N3.mAug, N3.rIAdd, N3.mExtend, N3.mInsert, N3.mPopAt, N3.rMin2, N3.rMax2, N3.rIntT, N3.rSplit, N3.rSplitM, N3.rAddM, N3.gPut, N3.mFmt, N3.mJs, N3.mJoin, N3.rDictP, N3.mRepM, N3.rListA, N3.rSortA, N3.mLc2, N3.lcI, N3.lcO, N3.rAllB, N3.rAnyB, N3.rStrI, N3.rIntO, N3.vwL, N3.rMul, N3.rMulT, N3.rNeg, N3.rSub, N3.rDiv, N3.rMod, N3.rPow, N3.mPar, N3.mAndT, N3.mOrT, N3.mNotT, N3.mAnd, N3.mOr, N3.mOrV, N3.mAndV, N3.trv, N3.mNot, N3.mIf, N3.mChn, N3.mKeep, N3.mRep, N3.mDispM, N3.mPs, N3.ends, N3.rLen, N3.rListOf, N3.rListOfM, N3.rTupOf, N3.rSumI, N3.listed, N3.rSl, N3.rRev, N3.rEq, N3.rNe, N3.rIsN, N3.rNotN, N3.isNon, N3.vw, N3.mYes, N3.gT, N3.gsCons, N3.gsNil, N3.mFor, N3.mSeqs, N3.mLc, N3.mLcM, N3.mRng1, N3.mRng2, N3.mEnum, N3.mEnumA, N3.mZip, N3.wp, N3.rJoin, N3.rSS, N3.rIdxS, N3.rRepr, N3.flat, N3.flats, N3.toD, N3.toDs, List.length_cons, List.length_nil, List.append_eq, List.cons_append, List.nil_append, List.map_cons, List.map_nil, if_true, if_false, Bool.false_eq_true, decide_eq_true_eq, Option.some.injEq, true_and, and_true, Bool.not_true, Bool.not_false, reduceCtorEq, Bool.and_self, Bool.and_true, Bool.true_and, ite_true, ite_false, Dk.at_d, Dk.at_l, at_0, at_1, at_2, List.map_append, List.getLast?_append, List.getLast?_singleton, Option.some_or, List.dropLast_concat, Dk.put_l]
    subst hP'
    refine seq_step fun P' hP' => ?_
    simp only [N3.mDput, N3.mB, N3.mU, N3.mVar, N3.mC, N3.sp0, N3.gt, N3.st, N3.rIx, N3.seqL, N3.dctL, N3.kOf, N3.rAdd, N3.mAsg, N3.gN, N3.mIfS, N3.mTest, N3.mPop, N3.mAppend, N3.mDrop, N3.mRet, N3.mRetN, N3.mNx, N3.mBrk, N3.mCnt, N3.mLst, N3.mLstM, N3.mCons, N3.mNil, N3.mTup, N3.mBlt, N3.mKw, N3.cat2, N3.cat2r, N3.gS, N3.gL, N3.mSlM, N3.rSlM, N3.mM1, N3.mSl, N3.mRev, N3.mStep, N3.mRevM, N3.mPart, N3.mNoPart, N3.rII, N3.rII0, N3.rIB, N3.rCmp, N3.rLt, N3.rLe, N3.rGt, N3.rGe, N3.mIsI, N3.tn, N3.isI, N3.mDisp, N3.mDct0, N3.mDct0M, N3.mPar3, N3.mAug, N3.rIAdd, N3.mExtend, N3.mInsert, N3.mPopAt, N3.rMin2, N3.rMax2, N3.rIntT, N3.rSplit, N3.rSplitM, N3.rAddM, N3.gPut, N3.mFmt, N3.mJs, N3.mJoin, N3.rDictP, N3.mRepM, N3.rListA, N3.rSortA, N3.mLc2, N3.lcI, N3.lcO, N3.rAllB, N3.rAnyB, N3.rStrI, N3.rIntO, N3.vwL, N3.rMul, N3.rMulT, N3.rNeg, N3.rSub, N3.rDiv, N3.rMod, N3.rPow, N3.mPar, N3.mAndT, N3.mOrT, N3.mNotT, N3.mAnd, N3.mOr, N3.mOrV, N3.mAndV, N3.trv, N3.mNot, N3.mIf, N3.mChn, N3.mKeep, N3.mRep, N3.mDispM, N3.mPs, N3.ends, N3.rLen, N3.rListOf, N3.rListOfM, N3.rTupOf, N3.rSumI, N3.listed, N3.rSl, N3.rRev, N3.rEq, N3.rNe, N3.rIsN, N3.rNotN, N3.isNon, N3.vw, N3.mYes, N3.gT, N3.gsCons, N3.gsNil, N3.mFor, N3.mSeqs, N3.mLc, N3.mLcM, N3.mRng1, N3.mRng2, N3.mEnum, N3.mEnumA, N3.mZip, N3.wp, N3.rJoin, N3.rSS, N3.rIdxS, N3.rRepr, N3.flat, N3.flats, N3.toD, N3.toDs, List.length_cons, List.length_nil, List.append_eq, List.cons_append, List.nil_append, List.map_cons, List.map_nil, if_true, if_false, Bool.false_eq_true, decide_eq_true_eq, Option.some.injEq, true_and, and_true, Bool.not_true, Bool.not_false, reduceCtorEq, Bool.and_self, Bool.and_true, Bool.true_and, ite_true, ite_false, Dk.at_d, Dk.at_l, at_0, at_1, at_2]
    refine ⟨⟨by decide, by decide, by decide⟩, ?_⟩
    by_cases hc : 10 ^ (18 : Int).toNat ≤ c
    · rw [if_pos hc]
      refine seq_step fun P'' hP'' => ?_
      simp only [N3.mDput, N3.mB, N3.mU, N3.mVar, N3.mC, N3.sp0, N3.gt, N3.st, N3.rIx, N3.seqL, N3.dctL, N3.kOf, N3.rAdd, N3.mAsg, N3.gN, N3.mIfS, N3.mTest, N3.mPop, N3.mAppend, N3.mDrop, N3.mRet, N3.mRetN, N3.mNx, N3.mBrk, N3.mCnt, N3.mLst, N3.mLstM, N3.mCons, N3.mNil, N3.mTup, N3.mBlt, N3.mKw, N3.cat2, N3.cat2r, N3.gS, N3.gL, N3.mSlM, N3.rSlM, N3.mM1, N3.mSl, N3.mRev, N3.mStep, N3.mRevM, N3.mPart, N3.mNoPart, N3.rII, N3.rII0, N3.rIB, N3.rCmp, N3.rLt, N3.rLe, N3.rGt, N3.rGe, N3.mIsI, N3.tn, N3.isI, N3.mDisp, N3.mDct0, N3.mDct0M, N3.mPar3, N3.mAug, N3.rIAdd, N3.mExtend, N3.mInsert, N3.mPopAt, N3.rMin2, N3.rMax2, N3.rIntT, N3.rSplit, N3.rSplitM, N3.rAddM, N3.gPut, N3.mFmt, N3.mJs, N3.mJoin, N3.rDictP, N3.mRepM, N3.rListA, N3.rSortA, N3.mLc2, N3.lcI, N3.lcO, N3.rAllB, N3.rAnyB, N3.rStrI, N3.rIntO, N3.vwL, N3.rMul, N3.rMulT, N3.rNeg, N3.rSub, N3.rDiv, N3.rMod, N3.rPow, N3.mPar, N3.mAndT, N3.mOrT, N3.mNotT, N3.mAnd, N3.mOr, N3.mOrV, N3.mAndV, N3.trv, N3.mNot, N3.mIf, N3.mChn, N3.mKeep, N3.mRep, N3.mDispM, N3.mPs, N3.ends, N3.rLen, N3.rListOf, N3.rListOfM, N3.rTupOf, N3.rSumI, N3.listed, N3.rSl, N3.rRev, N3.rEq, N3.rNe, N3.rIsN, N3.rNotN, N3.isNon, N3.vw, N3.mYes, N3.gT, N3.gsCons, N3.gsNil, N3.mFor, N3.mSeqs, N3.mLc, N3.mLcM, N3.mRng1, N3.mRng2, N3.mEnum, N3.mEnumA, N3.mZip, N3.wp, N3.rJoin, N3.rSS, N3.rIdxS, N3.rRepr, N3.flat, N3.flats, N3.toD, N3.toDs, List.length_cons, List.length_nil, List.append_eq, List.cons_append, List.nil_append, List.map_cons, List.map_nil, if_true, if_false, Bool.false_eq_true, decide_eq_true_eq, Option.some.injEq, true_and, and_true, Bool.not_true, Bool.not_false, reduceCtorEq, Bool.and_self, Bool.and_true, Bool.true_and, ite_true, ite_false, Dk.at_d, Dk.at_l, at_0, at_1, at_2]
      refine ⟨Dk.list_l, ⟨many0, hm2⟩, by rw [List.length_map]; show _ < 16777216; simp at hx; omega, ?_⟩
      rw [show List.map PV.int ys ++ [PV.int (c / many)] = List.map PV.int (ys ++ [c / many]) by simp, Dk.put_l]
      subst hP''
      simp only [N3.mDput, N3.mB, N3.mU, N3.mVar, N3.mC, N3.sp0, N3.gt, N3.st, N3.rIx, N3.seqL, N3.dctL, N3.kOf, N3.rAdd, N3.mAsg, N3.gN, N3.mIfS, N3.mTest, N3.mPop, N3.mAppend, N3.mDrop, N3.mRet, N3.mRetN, N3.mNx, N3.mBrk, N3.mCnt, N3.mLst, N3.mLstM, N3.mCons, N3.mNil, N3.mTup, N3.mBlt, N3.mKw, N3.cat2, N3.cat2r, N3.gS, N3.gL, N3.mSlM, N3.rSlM, N3.mM1, N3.mSl, N3.mRev, N3.mStep, N3.mRevM, N3.mPart, N3.mNoPart, N3.rII, N3.rII0, N3.rIB, N3.rCmp, N3.rLt, N3.rLe, N3.rGt, N3.rGe, N3.mIsI, N3.tn, N3.isI, N3.mDisp, N3.mDct0, N3.mDct0M, N3.mPar3, N3.mAug, N3.rIAdd, N3.mExtend, N3.mInsert, N3.mPopAt, N3.rMin2, N3.rMax2, N3.rIntT, N3.rSplit, N3.rSplitM, N3.rAddM, N3.gPut, N3.mFmt, N3.mJs, N3.mJoin, N3.rDictP, N3.mRepM, N3.rListA, N3.rSortA, N3.mLc2, N3.lcI, N3.lcO, N3.rAllB, N3.rAnyB, N3.rStrI, N3.rIntO, N3.vwL, N3.rMul, N3.rMulT, N3.rNeg, N3.rSub, N3.rDiv, N3.rMod, N3.rPow, N3.mPar, N3.mAndT, N3.mOrT, N3.mNotT, N3.mAnd, N3.mOr, N3.mOrV, N3.mAndV, N3.trv, N3.mNot, N3.mIf, N3.mChn, N3.mKeep, N3.mRep, N3.mDispM, N3.mPs, N3.ends, N3.rLen, N3.rListOf, N3.rListOfM, N3.rTupOf, N3.rSumI, N3.listed, N3.rSl, N3.rRev, N3.rEq, N3.rNe, N3.rIsN, N3.rNotN, N3.isNon, N3.vw, N3.mYes, N3.gT, N3.gsCons, N3.gsNil, N3.mFor, N3.mSeqs, N3.mLc, N3.mLcM, N3.mRng1, N3.mRng2, N3.mEnum, N3.mEnumA, N3.mZip, N3.wp, N3.rJoin, N3.rSS, N3.rIdxS, N3.rRepr, N3.flat, N3.flats, N3.toD, N3.toDs, List.length_cons, List.length_nil, List.append_eq, List.cons_append, List.nil_append, List.map_cons, List.map_nil, if_true, if_false, Bool.false_eq_true, decide_eq_true_eq, Option.some.injEq, true_and, and_true, Bool.not_true, Bool.not_false, reduceCtorEq, Bool.and_self, Bool.and_true, Bool.true_and, ite_true, ite_false]
      exact ⟨many0, fin _ _ (by rw [List.length_append]; exact hx) (Int.emod_nonneg _ (by omega)) (Int.emod_lt_of_pos _ many0)⟩
    · rw [if_neg hc]
      subst hP'
      simp only [N3.mDput, N3.mB, N3.mU, N3.mVar, N3.mC, N3.sp0, N3.gt, N3.st, N3.rIx, N3.seqL, N3.dctL, N3.kOf, N3.rAdd, N3.mAsg, N3.gN, N3.mIfS, N3.mTest, N3.mPop, N3.mAppend, N3.mDrop, N3.mRet, N3.mRetN, N3.mNx, N3.mBrk, N3.mCnt, N3.mLst, N3.mLstM, N3.mCons, N3.mNil, N3.mTup, N3.mBlt, N3.mKw, N3.cat2, N3.cat2r, N3.gS, N3.gL, N3.mSlM, N3.rSlM, N3.mM1, N3.mSl, N3.mRev, N3.mStep, N3.mRevM, N3.mPart, N3.mNoPart, N3.rII, N3.rII0, N3.rIB, N3.rCmp, N3.rLt, N3.rLe, N3.rGt, N3.rGe, N3.mIsI, N3.tn, N3.isI, N3.mDisp, N3.mDct0, N3.mDct0M, N3.mPar3, N3.mAug, N3.rIAdd, N3.mExtend, N3.mInsert, N3.mPopAt, N3.rMin2, N3.rMax2, N3.rIntT, N3.rSplit, N3.rSplitM, N3.rAddM, N3.gPut, N3.mFmt, N3.mJs, N3.mJoin, N3.rDictP, N3.mRepM, N3.rListA, N3.rSortA, N3.mLc2, N3.lcI, N3.lcO, N3.rAllB, N3.rAnyB, N3.rStrI, N3.rIntO, N3.vwL, N3.rMul, N3.rMulT, N3.rNeg, N3.rSub, N3.rDiv, N3.rMod, N3.rPow, N3.mPar, N3.mAndT, N3.mOrT, N3.mNotT, N3.mAnd, N3.mOr, N3.mOrV, N3.mAndV, N3.trv, N3.mNot, N3.mIf, N3.mChn, N3.mKeep, N3.mRep, N3.mDispM, N3.mPs, N3.ends, N3.rLen, N3.rListOf, N3.rListOfM, N3.rTupOf, N3.rSumI, N3.listed, N3.rSl, N3.rRev, N3.rEq, N3.rNe, N3.rIsN, N3.rNotN, N3.isNon, N3.vw, N3.mYes, N3.gT, N3.gsCons, N3.gsNil, N3.mFor, N3.mSeqs, N3.mLc, N3.mLcM, N3.mRng1, N3.mRng2, N3.mEnum, N3.mEnumA, N3.mZip, N3.wp, N3.rJoin, N3.rSS, N3.rIdxS, N3.rRepr, N3.flat, N3.flats, N3.toD, N3.toDs, List.length_cons, List.length_nil, List.append_eq, List.cons_append, List.nil_append, List.map_cons, List.map_nil, if_true, if_false, Bool.false_eq_true, decide_eq_true_eq, Option.some.injEq, true_and, and_true, Bool.not_true, Bool.not_false, reduceCtorEq, Bool.and_self, Bool.and_true, Bool.true_and, ite_true, ite_false, Dk.at_d, Dk.at_l, at_0, at_1, at_2]
      exact rest _ _ (by simp at hx; omega)
theorem pure_deck : ∀ qs h Q, qs.length = 1 → spDeck qs h Q → mDeck (ends Q) (sp0 4 qs) h := by
  rintro _ h Q - ⟨ns, rfl, hn, k⟩
  unfold mDeck
  have hc : cut (ns.map PV.int) none (some 63) = ns.map PV.int := cut_all ⟨rfl, by
    show HT.sIx _ _ (some 63) = _
    unfold HT.sIx
    simp; omega⟩
  refine seq_step fun P hP => ?_
  simp only [N3.mDput, N3.mB, N3.mU, N3.mVar, N3.mC, N3.sp0, N3.gt, N3.st, N3.rIx, N3.seqL, N3.dctL, N3.kOf, N3.rAdd, N3.mAsg, N3.gN, N3.mIfS, N3.mTest, N3.mPop, N3.mAppend, N3.mDrop, N3.mRet, N3.mRetN, N3.mNx, N3.mBrk, N3.mCnt, N3.mLst, N3.mLstM, N3.mCons, N3.mNil, N3.mTup, N3.mBlt, N3.mKw, N3.cat2, N3.cat2r, N3.gS, N3.gL, N3.mSlM, N3.rSlM, N3.mM1, N3.mSl, N3.mRev, N3.mStep, N3.mRevM, N3.mPart, N3.mNoPart, N3.rII, N3.rII0, N3.rIB, N3.rCmp, N3.rLt, N3.rLe, N3.rGt, N3.rGe, N3.mIsI, N3.tn, N3.isI, N3.mDisp, N3.mDct0, N3.mDct0M, N3.mPar3, N3.mAug, N3.rIAdd, N3.mExtend, N3.mInsert, N3.mPopAt, N3.rMin2, N3.rMax2, N3.rIntT, N3.rSplit, N3.rSplitM, N3.rAddM, N3.gPut, N3.mFmt, N3.mJs, N3.mJoin, N3.rDictP, N3.mRepM, N3.rListA, N3.rSortA, N3.mLc2, N3.lcI, N3.lcO, N3.rAllB, N3.rAnyB, N3.rStrI, N3.rIntO, N3.vwL, N3.rMul, N3.rMulT, N3.rNeg, N3.rSub, N3.rDiv, N3.rMod, N3.rPow, N3.mPar, N3.mAndT, N3.mOrT, N3.mNotT, N3.mAnd, N3.mOr, N3.mOrV, N3.mAndV, N3.trv, N3.mNot, N3.mIf, N3.mChn, N3.mKeep, N3.mRep, N3.mDispM, N3.mPs, N3.ends, N3.rLen, N3.rListOf, N3.rListOfM, N3.rTupOf, N3.rSumI, N3.listed, N3.rSl, N3.rRev, N3.rEq, N3.rNe, N3.rIsN, N3.rNotN, N3.isNon, N3.vw, N3.mYes, N3.gT, N3.gsCons, N3.gsNil, N3.mFor, N3.mSeqs, N3.mLc, N3.mLcM, N3.mRng1, N3.mRng2, N3.mEnum, N3.mEnumA, N3.mZip, N3.wp, N3.rJoin, N3.rSS, N3.rIdxS, N3.rRepr, N3.flat, N3.flats, N3.toD, N3.toDs, List.length_cons, List.length_nil, List.append_eq, List.cons_append, List.nil_append, List.map_cons, List.map_nil, if_true, if_false, Bool.false_eq_true, decide_eq_true_eq, Option.some.injEq, true_and, and_true, Bool.not_true, Bool.not_false, reduceCtorEq, Bool.and_self, Bool.and_true, Bool.true_and, ite_true, ite_false, hc]
  subst hP
  refine seq_step fun P hP => ?_
  simp only [N3.mDput, N3.mB, N3.mU, N3.mVar, N3.mC, N3.sp0, N3.gt, N3.st, N3.rIx, N3.seqL, N3.dctL, N3.kOf, N3.rAdd, N3.mAsg, N3.gN, N3.mIfS, N3.mTest, N3.mPop, N3.mAppend, N3.mDrop, N3.mRet, N3.mRetN, N3.mNx, N3.mBrk, N3.mCnt, N3.mLst, N3.mLstM, N3.mCons, N3.mNil, N3.mTup, N3.mBlt, N3.mKw, N3.cat2, N3.cat2r, N3.gS, N3.gL, N3.mSlM, N3.rSlM, N3.mM1, N3.mSl, N3.mRev, N3.mStep, N3.mRevM, N3.mPart, N3.mNoPart, N3.rII, N3.rII0, N3.rIB, N3.rCmp, N3.rLt, N3.rLe, N3.rGt, N3.rGe, N3.mIsI, N3.tn, N3.isI, N3.mDisp, N3.mDct0, N3.mDct0M, N3.mPar3, N3.mAug, N3.rIAdd, N3.mExtend, N3.mInsert, N3.mPopAt, N3.rMin2, N3.rMax2, N3.rIntT, N3.rSplit, N3.rSplitM, N3.rAddM, N3.gPut, N3.mFmt, N3.mJs, N3.mJoin, N3.rDictP, N3.mRepM, N3.rListA, N3.rSortA, N3.mLc2, N3.lcI, N3.lcO, N3.rAllB, N3.rAnyB, N3.rStrI, N3.rIntO, N3.vwL, N3.rMul, N3.rMulT, N3.rNeg, N3.rSub, N3.rDiv, N3.rMod, N3.rPow, N3.mPar, N3.mAndT, N3.mOrT, N3.mNotT, N3.mAnd, N3.mOr, N3.mOrV, N3.mAndV, N3.trv, N3.mNot, N3.mIf, N3.mChn, N3.mKeep, N3.mRep, N3.mDispM, N3.mPs, N3.ends, N3.rLen, N3.rListOf, N3.rListOfM, N3.rTupOf, N3.rSumI, N3.listed, N3.rSl, N3.rRev, N3.rEq, N3.rNe, N3.rIsN, N3.rNotN, N3.isNon, N3.vw, N3.mYes, N3.gT, N3.gsCons, N3.gsNil, N3.mFor, N3.mSeqs, N3.mLc, N3.mLcM, N3.mRng1, N3.mRng2, N3.mEnum, N3.mEnumA, N3.mZip, N3.wp, N3.rJoin, N3.rSS, N3.rIdxS, N3.rRepr, N3.flat, N3.flats, N3.toD, N3.toDs, List.length_cons, List.length_nil, List.append_eq, List.cons_append, List.nil_append, List.map_cons, List.map_nil, if_true, if_false, Bool.false_eq_true, decide_eq_true_eq, Option.some.injEq, true_and, and_true, Bool.not_true, Bool.not_false, reduceCtorEq, Bool.and_self, Bool.and_true, Bool.true_and, ite_true, ite_false]
  refine forL_of (W := fun ps τ h2 => (∀ p ∈ ps, ∃ i, p = .int i) ∧ ∃ (c : Int) (v : Option PV), h2 = h ∧ τ = [some (.lst (ns.map PV.int)), some (.lst (ns.map PV.int)), some (.int c), v]) ?_ ?_ _ _ _ ⟨fun p hp => ?_, _, none, rfl, rfl⟩
  · rintro p ps τ h2 ⟨hp, c, v, rfl, rfl⟩
    obtain ⟨i, rfl⟩ := hp p List.mem_cons_self
    refine ⟨trivial, fun P' hP' => ?_⟩
    simp only [N3.mDput, N3.mB, N3.mU, N3.mVar, N3.mC, N3.sp0, N3.gt, N3.st, N3.rIx, N3.seqL, N3.dctL, N3.kOf, N3.rAdd, N3.mAsg, N3.gN, N3.mIfS, N3.mTest, N3.mPop, N3.mAppend, N3.mDrop, N3.mRet, N3.mRetN, N3.mNx, N3.mBrk, N3.mCnt, N3.mLst, N3.mLstM, N3.mCons, N3.mNil, N3.mTup, N3.mBlt, N3.mKw, N3.cat2, N3.cat2r, N3.gS, N3.gL, N3.mSlM, N3.rSlM, N3.mM1, N3.mSl, N3.mRev, N3.mStep, N3.mRevM, N3.mPart, N3.mNoPart, N3.rII, N3.rII0, N3.rIB, N3.rCmp, N3.rLt, N3.rLe, N3.rGt, N3.rGe, N3.mIsI, N3.tn, N3.isI, N3.mDisp, N3.mDct0, N3.mDct0M, N3.mPar3, N3.mAug, N3.rIAdd, N3.mExtend, N3.mInsert, N3.mPopAt, N3.rMin2, N3.rMax2, N3.rIntT, N3.rSplit, N3.rSplitM, N3.rAddM, N3.gPut, N3.mFmt, N3.mJs, N3.mJoin, N3.rDictP, N3.mRepM, N3.rListA, N3.rSortA, N3.mLc2, N3.lcI, N3.lcO, N3.rAllB, N3.rAnyB, N3.rStrI, N3.rIntO, N3.vwL, N3.rMul, N3.rMulT, N3.rNeg, N3.rSub, N3.rDiv, N3.rMod, N3.rPow, N3.mPar, N3.mAndT, N3.mOrT, N3.mNotT, N3.mAnd, N3.mOr, N3.mOrV, N3.mAndV, N3.trv, N3.mNot, N3.mIf, N3.mChn, N3.mKeep, N3.mRep, N3.mDispM, N3.mPs, N3.ends, N3.rLen, N3.rListOf, N3.rListOfM, N3.rTupOf, N3.rSumI, N3.listed, N3.rSl, N3.rRev, N3.rEq, N3.rNe, N3.rIsN, N3.rNotN, N3.isNon, N3.vw, N3.mYes, N3.gT, N3.gsCons, N3.gsNil, N3.mFor, N3.mSeqs, N3.mLc, N3.mLcM, N3.mRng1, N3.mRng2, N3.mEnum, N3.mEnumA, N3.mZip, N3.wp, N3.rJoin, N3.rSS, N3.rIdxS, N3.rRepr, N3.flat, N3.flats, N3.toD, N3.toDs, List.length_cons, List.length_nil, List.append_eq, List.cons_append, List.nil_append, List.map_cons, List.map_nil, if_true, if_false, Bool.false_eq_true, decide_eq_true_eq, Option.some.injEq, true_and, and_true, Bool.not_true, Bool.not_false, reduceCtorEq, Bool.and_self, Bool.and_true, Bool.true_and, ite_true, ite_false]
    exact ⟨.inr (by decide), by decide, by decide, hP' _ _ ⟨fun q hq => hp q (List.mem_cons_of_mem _ hq), _, _, rfl, rfl⟩⟩
  · rintro τ h2 ⟨-, c, v, rfl, rfl⟩
    refine ⟨trivial, ?_⟩
    subst hP
    dsimp only
    simp only [N3.mDput, N3.mB, N3.mU, N3.mVar, N3.mC, N3.sp0, N3.gt, N3.st, N3.rIx, N3.seqL, N3.dctL, N3.kOf, N3.rAdd, N3.mAsg, N3.gN, N3.mIfS, N3.mTest, N3.mPop, N3.mAppend, N3.mDrop, N3.mRet, N3.mRetN, N3.mNx, N3.mBrk, N3.mCnt, N3.mLst, N3.mLstM, N3.mCons, N3.mNil, N3.mTup, N3.mBlt, N3.mKw, N3.cat2, N3.cat2r, N3.gS, N3.gL, N3.mSlM, N3.rSlM, N3.mM1, N3.mSl, N3.mRev, N3.mStep, N3.mRevM, N3.mPart, N3.mNoPart, N3.rII, N3.rII0, N3.rIB, N3.rCmp, N3.rLt, N3.rLe, N3.rGt, N3.rGe, N3.mIsI, N3.tn, N3.isI, N3.mDisp, N3.mDct0, N3.mDct0M, N3.mPar3, N3.mAug, N3.rIAdd, N3.mExtend, N3.mInsert, N3.mPopAt, N3.rMin2, N3.rMax2, N3.rIntT, N3.rSplit, N3.rSplitM, N3.rAddM, N3.gPut, N3.mFmt, N3.mJs, N3.mJoin, N3.rDictP, N3.mRepM, N3.rListA, N3.rSortA, N3.mLc2, N3.lcI, N3.lcO, N3.rAllB, N3.rAnyB, N3.rStrI, N3.rIntO, N3.vwL, N3.rMul, N3.rMulT, N3.rNeg, N3.rSub, N3.rDiv, N3.rMod, N3.rPow, N3.mPar, N3.mAndT, N3.mOrT, N3.mNotT, N3.mAnd, N3.mOr, N3.mOrV, N3.mAndV, N3.trv, N3.mNot, N3.mIf, N3.mChn, N3.mKeep, N3.mRep, N3.mDispM, N3.mPs, N3.ends, N3.rLen, N3.rListOf, N3.rListOfM, N3.rTupOf, N3.rSumI, N3.listed, N3.rSl, N3.rRev, N3.rEq, N3.rNe, N3.rIsN, N3.rNotN, N3.isNon, N3.vw, N3.mYes, N3.gT, N3.gsCons, N3.gsNil, N3.mFor, N3.mSeqs, N3.mLc, N3.mLcM, N3.mRng1, N3.mRng2, N3.mEnum, N3.mEnumA, N3.mZip, N3.wp, N3.rJoin, N3.rSS, N3.rIdxS, N3.rRepr, N3.flat, N3.flats, N3.toD, N3.toDs, List.length_cons, List.length_nil, List.append_eq, List.cons_append, List.nil_append, List.map_cons, List.map_nil, if_true, if_false, Bool.false_eq_true, decide_eq_true_eq, Option.some.injEq, true_and, and_true, Bool.not_true, Bool.not_false, reduceCtorEq, Bool.and_self, Bool.and_true, Bool.true_and, ite_true, ite_false]
    intro l hl d hd
    have ne : d ≠ l := fun e => by rw [e, up_same] at hd; cases hd
    refine k ⟨d, l, c, _, ne⟩ _ rfl ⟨ns.reverse, 0, by rw [List.length_reverse]; exact hn, Int.le_refl _, Int.le_refl _, ?_⟩
    unfold Dk.hp
    rw [up_swap ne.symm, List.map_reverse]
  · obtain ⟨i, -, rfl⟩ := List.mem_map.mp hp
    exact ⟨i, rfl⟩
end N3

namespace N3
open PySem PySem.Spec PyProof.Rows L2

/-- a comprehension whose turns change nothing: the items that pass, and their answers -/
theorem lcL_filter {gd : PH → Prop} {τ : PSt} {g : MG} {t : MT} {m : ME} {h : PH} {Q : List PV → PH → Prop} (c : PV → Bool) (f : PV → PV) (hg : gd h) :
    ∀ (ps acc : List PV), (∀ p ∈ ps, ∀ P : List PV → PH → Prop, ∀ acc, (if c p = true then P (acc ++ [f p]) h else P acc h) → g p τ h fun τ1 h1 => t τ1 h1 fun b h2 => if b = true then m τ1 h2 fun v h3 => P (acc ++ [v]) h3 else P acc h2) →
      Q (acc ++ (ps.filter c).map f) h → lcL gd τ g t m ps acc h Q
  | [], acc, _, q => ⟨hg, by simpa using q⟩
  | p :: ps, acc, hs, q => by
    refine ⟨hg, hs p List.mem_cons_self (fun acc h3 => lcL gd τ g t m ps acc h3 Q) acc ?_⟩
    cases hc : c p with
    | true => exact lcL_filter c f hg ps _ (fun x hx => hs x (List.mem_cons_of_mem _ hx)) (by simpa [List.filter_cons, hc] using q)
    | false => exact lcL_filter c f hg ps _ (fun x hx => hs x (List.mem_cons_of_mem _ hx)) (by simpa [List.filter_cons, hc] using q)

/-! ### picking -/
theorem atI_nat {α : Type} {xs : List α} {r : Int} (h0 : 0 ≤ r) (h1 : r < xs.length) : ∃ v ∈ xs, atI xs r = some v := by
  have e : ixN xs.length r = some r.toNat := by
    unfold ixN
    simp only [h0, h1, if_true]
  have hl : r.toNat < xs.length := by omega
  refine ⟨xs[r.toNat], List.getElem_mem hl, ?_⟩
  unfold atI
  rw [e]
  exact List.getElem?_eq_getElem hl
def mPick (spD : SpP) : MS := mRet (mB rIx (mVar 1) (mBlt spD (mCons (mVar 0) (mCons (mBlt rLen (mCons (mVar 1) (mNil))) (mNil)))))
/-- what can be picked from: a text, a list, a tuple -/
def pickFrom : PV → Option (List PV)
  | .str x => some (ones x)
  | .lst xs => some xs
  | .tup xs => some xs
  | _ => none
def spPick : SpP := fun ps h Q => ∃ (D : Dk) (n : Nat) (p : PV) (xs : List PV), ps = [.ref D.d, p] ∧ D.At n h ∧ n < 1000000000 ∧ pickFrom p = some xs ∧ xs ≠ [] ∧ xs.length ≤ SZ ∧ ∀ v h', v ∈ xs → D.At (n + 1) h' → Q v h'
theorem pure_pick : ∀ qs h Q, qs.length = 2 → spPick qs h Q → mPick spDraw (ends Q) (sp0 2 qs) h := by
  rintro _ h Q - ⟨D, n, p, xs, rfl, ha, hn, hp, hne, hz, k⟩
  have pos : 0 < xs.length := List.length_pos_iff.mpr hne
  cases p with
  | str x =>
    simp only [pickFrom, Option.some.injEq] at hp
    subst hp
    have hl : x.length = (ones x).length := by unfold ones; rw [List.length_map, ← cl_length]
    simp only [mPick, N3.mDput, N3.mB, N3.mU, N3.mVar, N3.mC, N3.sp0, N3.gt, N3.st, N3.rIx, N3.seqL, N3.dctL, N3.kOf, N3.rAdd, N3.mAsg, N3.gN, N3.mIfS, N3.mTest, N3.mPop, N3.mAppend, N3.mDrop, N3.mRet, N3.mRetN, N3.mNx, N3.mBrk, N3.mCnt, N3.mLst, N3.mLstM, N3.mCons, N3.mNil, N3.mTup, N3.mBlt, N3.mKw, N3.cat2, N3.cat2r, N3.gS, N3.gL, N3.mSlM, N3.rSlM, N3.mM1, N3.mSl, N3.mRev, N3.mStep, N3.mRevM, N3.mPart, N3.mNoPart, N3.rII, N3.rII0, N3.rIB, N3.rCmp, N3.rLt, N3.rLe, N3.rGt, N3.rGe, N3.mIsI, N3.tn, N3.isI, N3.mDisp, N3.mDct0, N3.mDct0M, N3.mPar3, N3.mAug, N3.rIAdd, N3.mExtend, N3.mInsert, N3.mPopAt, N3.rMin2, N3.rMax2, N3.rIntT, N3.rSplit, N3.rSplitM, N3.rAddM, N3.gPut, N3.mFmt, N3.mJs, N3.mJoin, N3.rDictP, N3.mRepM, N3.rListA, N3.rSortA, N3.mLc2, N3.lcI, N3.lcO, N3.rAllB, N3.rAnyB, N3.rStrI, N3.rIntO, N3.vwL, N3.rMul, N3.rMulT, N3.rNeg, N3.rSub, N3.rDiv, N3.rMod, N3.rPow, N3.mPar, N3.mAndT, N3.mOrT, N3.mNotT, N3.mAnd, N3.mOr, N3.mOrV, N3.mAndV, N3.trv, N3.mNot, N3.mIf, N3.mChn, N3.mKeep, N3.mRep, N3.mDispM, N3.mPs, N3.ends, N3.rLen, N3.rListOf, N3.rListOfM, N3.rTupOf, N3.rSumI, N3.listed, N3.rSl, N3.rRev, N3.rEq, N3.rNe, N3.rIsN, N3.rNotN, N3.isNon, N3.vw, N3.mYes, N3.gT, N3.gsCons, N3.gsNil, N3.mFor, N3.mSeqs, N3.mLc, N3.mLcM, N3.mRng1, N3.mRng2, N3.mEnum, N3.mEnumA, N3.mZip, N3.wp, N3.rJoin, N3.rSS, N3.rIdxS, N3.rRepr, N3.flat, N3.flats, N3.toD, N3.toDs, List.length_cons, List.length_nil, List.append_eq, List.cons_append, List.nil_append, List.map_cons, List.map_nil, if_true, if_false, Bool.false_eq_true, decide_eq_true_eq, Option.some.injEq, true_and, and_true, Bool.not_true, Bool.not_false, reduceCtorEq, Bool.and_self, Bool.and_true, Bool.true_and, ite_true, ite_false]
    refine ⟨by rw [hl]; exact hz, D, n, _, rfl, ha, hn, by omega, by have hz' : (ones x).length ≤ 16777216 := hz; omega, fun r h' h0 h1 a => ?_⟩
    refine ⟨by rw [hl]; exact hz, ?_⟩
    obtain ⟨c, hc, e⟩ := atI_nat (xs := cl x) h0 (by rw [← cl_length]; exact h1)
    simp only [e]
    exact k _ _ (List.mem_map.mpr ⟨c, hc, rfl⟩) a
  | lst ys =>
    simp only [pickFrom, Option.some.injEq] at hp
    subst hp
    simp only [mPick, N3.mDput, N3.mB, N3.mU, N3.mVar, N3.mC, N3.sp0, N3.gt, N3.st, N3.rIx, N3.seqL, N3.dctL, N3.kOf, N3.rAdd, N3.mAsg, N3.gN, N3.mIfS, N3.mTest, N3.mPop, N3.mAppend, N3.mDrop, N3.mRet, N3.mRetN, N3.mNx, N3.mBrk, N3.mCnt, N3.mLst, N3.mLstM, N3.mCons, N3.mNil, N3.mTup, N3.mBlt, N3.mKw, N3.cat2, N3.cat2r, N3.gS, N3.gL, N3.mSlM, N3.rSlM, N3.mM1, N3.mSl, N3.mRev, N3.mStep, N3.mRevM, N3.mPart, N3.mNoPart, N3.rII, N3.rII0, N3.rIB, N3.rCmp, N3.rLt, N3.rLe, N3.rGt, N3.rGe, N3.mIsI, N3.tn, N3.isI, N3.mDisp, N3.mDct0, N3.mDct0M, N3.mPar3, N3.mAug, N3.rIAdd, N3.mExtend, N3.mInsert, N3.mPopAt, N3.rMin2, N3.rMax2, N3.rIntT, N3.rSplit, N3.rSplitM, N3.rAddM, N3.gPut, N3.mFmt, N3.mJs, N3.mJoin, N3.rDictP, N3.mRepM, N3.rListA, N3.rSortA, N3.mLc2, N3.lcI, N3.lcO, N3.rAllB, N3.rAnyB, N3.rStrI, N3.rIntO, N3.vwL, N3.rMul, N3.rMulT, N3.rNeg, N3.rSub, N3.rDiv, N3.rMod, N3.rPow, N3.mPar, N3.mAndT, N3.mOrT, N3.mNotT, N3.mAnd, N3.mOr, N3.mOrV, N3.mAndV, N3.trv, N3.mNot, N3.mIf, N3.mChn, N3.mKeep, N3.mRep, N3.mDispM, N3.mPs, N3.ends, N3.rLen, N3.rListOf, N3.rListOfM, N3.rTupOf, N3.rSumI, N3.listed, N3.rSl, N3.rRev, N3.rEq, N3.rNe, N3.rIsN, N3.rNotN, N3.isNon, N3.vw, N3.mYes, N3.gT, N3.gsCons, N3.gsNil, N3.mFor, N3.mSeqs, N3.mLc, N3.mLcM, N3.mRng1, N3.mRng2, N3.mEnum, N3.mEnumA, N3.mZip, N3.wp, N3.rJoin, N3.rSS, N3.rIdxS, N3.rRepr, N3.flat, N3.flats, N3.toD, N3.toDs, List.length_cons, List.length_nil, List.append_eq, List.cons_append, List.nil_append, List.map_cons, List.map_nil, if_true, if_false, Bool.false_eq_true, decide_eq_true_eq, Option.some.injEq, true_and, and_true, Bool.not_true, Bool.not_false, reduceCtorEq, Bool.and_self, Bool.and_true, Bool.true_and, ite_true, ite_false]
    refine ⟨D, n, _, rfl, ha, hn, by omega, by have hz' : ys.length ≤ 16777216 := hz; omega, fun r h' h0 h1 a => ?_⟩
    obtain ⟨c, hc, e⟩ := atI_nat h0 h1
    simp only [e]
    exact k _ _ hc a
  | tup ys =>
    simp only [pickFrom, Option.some.injEq] at hp
    subst hp
    simp only [mPick, N3.mDput, N3.mB, N3.mU, N3.mVar, N3.mC, N3.sp0, N3.gt, N3.st, N3.rIx, N3.seqL, N3.dctL, N3.kOf, N3.rAdd, N3.mAsg, N3.gN, N3.mIfS, N3.mTest, N3.mPop, N3.mAppend, N3.mDrop, N3.mRet, N3.mRetN, N3.mNx, N3.mBrk, N3.mCnt, N3.mLst, N3.mLstM, N3.mCons, N3.mNil, N3.mTup, N3.mBlt, N3.mKw, N3.cat2, N3.cat2r, N3.gS, N3.gL, N3.mSlM, N3.rSlM, N3.mM1, N3.mSl, N3.mRev, N3.mStep, N3.mRevM, N3.mPart, N3.mNoPart, N3.rII, N3.rII0, N3.rIB, N3.rCmp, N3.rLt, N3.rLe, N3.rGt, N3.rGe, N3.mIsI, N3.tn, N3.isI, N3.mDisp, N3.mDct0, N3.mDct0M, N3.mPar3, N3.mAug, N3.rIAdd, N3.mExtend, N3.mInsert, N3.mPopAt, N3.rMin2, N3.rMax2, N3.rIntT, N3.rSplit, N3.rSplitM, N3.rAddM, N3.gPut, N3.mFmt, N3.mJs, N3.mJoin, N3.rDictP, N3.mRepM, N3.rListA, N3.rSortA, N3.mLc2, N3.lcI, N3.lcO, N3.rAllB, N3.rAnyB, N3.rStrI, N3.rIntO, N3.vwL, N3.rMul, N3.rMulT, N3.rNeg, N3.rSub, N3.rDiv, N3.rMod, N3.rPow, N3.mPar, N3.mAndT, N3.mOrT, N3.mNotT, N3.mAnd, N3.mOr, N3.mOrV, N3.mAndV, N3.trv, N3.mNot, N3.mIf, N3.mChn, N3.mKeep, N3.mRep, N3.mDispM, N3.mPs, N3.ends, N3.rLen, N3.rListOf, N3.rListOfM, N3.rTupOf, N3.rSumI, N3.listed, N3.rSl, N3.rRev, N3.rEq, N3.rNe, N3.rIsN, N3.rNotN, N3.isNon, N3.vw, N3.mYes, N3.gT, N3.gsCons, N3.gsNil, N3.mFor, N3.mSeqs, N3.mLc, N3.mLcM, N3.mRng1, N3.mRng2, N3.mEnum, N3.mEnumA, N3.mZip, N3.wp, N3.rJoin, N3.rSS, N3.rIdxS, N3.rRepr, N3.flat, N3.flats, N3.toD, N3.toDs, List.length_cons, List.length_nil, List.append_eq, List.cons_append, List.nil_append, List.map_cons, List.map_nil, if_true, if_false, Bool.false_eq_true, decide_eq_true_eq, Option.some.injEq, true_and, and_true, Bool.not_true, Bool.not_false, reduceCtorEq, Bool.and_self, Bool.and_true, Bool.true_and, ite_true, ite_false]
    refine ⟨D, n, _, rfl, ha, hn, by omega, by have hz' : ys.length ≤ 16777216 := hz; omega, fun r h' h0 h1 a => ?_⟩
    obtain ⟨c, hc, e⟩ := atI_nat h0 h1
    simp only [e]
    exact k _ _ hc a
  | _ => simp [pickFrom] at hp

/-- a comprehension over turns that draw: each turn's value is good -/
theorem runs {D : Dk} {τ : PSt} {i cost n : Nat} {m : ME} {h : PH} {Q : List PV → PH → Prop} (G : PV → Prop) (ps : List PV) (step : ∀ p ∈ ps, ∀ n' h' (Q : PK), D.At n' h' → n ≤ n' → n' + cost ≤ n + cost * ps.length → (∀ v h2, G v → D.At (n' + cost) h2 → Q v h2) → m (st τ i (some p)) h' Q)
    (ha : D.At n h) (k : ∀ (zs : List PV) h', (∀ z ∈ zs, G z) → zs.length = ps.length → D.At (n + cost * ps.length) h' → Q zs h') : lcL (fun _ => True) τ (gN i) mYes m ps [] h Q := by
  refine lcL_of (W := fun qs acc h' => (∀ z ∈ acc, G z) ∧ (∀ q ∈ qs, q ∈ ps) ∧ acc.length + qs.length = ps.length ∧ D.At (n + cost * acc.length) h') ?_ ?_ _ _ _ ⟨fun _ z => (List.not_mem_nil z).elim, fun _ h => h, by simp, by simpa using ha⟩
  · rintro p qs acc h' ⟨hg, hm, hl, a⟩
    refine ⟨trivial, fun P hP => ?_⟩
    rw [List.length_cons] at hl
    have hc : cost * (acc.length + 1) ≤ cost * ps.length := Nat.mul_le_mul_left _ (by omega)
    rw [Nat.mul_add, Nat.mul_one] at hc
    show m (st τ i (some p)) h' fun v h3 => P (acc ++ [v]) h3
    refine step p (hm p List.mem_cons_self) _ h' _ a (by omega) (by omega) fun v h2 gv a2 => hP _ _ ⟨fun z hz => ?_, fun q hq => hm q (List.mem_cons_of_mem _ hq), by rw [List.length_append, List.length_singleton]; omega, ?_⟩
    · rcases List.mem_append.mp hz with h | h
      · exact hg z h
      · rw [List.mem_singleton] at h; subst h; exact gv
    · rw [List.length_append, List.length_singleton, Nat.mul_add, Nat.mul_one, ← Nat.add_assoc]; exact a2
  · rintro acc h' ⟨hg, hm, hl, a⟩
    have e : acc.length = ps.length := by simpa using hl
    exact ⟨trivial, k acc h' hg e (by rw [← e]; exact a)⟩
theorem rng_len {lo : Int} {n : Nat} : (rng lo n).length = n := by unfold rng; rw [List.length_map, List.length_range]
/-- texts of one sign each, put together -/
theorem signs_of (G : Nat → Prop) : ∀ zs : List PV, (∀ z ∈ zs, ∃ c, G c ∧ z = .str (S [c])) → ∃ l : List Nat, zs = (l.map fun c => [c]).map (fun z => .str (S z)) ∧ (∀ c ∈ l, G c) ∧ l.length = zs.length
  | [], _ => ⟨[], rfl, fun _ h => (List.not_mem_nil h).elim, rfl⟩
  | z :: zs, h => by
    obtain ⟨c, gc, rfl⟩ := h z List.mem_cons_self
    obtain ⟨l, rfl, hl, hn⟩ := signs_of G zs fun y hy => h y (List.mem_cons_of_mem _ hy)
    refine ⟨c :: l, rfl, fun x hx => ?_, by rw [List.length_cons, List.length_cons, hn]⟩
    rcases List.mem_cons.mp hx with rfl | hx
    · exact gc
    · exact hl x hx
theorem joinL_nil : ∀ zs : List (List Nat), TL.joinL [] zs = zs.flatten
  | [] => rfl
  | [x] => by simp [TL.joinL]
  | x :: y :: r => by
    have ih := joinL_nil (y :: r)
    simp only [TL.joinL] at ih ⊢
    rw [ih]; simp
theorem flat_ones (l : List Nat) : (l.map fun c => [c]).flatten = l := by
  induction l with
  | nil => rfl
  | cons c l ih => rw [List.map_cons, List.flatten_cons, ih]; rfl
theorem sum_ones (l : List Nat) : ((l.map fun c => [c]).map (·.length)).sum = l.length := by
  induction l with
  | nil => rfl
  | cons c l ih => rw [List.map_cons, List.map_cons, List.sum_cons, ih, List.length_cons]; simp; omega

/-! ### texts: the first place of a sign -/
open PySem.StrLaws PySem.Builtin.Str in
theorem occ_full (s sub : Str) (hi : Nat) : ∀ (l : List Nat) (st : Array Nat × Nat), ¬ st.fst.size < 1 → (forIn l st (occBody s sub hi 1)).run.fst = st.fst
  | [], _, _ => rfl
  | a :: l, st, h => by
    rw [List.forIn_cons]
    unfold occBody
    rw [if_neg fun z => h z.1.1.1]
    exact occ_full s sub hi l _ h
open PySem.StrLaws PySem.Builtin.Str in
theorem occ_first (s sub : Str) (hi : Nat) : ∀ (l : List Nat) (free : Nat), (∀ i ∈ l, free ≤ i) →
    (forIn l ((#[] : Array Nat), free) (occBody s sub hi 1)).run.fst.toList.head? = l.find? fun i => decide (i + sub.length ≤ hi ∧ subAt s sub i = true)
  | [], _, _ => rfl
  | a :: l, free, hf => by
    rw [List.forIn_cons]
    unfold occBody
    have ha : free ≤ a := hf a List.mem_cons_self
    by_cases hc : a + sub.length ≤ hi ∧ subAt s sub a = true
    · rw [if_pos ⟨⟨⟨by simp, ha⟩, hc.1⟩, hc.2⟩]
      have := occ_full s sub hi l ((#[] : Array Nat).push a, a + sub.length) (by simp)
      show ((forIn l ((#[] : Array Nat).push a, a + sub.length) (occBody s sub hi 1)).run.fst.toList.head?) = _
      rw [this, List.find?_cons_of_pos (by simpa using hc)]
      simp
    · rw [if_neg fun z => hc ⟨z.1.2, z.2⟩, List.find?_cons_of_neg (by simpa using hc)]
      exact occ_first s sub hi l free fun i hi' => hf i (List.mem_cons_of_mem _ hi')
theorem find_range (l : List Nat) (c : Nat) : ∀ (n k : Nat), k + n = l.length + 1 → (∀ i, i < k → l[i]? ≠ some c) → (List.range' k n).find? (fun i => decide (l[i]? = some c)) = if c ∈ l then some (l.idxOf c) else none
  | 0, k, h, hk => by
    have hn : c ∉ l := fun hc => by
      obtain ⟨i, e⟩ := List.mem_iff_getElem?.mp hc
      obtain ⟨hi, _⟩ := List.getElem?_eq_some_iff.mp e
      exact hk i (by omega) e
    rw [if_neg hn]; rfl
  | n + 1, k, h, hk => by
    rw [List.range'_succ]
    by_cases e : l[k]? = some c
    · rw [List.find?_cons_of_pos (by simpa using e)]
      have hm : c ∈ l := List.mem_iff_getElem?.mpr ⟨k, e⟩
      rw [if_pos hm]
      have h1 : l.idxOf c ≤ k := by
        refine Nat.le_of_not_lt fun z => ?_
        obtain ⟨hi, ek⟩ := List.getElem?_eq_some_iff.mp e
        have := List.not_of_lt_findIdx (xs := l) (p := fun x => x == c) (i := k) (by simpa [List.idxOf] using z)
        simp [ek] at this
      have h2 : ¬ l.idxOf c < k := fun z => by
        have hl : l.idxOf c < l.length := List.idxOf_lt_length_iff.mpr hm
        exact hk _ z (by rw [List.getElem?_eq_getElem hl, List.getElem_idxOf])
      congr 1; omega
    · rw [List.find?_cons_of_neg (by simpa using e)]
      refine find_range l c n (k + 1) (by omega) fun i hi => ?_
      by_cases z : i = k
      · subst z; exact e
      · exact hk i (by omega)
open PySem.StrLaws PySem.Builtin.Str in
theorem first_one (l : List Nat) (c : Nat) : (occurrences (S l) (S [c]) 0 (S l).length 1).head? = if c ∈ l then some (l.idxOf c) else none := by
  rw [occ_eq, occ_first _ _ _ _ _ (fun _ _ => Nat.zero_le _), ← find_range l c (l.length + 1) 0 (by omega) (fun i hi => absurd hi (Nat.not_lt_zero _))]
  rw [S_length, Nat.sub_zero]
  congr 1
  funext i
  have := subAt_one (S l) c i
  rw [S_length] at this
  exact decide_eq_decide.mpr this
theorem find_one (l : List Nat) (c : Nat) : Txt.find (S l) (S [c]) = if c ∈ l then (l.idxOf c : Int) else -1 := by
  have h := first_one l c
  unfold Txt.find
  split
  · rename_i i r e
    rw [e, List.head?_cons] at h
    by_cases hc : c ∈ l
    · rw [if_pos hc] at h ⊢
      rw [Option.some.inj h]
    · rw [if_neg hc] at h; cases h
  · rename_i e
    rw [e, List.head?_nil] at h
    by_cases hc : c ∈ l
    · rw [if_pos hc] at h; cases h
    · rw [if_neg hc]
theorem index_one (l : List Nat) (c : Nat) : Txt.index0 (S l) (S [c]) = if c ∈ l then some (l.idxOf c) else none := first_one l c
end N3

namespace N3
open PySem PySem.Spec PyProof.Rows L2

/-! ### how long what is shown may be -/
mutual
def wt : PyData → Nat
  | .none => 4
  | .bool _ => 5
  | .int i => i.natAbs.log2 + 2
  | .str x => 10 * x.length + 2
  | .list xs => wts xs + 2
  | .tuple xs => wts xs + 3
  | .dict kvs => wtk kvs + 2
def wts : List PyData → Nat
  | [] => 0
  | x :: xs => wt x + 2 + wts xs
def wtk : List (PyData × PyData) → Nat
  | [] => 0
  | (k, v) :: r => wt k + wt v + 4 + wtk r
end
mutual
def sigs : PyData → Bool
  | .str x => (cl x).all fun c => decide (c < 16 ^ 8)
  | .list xs => sigsAll xs
  | .tuple xs => sigsAll xs
  | .dict kvs => sigsKv kvs
  | _ => true
def sigsAll : List PyData → Bool
  | [] => true
  | x :: xs => sigs x && sigsAll xs
def sigsKv : List (PyData × PyData) → Bool
  | [] => true
  | (k, v) :: r => sigs k && sigs v && sigsKv r
end
theorem textFrom_le : ∀ (ts : List Str) (k : Nat) (acc : Str), (textFrom k acc ts).length ≤ acc.length + (ts.map fun t => t.length + 2).sum
  | [], k, acc => by simp [textFrom]
  | t :: r, k, acc => by
    have ih := textFrom_le r (k + 1) (acc ++ (if k > 0 then ", " else "" : String) ++ t)
    have e : (acc ++ (if k > 0 then ", " else "" : String) ++ t).length ≤ acc.length + 2 + t.length := by
      rw [strLen_append, strLen_append]
      split
      · exact Nat.le_refl _
      · have : (("" : String) : Str).length = 0 := rfl
        omega
    simp only [List.map_cons, List.sum_cons]
    show (textFrom (k + 1) _ r).length ≤ _
    omega
theorem listText_le (ts : List Str) : (listText ts).length ≤ (ts.map fun t => t.length + 2).sum + 2 := by
  unfold listText
  rw [strLen_append]
  have := textFrom_le ts 0 "["
  have e1 : (("[" : String) : Str).length = 1 := rfl
  have e2 : ("]" : Str).length = 1 := rfl
  omega
theorem tupleText_le (ts : List Str) : (tupleText ts).length ≤ (ts.map fun t => t.length + 2).sum + 3 := by
  unfold tupleText
  rw [strLen_append, strLen_append]
  have e1 : ("(" : Str).length = 1 := rfl
  have e2 : ((if ts.length == 1 then ",)" else ")" : String) : Str).length ≤ 2 := by
    split
    · exact Nat.le_refl _
    · exact Nat.le_succ _
  cases ts with
  | nil =>
    have : (Str.join ", " ([] : List Str)).length = 0 := rfl
    simp only [List.map_nil, List.sum_nil]
    omega
  | cons x r =>
    have := join_length_add (x :: r) (by simp)
    unfold piled at this
    omega
theorem dictText_le (ts : List Str) : (dictText ts).length ≤ (ts.map fun t => t.length + 2).sum + 2 := by
  unfold dictText
  rw [strLen_append, strLen_append]
  have e1 : ("{" : Str).length = 1 := rfl
  have e2 : ("}" : Str).length = 1 := rfl
  cases ts with
  | nil =>
    have : (Str.join ", " ([] : List Str)).length = 0 := rfl
    simp only [List.map_nil, List.sum_nil]
    omega
  | cons x r =>
    have := join_length_add (x :: r) (by simp)
    unfold piled at this
    omega
mutual
theorem shown_le : ∀ d : PyData, sigs d = true → d.shown.length ≤ wt d
  | .none, _ => by simp only [PyData.shown, wt]; decide
  | .bool b, _ => by simp only [PyData.shown, wt]; cases b <;> decide
  | .int i, _ => by
    simp only [PyData.shown, wt]
    have := int_text_length_le (a := i) (k := i.natAbs.log2 + 1) (Nat.succ_pos _) (Nat.lt_succ_self _)
    show (Str.ofString (toString i)).length ≤ _
    rw [PySem.ofString_length]; omega
  | .str x, s => by
    simp only [PyData.shown, wt]
    refine StrLaws.reprText_len x fun c hc => ?_
    simp only [sigs, List.all_eq_true, decide_eq_true_eq] at s
    exact s c hc
  | .list xs, s => by
    simp only [PyData.shown, wt]
    have := shownAll_le xs (by simpa only [sigs] using s)
    have := listText_le (PyData.shownAll xs)
    omega
  | .tuple xs, s => by
    simp only [PyData.shown, wt]
    have := shownAll_le xs (by simpa only [sigs] using s)
    have := tupleText_le (PyData.shownAll xs)
    omega
  | .dict kvs, s => by
    simp only [PyData.shown, wt]
    have := shownKv_le kvs (by simpa only [sigs] using s)
    have := dictText_le (PyData.shownKv kvs)
    omega
theorem shownAll_le : ∀ xs : List PyData, sigsAll xs = true → ((PyData.shownAll xs).map fun t => t.length + 2).sum ≤ wts xs
  | [], _ => by simp [PyData.shownAll, wts]
  | x :: xs, s => by
    simp only [sigsAll, Bool.and_eq_true] at s
    have h1 := shown_le x s.1
    have h2 := shownAll_le xs s.2
    simp only [PyData.shownAll, wts, List.map_cons, List.sum_cons]
    omega
theorem shownKv_le : ∀ xs : List (PyData × PyData), sigsKv xs = true → ((PyData.shownKv xs).map fun t => t.length + 2).sum ≤ wtk xs
  | [], _ => by simp [PyData.shownKv, wtk]
  | (k, v) :: xs, s => by
    simp only [sigsKv, Bool.and_eq_true] at s
    have h1 := shown_le k s.1.1
    have h2 := shown_le v s.1.2
    have h3 := shownKv_le xs s.2
    simp only [PyData.shownKv, wtk, List.map_cons, List.sum_cons]
    rw [strLen_append, strLen_append]
    have e1 : (": " : Str).length = 2 := rfl
    omega
end
/-- what is asked of a value whose repr is taken, put together -/
theorem repr_ok {h : PH} {p : PV} {Q : PK} (f : okR (vwL h p) = true) (hs : (toD (vwL h p)).showable = true) (hd : (toD (vwL h p)).depth ≤ 64) (hg : sigs (toD (vwL h p)) = true) (hw : wt (toD (vwL h p)) ≤ SZ) (q : Q (.str (toD (vwL h p)).shown) h) : rRepr [p] h Q :=
  ⟨⟨f, hs, hd, Nat.le_trans (shown_le _ hg) hw⟩, q⟩
theorem log_lt {i : Int} {k : Nat} (h : i.natAbs < 2 ^ (k + 1)) : i.natAbs.log2 < k + 1 := by
  by_cases z : i.natAbs = 0
  · rw [z]; simp
  · exact (Nat.log2_lt z).mpr h
end N3

/-! what is drawn: texts of few signs, data of few parts -/
namespace N3
open PySem PySem.Spec PyProof.Rows L2

theorem draw_to {D : Dk} {n : Nat} {h : PH} {Q : PK} {many : Int} (ha : D.At n h) (hn : n < 900000000) (h1 : 1 ≤ many) (h2 : many < 1073741824) (k : ∀ r h', 0 ≤ r → r < many → D.At (n + 1) h' → Q (.int r) h') : spDraw [.ref D.d, .int many] h Q :=
  ⟨D, n, many, rfl, ha, by omega, h1, h2, k⟩
theorem pick_lst {D : Dk} {n : Nat} {h : PH} {Q : PK} {xs : List PV} (ha : D.At n h) (hn : n < 900000000) (h1 : xs ≠ []) (h2 : xs.length ≤ 100000) (k : ∀ v ∈ xs, ∀ h', D.At (n + 1) h' → Q v h') : spPick [.ref D.d, .lst xs] h Q :=
  ⟨D, n, _, xs, rfl, ha, by omega, rfl, h1, by show _ ≤ 16777216; omega, fun v h' hv a => k v hv h' a⟩
theorem pick_tup {D : Dk} {n : Nat} {h : PH} {Q : PK} {xs : List PV} (ha : D.At n h) (hn : n < 900000000) (h1 : xs ≠ []) (h2 : xs.length ≤ 100000) (k : ∀ v ∈ xs, ∀ h', D.At (n + 1) h' → Q v h') : spPick [.ref D.d, .tup xs] h Q :=
  ⟨D, n, _, xs, rfl, ha, by omega, rfl, h1, by show _ ≤ 16777216; omega, fun v h' hv a => k v hv h' a⟩
theorem ones_length (x : Str) : (ones x).length = (cl x).length := by unfold ones; rw [List.length_map]
theorem pick_str {D : Dk} {n : Nat} {h : PH} {Q : PK} {x : Str} (ha : D.At n h) (hn : n < 900000000) (h1 : cl x ≠ []) (h2 : (cl x).length ≤ 100000) (k : ∀ c ∈ cl x, ∀ h', D.At (n + 1) h' → Q (.str (S [c])) h') : spPick [.ref D.d, .str x] h Q := by
  refine ⟨D, n, _, ones x, rfl, ha, by omega, rfl, fun e => h1 (List.map_eq_nil_iff.mp e), by rw [ones_length]; show _ ≤ 16777216; omega, fun v h' hv a => ?_⟩
  obtain ⟨c, hc, rfl⟩ := List.mem_map.mp hv
  exact k c hc h' a
/-- an item, by its place -/
theorem ix_lst {xs : List PV} {r : Int} {h : PH} {Q : PK} (h0 : 0 ≤ r) (h1 : r < xs.length) (k : ∀ v ∈ xs, Q v h) : rIx (.lst xs) (.int r) h Q := by
  obtain ⟨v, hv, e⟩ := atI_nat h0 h1
  simp only [rIx, seqL, e]
  exact k v hv
theorem ix_tup {xs : List PV} {r : Int} {h : PH} {Q : PK} (h0 : 0 ≤ r) (h1 : r < xs.length) (k : ∀ v ∈ xs, Q v h) : rIx (.tup xs) (.int r) h Q := by
  obtain ⟨v, hv, e⟩ := atI_nat h0 h1
  simp only [rIx, e]
  exact k v hv
theorem atI_lst {xs : List PV} {r : Int} {Z : PV → Prop} (h0 : 0 ≤ r) (h1 : r < xs.length) (k : ∀ v ∈ xs, Z v) : (match atI xs r with | some v => Z v | none => False) := by
  obtain ⟨v, hv, e⟩ := atI_nat h0 h1
  rw [e]; exact k v hv

/-- what is not right: nothing -/
theorem none_wrong {τ : PSt} {i : Nat} {sp : SpP} {xs : List PV} {h : PH} {Q : List PV → PH → Prop} (hi : ∀ v, gt (st τ i (some v)) i = some v) (hx : ∀ x ∈ xs, ∀ P : PK, P (.bl true) h → sp [x] h P) (q : Q [] h) :
    lcL (fun _ => True) τ (gN i) (mNotT (mTest (mBlt sp (mCons (mVar i) mNil)))) (mVar i) xs [] h Q := by
  refine lcL_filter (c := fun _ => false) (f := id) trivial _ _ (fun p hp P acc z => ?_) (by rw [show (List.filter (fun _ => false) xs) = [] from by induction xs <;> simp_all]; exact q)
  simp only [gN, mNotT, mTest, mBlt, mCons, mVar, mNil, hi]
  exact hx p hp _ z
theorem okRs_of : ∀ {ps : List PV}, (∀ p ∈ ps, okR p = true) → okRs ps = true
  | [], _ => rfl
  | p :: ps, h => by
    show (okR p && okRs ps) = true
    rw [h p List.mem_cons_self, okRs_of fun q hq => h q (List.mem_cons_of_mem _ hq)]; rfl
theorem eqv_str (x : Str) : PyData.eqv (.str x) (.str x) = true := eqv_self _ rfl
/-! ### objects beside the deck -/
def Dk.wr (D : Dk) (a : Addr) (o : PO) : Dk := { D with h0 := up D.h0 a o }
theorem Dk.wr_hp {D : Dk} {a : Addr} {o : PO} {xs : List Int} {g : Int} (n1 : a ≠ D.d) (n2 : a ≠ D.l) : (D.wr a o).hp xs g = up (D.hp xs g) a o := by
  unfold Dk.hp Dk.wr
  dsimp only
  rw [up_swap n1, up_swap n2]
theorem Dk.At.wr {D : Dk} {n : Nat} {h : PH} {a : Addr} (o : PO) (ha : D.At n h) (n1 : a ≠ D.d) (n2 : a ≠ D.l) : (D.wr a o).At n (up h a o) := by
  obtain ⟨xs, g, h1, h2, h3, rfl⟩ := ha
  exact ⟨xs, g, h1, h2, h3, (Dk.wr_hp n1 n2).symm⟩
theorem Dk.At.ne {D : Dk} {n : Nat} {h : PH} {a : Addr} (ha : D.At n h) (e : h a = none) : a ≠ D.d ∧ a ≠ D.l := by
  obtain ⟨xs, g, h1, h2, h3, rfl⟩ := ha
  refine ⟨fun z => ?_, fun z => ?_⟩
  · rw [z, Dk.at_d] at e; cases e
  · rw [z, Dk.at_l] at e; cases e
theorem Dk.At.rd {D : Dk} {n : Nat} {h : PH} {a : Addr} (ha : D.At n h) (n1 : a ≠ D.d) (n2 : a ≠ D.l) : h a = D.h0 a := by
  obtain ⟨xs, g, h1, h2, h3, rfl⟩ := ha
  unfold Dk.hp
  rw [up_ne n2, up_ne n1]
theorem Dk.wr_wr {D : Dk} {a : Addr} {o u : PO} : (D.wr a o).wr a u = D.wr a u := by
  unfold Dk.wr
  dsimp only
  rw [up_up]
theorem Dk.wr_sw {D : Dk} {a b : Addr} {o u : PO} (e : a ≠ b) : (D.wr a o).wr b u = (D.wr b u).wr a o := by
  unfold Dk.wr
  dsimp only
  rw [up_swap e]
theorem Dk.At.back {D : Dk} {n : Nat} {h : PH} {a : Addr} {o : PO} (ha : (D.wr a o).At n h) (e : D.h0 a = none) (n1 : a ≠ D.d) (n2 : a ≠ D.l) : ∃ h0, sub h0 h ∧ h0 a = .none ∧ D.At n h0 := by
  obtain ⟨xs, g, h1, h2, h3, rfl⟩ := ha
  refine ⟨D.hp xs g, ?_, by unfold Dk.hp; rw [up_ne n2, up_ne n1]; exact e, xs, g, h1, h2, h3, rfl⟩
  rw [Dk.wr_hp n1 n2]
  refine sub_up ?_
  unfold Dk.hp
  rw [up_ne n2, up_ne n1]; exact e
theorem Dk.At.none {D : Dk} {n : Nat} {h : PH} {a : Addr} (ha : D.At n h) (e : h a = none) : D.h0 a = none := by
  obtain ⟨n1, n2⟩ := ha.ne e
  rw [← ha.rd n1 n2]; exact e
theorem ixN_nat {n q : Nat} (h : q < n) : ixN n (q : Int) = some q := by
  unfold ixN
  have h0 : (0 : Int) ≤ q := by omega
  have h1 : (q : Int) < n := by omega
  simp only [h0, h1, if_true, Int.toNat_natCast]
theorem rep_one {α : Type} (n : Nat) (x : α) : (List.replicate n [x]).flatten = List.replicate n x := by
  induction n with
  | zero => rfl
  | succ n ih => rw [List.replicate_succ, List.flatten_cons, ih, List.replicate_succ]; rfl
theorem flats_of {ps : List PV} (h : ∀ p ∈ ps, flat p = true) : flats ps = true := by
  induction ps with
  | nil => rfl
  | cons p ps ih =>
    show (flat p && flats ps) = true
    rw [h p List.mem_cons_self, ih fun q hq => h q (List.mem_cons_of_mem _ hq)]; rfl
theorem sub_lose {h : PH} {a : Addr} {o : PO} (e : h a = none) : sub h (lose (up h a o) a) := fun b u z => by
  have hb : b ≠ a := fun q => by rw [q, e] at z; cases z
  rw [lose_ne hb, up_ne hb]; exact z
theorem sub_lose' {h0 h : PH} {a : Addr} (s : sub h0 h) (e : h0 a = none) : sub h0 (lose h a) := fun b u z => by
  have hb : b ≠ a := fun q => by rw [q, e] at z; cases z
  rw [lose_ne hb]; exact s b u z
theorem eqv_int (x y : Int) : PyData.eqv (.int x) (.int y) = decide (x = y) := by
  show (x == y) = _
  by_cases h : x = y <;> simp [h]
theorem eqv_S (x y : List Nat) : PyData.eqv (.str (S x)) (.str (S y)) = decide (x = y) := by
  show (S x == S y) = _
  by_cases h : x = y
  · subst h; simp
  · rw [decide_eq_false h]
    exact beq_eq_false_iff_ne.mpr fun z => h (by have := congrArg cl z; rwa [cl_S, cl_S] at this)
theorem eqv_nil (xs : List PV) : PyData.eqv (.list (toDs xs)) (.list []) = xs.isEmpty := by cases xs <;> rfl
theorem perm_one {α : Type} {le : α → α → Prop} : ∀ {a b : List α}, a.Perm b → a.Pairwise le → b.Pairwise le → (∀ x ∈ a, ∀ y ∈ a, le x y → le y x → x = y) → a = b
  | [], b, p, _, _, _ => by rw [List.nil_perm.mp p]
  | x :: a, [], p, _, _, _ => by cases p.symm.nil_eq
  | x :: a, y :: b, p, h1, h2, an => by
    have e : x = y := by
      have hx : x ∈ y :: b := p.mem_iff.mp List.mem_cons_self
      have hy : y ∈ x :: a := p.mem_iff.mpr List.mem_cons_self
      rcases List.mem_cons.mp hx with e | hx'
      · exact e
      rcases List.mem_cons.mp hy with e | hy'
      · exact e.symm
      · exact an x List.mem_cons_self y hy ((List.pairwise_cons.mp h1).1 y hy') ((List.pairwise_cons.mp h2).1 x hx')
    subst e
    rw [perm_one (List.perm_cons x |>.mp p) (List.pairwise_cons.mp h1).2 (List.pairwise_cons.mp h2).2 fun z hz w hw => an z (List.mem_cons_of_mem _ hz) w (List.mem_cons_of_mem _ hw)]
/-! ### texts of signs below 128 -/
structure Tx (n : Nat) (l : List Nat) : Prop where
  c : ∀ c ∈ l, c < 128
  n : l.length ≤ n
section
variable {n m : Nat} {l k : List Nat}
theorem Tx.mono (t : Tx n l) (h : n ≤ m) : Tx m l := ⟨t.c, Nat.le_trans t.n h⟩
theorem Tx.nil : Tx n [] := ⟨fun _ h => (List.not_mem_nil h).elim, Nat.zero_le _⟩
theorem Tx.one {c : Nat} (h : c < 128) : Tx 1 [c] := ⟨fun x hx => by rw [List.mem_singleton] at hx; omega, Nat.le_refl _⟩
theorem Tx.app (t : Tx n l) (u : Tx m k) : Tx (n + m) (l ++ k) := ⟨fun c hc => (List.mem_append.mp hc).elim (t.c c) (u.c c), by rw [List.length_append]; have := t.n; have := u.n; omega⟩
theorem mem_cut {α : Type} {xs : List α} {lo hi : Option Int} {x : α} (h : x ∈ cut xs lo hi) : x ∈ xs := by
  unfold cut at h; exact List.mem_of_mem_drop (List.mem_of_mem_take h)
theorem Tx.cut (t : Tx n l) (lo hi : Option Int) : Tx n (cut l lo hi) := ⟨fun c hc => t.c c (mem_cut hc), Nat.le_trans (cut_length _ _ _) t.n⟩
theorem Tx.rev (t : Tx n l) : Tx n l.reverse := ⟨fun c hc => t.c c (List.mem_reverse.mp hc), by rw [List.length_reverse]; exact t.n⟩
theorem len_rep (k : Nat) (l : List Nat) : (List.replicate k l).flatten.length = k * l.length := by
  rw [List.length_flatten, List.map_replicate, List.sum_replicate_nat]
theorem Tx.rep (t : Tx n l) (k : Nat) : Tx (k * n) (List.replicate k l).flatten := ⟨fun c hc => by
  obtain ⟨y, hy, hx⟩ := List.mem_flatten.mp hc
  rw [(List.mem_replicate.mp hy).2] at hx
  exact t.c c hx, by rw [len_rep]; exact Nat.mul_le_mul_left _ t.n⟩
theorem Tx.len (t : Tx n l) (h : n ≤ 1000000) : (S l).length ≤ SZ := by rw [S_length]; have := t.n; show _ ≤ 16777216; omega
end
/-- the text of a number -/
theorem tx_num {i : Int} {k : Nat} (hk : 0 < k) (h : i.natAbs < 10 ^ k) : Tx (k + 1) (cl (Str.ofString (toString i))) := by
  refine ⟨fun c hc => ?_, ?_⟩
  · have := PySem.W.KSb.asc_num i
    exact this c (by simpa [cl] using hc)
  · rw [← cl_length, PySem.ofString_length]
    exact int_text_length_le10 hk h

/-! ### data: how deep, how long its text may be -/
structure TH (n z : Nat) (p : PV) : Prop where
  ok : okR p = true
  sh : (toD p).showable = true
  dp : (toD p).depth ≤ n
  sg : sigs (toD p) = true
  sz : wt (toD p) ≤ z
section
variable {n m z y : Nat} {p : PV} {ps : List PV}
theorem TH.mono (t : TH n z p) (h1 : n ≤ m) (h2 : z ≤ y) : TH m y p := ⟨t.ok, t.sh, Nat.le_trans t.dp h1, t.sg, Nat.le_trans t.sz h2⟩
theorem TH.str {l : List Nat} (t : Tx n l) : TH 0 (10 * n + 2) (.str (S l)) := by
  refine ⟨rfl, rfl, Nat.le_refl _, ?_, ?_⟩
  · show (cl (S l)).all _ = true
    rw [List.all_eq_true]
    intro c hc
    have := t.c c hc
    rw [decide_eq_true_eq]
    exact Nat.lt_of_lt_of_le this (by decide)
  · show 10 * (S l).length + 2 ≤ _
    rw [S_length]; have := t.n; omega
theorem TH.strS {x : Str} (t : Tx n (cl x)) : TH 0 (10 * n + 2) (.str x) := by
  have := TH.str t
  rwa [S_cl] at this
theorem TH.int {i : Int} {k : Nat} (h : i.natAbs < 2 ^ (k + 1)) (hk : k < 1900 := by decide) : TH 0 (k + 3) (.int i) := by
  have := log_lt h
  refine ⟨rfl, ?_, Nat.le_refl _, rfl, ?_⟩
  · show decide (_ < 1920) = true
    rw [decide_eq_true_eq]; omega
  · show i.natAbs.log2 + 2 ≤ _
    omega
theorem TH.non : TH 0 4 .non := ⟨rfl, rfl, Nat.le_refl _, rfl, Nat.le_refl _⟩
theorem TH.bl {b : Bool} : TH 0 5 (.bl b) := ⟨rfl, rfl, Nat.le_refl _, rfl, Nat.le_refl _⟩
theorem TH.all (h : ∀ p ∈ ps, TH n z p) : okRs ps = true ∧ PyData.showableAll (toDs ps) = true ∧ PyData.depthAll (toDs ps) ≤ n ∧ sigsAll (toDs ps) = true ∧ wts (toDs ps) ≤ ps.length * (z + 2) := by
  induction ps with
  | nil => exact ⟨rfl, rfl, Nat.zero_le _, rfl, Nat.zero_le _⟩
  | cons p ps ih =>
    obtain ⟨h1, h2, h3, h4, h5⟩ := ih fun q hq => h q (List.mem_cons_of_mem _ hq)
    have t := h p List.mem_cons_self
    refine ⟨?_, ?_, ?_, ?_, ?_⟩
    · show (okR p && okRs ps) = true; rw [t.ok, h1]; rfl
    · show ((toD p).showable && PyData.showableAll (toDs ps)) = true; rw [t.sh, h2]; rfl
    · show max (toD p).depth (PyData.depthAll (toDs ps)) ≤ n
      exact Nat.max_le.mpr ⟨t.dp, h3⟩
    · show (sigs (toD p) && sigsAll (toDs ps)) = true; rw [t.sg, h4]; rfl
    · show wt (toD p) + 2 + wts (toDs ps) ≤ _
      have := t.sz
      rw [List.length_cons, Nat.add_mul]
      omega
theorem TH.lst (h : ∀ p ∈ ps, TH n z p) : TH (n + 1) (ps.length * (z + 2) + 2) (.lst ps) := by
  obtain ⟨h1, h2, h3, h4, h5⟩ := TH.all h
  refine ⟨h1, h2, ?_, h4, ?_⟩
  · show PyData.depthAll (toDs ps) + 1 ≤ _; omega
  · show wts (toDs ps) + 2 ≤ _; omega
theorem TH.tup (h : ∀ p ∈ ps, TH n z p) : TH (n + 1) (ps.length * (z + 2) + 3) (.tup ps) := by
  obtain ⟨h1, h2, h3, h4, h5⟩ := TH.all h
  refine ⟨h1, h2, ?_, h4, ?_⟩
  · show PyData.depthAll (toDs ps) + 1 ≤ _; omega
  · show wts (toDs ps) + 3 ≤ _; omega
theorem TH.repr {h : PH} {Q : PK} (t : TH n z (vwL h p)) (hn : n ≤ 64) (hz : z ≤ SZ) (q : Q (.str (toD (vwL h p)).shown) h) : rRepr [p] h Q :=
  repr_ok t.ok t.sh (Nat.le_trans t.dp hn) t.sg (Nat.le_trans t.sz hz) q
end
end N3

namespace Wneversaid_k41_words_said
open PySem PySem.Spec PyProof.Rows L2 N3
def top (i : Nat) : Stmt := PySem.Challenge.pw_neversaid_k41_words_said.main.body.getD i (.Pass ⟨0, 0, 0, 0⟩)
abbrev s_Said_init : Stmt := inClass (top 3) 0
abbrev s_Sayer_init : Stmt := inClass (top 4) 0
abbrev s_Sayer_len : Stmt := inClass (top 4) 1
abbrev s_Sayer_due : Stmt := inClass (top 4) 4
abbrev s_Sayer_answered : Stmt := inClass (top 4) 5
abbrev s_Sayer_beat : Stmt := inClass (top 4) 6
abbrev s_Sayer_again : Stmt := inClass (top 4) 7
abbrev s_Sayer_remembered : Stmt := inClass (top 4) 8
abbrev s_law_deck : Stmt := top 6
abbrev s_law_draw : Stmt := top 7
abbrev s_law_keys : Stmt := top 10
abbrev s_law_words : Stmt := top 11
abbrev s_law_pick : Stmt := top 8
abbrev s_law_names : Stmt := top 9
abbrev s_law_beat : Stmt := top 15
abbrev s_Sayer_say : Stmt := inClass (top 4) 2
abbrev s_law_begun : Stmt := top 12
abbrev s_law_seen : Stmt := top 13
abbrev s_law_answers : Stmt := top 14
abbrev s_law_deed : Stmt := top 16
abbrev s_law : Stmt := top 17
abbrev pat_Said_init_0 : Pat := ⟨4, [], [0, 1, 2, 3], []⟩
abbrev pats_Said_init : List Pat := [pat_Said_init_0]
abbrev pat_Sayer_init_0 : Pat := ⟨2, [], [0, 1, 2], [.int 2]⟩
abbrev pat_Sayer_init_1 : Pat := ⟨2, ["late"], [0, 1, 2], []⟩
abbrev pats_Sayer_init : List Pat := [pat_Sayer_init_0, pat_Sayer_init_1]
abbrev pat_Sayer_due_0 : Pat := ⟨1, [], [0], []⟩
abbrev pats_Sayer_due : List Pat := [pat_Sayer_due_0]
abbrev pat_Sayer_remembered_0 : Pat := ⟨1, [], [0], []⟩
abbrev pats_Sayer_remembered : List Pat := [pat_Sayer_remembered_0]
abbrev pat_Sayer_len_0 : Pat := ⟨1, [], [0], []⟩
abbrev pats_Sayer_len : List Pat := [pat_Sayer_len_0]
abbrev pat_Sayer_answered_0 : Pat := ⟨1, ["word", "turn", "key", "other"], [0, 4, 3, 2, 1], []⟩
abbrev pat_Sayer_answered_1 : Pat := ⟨5, [], [0, 1, 2, 3, 4], []⟩
abbrev pats_Sayer_answered : List Pat := [pat_Sayer_answered_0, pat_Sayer_answered_1]
abbrev pat_Sayer_beat_0 : Pat := ⟨1, [], [0], []⟩
abbrev pats_Sayer_beat : List Pat := [pat_Sayer_beat_0]
abbrev pat_Sayer_say_0 : Pat := ⟨3, [], [0, 1, 2], []⟩
abbrev pats_Sayer_say : List Pat := [pat_Sayer_say_0]
abbrev pat_Sayer_again_0 : Pat := ⟨1, [], [0], []⟩
abbrev pats_Sayer_again : List Pat := [pat_Sayer_again_0]
/-! ### Said_init -/
abbrev N_Said_init : List Str := ["self", "turn", "word", "names", "name"]
abbrev P_Said_init : List Str := ["self", "turn", "word", "names"]
theorem sc_Said_init : FnScope N_Said_init P_Said_init (defScope s_Said_init) := ⟨rfl, rfl, rfl, by decide +kernel, rfl, by decide +kernel, by decide +kernel⟩
def m_Said_init (Ad_Said : Addr) : MS :=
  mSeq (mPutF Ad_Said "turn_here" (mVar 0) (mVar 1))
  (mSeq (mPutF Ad_Said "word_here" (mVar 0) (mVar 2))
  (mSeq (mPutF Ad_Said "names_heard" (mVar 0) (mDcM (mSeqs (mVar 3)) [4] (gN 4) (mYes) (mVar 4) (mC (.bl true))))
  (mPutF Ad_Said "wait_here" (mVar 0) (mC (.int 0)))))
theorem ok_Said_init {P : Program} {w : World} {K : PySem.W.Frag} {mg : Str → Option Value} {base : Heap} {f : Addr} {fd : FuncData} {Ad_Said : Addr} {sp : SpP} (F : Fun K "__init__" "Said.__init__" s_Said_init f fd) (cl_Said : Cls K Ad_Said) (n_Said_turn_here : NoAttr K Ad_Said "turn_here") (n_Said_word_here : NoAttr K Ad_Said "word_here") (n_Said_names_heard : NoAttr K Ad_Said "names_heard") (n_Said_wait_here : NoAttr K Ad_Said "wait_here")
    (hp : ∀ (qs : List PV) (h : PH) (Q : N3.PK), qs.length = P_Said_init.length → sp qs h Q → m_Said_init Ad_Said (ends Q) (sp0 N_Said_init.length qs) h) : FnG P w K mg base (0 + 1) f fd P_Said_init sp := by
  refine fn_ok (k := 0) F sc_Said_init (m := m_Said_init Ad_Said) (fun cdv A outer s H E hr hG => ?_) hp
  have nd := sc_Said_init.nd
  exact ls_cons (ls_fld cl_Said n_Said_turn_here (le_var (i := 0)) (le_var (i := 1)))
    (ls_cons (ls_fld cl_Said n_Said_word_here (le_var (i := 0)) (le_var (i := 2)))
    (ls_cons (ls_fld cl_Said n_Said_names_heard (le_var (i := 0)) (le_dcM [("name", 4)] rfl nd (li_seqs (le_var (i := 3))) (blkOk_by (N := N_Said_init) (sc := defScope s_Said_init) (own := [("name", 4)]) (by decide +kernel)) (fun _ _ _ _ _ => lg_name (i := 4) nd) (fun _ _ _ _ _ => lts_nil) (fun _ _ _ _ _ => le_var (i := 4)) (fun _ _ _ _ _ => le_bl)))
    (ls_one (ls_fld cl_Said n_Said_wait_here (le_var (i := 0)) (le_int)))))
/-! ### Sayer_init -/
abbrev N_Sayer_init : List Str := ["self", "others", "late"]
abbrev P_Sayer_init : List Str := ["self", "others", "late"]
theorem sc_Sayer_init : FnScope N_Sayer_init P_Sayer_init (defScope s_Sayer_init) := ⟨rfl, rfl, rfl, by decide +kernel, rfl, by decide +kernel, by decide +kernel⟩
def m_Sayer_init (Ad_Sayer : Addr) : MS :=
  mSeq (mPutF Ad_Sayer "others_told" (mVar 0) (mVar 1))
  (mSeq (mPutF Ad_Sayer "late_beats" (mVar 0) (mVar 2))
  (mPutF Ad_Sayer "words_said" (mVar 0) (mDct0M)))
theorem ok_Sayer_init {P : Program} {w : World} {K : PySem.W.Frag} {mg : Str → Option Value} {base : Heap} {f : Addr} {fd : FuncData} {Ad_Sayer : Addr} {sp : SpP} (F : Fun K "__init__" "Sayer.__init__" s_Sayer_init f fd) (cl_Sayer : Cls K Ad_Sayer) (n_Sayer_others_told : NoAttr K Ad_Sayer "others_told") (n_Sayer_late_beats : NoAttr K Ad_Sayer "late_beats") (n_Sayer_words_said : NoAttr K Ad_Sayer "words_said")
    (hp : ∀ (qs : List PV) (h : PH) (Q : N3.PK), qs.length = P_Sayer_init.length → sp qs h Q → m_Sayer_init Ad_Sayer (ends Q) (sp0 N_Sayer_init.length qs) h) : FnG P w K mg base (0 + 1) f fd P_Sayer_init sp := by
  refine fn_ok (k := 0) F sc_Sayer_init (m := m_Sayer_init Ad_Sayer) (fun cdv A outer s H E hr hG => ?_) hp
  have nd := sc_Sayer_init.nd
  exact ls_cons (ls_fld cl_Sayer n_Sayer_others_told (le_var (i := 0)) (le_var (i := 1)))
    (ls_cons (ls_fld cl_Sayer n_Sayer_late_beats (le_var (i := 0)) (le_var (i := 2)))
    (ls_one (ls_fld cl_Sayer n_Sayer_words_said (le_var (i := 0)) (le_dct0M))))
/-! ### Sayer_len -/
abbrev N_Sayer_len : List Str := ["self"]
abbrev P_Sayer_len : List Str := ["self"]
theorem sc_Sayer_len : FnScope N_Sayer_len P_Sayer_len (defScope s_Sayer_len) := ⟨rfl, rfl, rfl, by decide +kernel, rfl, by decide +kernel, by decide +kernel⟩
def m_Sayer_len (Ad_Sayer : Addr) : MS :=
  mRet (mBlt rLenK (mCons (mFld Ad_Sayer "words_said" (mVar 0)) (mNil)))
theorem ok_Sayer_len {P : Program} {w : World} {K : PySem.W.Frag} {mg : Str → Option Value} {base : Heap} {f : Addr} {fd : FuncData} {Ad_Sayer : Addr} {sp : SpP} (F : Fun K "__len__" "Sayer.__len__" s_Sayer_len f fd) (cl_Sayer : Cls K Ad_Sayer) (n_Sayer_words_said : NoAttr K Ad_Sayer "words_said") (z_len : mg "len" = none)
    (hp : ∀ (qs : List PV) (h : PH) (Q : N3.PK), qs.length = P_Sayer_len.length → sp qs h Q → m_Sayer_len Ad_Sayer (ends Q) (sp0 N_Sayer_len.length qs) h) : FnG P w K mg base (0 + 1) f fd P_Sayer_len sp := by
  refine fn_ok (k := 0) F sc_Sayer_len (m := m_Sayer_len Ad_Sayer) (fun cdv A outer s H E hr hG => ?_) hp
  have nd := sc_Sayer_len.nd
  exact ls_one (ls_ret (le_lenK z_len (la_cons (le_fld cl_Sayer n_Sayer_words_said (le_var (i := 0))) (la_nil))))
/-! ### Sayer_due -/
abbrev N_Sayer_due : List Str := ["self", "found", "key", "said", "others", "other"]
abbrev P_Sayer_due : List Str := ["self"]
theorem sc_Sayer_due : FnScope N_Sayer_due P_Sayer_due (defScope s_Sayer_due) := ⟨rfl, rfl, rfl, by decide +kernel, rfl, by decide +kernel, by decide +kernel⟩
def m_Sayer_due (Ad_Sayer Ad_Said : Addr) : MS :=
  mSeq (mAsg (mLstM (mNil)) (gN 1))
  (mSeq (mLockS (mFor (mItemsI (mFld Ad_Sayer "words_said" (mVar 0))) (gT 2 (gsCons (gN 2) (gsCons (gN 3) (gsNil)))) (mSeq (mAsg (mLc (mSeqs (mFld Ad_Sayer "others_told" (mVar 0))) [5] (gN 5) (mTest (mB (rInD true) (mVar 5) (mFld Ad_Said "names_heard" (mVar 3)))) (mVar 5)) (gN 4))
  (mDrop (mExtend (mVar 1) (mCons (mLc (mSeqs (mVar 4)) [5] (gN 5) (mYes) (mTup (mCons (mVar 5) (mCons (mVar 2) (mCons (mFld Ad_Said "turn_here" (mVar 3)) (mCons (mFld Ad_Said "word_here" (mVar 3)) (mNil))))))) (mNil)))))))
  (mRet (mBlt rTupOf (mCons (mBlt rSortA (mCons (mVar 1) (mNil))) (mNil)))))
theorem ok_Sayer_due {P : Program} {w : World} {K : PySem.W.Frag} {mg : Str → Option Value} {base : Heap} {f : Addr} {fd : FuncData} {Ad_Sayer Ad_Said : Addr} {sp : SpP} (F : Fun K "due" "Sayer.due" s_Sayer_due f fd) (cl_Sayer : Cls K Ad_Sayer) (cl_Said : Cls K Ad_Said) (n_Sayer_words_said : NoAttr K Ad_Sayer "words_said") (n_Sayer_others_told : NoAttr K Ad_Sayer "others_told") (n_Said_names_heard : NoAttr K Ad_Said "names_heard") (n_Said_word_here : NoAttr K Ad_Said "word_here") (n_Said_turn_here : NoAttr K Ad_Said "turn_here") (z_tuple : mg "tuple" = none) (z_sorted : mg "sorted" = none)
    (hp : ∀ (qs : List PV) (h : PH) (Q : N3.PK), qs.length = P_Sayer_due.length → sp qs h Q → m_Sayer_due Ad_Sayer Ad_Said (ends Q) (sp0 N_Sayer_due.length qs) h) : FnG P w K mg base (0 + 1) f fd P_Sayer_due sp := by
  refine fn_ok (k := 0) F sc_Sayer_due (m := m_Sayer_due Ad_Sayer Ad_Said) (fun cdv A outer s H E hr hG => ?_) hp
  have nd := sc_Sayer_due.nd
  exact ls_cons (ls_set (i := 1) nd (le_lstM (la_nil)))
    (ls_cons (ls_lockS (ls_for (vs := [2, 3]) PassesOwn.never rfl (li_items (le_fld cl_Sayer n_Sayer_words_said (le_var (i := 0)))) (lg_tup rfl (lgs_cons (lg_name (i := 2) nd) (lgs_cons (lg_name (i := 3) nd) (lgs_nil)))) (ls_cons (ls_setLc (i := 4) [("other", 5)] rfl nd (li_seqs (le_fld cl_Sayer n_Sayer_others_told (le_var (i := 0)))) (blkOk_by (N := N_Sayer_due) (sc := defScope s_Sayer_due) (own := [("other", 5)]) (by decide +kernel)) (fun _ _ _ _ _ => lg_name (i := 5) nd) (fun _ _ _ _ _ => lts_one (lt_cmp (op_notInK (hu1 hr)) lf_inD (le_var (i := 5)) (le_fld cl_Said n_Said_names_heard (le_var (i := 3))) (by with_unfolding_all rfl))) (fun _ _ _ _ _ => le_var (i := 5)))
    (ls_one (ls_expr (le_extend (le_var (i := 1)) (la_cons (le_lc [("other", 5)] rfl nd (li_seqs (le_var (i := 4))) (blkOk_by (N := N_Sayer_due) (sc := defScope s_Sayer_due) (own := [("other", 5)]) (by decide +kernel)) (fun _ _ _ _ _ => lg_name (i := 5) nd) (fun _ _ _ _ _ => lts_nil) (fun _ _ _ _ _ => le_tup (la_cons (le_var (i := 5)) (la_cons (le_var (i := 2)) (la_cons (le_fld cl_Said n_Said_turn_here (le_var (i := 3))) (la_cons (le_fld cl_Said n_Said_word_here (le_var (i := 3))) (la_nil))))))) (la_nil))))))))
    (ls_one (ls_ret (le_tuple z_tuple (la_cons (le_sortA (hu66 hr) z_sorted (la_cons (le_var (i := 1)) (la_nil))) (la_nil))))))
/-! ### Sayer_answered -/
abbrev N_Sayer_answered : List Str := ["self", "other", "key", "turn", "word", "said"]
abbrev P_Sayer_answered : List Str := ["self", "other", "key", "turn", "word"]
theorem sc_Sayer_answered : FnScope N_Sayer_answered P_Sayer_answered (defScope s_Sayer_answered) := ⟨rfl, rfl, rfl, by decide +kernel, rfl, by decide +kernel, by decide +kernel⟩
def m_Sayer_answered (Ad_Sayer Ad_Said : Addr) : MS :=
  mIfS (mAndT (mTest (mB (rInD false) (mVar 2) (mFld Ad_Sayer "words_said" (mVar 0)))) (mTest (mB (rInP false) (mVar 1) (mFld Ad_Sayer "others_told" (mVar 0))))) (mSeq (mAsg (mB rIx (mFld Ad_Sayer "words_said" (mVar 0)) (mVar 2)) (gN 5))
  (mIfS (mAndT (mTest (mB rEq (mFld Ad_Said "turn_here" (mVar 5)) (mVar 3))) (mTest (mB rEq (mFld Ad_Said "word_here" (mVar 5)) (mVar 4)))) (mDput (mC (.bl true)) (mFld Ad_Said "names_heard" (mVar 5)) (mVar 1)) (mNx))) (mNx)
theorem ok_Sayer_answered {P : Program} {w : World} {K : PySem.W.Frag} {mg : Str → Option Value} {base : Heap} {f : Addr} {fd : FuncData} {Ad_Sayer Ad_Said : Addr} {sp : SpP} (F : Fun K "answered" "Sayer.answered" s_Sayer_answered f fd) (cl_Sayer : Cls K Ad_Sayer) (cl_Said : Cls K Ad_Said) (n_Sayer_others_told : NoAttr K Ad_Sayer "others_told") (n_Sayer_words_said : NoAttr K Ad_Sayer "words_said") (n_Said_word_here : NoAttr K Ad_Said "word_here") (n_Said_turn_here : NoAttr K Ad_Said "turn_here") (n_Said_names_heard : NoAttr K Ad_Said "names_heard")
    (hp : ∀ (qs : List PV) (h : PH) (Q : N3.PK), qs.length = P_Sayer_answered.length → sp qs h Q → m_Sayer_answered Ad_Sayer Ad_Said (ends Q) (sp0 N_Sayer_answered.length qs) h) : FnG P w K mg base (0 + 1) f fd P_Sayer_answered sp := by
  refine fn_ok (k := 0) F sc_Sayer_answered (m := m_Sayer_answered Ad_Sayer Ad_Said) (fun cdv A outer s H E hr hG => ?_) hp
  have nd := sc_Sayer_answered.nd
  exact ls_one (ls_if (lt_w (lw_and (lt_cmp (op_inK (hu1 hr)) lf_inD (le_var (i := 2)) (le_fld cl_Sayer n_Sayer_words_said (le_var (i := 0))) (by with_unfolding_all rfl)) (lw_and1 (lt_cmp (op_inA (hu65 hr)) lf_in (le_var (i := 1)) (le_fld cl_Sayer n_Sayer_others_told (le_var (i := 0))) (by with_unfolding_all rfl))))) (ls_cons (ls_set (i := 5) nd (le_ix (hu1 hr) (le_fld cl_Sayer n_Sayer_words_said (le_var (i := 0))) (le_var (i := 2))))
    (ls_one (ls_if (lt_w (lw_and (lt_cmp (op_eqA (hu64 hr)) lf_eq (le_fld cl_Said n_Said_turn_here (le_var (i := 5))) (le_var (i := 3)) (nomark _)) (lw_and1 (lt_cmp (op_eqA (hu64 hr)) lf_eq (le_fld cl_Said n_Said_word_here (le_var (i := 5))) (le_var (i := 4)) (nomark _))))) (ls_one (ls_dput (hu1 hr) (le_fld cl_Said n_Said_names_heard (le_var (i := 5))) (le_var (i := 1)) (le_bl))) (ls_nil)))) (ls_nil))
/-! ### Sayer_beat -/
abbrev N_Sayer_beat : List Str := ["self", "key", "said"]
abbrev P_Sayer_beat : List Str := ["self"]
theorem sc_Sayer_beat : FnScope N_Sayer_beat P_Sayer_beat (defScope s_Sayer_beat) := ⟨rfl, rfl, rfl, by decide +kernel, rfl, by decide +kernel, by decide +kernel⟩
def m_Sayer_beat (Ad_Sayer Ad_Said : Addr) : MS :=
  mFor (mSeqs (mBlt rListK (mCons (mFld Ad_Sayer "words_said" (mVar 0)) (mNil)))) (gN 1) (mSeq (mAsg (mB rIx (mFld Ad_Sayer "words_said" (mVar 0)) (mVar 1)) (gN 2))
  (mIfS (mTest (mB rLt (mBlt rLenK (mCons (mFld Ad_Said "names_heard" (mVar 2)) (mNil))) (mBlt rLen (mCons (mFld Ad_Sayer "others_told" (mVar 0)) (mNil))))) (mPutF Ad_Said "wait_here" (mVar 2) (mC (.int 0))) (mIfS (mTest (mB rEq (mFld Ad_Said "wait_here" (mVar 2)) (mB rAdd (mB rMul (mC (.int 2)) (mFld Ad_Sayer "late_beats" (mVar 0))) (mC (.int 2))))) (mDelK (mFld Ad_Sayer "words_said" (mVar 0)) (mVar 1)) (mAugF Ad_Said "wait_here" (fun x y => x + y) (mVar 2) (mC (.int 1))))))
theorem ok_Sayer_beat {P : Program} {w : World} {K : PySem.W.Frag} {mg : Str → Option Value} {base : Heap} {f : Addr} {fd : FuncData} {Ad_Sayer Ad_Said : Addr} {sp : SpP} (F : Fun K "beat" "Sayer.beat" s_Sayer_beat f fd) (cl_Sayer : Cls K Ad_Sayer) (cl_Said : Cls K Ad_Said) (n_Sayer_words_said : NoAttr K Ad_Sayer "words_said") (n_Said_names_heard : NoAttr K Ad_Said "names_heard") (n_Sayer_others_told : NoAttr K Ad_Sayer "others_told") (n_Said_wait_here : NoAttr K Ad_Said "wait_here") (n_Sayer_late_beats : NoAttr K Ad_Sayer "late_beats") (z_list : mg "list" = none) (z_len : mg "len" = none)
    (hp : ∀ (qs : List PV) (h : PH) (Q : N3.PK), qs.length = P_Sayer_beat.length → sp qs h Q → m_Sayer_beat Ad_Sayer Ad_Said (ends Q) (sp0 N_Sayer_beat.length qs) h) : FnG P w K mg base (0 + 1) f fd P_Sayer_beat sp := by
  refine fn_ok (k := 0) F sc_Sayer_beat (m := m_Sayer_beat Ad_Sayer Ad_Said) (fun cdv A outer s H E hr hG => ?_) hp
  have nd := sc_Sayer_beat.nd
  exact ls_one (ls_for (vs := [1]) PassesOwn.never rfl (li_seqs (le_listK rfl z_list (la_cons (le_fld cl_Sayer n_Sayer_words_said (le_var (i := 0))) (la_nil)))) (lg_name (i := 1) nd) (ls_cons (ls_set (i := 2) nd (le_ix (hu1 hr) (le_fld cl_Sayer n_Sayer_words_said (le_var (i := 0))) (le_var (i := 1))))
    (ls_one (ls_if (lt_cmp op_ltA lf_cmp (le_lenK z_len (la_cons (le_fld cl_Said n_Said_names_heard (le_var (i := 2))) (la_nil))) (le_len z_len (la_cons (le_fld cl_Sayer n_Sayer_others_told (le_var (i := 0))) (la_nil))) (nomark _)) (ls_one (ls_fld cl_Said n_Said_wait_here (le_var (i := 2)) (le_int))) (ls_one (ls_if (lt_cmp (op_eqA (hu64 hr)) lf_eq (le_fld cl_Said n_Said_wait_here (le_var (i := 2))) (le_op op_addA kf_add (le_op op_mulA kf_mul (le_int) (le_fld cl_Sayer n_Sayer_late_beats (le_var (i := 0)))) (le_int)) (nomark _)) (ls_one (ls_delK (le_fld cl_Sayer n_Sayer_words_said (le_var (i := 0))) (le_var (i := 1)))) (ls_one (ls_augF cl_Said n_Said_wait_here (le_var (i := 2)) (le_int) in_add))))))))
/-! ### Sayer_again -/
abbrev N_Sayer_again : List Str := ["self", "said"]
abbrev P_Sayer_again : List Str := ["self"]
theorem sc_Sayer_again : FnScope N_Sayer_again P_Sayer_again (defScope s_Sayer_again) := ⟨rfl, rfl, rfl, by decide +kernel, rfl, by decide +kernel, by decide +kernel⟩
def m_Sayer_again (Ad_Sayer Ad_Said : Addr) : MS :=
  mLockS (mFor (mValsI (mFld Ad_Sayer "words_said" (mVar 0))) (gN 1) (mPutF Ad_Said "wait_here" (mVar 1) (mC (.int 0))))
theorem ok_Sayer_again {P : Program} {w : World} {K : PySem.W.Frag} {mg : Str → Option Value} {base : Heap} {f : Addr} {fd : FuncData} {Ad_Sayer Ad_Said : Addr} {sp : SpP} (F : Fun K "again" "Sayer.again" s_Sayer_again f fd) (cl_Sayer : Cls K Ad_Sayer) (cl_Said : Cls K Ad_Said) (n_Sayer_words_said : NoAttr K Ad_Sayer "words_said") (n_Said_wait_here : NoAttr K Ad_Said "wait_here")
    (hp : ∀ (qs : List PV) (h : PH) (Q : N3.PK), qs.length = P_Sayer_again.length → sp qs h Q → m_Sayer_again Ad_Sayer Ad_Said (ends Q) (sp0 N_Sayer_again.length qs) h) : FnG P w K mg base (0 + 1) f fd P_Sayer_again sp := by
  refine fn_ok (k := 0) F sc_Sayer_again (m := m_Sayer_again Ad_Sayer Ad_Said) (fun cdv A outer s H E hr hG => ?_) hp
  have nd := sc_Sayer_again.nd
  exact ls_one (ls_lockS (ls_for (vs := [1]) PassesOwn.never rfl (li_vals (le_fld cl_Sayer n_Sayer_words_said (le_var (i := 0)))) (lg_name (i := 1) nd) (ls_one (ls_fld cl_Said n_Said_wait_here (le_var (i := 1)) (le_int)))))
/-! ### Sayer_remembered -/
abbrev N_Sayer_remembered : List Str := ["self", "found", "key", "said"]
abbrev P_Sayer_remembered : List Str := ["self"]
theorem sc_Sayer_remembered : FnScope N_Sayer_remembered P_Sayer_remembered (defScope s_Sayer_remembered) := ⟨rfl, rfl, rfl, by decide +kernel, rfl, by decide +kernel, by decide +kernel⟩
def m_Sayer_remembered (Ad_Sayer Ad_Said : Addr) : MS :=
  mSeq (mAsg (mLstM (mNil)) (gN 1))
  (mSeq (mLockS (mFor (mItemsI (mFld Ad_Sayer "words_said" (mVar 0))) (gT 2 (gsCons (gN 2) (gsCons (gN 3) (gsNil)))) (mDrop (mAppend (mVar 1) (mCons (mTup (mCons (mVar 2) (mCons (mFld Ad_Said "turn_here" (mVar 3)) (mCons (mFld Ad_Said "word_here" (mVar 3)) (mCons (mBlt rTupOf (mCons (mBlt rSortK (mCons (mFld Ad_Said "names_heard" (mVar 3)) (mNil))) (mNil))) (mNil)))))) (mNil))))))
  (mRet (mBlt rTupOf (mCons (mBlt rSortA (mCons (mVar 1) (mNil))) (mNil)))))
theorem ok_Sayer_remembered {P : Program} {w : World} {K : PySem.W.Frag} {mg : Str → Option Value} {base : Heap} {f : Addr} {fd : FuncData} {Ad_Sayer Ad_Said : Addr} {sp : SpP} (F : Fun K "remembered" "Sayer.remembered" s_Sayer_remembered f fd) (cl_Sayer : Cls K Ad_Sayer) (cl_Said : Cls K Ad_Said) (n_Sayer_words_said : NoAttr K Ad_Sayer "words_said") (n_Said_names_heard : NoAttr K Ad_Said "names_heard") (n_Said_word_here : NoAttr K Ad_Said "word_here") (n_Said_turn_here : NoAttr K Ad_Said "turn_here") (z_tuple : mg "tuple" = none) (z_sorted : mg "sorted" = none)
    (hp : ∀ (qs : List PV) (h : PH) (Q : N3.PK), qs.length = P_Sayer_remembered.length → sp qs h Q → m_Sayer_remembered Ad_Sayer Ad_Said (ends Q) (sp0 N_Sayer_remembered.length qs) h) : FnG P w K mg base (0 + 1) f fd P_Sayer_remembered sp := by
  refine fn_ok (k := 0) F sc_Sayer_remembered (m := m_Sayer_remembered Ad_Sayer Ad_Said) (fun cdv A outer s H E hr hG => ?_) hp
  have nd := sc_Sayer_remembered.nd
  exact ls_cons (ls_set (i := 1) nd (le_lstM (la_nil)))
    (ls_cons (ls_lockS (ls_for (vs := [2, 3]) PassesOwn.never rfl (li_items (le_fld cl_Sayer n_Sayer_words_said (le_var (i := 0)))) (lg_tup rfl (lgs_cons (lg_name (i := 2) nd) (lgs_cons (lg_name (i := 3) nd) (lgs_nil)))) (ls_one (ls_expr (le_append (le_var (i := 1)) (la_cons (le_tup (la_cons (le_var (i := 2)) (la_cons (le_fld cl_Said n_Said_turn_here (le_var (i := 3))) (la_cons (le_fld cl_Said n_Said_word_here (le_var (i := 3))) (la_cons (le_tuple z_tuple (la_cons (le_sortK rfl z_sorted (la_cons (le_fld cl_Said n_Said_names_heard (le_var (i := 3))) (la_nil))) (la_nil))) (la_nil)))))) (la_nil)))))))
    (ls_one (ls_ret (le_tuple z_tuple (la_cons (le_sortA (hu66 hr) z_sorted (la_cons (le_var (i := 1)) (la_nil))) (la_nil))))))
/-! ### law_deck -/
abbrev N_law_deck : List Str := ["_law_script", "_law_cells", "_law_stirred", "_law_cell"]
abbrev P_law_deck : List Str := ["_law_script"]
theorem sc_law_deck : FnScope N_law_deck P_law_deck (defScope s_law_deck) := ⟨rfl, rfl, rfl, by decide +kernel, rfl, by decide +kernel, by decide +kernel⟩
def m_law_deck : MS :=
  mSeq (mPar 1 2 (mCons (mBlt rListA (mCons (mSl (mVar 0) (mNoPart) (mPart (mC (.int 63)))) (mNil))) (mCons (mC (.int 30803)) (mNil))))
  (mSeq (mFor (mSeqs (mVar 1)) (gN 3) (mAsg (mB rMod (mB rAdd (mB rAdd (mB rMul (mVar 2) (mC (.int 39373))) (mB rMod (mVar 3) (mC (.int 2147483629)))) (mC (.int 41))) (mC (.int 2147483587))) (gN 2)))
  (mRet (mLstM (mCons (mRevM (mVar 1)) (mCons (mVar 2) (mCons (mC (.int 0)) (mNil)))))))
theorem ok_law_deck {P : Program} {w : World} {K : PySem.W.Frag} {mg : Str → Option Value} {base : Heap} {f : Addr} {fd : FuncData} {sp : SpP} (F : Fun K "_law_deck" "_law_deck" s_law_deck f fd) (z_list : mg "list" = none)
    (hp : ∀ (qs : List PV) (h : PH) (Q : N3.PK), qs.length = P_law_deck.length → sp qs h Q → m_law_deck (ends Q) (sp0 N_law_deck.length qs) h) : FnG P w K mg base (0 + 1) f fd P_law_deck sp := by
  refine fn_ok (k := 0) F sc_law_deck (m := m_law_deck) (fun cdv A outer s H E hr hG => ?_) hp
  have nd := sc_law_deck.nd
  exact ls_cons (ls_par (i := 1) (j := 2) rfl nd (la_cons (le_listA rfl z_list (la_cons (le_sl (le_var (i := 0)) (lo_none) (lo_some (le_int))) (la_nil))) (la_cons (le_int) (la_nil))))
    (ls_cons (ls_for (vs := [3]) PassesOwn.never rfl (li_seqs (le_var (i := 1))) (lg_name (i := 3) nd) (ls_one (ls_set (i := 2) nd (le_op op_mod kf_ii (le_op op_addA kf_add (le_op op_addA kf_add (le_op op_mulA kf_mul (le_var (i := 2)) (le_int)) (le_op op_mod kf_ii (le_var (i := 3)) (le_int))) (le_int)) (le_int)))))
    (ls_one (ls_ret (le_lstM (la_cons (le_revM (le_var (i := 1))) (la_cons (le_var (i := 2)) (la_cons (le_int) (la_nil))))))))
/-! ### law_draw -/
abbrev N_law_draw : List Str := ["_law_deck_here", "_law_ways", "_law_cell", "_law_number"]
abbrev P_law_draw : List Str := ["_law_deck_here", "_law_ways"]
theorem sc_law_draw : FnScope N_law_draw P_law_draw (defScope s_law_draw) := ⟨rfl, rfl, rfl, by decide +kernel, rfl, by decide +kernel, by decide +kernel⟩
def m_law_draw : MS :=
  mSeq (mDput (mB rAdd (mB rIx (mVar 0) (mC (.int 2))) (mC (.int 1))) (mVar 0) (mC (.int 2)))
  (mSeq (mAsg (mB rIx (mVar 0) (mC (.int 1))) (gN 2))
  (mSeq (mIfS (mTest (mB rNe (mB rIx (mVar 0) (mC (.int 0))) (mLst (mNil)))) (mSeq (mAsg (mPop (mB rIx (mVar 0) (mC (.int 0)))) (gN 2))
  (mSeq (mIfS (mTest (mB rGe (mVar 2) (mB rPow (mC (.int 10)) (mC (.int 18))))) (mSeq (mDrop (mAppend (mB rIx (mVar 0) (mC (.int 0))) (mCons (mB rDiv (mVar 2) (mVar 1)) (mNil))))
  (mRet (mB rMod (mVar 2) (mVar 1)))) (mNx))
  (mAsg (mB rAdd (mVar 2) (mB rIx (mVar 0) (mC (.int 1)))) (gN 2)))) (mNx))
  (mSeq (mAsg (mB rMod (mB rMul (mB rAdd (mB rAdd (mB rMod (mVar 2) (mC (.int 2147483629))) (mB rMul (mB rMul (mC (.int 86028121)) (mB rIx (mVar 0) (mC (.int 2)))) (mB rIx (mVar 0) (mC (.int 2))))) (mC (.int 61))) (mC (.int 40692))) (mC (.int 2147483647))) (gN 3))
  (mSeq (mAsg (mB rMod (mB rAdd (mB rAdd (mB rMul (mVar 3) (mVar 3)) (mB rMul (mC (.int 69621)) (mB rIx (mVar 0) (mC (.int 2))))) (mC (.int 29))) (mC (.int 2147483587))) (gN 3))
  (mRet (mB rMod (mB rDiv (mB rMod (mB rMul (mVar 3) (mC (.int 48271))) (mC (.int 2147483563))) (mC (.int 64))) (mVar 1)))))))
theorem ok_law_draw {P : Program} {w : World} {K : PySem.W.Frag} {mg : Str → Option Value} {base : Heap} {f : Addr} {fd : FuncData} {sp : SpP} (F : Fun K "_law_draw" "_law_draw" s_law_draw f fd)
    (hp : ∀ (qs : List PV) (h : PH) (Q : N3.PK), qs.length = P_law_draw.length → sp qs h Q → m_law_draw (ends Q) (sp0 N_law_draw.length qs) h) : FnG P w K mg base (0 + 1) f fd P_law_draw sp := by
  refine fn_ok (k := 0) F sc_law_draw (m := m_law_draw) (fun cdv A outer s H E hr hG => ?_) hp
  have nd := sc_law_draw.nd
  exact ls_cons (ls_dput (hu1 hr) (le_var (i := 0)) (le_int) (le_op op_addA kf_add (le_ix (hu1 hr) (le_var (i := 0)) (le_int)) (le_int)))
    (ls_cons (ls_set (i := 2) nd (le_ix (hu1 hr) (le_var (i := 0)) (le_int)))
    (ls_cons (ls_if (lt_cmp (op_neA (hu64 hr)) lf_ne (le_ix (hu1 hr) (le_var (i := 0)) (le_int)) (le_lst (la_nil)) (nomark _)) (ls_cons (ls_set (i := 2) nd (le_pop (le_ix (hu1 hr) (le_var (i := 0)) (le_int))))
    (ls_cons (ls_if (lt_cmp op_geA lf_cmp (le_var (i := 2)) (le_op op_pow kf_ii (le_int) (le_int)) (nomark _)) (ls_cons (ls_expr (le_append (le_ix (hu1 hr) (le_var (i := 0)) (le_int)) (la_cons (le_op op_fdiv kf_ii (le_var (i := 2)) (le_var (i := 1))) (la_nil))))
    (ls_one (ls_ret (le_op op_mod kf_ii (le_var (i := 2)) (le_var (i := 1)))))) (ls_nil))
    (ls_one (ls_set (i := 2) nd (le_op op_addA kf_add (le_var (i := 2)) (le_ix (hu1 hr) (le_var (i := 0)) (le_int))))))) (ls_nil))
    (ls_cons (ls_set (i := 3) nd (le_op op_mod kf_ii (le_op op_mulA kf_mul (le_op op_addA kf_add (le_op op_addA kf_add (le_op op_mod kf_ii (le_var (i := 2)) (le_int)) (le_op op_mulA kf_mul (le_op op_mulA kf_mul (le_int) (le_ix (hu1 hr) (le_var (i := 0)) (le_int))) (le_ix (hu1 hr) (le_var (i := 0)) (le_int)))) (le_int)) (le_int)) (le_int)))
    (ls_cons (ls_set (i := 3) nd (le_op op_mod kf_ii (le_op op_addA kf_add (le_op op_addA kf_add (le_op op_mulA kf_mul (le_var (i := 3)) (le_var (i := 3))) (le_op op_mulA kf_mul (le_int) (le_ix (hu1 hr) (le_var (i := 0)) (le_int)))) (le_int)) (le_int)))
    (ls_one (ls_ret (le_op op_mod kf_ii (le_op op_fdiv kf_ii (le_op op_mod kf_ii (le_op op_mulA kf_mul (le_var (i := 3)) (le_int)) (le_int)) (le_int)) (le_var (i := 1)))))))))
/-! ### law_keys -/
abbrev N_law_keys : List Str := []
abbrev P_law_keys : List Str := []
theorem sc_law_keys : FnScope N_law_keys P_law_keys (defScope s_law_keys) := ⟨rfl, rfl, rfl, by decide +kernel, rfl, by decide +kernel, by decide +kernel⟩
def m_law_keys : MS :=
  mRet (mLst (mCons (mC (.str "3 ann seats 1 2")) (mCons (mC (.str "a")) (mCons (mC (.str "")) (mCons (mC (.str "h view")) (mCons (mC (.str "10 b t -5")) (mNil)))))))
theorem ok_law_keys {P : Program} {w : World} {K : PySem.W.Frag} {mg : Str → Option Value} {base : Heap} {f : Addr} {fd : FuncData} {sp : SpP} (F : Fun K "_law_keys" "_law_keys" s_law_keys f fd)
    (hp : ∀ (qs : List PV) (h : PH) (Q : N3.PK), qs.length = P_law_keys.length → sp qs h Q → m_law_keys (ends Q) (sp0 N_law_keys.length qs) h) : FnG P w K mg base (0 + 1) f fd P_law_keys sp := by
  refine fn_ok (k := 0) F sc_law_keys (m := m_law_keys) (fun cdv A outer s H E hr hG => ?_) hp
  have nd := sc_law_keys.nd
  exact ls_one (ls_ret (le_lst (la_cons (le_str) (la_cons (le_str) (la_cons (le_str) (la_cons (le_str) (la_cons (le_str) (la_nil))))))))
/-! ### law_words -/
abbrev N_law_words : List Str := []
abbrev P_law_words : List Str := []
theorem sc_law_words : FnScope N_law_words P_law_words (defScope s_law_words) := ⟨rfl, rfl, rfl, by decide +kernel, rfl, by decide +kernel, by decide +kernel⟩
def m_law_words : MS :=
  mRet (mLst (mCons (mC (.str "stands")) (mCons (mC (.str "gone")) (mCons (mC (.str "")) (mCons (mC (.str "1 2\na b")) (mCons (mC (.str "1")) (mNil)))))))
theorem ok_law_words {P : Program} {w : World} {K : PySem.W.Frag} {mg : Str → Option Value} {base : Heap} {f : Addr} {fd : FuncData} {sp : SpP} (F : Fun K "_law_words" "_law_words" s_law_words f fd)
    (hp : ∀ (qs : List PV) (h : PH) (Q : N3.PK), qs.length = P_law_words.length → sp qs h Q → m_law_words (ends Q) (sp0 N_law_words.length qs) h) : FnG P w K mg base (0 + 1) f fd P_law_words sp := by
  refine fn_ok (k := 0) F sc_law_words (m := m_law_words) (fun cdv A outer s H E hr hG => ?_) hp
  have nd := sc_law_words.nd
  exact ls_one (ls_ret (le_lst (la_cons (le_str) (la_cons (le_str) (la_cons (le_str) (la_cons (le_str) (la_cons (le_str) (la_nil))))))))
/-! ### law_pick -/
abbrev N_law_pick : List Str := ["_law_deck_here", "_law_some"]
abbrev P_law_pick : List Str := ["_law_deck_here", "_law_some"]
theorem sc_law_pick : FnScope N_law_pick P_law_pick (defScope s_law_pick) := ⟨rfl, rfl, rfl, by decide +kernel, rfl, by decide +kernel, by decide +kernel⟩
def m_law_pick (sp_law_draw : SpP) : MS :=
  mRet (mB rIx (mVar 1) (mBlt sp_law_draw (mCons (mVar 0) (mCons (mBlt rLen (mCons (mVar 1) (mNil))) (mNil)))))
theorem ok_law_pick {P : Program} {w : World} {K : PySem.W.Frag} {mg : Str → Option Value} {base : Heap} {f : Addr} {fd : FuncData} {sp_law_draw : SpP} {sp : SpP} (F : Fun K "_law_pick" "_law_pick" s_law_pick f fd) (c_law_draw : Fn P w K mg base 1 "_law_draw" s_law_draw P_law_draw sp_law_draw) (z_len : mg "len" = none)
    (hp : ∀ (qs : List PV) (h : PH) (Q : N3.PK), qs.length = P_law_pick.length → sp qs h Q → m_law_pick sp_law_draw (ends Q) (sp0 N_law_pick.length qs) h) : FnG P w K mg base (1 + 1) f fd P_law_pick sp := by
  refine fn_ok (k := 1) F sc_law_pick (m := m_law_pick sp_law_draw) (fun cdv A outer s H E hr hG => ?_) hp
  have nd := sc_law_pick.nd
  exact ls_one (ls_ret (le_ix (hu1 hr) (le_var (i := 1)) (le_fn c_law_draw hr (by decide) hG (la_cons (le_var (i := 0)) (la_cons (le_len z_len (la_cons (le_var (i := 1)) (la_nil))) (la_nil))))))
/-! ### law_names -/
abbrev N_law_names : List Str := ["_law_deck_here", "_law_many", "_law_abc", "_law_way", "_law_at", "_law_stem", "_law_found", "_law_k", "_law_sign"]
abbrev P_law_names : List Str := ["_law_deck_here", "_law_many"]
theorem sc_law_names : FnScope N_law_names P_law_names (defScope s_law_names) := ⟨rfl, rfl, rfl, by decide +kernel, rfl, by decide +kernel, by decide +kernel⟩
def m_law_names (sp_law_draw : SpP) : MS :=
  mSeq (mAsg (mTup (mCons (mC (.str "abcdefghijklmnopqrstuvwxyz")) (mCons (mBlt sp_law_draw (mCons (mVar 0) (mCons (mC (.int 3)) (mNil)))) (mCons (mBlt sp_law_draw (mCons (mVar 0) (mCons (mC (.int 26)) (mNil)))) (mNil))))) (gT 3 (gsCons (gN 2) (gsCons (gN 3) (gsCons (gN 4) (gsNil))))))
  (mSeq (mAsg (mM1 rJoin (mC (.str "")) (mCons (mLc (mRng1 (mCons (mC (.int 5)) (mNil))) [7] (gN 7) (mYes) (mB rIx (mVar 2) (mBlt sp_law_draw (mCons (mVar 0) (mCons (mC (.int 26)) (mNil)))))) (mNil))) (gN 5))
  (mSeq (mAsg (mLstM (mNil)) (gN 6))
  (mSeq (mFor (mRng1 (mCons (mVar 1) (mNil))) (gN 7) (mSeq (mAsg (mB rIx (mVar 2) (mB rMod (mB rAdd (mVar 4) (mB rMul (mC (.int 7)) (mVar 7))) (mC (.int 26)))) (gN 8))
  (mDrop (mAppend (mVar 6) (mCons (mB rIx (mLst (mCons (mVar 8) (mCons (mB rAdd (mSl (mVar 5) (mNoPart) (mPart (mB rAdd (mC (.int 1)) (mB rMod (mVar 4) (mC (.int 5)))))) (mVar 8)) (mCons (mB rAdd (mVar 8) (mSl (mVar 5) (mNoPart) (mPart (mB rMod (mVar 7) (mC (.int 6)))))) (mNil))))) (mVar 3)) (mNil))))))
  (mRet (mBlt rTupOf (mCons (mBlt rSortA (mCons (mVar 6) (mNil))) (mNil)))))))
theorem ok_law_names {P : Program} {w : World} {K : PySem.W.Frag} {mg : Str → Option Value} {base : Heap} {f : Addr} {fd : FuncData} {sp_law_draw : SpP} {sp : SpP} (F : Fun K "_law_names" "_law_names" s_law_names f fd) (c_law_draw : Fn P w K mg base 1 "_law_draw" s_law_draw P_law_draw sp_law_draw) (z_range : mg "range" = none) (z_tuple : mg "tuple" = none) (z_sorted : mg "sorted" = none)
    (hp : ∀ (qs : List PV) (h : PH) (Q : N3.PK), qs.length = P_law_names.length → sp qs h Q → m_law_names sp_law_draw (ends Q) (sp0 N_law_names.length qs) h) : FnG P w K mg base (1 + 1) f fd P_law_names sp := by
  refine fn_ok (k := 1) F sc_law_names (m := m_law_names sp_law_draw) (fun cdv A outer s H E hr hG => ?_) hp
  have nd := sc_law_names.nd
  exact ls_cons (ls_asg (vs := [2, 3, 4]) (le_tup (la_cons (le_str) (la_cons (le_fn c_law_draw hr (by decide) hG (la_cons (le_var (i := 0)) (la_cons (le_int) (la_nil)))) (la_cons (le_fn c_law_draw hr (by decide) hG (la_cons (le_var (i := 0)) (la_cons (le_int) (la_nil)))) (la_nil))))) (lg_tup rfl (lgs_cons (lg_name (i := 2) nd) (lgs_cons (lg_name (i := 3) nd) (lgs_cons (lg_name (i := 4) nd) (lgs_nil))))))
    (ls_cons (ls_set (i := 5) nd (le_join (le_str) (la_cons (le_lc [("_law_k", 7)] rfl nd (li_rng1 z_range (la_cons (le_int) (la_nil))) (blkOk_by (N := N_law_names) (sc := defScope s_law_names) (own := [("_law_k", 7)]) (by decide +kernel)) (fun _ _ _ _ _ => lg_name (i := 7) nd) (fun _ _ _ _ _ => lts_nil) (fun _ _ _ _ _ => le_ix (hu1 hr) (le_var (i := 2)) (le_fn c_law_draw hr (by decide) hG (la_cons (le_var (i := 0)) (la_cons (le_int) (la_nil)))))) (la_nil))))
    (ls_cons (ls_set (i := 6) nd (le_lstM (la_nil)))
    (ls_cons (ls_for (vs := [7]) PassesOwn.never rfl (li_rng1 z_range (la_cons (le_var (i := 1)) (la_nil))) (lg_name (i := 7) nd) (ls_cons (ls_set (i := 8) nd (le_ix (hu1 hr) (le_var (i := 2)) (le_op op_mod kf_ii (le_op op_addA kf_add (le_var (i := 4)) (le_op op_mulA kf_mul (le_int) (le_var (i := 7)))) (le_int))))
    (ls_one (ls_expr (le_append (le_var (i := 6)) (la_cons (le_ix (hu1 hr) (le_lst (la_cons (le_var (i := 8)) (la_cons (le_op op_addA kf_add (le_sl (le_var (i := 5)) (lo_none) (lo_some (le_op op_addA kf_add (le_int) (le_op op_mod kf_ii (le_var (i := 4)) (le_int))))) (le_var (i := 8))) (la_cons (le_op op_addA kf_add (le_var (i := 8)) (le_sl (le_var (i := 5)) (lo_none) (lo_some (le_op op_mod kf_ii (le_var (i := 7)) (le_int))))) (la_nil))))) (le_var (i := 3))) (la_nil)))))))
    (ls_one (ls_ret (le_tuple z_tuple (la_cons (le_sortA (hu66 hr) z_sorted (la_cons (le_var (i := 6)) (la_nil))) (la_nil))))))))
/-! ### law_beat -/
abbrev N_law_beat : List Str := ["_law_it", "_law_called", "_law_row"]
abbrev P_law_beat : List Str := ["_law_it"]
theorem sc_law_beat : FnScope N_law_beat P_law_beat (defScope s_law_beat) := ⟨rfl, rfl, rfl, by decide +kernel, rfl, by decide +kernel, by decide +kernel⟩
def m_law_beat (Ad_Sayer : Addr) (sp_Sayer_beat : SpP) : MS :=
  mSeq (mDrop (mMeth Ad_Sayer "beat" sp_Sayer_beat pat_Sayer_beat_0 (mB rIx (mVar 0) (mC (.str "sayer"))) mNil (mNil)))
  (mFor (mSeqs (mBlt rSortK (mCons (mB rIx (mVar 0) (mC (.str "rows"))) (mNil)))) (gN 1) (mSeq (mAsg (mB rIx (mB rIx (mVar 0) (mC (.str "rows"))) (mVar 1)) (gN 2))
  (mIfS (mTest (mB rLt (mBlt rLen (mCons (mB rIx (mVar 2) (mC (.int 2))) (mNil))) (mBlt rLen (mCons (mB rIx (mVar 0) (mC (.str "others"))) (mNil))))) (mDput (mC (.int 0)) (mVar 2) (mC (.int 3))) (mIfS (mTest (mB rEq (mB rIx (mVar 2) (mC (.int 3))) (mB rAdd (mB rMul (mC (.int 2)) (mB rIx (mVar 0) (mC (.str "late")))) (mC (.int 2))))) (mDrop (mPopK (mB rIx (mVar 0) (mC (.str "rows"))) (mVar 1))) (mDput (mB rAdd (mB rIx (mVar 2) (mC (.int 3))) (mC (.int 1))) (mVar 2) (mC (.int 3)))))))
theorem ok_law_beat {P : Program} {w : World} {K : PySem.W.Frag} {mg : Str → Option Value} {base : Heap} {f : Addr} {fd : FuncData} {Ad_Sayer : Addr} {sp_Sayer_beat : SpP} {sp : SpP} (F : Fun K "_law_beat" "_law_beat" s_law_beat f fd) (cl_Sayer : Cls K Ad_Sayer) (c_Sayer_beat : FnM P w K mg base 1 Ad_Sayer "beat" P_Sayer_beat sp_Sayer_beat pats_Sayer_beat) (z_sorted : mg "sorted" = none) (z_len : mg "len" = none)
    (hp : ∀ (qs : List PV) (h : PH) (Q : N3.PK), qs.length = P_law_beat.length → sp qs h Q → m_law_beat Ad_Sayer sp_Sayer_beat (ends Q) (sp0 N_law_beat.length qs) h) : FnG P w K mg base (1 + 1) f fd P_law_beat sp := by
  refine fn_ok (k := 1) F sc_law_beat (m := m_law_beat Ad_Sayer sp_Sayer_beat) (fun cdv A outer s H E hr hG => ?_) hp
  have nd := sc_law_beat.nd
  exact ls_cons (ls_expr (le_meth0 c_Sayer_beat (j := 0) (b := pat_Sayer_beat_0) rfl hr (by decide) hG (le_ix (hu1 hr) (le_var (i := 0)) (le_str)) (lk_nil)))
    (ls_one (ls_for (vs := [1]) PassesOwn.never rfl (li_seqs (le_sortK rfl z_sorted (la_cons (le_ix (hu1 hr) (le_var (i := 0)) (le_str)) (la_nil)))) (lg_name (i := 1) nd) (ls_cons (ls_set (i := 2) nd (le_ix (hu1 hr) (le_ix (hu1 hr) (le_var (i := 0)) (le_str)) (le_var (i := 1))))
    (ls_one (ls_if (lt_cmp op_ltA lf_cmp (le_len z_len (la_cons (le_ix (hu1 hr) (le_var (i := 2)) (le_int)) (la_nil))) (le_len z_len (la_cons (le_ix (hu1 hr) (le_var (i := 0)) (le_str)) (la_nil))) (nomark _)) (ls_one (ls_dput (hu1 hr) (le_var (i := 2)) (le_int) (le_int))) (ls_one (ls_if (lt_cmp (op_eqA (hu64 hr)) lf_eq (le_ix (hu1 hr) (le_var (i := 2)) (le_int)) (le_op op_addA kf_add (le_op op_mulA kf_mul (le_int) (le_ix (hu1 hr) (le_var (i := 0)) (le_str))) (le_int)) (nomark _)) (ls_one (ls_expr (le_popK (le_ix (hu1 hr) (le_var (i := 0)) (le_str)) (le_var (i := 1))))) (ls_one (ls_dput (hu1 hr) (le_var (i := 2)) (le_int) (le_op op_addA kf_add (le_ix (hu1 hr) (le_var (i := 2)) (le_int)) (le_int)))))))))))
/-! ### Sayer_say -/
abbrev N_Sayer_say : List Str := ["self", "key", "word", "turn"]
abbrev P_Sayer_say : List Str := ["self", "key", "word"]
theorem sc_Sayer_say : FnScope N_Sayer_say P_Sayer_say (defScope s_Sayer_say) := ⟨rfl, rfl, rfl, by decide +kernel, rfl, by decide +kernel, by decide +kernel⟩
def m_Sayer_say (Ad_Sayer Ad_Said : Addr) (sp_Said_init : SpP) : MS :=
  mSeq (mAsg (mIf (mTest (mB (rInD false) (mVar 1) (mFld Ad_Sayer "words_said" (mVar 0)))) (mB rAdd (mFld Ad_Said "turn_here" (mB rIx (mFld Ad_Sayer "words_said" (mVar 0)) (mVar 1))) (mC (.int 1))) (mC (.int 1))) (gN 3))
  (mDput (mMake Ad_Said sp_Said_init pat_Said_init_0 (mCons (mVar 3) (mCons (mVar 2) (mCons (mTup (mNil)) (mNil)))) (mNil)) (mFld Ad_Sayer "words_said" (mVar 0)) (mVar 1))
theorem ok_Sayer_say {P : Program} {w : World} {K : PySem.W.Frag} {mg : Str → Option Value} {base : Heap} {f : Addr} {fd : FuncData} {Ad_Sayer Ad_Said : Addr} {sp_Said_init : SpP} {sp : SpP} (F : Fun K "say" "Sayer.say" s_Sayer_say f fd) (cl_Sayer : Cls K Ad_Sayer) (cl_Said : Cls K Ad_Said) (n_Sayer_words_said : NoAttr K Ad_Sayer "words_said") (n_Said_turn_here : NoAttr K Ad_Said "turn_here") (c_Said_init : FnI P w K mg base 1 "Said" Ad_Said P_Said_init sp_Said_init pats_Said_init)
    (hp : ∀ (qs : List PV) (h : PH) (Q : N3.PK), qs.length = P_Sayer_say.length → sp qs h Q → m_Sayer_say Ad_Sayer Ad_Said sp_Said_init (ends Q) (sp0 N_Sayer_say.length qs) h) : FnG P w K mg base (2 + 1) f fd P_Sayer_say sp := by
  refine fn_ok (k := 2) F sc_Sayer_say (m := m_Sayer_say Ad_Sayer Ad_Said sp_Said_init) (fun cdv A outer s H E hr hG => ?_) hp
  have nd := sc_Sayer_say.nd
  exact ls_cons (ls_set (i := 3) nd (le_if (lt_cmp (op_inK (hu1 hr)) lf_inD (le_var (i := 1)) (le_fld cl_Sayer n_Sayer_words_said (le_var (i := 0))) (by with_unfolding_all rfl)) (le_op op_addA kf_add (le_fld cl_Said n_Said_turn_here (le_ix (hu1 hr) (le_fld cl_Sayer n_Sayer_words_said (le_var (i := 0))) (le_var (i := 1)))) (le_int)) (le_int)))
    (ls_one (ls_dput (hu1 hr) (le_fld cl_Sayer n_Sayer_words_said (le_var (i := 0))) (le_var (i := 1)) (le_make c_Said_init (j := 0) (b := pat_Said_init_0) rfl hr (by decide) hG (la_cons (le_var (i := 3)) (la_cons (le_var (i := 2)) (la_cons (le_tup (la_nil)) (la_nil)))) (lk_nil))))
/-! ### law_begun -/
abbrev N_law_begun : List Str := ["_law_deck_here", "_law_names_there", "_law_slow", "_law_sayer"]
abbrev P_law_begun : List Str := ["_law_deck_here"]
theorem sc_law_begun : FnScope N_law_begun P_law_begun (defScope s_law_begun) := ⟨rfl, rfl, rfl, by decide +kernel, rfl, by decide +kernel, by decide +kernel⟩
def m_law_begun (Ad_Sayer : Addr) (sp_law_pick sp_law_names sp_law_draw sp_Sayer_init : SpP) : MS :=
  mSeq (mPar 1 2 (mCons (mBlt sp_law_names (mCons (mVar 0) (mCons (mBlt sp_law_draw (mCons (mVar 0) (mCons (mC (.int 5)) (mNil)))) (mNil)))) (mCons (mBlt sp_law_pick (mCons (mVar 0) (mCons (mLst (mCons (mC (.int 1)) (mCons (mC (.int 2)) (mCons (mC (.int 3)) (mCons (mC (.int 4)) (mCons (mC .non) (mNil))))))) (mNil)))) (mNil))))
  (mSeq (mAsg (mIf (mTest (mB rIsN (mVar 2) (mC .non))) (mMake Ad_Sayer sp_Sayer_init pat_Sayer_init_0 (mCons (mVar 1) (mNil)) (mNil)) (mMake Ad_Sayer sp_Sayer_init pat_Sayer_init_1 (mCons (mVar 1) (mNil)) (mCons (mVar 2) (mNil)))) (gN 3))
  (mRet (mDispM [(mC (.str "sayer"), mVar 3), (mC (.str "others"), mVar 1), (mC (.str "late"), mIf (mTest (mB rIsN (mVar 2) (mC .non))) (mC (.int 2)) (mVar 2)), (mC (.str "rows"), mDct0M), (mC (.str "beats"), mC (.int 0))])))
theorem ok_law_begun {P : Program} {w : World} {K : PySem.W.Frag} {mg : Str → Option Value} {base : Heap} {f : Addr} {fd : FuncData} {Ad_Sayer : Addr} {sp_law_pick sp_law_names sp_law_draw sp_Sayer_init : SpP} {sp : SpP} (F : Fun K "_law_begun" "_law_begun" s_law_begun f fd) (c_law_pick : Fn P w K mg base 2 "_law_pick" s_law_pick P_law_pick sp_law_pick) (c_law_names : Fn P w K mg base 2 "_law_names" s_law_names P_law_names sp_law_names) (c_law_draw : Fn P w K mg base 1 "_law_draw" s_law_draw P_law_draw sp_law_draw) (cl_Sayer : Cls K Ad_Sayer) (c_Sayer_init : FnI P w K mg base 1 "Sayer" Ad_Sayer P_Sayer_init sp_Sayer_init pats_Sayer_init)
    (hp : ∀ (qs : List PV) (h : PH) (Q : N3.PK), qs.length = P_law_begun.length → sp qs h Q → m_law_begun Ad_Sayer sp_law_pick sp_law_names sp_law_draw sp_Sayer_init (ends Q) (sp0 N_law_begun.length qs) h) : FnG P w K mg base (2 + 1) f fd P_law_begun sp := by
  refine fn_ok (k := 2) F sc_law_begun (m := m_law_begun Ad_Sayer sp_law_pick sp_law_names sp_law_draw sp_Sayer_init) (fun cdv A outer s H E hr hG => ?_) hp
  have nd := sc_law_begun.nd
  exact ls_cons (ls_par (i := 1) (j := 2) rfl nd (la_cons (le_fn c_law_names hr (by decide) hG (la_cons (le_var (i := 0)) (la_cons (le_fn c_law_draw hr (by decide) hG (la_cons (le_var (i := 0)) (la_cons (le_int) (la_nil)))) (la_nil)))) (la_cons (le_fn c_law_pick hr (by decide) hG (la_cons (le_var (i := 0)) (la_cons (le_lst (la_cons (le_int) (la_cons (le_int) (la_cons (le_int) (la_cons (le_int) (la_cons (le_non) (la_nil))))))) (la_nil)))) (la_nil))))
    (ls_cons (ls_set (i := 3) nd (le_if (lt_cmp op_isN lf_isN (le_var (i := 2)) (le_non) (nomark _)) (le_make c_Sayer_init (j := 0) (b := pat_Sayer_init_0) rfl hr (by decide) hG (la_cons (le_var (i := 1)) (la_nil)) (lk_nil)) (le_make c_Sayer_init (j := 1) (b := pat_Sayer_init_1) rfl hr (by decide) hG (la_cons (le_var (i := 1)) (la_nil)) (lk_cons (le_var (i := 2)) (lk_nil)))))
    (ls_one (ls_ret (le_dispM (lps_cons (le_str) (le_var (i := 3)) (lps_cons (le_str) (le_var (i := 1)) (lps_cons (le_str) (le_if (lt_cmp op_isN lf_isN (le_var (i := 2)) (le_non) (nomark _)) (le_int) (le_var (i := 2))) (lps_cons (le_str) (le_dct0M) (lps_cons (le_str) (le_int) (lps_nil))))))))))
/-! ### law_seen -/
abbrev N_law_seen : List Str := ["_law_it", "_law_sayer", "_law_rows", "_law_found", "_law_called", "_law_nth", "_law_text", "_law_names_here", "_law_wait", "_law_kept", "_law_due", "_law_name", "_law_again"]
abbrev P_law_seen : List Str := ["_law_it"]
theorem sc_law_seen : FnScope N_law_seen P_law_seen (defScope s_law_seen) := ⟨rfl, rfl, rfl, by decide +kernel, rfl, by decide +kernel, by decide +kernel⟩
def m_law_seen (Ad_Sayer : Addr) (sp_Sayer_len sp_Sayer_remembered sp_Sayer_due : SpP) : MS :=
  mSeq (mAsg (mTup (mCons (mB rIx (mVar 0) (mC (.str "sayer"))) (mCons (mB rIx (mVar 0) (mC (.str "rows"))) (mCons (mLst (mNil)) (mNil))))) (gT 3 (gsCons (gN 1) (gsCons (gN 2) (gsCons (gN 3) (gsNil))))))
  (mSeq (mLockS (mFor (mKeysI (mVar 2)) (gN 4) (mSeq (mAsg (mB rIx (mVar 2) (mVar 4)) (gL 4 (gsCons (gN 5) (gsCons (gN 6) (gsCons (gN 7) (gsCons (gN 8) (gsNil)))))))
  (mAsg (mB rAdd (mVar 3) (mLc (mSeqs (mB rIx (mVar 0) (mC (.str "others")))) [11] (gN 11) (mTest (mB (rInP true) (mVar 11) (mVar 7))) (mTup (mCons (mVar 11) (mCons (mVar 4) (mCons (mVar 5) (mCons (mVar 6) (mNil)))))))) (gN 3)))))
  (mSeq (mLockS (mAsg (mLc (mKeysI (mVar 2)) [4] (gN 4) (mYes) (mTup (mCons (mVar 4) (mCons (mB rIx (mB rIx (mVar 2) (mVar 4)) (mC (.int 0))) (mCons (mB rIx (mB rIx (mVar 2) (mVar 4)) (mC (.int 1))) (mCons (mBlt rTupOf (mCons (mBlt rSortA (mCons (mB rIx (mB rIx (mVar 2) (mVar 4)) (mC (.int 2))) (mNil))) (mNil))) (mNil))))))) (gN 9)))
  (mSeq (mAsg (mBlt rRepr (mCons (mTup (mCons (mBlt rTupOf (mCons (mBlt rSortA (mCons (mVar 3) (mNil))) (mNil))) (mCons (mBlt rTupOf (mCons (mBlt rSortA (mCons (mVar 9) (mNil))) (mNil))) (mCons (mBlt rLenK (mCons (mVar 2) (mNil))) (mNil))))) (mNil))) (gN 10))
  (mRet (mB rEq (mLc (mRng1 (mCons (mC (.int 2)) (mNil))) [12] (gN 12) (mYes) (mBlt rRepr (mCons (mTup (mCons (mMeth Ad_Sayer "due" sp_Sayer_due pat_Sayer_due_0 (mVar 1) mNil (mNil)) (mCons (mMeth Ad_Sayer "remembered" sp_Sayer_remembered pat_Sayer_remembered_0 (mVar 1) mNil (mNil)) (mCons (mBlt (rLenO Ad_Sayer sp_Sayer_len) (mCons (mVar 1) (mNil))) (mNil))))) (mNil)))) (mLst (mCons (mVar 10) (mCons (mVar 10) (mNil)))))))))
theorem ok_law_seen {P : Program} {w : World} {K : PySem.W.Frag} {mg : Str → Option Value} {base : Heap} {f : Addr} {fd : FuncData} {Ad_Sayer : Addr} {sp_Sayer_len sp_Sayer_remembered sp_Sayer_due : SpP} {sp : SpP} (F : Fun K "_law_seen" "_law_seen" s_law_seen f fd) (cl_Sayer : Cls K Ad_Sayer) (c_Sayer_len : FnM P w K mg base 1 Ad_Sayer "__len__" P_Sayer_len sp_Sayer_len pats_Sayer_len) (c_Sayer_remembered : FnM P w K mg base 1 Ad_Sayer "remembered" P_Sayer_remembered sp_Sayer_remembered pats_Sayer_remembered) (c_Sayer_due : FnM P w K mg base 1 Ad_Sayer "due" P_Sayer_due sp_Sayer_due pats_Sayer_due) (z_tuple : mg "tuple" = none) (z_sorted : mg "sorted" = none) (z_repr : mg "repr" = none) (z_len : mg "len" = none) (z_range : mg "range" = none)
    (hp : ∀ (qs : List PV) (h : PH) (Q : N3.PK), qs.length = P_law_seen.length → sp qs h Q → m_law_seen Ad_Sayer sp_Sayer_len sp_Sayer_remembered sp_Sayer_due (ends Q) (sp0 N_law_seen.length qs) h) : FnG P w K mg base (2 + 1) f fd P_law_seen sp := by
  refine fn_ok (k := 2) F sc_law_seen (m := m_law_seen Ad_Sayer sp_Sayer_len sp_Sayer_remembered sp_Sayer_due) (fun cdv A outer s H E hr hG => ?_) hp
  have nd := sc_law_seen.nd
  exact ls_cons (ls_asg (vs := [1, 2, 3]) (le_tup (la_cons (le_ix (hu1 hr) (le_var (i := 0)) (le_str)) (la_cons (le_ix (hu1 hr) (le_var (i := 0)) (le_str)) (la_cons (le_lst (la_nil)) (la_nil))))) (lg_tup rfl (lgs_cons (lg_name (i := 1) nd) (lgs_cons (lg_name (i := 2) nd) (lgs_cons (lg_name (i := 3) nd) (lgs_nil))))))
    (ls_cons (ls_lockS (ls_for (vs := [4]) PassesOwn.never rfl (li_keys (le_var (i := 2))) (lg_name (i := 4) nd) (ls_cons (ls_asg (vs := [5, 6, 7, 8]) (le_ix (hu1 hr) (le_var (i := 2)) (le_var (i := 4))) (lg_lst rfl (lgs_cons (lg_name (i := 5) nd) (lgs_cons (lg_name (i := 6) nd) (lgs_cons (lg_name (i := 7) nd) (lgs_cons (lg_name (i := 8) nd) (lgs_nil)))))))
    (ls_one (ls_set (i := 3) nd (le_op op_addA kf_add (le_var (i := 3)) (le_lc [("_law_name", 11)] rfl nd (li_seqs (le_ix (hu1 hr) (le_var (i := 0)) (le_str))) (blkOk_by (N := N_law_seen) (sc := defScope s_law_seen) (own := [("_law_name", 11)]) (by decide +kernel)) (fun _ _ _ _ _ => lg_name (i := 11) nd) (fun _ _ _ _ _ => lts_one (lt_cmp (op_notInA (hu65 hr)) lf_in (le_var (i := 11)) (le_var (i := 7)) (by with_unfolding_all rfl))) (fun _ _ _ _ _ => le_tup (la_cons (le_var (i := 11)) (la_cons (le_var (i := 4)) (la_cons (le_var (i := 5)) (la_cons (le_var (i := 6)) (la_nil)))))))))))))
    (ls_cons (ls_lockS (ls_setLc (i := 9) [("_law_called", 4)] rfl nd (li_keys (le_var (i := 2))) (blkOk_by (N := N_law_seen) (sc := defScope s_law_seen) (own := [("_law_called", 4)]) (by decide +kernel)) (fun _ _ _ _ _ => lg_name (i := 4) nd) (fun _ _ _ _ _ => lts_nil) (fun _ _ _ _ _ => le_tup (la_cons (le_var (i := 4)) (la_cons (le_ix (hu1 hr) (le_ix (hu1 hr) (le_var (i := 2)) (le_var (i := 4))) (le_int)) (la_cons (le_ix (hu1 hr) (le_ix (hu1 hr) (le_var (i := 2)) (le_var (i := 4))) (le_int)) (la_cons (le_tuple z_tuple (la_cons (le_sortA (hu66 hr) z_sorted (la_cons (le_ix (hu1 hr) (le_ix (hu1 hr) (le_var (i := 2)) (le_var (i := 4))) (le_int)) (la_nil))) (la_nil))) (la_nil))))))))
    (ls_cons (ls_set (i := 10) nd (le_repr hG (hu66 hr) z_repr (la_cons (le_tup (la_cons (le_tuple z_tuple (la_cons (le_sortA (hu66 hr) z_sorted (la_cons (le_var (i := 3)) (la_nil))) (la_nil))) (la_cons (le_tuple z_tuple (la_cons (le_sortA (hu66 hr) z_sorted (la_cons (le_var (i := 9)) (la_nil))) (la_nil))) (la_cons (le_lenK z_len (la_cons (le_var (i := 2)) (la_nil))) (la_nil))))) (la_nil))))
    (ls_one (ls_ret (le_cmp (op_eqA (hu64 hr)) lf_eq (le_lc [("_law_again", 12)] rfl nd (li_rng1 z_range (la_cons (le_int) (la_nil))) (blkOk_by (N := N_law_seen) (sc := defScope s_law_seen) (own := [("_law_again", 12)]) (by decide +kernel)) (fun _ _ _ _ _ => lg_name (i := 12) nd) (fun _ _ _ _ _ => lts_nil) (fun _ _ _ _ _ => le_repr hG (hu66 hr) z_repr (la_cons (le_tup (la_cons (le_meth0 c_Sayer_due (j := 0) (b := pat_Sayer_due_0) rfl hr (by decide) hG (le_var (i := 1)) (lk_nil)) (la_cons (le_meth0 c_Sayer_remembered (j := 0) (b := pat_Sayer_remembered_0) rfl hr (by decide) hG (le_var (i := 1)) (lk_nil)) (la_cons (le_lenO c_Sayer_len (List.mem_of_getElem? (i := 0) rfl) hr (by decide) hG z_len (la_cons (le_var (i := 1)) (la_nil))) (la_nil))))) (la_nil)))) (le_lst (la_cons (le_var (i := 10)) (la_cons (le_var (i := 10)) (la_nil)))) (nomark _)))))))
/-! ### law_answers -/
abbrev N_law_answers : List Str := ["_law_deck_here", "_law_it", "_law_called", "_law_nth", "_law_text", "_law_names_here", "_law_wait", "_law_bent", "_law_name", "_law_said"]
abbrev P_law_answers : List Str := ["_law_deck_here", "_law_it", "_law_called"]
theorem sc_law_answers : FnScope N_law_answers P_law_answers (defScope s_law_answers) := ⟨rfl, rfl, rfl, by decide +kernel, rfl, by decide +kernel, by decide +kernel⟩
def m_law_answers (Ad_Sayer : Addr) (sp_law_pick sp_law_draw sp_Sayer_answered : SpP) : MS :=
  mSeq (mAsg (mGet2 (mB rIx (mVar 1) (mC (.str "rows"))) (mVar 2) (mLst (mCons (mC (.int 1)) (mCons (mC (.str "stands")) (mCons (mLst (mNil)) (mCons (mC (.int 0)) (mNil))))))) (gL 4 (gsCons (gN 3) (gsCons (gN 4) (gsCons (gN 5) (gsCons (gN 6) (gsNil)))))))
  (mSeq (mPar 7 8 (mCons (mBlt sp_law_draw (mCons (mVar 0) (mCons (mC (.int 8)) (mNil)))) (mCons (mBlt sp_law_pick (mCons (mVar 0) (mCons (mB rAdd (mB rIx (mVar 1) (mC (.str "others"))) (mTup (mCons (mC (.str "nobody")) (mNil)))) (mNil)))) (mNil))))
  (mSeq (mAsg (mB rIx (mLst (mCons (mTup (mCons (mBlt rMax2 (mCons (mC (.int 1)) (mCons (mB rSub (mVar 3) (mC (.int 1))) (mNil)))) (mCons (mVar 4) (mNil)))) (mCons (mTup (mCons (mB rAdd (mVar 3) (mC (.int 1))) (mCons (mVar 4) (mNil)))) (mCons (mTup (mCons (mVar 3) (mCons (mB rAdd (mVar 4) (mC (.str "1"))) (mNil)))) (mCons (mTup (mCons (mC (.int 1)) (mCons (mVar 4) (mNil)))) (mNil)))))) (mBlt rMin2 (mCons (mVar 7) (mCons (mC (.int 3)) (mNil))))) (gN 9))
  (mSeq (mIfS (mTest (mB rGt (mVar 7) (mC (.int 3)))) (mAsg (mTup (mCons (mVar 3) (mCons (mVar 4) (mNil)))) (gN 9)) (mNx))
  (mSeq (mIfS (mTest (mB rEq (mVar 7) (mC (.int 7)))) (mDrop (mMeth Ad_Sayer "answered" sp_Sayer_answered pat_Sayer_answered_0 (mB rIx (mVar 1) (mC (.str "sayer"))) mNil (mCons (mVar 4) (mCons (mVar 3) (mCons (mVar 2) (mCons (mVar 8) (mNil))))))) (mDrop (mMeth Ad_Sayer "answered" sp_Sayer_answered pat_Sayer_answered_1 (mB rIx (mVar 1) (mC (.str "sayer"))) (mCons (mVar 8) (mCons (mVar 2) (mCons (mB rIx (mVar 9) (mC (.int 0))) (mCons (mB rIx (mVar 9) (mC (.int 1))) (mNil))))) (mNil))))
  (mIfS (mAndT (mTest (mB (rInD false) (mVar 2) (mB rIx (mVar 1) (mC (.str "rows"))))) (mAndT (mTest (mB rEq (mVar 9) (mTup (mCons (mVar 3) (mCons (mVar 4) (mNil)))))) (mAndT (mTest (mB (rInP false) (mVar 8) (mB rIx (mVar 1) (mC (.str "others"))))) (mTest (mB (rInP true) (mVar 8) (mVar 5)))))) (mDrop (mAppend (mVar 5) (mCons (mVar 8) (mNil)))) (mNx))))))
theorem ok_law_answers {P : Program} {w : World} {K : PySem.W.Frag} {mg : Str → Option Value} {base : Heap} {f : Addr} {fd : FuncData} {Ad_Sayer : Addr} {sp_law_pick sp_law_draw sp_Sayer_answered : SpP} {sp : SpP} (F : Fun K "_law_answers" "_law_answers" s_law_answers f fd) (c_law_pick : Fn P w K mg base 2 "_law_pick" s_law_pick P_law_pick sp_law_pick) (c_law_draw : Fn P w K mg base 1 "_law_draw" s_law_draw P_law_draw sp_law_draw) (cl_Sayer : Cls K Ad_Sayer) (c_Sayer_answered : FnM P w K mg base 1 Ad_Sayer "answered" P_Sayer_answered sp_Sayer_answered pats_Sayer_answered) (z_max : mg "max" = none) (z_min : mg "min" = none)
    (hp : ∀ (qs : List PV) (h : PH) (Q : N3.PK), qs.length = P_law_answers.length → sp qs h Q → m_law_answers Ad_Sayer sp_law_pick sp_law_draw sp_Sayer_answered (ends Q) (sp0 N_law_answers.length qs) h) : FnG P w K mg base (2 + 1) f fd P_law_answers sp := by
  refine fn_ok (k := 2) F sc_law_answers (m := m_law_answers Ad_Sayer sp_law_pick sp_law_draw sp_Sayer_answered) (fun cdv A outer s H E hr hG => ?_) hp
  have nd := sc_law_answers.nd
  exact ls_cons (ls_asg (vs := [3, 4, 5, 6]) (le_get2 (hu1 hr) (le_ix (hu1 hr) (le_var (i := 1)) (le_str)) (le_var (i := 2)) (le_lst (la_cons (le_int) (la_cons (le_str) (la_cons (le_lst (la_nil)) (la_cons (le_int) (la_nil))))))) (lg_lst rfl (lgs_cons (lg_name (i := 3) nd) (lgs_cons (lg_name (i := 4) nd) (lgs_cons (lg_name (i := 5) nd) (lgs_cons (lg_name (i := 6) nd) (lgs_nil)))))))
    (ls_cons (ls_par (i := 7) (j := 8) rfl nd (la_cons (le_fn c_law_draw hr (by decide) hG (la_cons (le_var (i := 0)) (la_cons (le_int) (la_nil)))) (la_cons (le_fn c_law_pick hr (by decide) hG (la_cons (le_var (i := 0)) (la_cons (le_op op_addA kf_add (le_ix (hu1 hr) (le_var (i := 1)) (le_str)) (le_tup (la_cons (le_str) (la_nil)))) (la_nil)))) (la_nil))))
    (ls_cons (ls_set (i := 9) nd (le_ix (hu1 hr) (le_lst (la_cons (le_tup (la_cons (le_max2 rfl z_max (la_cons (le_int) (la_cons (le_op op_sub kf_ii0 (le_var (i := 3)) (le_int)) (la_nil)))) (la_cons (le_var (i := 4)) (la_nil)))) (la_cons (le_tup (la_cons (le_op op_addA kf_add (le_var (i := 3)) (le_int)) (la_cons (le_var (i := 4)) (la_nil)))) (la_cons (le_tup (la_cons (le_var (i := 3)) (la_cons (le_op op_addA kf_add (le_var (i := 4)) (le_str)) (la_nil)))) (la_cons (le_tup (la_cons (le_int) (la_cons (le_var (i := 4)) (la_nil)))) (la_nil)))))) (le_min2 rfl z_min (la_cons (le_var (i := 7)) (la_cons (le_int) (la_nil))))))
    (ls_cons (ls_if (lt_cmp op_gtA lf_cmp (le_var (i := 7)) (le_int) (nomark _)) (ls_one (ls_set (i := 9) nd (le_tup (la_cons (le_var (i := 3)) (la_cons (le_var (i := 4)) (la_nil)))))) (ls_nil))
    (ls_cons (ls_if (lt_cmp (op_eqA (hu64 hr)) lf_eq (le_var (i := 7)) (le_int) (nomark _)) (ls_one (ls_expr (le_meth0 c_Sayer_answered (j := 0) (b := pat_Sayer_answered_0) rfl hr (by decide) hG (le_ix (hu1 hr) (le_var (i := 1)) (le_str)) (lk_cons (le_var (i := 4)) (lk_cons (le_var (i := 3)) (lk_cons (le_var (i := 2)) (lk_cons (le_var (i := 8)) (lk_nil)))))))) (ls_one (ls_expr (le_meth c_Sayer_answered (j := 1) (b := pat_Sayer_answered_1) rfl hr (by decide) hG (le_ix (hu1 hr) (le_var (i := 1)) (le_str)) (la_cons (le_var (i := 8)) (la_cons (le_var (i := 2)) (la_cons (le_ix (hu1 hr) (le_var (i := 9)) (le_int)) (la_cons (le_ix (hu1 hr) (le_var (i := 9)) (le_int)) (la_nil))))) (lk_nil)))))
    (ls_one (ls_if (lt_w (lw_and (lt_cmp (op_inK (hu1 hr)) lf_inD (le_var (i := 2)) (le_ix (hu1 hr) (le_var (i := 1)) (le_str)) (by with_unfolding_all rfl)) (lw_and (lt_cmp (op_eqA (hu64 hr)) lf_eq (le_var (i := 9)) (le_tup (la_cons (le_var (i := 3)) (la_cons (le_var (i := 4)) (la_nil)))) (nomark _)) (lw_and (lt_cmp (op_inA (hu65 hr)) lf_in (le_var (i := 8)) (le_ix (hu1 hr) (le_var (i := 1)) (le_str)) (by with_unfolding_all rfl)) (lw_and1 (lt_cmp (op_notInA (hu65 hr)) lf_in (le_var (i := 8)) (le_var (i := 5)) (by with_unfolding_all rfl))))))) (ls_one (ls_expr (le_append (le_var (i := 5)) (la_cons (le_var (i := 8)) (la_nil))))) (ls_nil)))))))
/-! ### law_deed -/
abbrev N_law_deed : List Str := ["_law_deck_here", "_law_it", "_law_way", "_law_called", "_law_rows", "_law_text", "_law_name", "_law_one", "_law_again"]
abbrev P_law_deed : List Str := ["_law_deck_here", "_law_it"]
theorem sc_law_deed : FnScope N_law_deed P_law_deed (defScope s_law_deed) := ⟨rfl, rfl, rfl, by decide +kernel, rfl, by decide +kernel, by decide +kernel⟩
def m_law_deed (Ad_Sayer : Addr) (sp_law_pick sp_law_keys sp_law_draw sp_law_words sp_law_answers sp_law_beat sp_law_seen sp_Sayer_say sp_Sayer_answered sp_Sayer_again : SpP) : MS :=
  mSeq (mPar3 2 3 4 (mCons (mBlt sp_law_draw (mCons (mVar 0) (mCons (mC (.int 9)) (mNil)))) (mCons (mBlt sp_law_pick (mCons (mVar 0) (mCons (mBlt sp_law_keys mNil) (mNil)))) (mCons (mB rIx (mVar 1) (mC (.str "rows"))) (mNil)))))
  (mSeq (mIfS (mTest (mB rLt (mVar 2) (mC (.int 2)))) (mSeq (mAsg (mBlt sp_law_pick (mCons (mVar 0) (mCons (mB rAdd (mBlt sp_law_words mNil) (mLst (mCons (mB rIx (mGet2 (mVar 4) (mVar 3) (mLst (mCons (mC (.int 0)) (mCons (mC (.str "1")) (mNil))))) (mC (.int 1))) (mNil)))) (mNil)))) (gN 5))
  (mSeq (mDrop (mMeth Ad_Sayer "say" sp_Sayer_say pat_Sayer_say_0 (mB rIx (mVar 1) (mC (.str "sayer"))) (mCons (mVar 3) (mCons (mVar 5) (mNil))) (mNil)))
  (mDput (mLstM (mCons (mB rAdd (mB rIx (mGet2 (mVar 4) (mVar 3) (mLst (mCons (mC (.int 0)) (mNil)))) (mC (.int 0))) (mC (.int 1))) (mCons (mVar 5) (mCons (mLstM (mNil)) (mCons (mC (.int 0)) (mNil)))))) (mVar 4) (mVar 3)))) (mIfS (mAndT (mTest (mB rLt (mVar 2) (mC (.int 5)))) (mTest (mB rNe (mB rIx (mVar 1) (mC (.str "others"))) (mTup (mNil))))) (mDrop (mBlt sp_law_answers (mCons (mVar 0) (mCons (mVar 1) (mCons (mVar 3) (mNil)))))) (mIfS (mAndT (mTest (mB rLt (mVar 2) (mC (.int 7)))) (mTest (mB (rInD false) (mVar 3) (mVar 4)))) (mFor (mSeqs (mB rIx (mVar 1) (mC (.str "others")))) (gN 6) (mSeq (mDrop (mMeth Ad_Sayer "answered" sp_Sayer_answered pat_Sayer_answered_1 (mB rIx (mVar 1) (mC (.str "sayer"))) (mCons (mVar 6) (mCons (mVar 3) (mCons (mB rIx (mB rIx (mVar 4) (mVar 3)) (mC (.int 0))) (mCons (mB rIx (mB rIx (mVar 4) (mVar 3)) (mC (.int 1))) (mNil))))) (mNil)))
  (mDput (mBlt rSortSet (mCons (mB rAdd (mB rIx (mB rIx (mVar 4) (mVar 3)) (mC (.int 2))) (mLst (mCons (mVar 6) (mNil)))) (mNil))) (mB rIx (mVar 4) (mVar 3)) (mC (.int 2))))) (mIfS (mAndT (mTest (mB rEq (mVar 2) (mC (.int 8)))) (mTest (mB rEq (mBlt sp_law_draw (mCons (mVar 0) (mCons (mC (.int 3)) (mNil)))) (mC (.int 0))))) (mSeq (mDrop (mMeth Ad_Sayer "again" sp_Sayer_again pat_Sayer_again_0 (mB rIx (mVar 1) (mC (.str "sayer"))) mNil (mNil)))
  (mLockS (mFor (mKeysI (mVar 4)) (gN 7) (mDput (mC (.int 0)) (mB rIx (mVar 4) (mVar 7)) (mC (.int 3)))))) (mFor (mRng1 (mCons (mBlt rMin2 (mCons (mB rAdd (mC (.int 1)) (mBlt sp_law_draw (mCons (mVar 0) (mCons (mC (.int 12)) (mNil))))) (mCons (mB rSub (mC (.int 150)) (mB rIx (mVar 1) (mC (.str "beats")))) (mNil)))) (mNil))) (gN 8) (mSeq (mDput (mB rAdd (mB rIx (mVar 1) (mC (.str "beats"))) (mC (.int 1))) (mVar 1) (mC (.str "beats")))
  (mSeq (mDrop (mBlt sp_law_beat (mCons (mVar 1) (mNil))))
  (mIfS (mNotT (mTest (mBlt sp_law_seen (mCons (mVar 1) (mNil))))) (mRet (mC (.bl false))) (mNx)))))))))
  (mRet (mC (.bl true))))
theorem ok_law_deed {P : Program} {w : World} {K : PySem.W.Frag} {mg : Str → Option Value} {base : Heap} {f : Addr} {fd : FuncData} {Ad_Sayer : Addr} {sp_law_pick sp_law_keys sp_law_draw sp_law_words sp_law_answers sp_law_beat sp_law_seen sp_Sayer_say sp_Sayer_answered sp_Sayer_again : SpP} {sp : SpP} (F : Fun K "_law_deed" "_law_deed" s_law_deed f fd) (c_law_pick : Fn P w K mg base 2 "_law_pick" s_law_pick P_law_pick sp_law_pick) (c_law_keys : Fn P w K mg base 1 "_law_keys" s_law_keys P_law_keys sp_law_keys) (c_law_draw : Fn P w K mg base 1 "_law_draw" s_law_draw P_law_draw sp_law_draw) (c_law_words : Fn P w K mg base 1 "_law_words" s_law_words P_law_words sp_law_words) (c_law_answers : Fn P w K mg base 3 "_law_answers" s_law_answers P_law_answers sp_law_answers) (c_law_beat : Fn P w K mg base 2 "_law_beat" s_law_beat P_law_beat sp_law_beat) (c_law_seen : Fn P w K mg base 3 "_law_seen" s_law_seen P_law_seen sp_law_seen) (cl_Sayer : Cls K Ad_Sayer) (c_Sayer_say : FnM P w K mg base 3 Ad_Sayer "say" P_Sayer_say sp_Sayer_say pats_Sayer_say) (c_Sayer_answered : FnM P w K mg base 1 Ad_Sayer "answered" P_Sayer_answered sp_Sayer_answered pats_Sayer_answered) (c_Sayer_again : FnM P w K mg base 1 Ad_Sayer "again" P_Sayer_again sp_Sayer_again pats_Sayer_again) (z_sorted : mg "sorted" = none) (z_set : mg "set" = none) (z_range : mg "range" = none) (z_min : mg "min" = none)
    (hp : ∀ (qs : List PV) (h : PH) (Q : N3.PK), qs.length = P_law_deed.length → sp qs h Q → m_law_deed Ad_Sayer sp_law_pick sp_law_keys sp_law_draw sp_law_words sp_law_answers sp_law_beat sp_law_seen sp_Sayer_say sp_Sayer_answered sp_Sayer_again (ends Q) (sp0 N_law_deed.length qs) h) : FnG P w K mg base (3 + 1) f fd P_law_deed sp := by
  refine fn_ok (k := 3) F sc_law_deed (m := m_law_deed Ad_Sayer sp_law_pick sp_law_keys sp_law_draw sp_law_words sp_law_answers sp_law_beat sp_law_seen sp_Sayer_say sp_Sayer_answered sp_Sayer_again) (fun cdv A outer s H E hr hG => ?_) hp
  have nd := sc_law_deed.nd
  exact ls_cons (ls_par3 (i := 2) (j := 3) (k := 4) rfl nd (la_cons (le_fn c_law_draw hr (by decide) hG (la_cons (le_var (i := 0)) (la_cons (le_int) (la_nil)))) (la_cons (le_fn c_law_pick hr (by decide) hG (la_cons (le_var (i := 0)) (la_cons (le_fn0 c_law_keys hr (by decide) hG) (la_nil)))) (la_cons (le_ix (hu1 hr) (le_var (i := 1)) (le_str)) (la_nil)))))
    (ls_cons (ls_if (lt_cmp op_ltA lf_cmp (le_var (i := 2)) (le_int) (nomark _)) (ls_cons (ls_set (i := 5) nd (le_fn c_law_pick hr (by decide) hG (la_cons (le_var (i := 0)) (la_cons (le_op op_addA kf_add (le_fn0 c_law_words hr (by decide) hG) (le_lst (la_cons (le_ix (hu1 hr) (le_get2 (hu1 hr) (le_var (i := 4)) (le_var (i := 3)) (le_lst (la_cons (le_int) (la_cons (le_str) (la_nil))))) (le_int)) (la_nil)))) (la_nil)))))
    (ls_cons (ls_expr (le_meth c_Sayer_say (j := 0) (b := pat_Sayer_say_0) rfl hr (by decide) hG (le_ix (hu1 hr) (le_var (i := 1)) (le_str)) (la_cons (le_var (i := 3)) (la_cons (le_var (i := 5)) (la_nil))) (lk_nil)))
    (ls_one (ls_dput (hu1 hr) (le_var (i := 4)) (le_var (i := 3)) (le_lstM (la_cons (le_op op_addA kf_add (le_ix (hu1 hr) (le_get2 (hu1 hr) (le_var (i := 4)) (le_var (i := 3)) (le_lst (la_cons (le_int) (la_nil)))) (le_int)) (le_int)) (la_cons (le_var (i := 5)) (la_cons (le_lstM (la_nil)) (la_cons (le_int) (la_nil)))))))))) (ls_one (ls_if (lt_w (lw_and (lt_cmp op_ltA lf_cmp (le_var (i := 2)) (le_int) (nomark _)) (lw_and1 (lt_cmp (op_neA (hu64 hr)) lf_ne (le_ix (hu1 hr) (le_var (i := 1)) (le_str)) (le_tup (la_nil)) (nomark _))))) (ls_one (ls_expr (le_fn c_law_answers hr (by decide) hG (la_cons (le_var (i := 0)) (la_cons (le_var (i := 1)) (la_cons (le_var (i := 3)) (la_nil))))))) (ls_one (ls_if (lt_w (lw_and (lt_cmp op_ltA lf_cmp (le_var (i := 2)) (le_int) (nomark _)) (lw_and1 (lt_cmp (op_inK (hu1 hr)) lf_inD (le_var (i := 3)) (le_var (i := 4)) (by with_unfolding_all rfl))))) (ls_one (ls_for (vs := [6]) PassesOwn.never rfl (li_seqs (le_ix (hu1 hr) (le_var (i := 1)) (le_str))) (lg_name (i := 6) nd) (ls_cons (ls_expr (le_meth c_Sayer_answered (j := 1) (b := pat_Sayer_answered_1) rfl hr (by decide) hG (le_ix (hu1 hr) (le_var (i := 1)) (le_str)) (la_cons (le_var (i := 6)) (la_cons (le_var (i := 3)) (la_cons (le_ix (hu1 hr) (le_ix (hu1 hr) (le_var (i := 4)) (le_var (i := 3))) (le_int)) (la_cons (le_ix (hu1 hr) (le_ix (hu1 hr) (le_var (i := 4)) (le_var (i := 3))) (le_int)) (la_nil))))) (lk_nil)))
    (ls_one (ls_dput (hu1 hr) (le_ix (hu1 hr) (le_var (i := 4)) (le_var (i := 3))) (le_int) (le_sortSet rfl (hu66 hr) z_sorted z_set (la_cons (le_op op_addA kf_add (le_ix (hu1 hr) (le_ix (hu1 hr) (le_var (i := 4)) (le_var (i := 3))) (le_int)) (le_lst (la_cons (le_var (i := 6)) (la_nil)))) (la_nil)))))))) (ls_one (ls_if (lt_w (lw_and (lt_cmp (op_eqA (hu64 hr)) lf_eq (le_var (i := 2)) (le_int) (nomark _)) (lw_and1 (lt_cmp (op_eqA (hu64 hr)) lf_eq (le_fn c_law_draw hr (by decide) hG (la_cons (le_var (i := 0)) (la_cons (le_int) (la_nil)))) (le_int) (nomark _))))) (ls_cons (ls_expr (le_meth0 c_Sayer_again (j := 0) (b := pat_Sayer_again_0) rfl hr (by decide) hG (le_ix (hu1 hr) (le_var (i := 1)) (le_str)) (lk_nil)))
    (ls_one (ls_lockS (ls_for (vs := [7]) PassesOwn.never rfl (li_keys (le_var (i := 4))) (lg_name (i := 7) nd) (ls_one (ls_dput (hu1 hr) (le_ix (hu1 hr) (le_var (i := 4)) (le_var (i := 7))) (le_int) (le_int))))))) (ls_one (ls_for (vs := [8]) PassesOwn.never rfl (li_rng1 z_range (la_cons (le_min2 rfl z_min (la_cons (le_op op_addA kf_add (le_int) (le_fn c_law_draw hr (by decide) hG (la_cons (le_var (i := 0)) (la_cons (le_int) (la_nil))))) (la_cons (le_op op_sub kf_ii0 (le_int) (le_ix (hu1 hr) (le_var (i := 1)) (le_str))) (la_nil)))) (la_nil))) (lg_name (i := 8) nd) (ls_cons (ls_dput (hu1 hr) (le_var (i := 1)) (le_str) (le_op op_addA kf_add (le_ix (hu1 hr) (le_var (i := 1)) (le_str)) (le_int)))
    (ls_cons (ls_expr (le_fn c_law_beat hr (by decide) hG (la_cons (le_var (i := 1)) (la_nil))))
    (ls_one (ls_if (lt_not (lt_val (le_fn c_law_seen hr (by decide) hG (la_cons (le_var (i := 1)) (la_nil))))) (ls_one (ls_ret (le_bl))) (ls_nil))))))))))))))
    (ls_one (ls_ret (le_bl))))
/-! ### law -/
abbrev N_law : List Str := ["_law_script", "_law_deck_here", "_law_both", "_law_told", "_law_nth", "_law_it", "_law_rows", "_law_due", "_law_kept"]
abbrev P_law : List Str := ["_law_script"]
theorem sc_law : FnScope N_law P_law (defScope s_law) := ⟨rfl, rfl, rfl, by decide +kernel, rfl, by decide +kernel, by decide +kernel⟩
def m_law (Ad_Sayer : Addr) (sp_law_deck sp_law_begun sp_law_draw sp_law_seen sp_law_deed sp_Sayer_due sp_Sayer_remembered : SpP) : MS :=
  mSeq (mAsg (mBlt sp_law_deck (mCons (mVar 0) (mNil))) (gN 1))
  (mSeq (mPar 2 3 (mCons (mLst (mCons (mBlt sp_law_begun (mCons (mVar 1) (mNil))) (mCons (mBlt sp_law_begun (mCons (mVar 1) (mNil))) (mNil)))) (mCons (mLstM (mNil)) (mNil))))
  (mSeq (mFor (mRng1 (mCons (mB rAdd (mC (.int 12)) (mBlt sp_law_draw (mCons (mVar 1) (mCons (mC (.int 13)) (mNil))))) (mNil))) (gN 4) (mSeq (mAsg (mB rIx (mVar 2) (mBlt sp_law_draw (mCons (mVar 1) (mCons (mC (.int 2)) (mNil))))) (gN 5))
  (mSeq (mIfS (mOrT (mNotT (mTest (mBlt sp_law_deed (mCons (mVar 1) (mCons (mVar 5) (mNil)))))) (mOrT (mNotT (mTest (mBlt sp_law_seen (mCons (mB rIx (mVar 2) (mC (.int 0))) (mNil))))) (mNotT (mTest (mBlt sp_law_seen (mCons (mB rIx (mVar 2) (mC (.int 1))) (mNil))))))) (mRet (mC (.bl false))) (mNx))
  (mDrop (mAppend (mVar 3) (mCons (mTup (mCons (mMeth Ad_Sayer "remembered" sp_Sayer_remembered pat_Sayer_remembered_0 (mB rIx (mVar 5) (mC (.str "sayer"))) mNil (mNil)) (mCons (mMeth Ad_Sayer "due" sp_Sayer_due pat_Sayer_due_0 (mB rIx (mVar 5) (mC (.str "sayer"))) mNil (mNil)) (mCons (mBlt rRepr (mCons (mTup (mCons (mMeth Ad_Sayer "remembered" sp_Sayer_remembered pat_Sayer_remembered_0 (mB rIx (mVar 5) (mC (.str "sayer"))) mNil (mNil)) (mCons (mMeth Ad_Sayer "due" sp_Sayer_due pat_Sayer_due_0 (mB rIx (mVar 5) (mC (.str "sayer"))) mNil (mNil)) (mNil)))) (mNil))) (mNil))))) (mNil)))))))
  (mRet (mB rEq (mLc (mSeqs (mVar 3)) [6, 7, 8] (gT 3 (gsCons (gN 6) (gsCons (gN 7) (gsCons (gN 8) (gsNil))))) (mTest (mB rNe (mBlt rRepr (mCons (mTup (mCons (mVar 6) (mCons (mVar 7) (mNil)))) (mNil))) (mVar 8))) (mC (.int 1))) (mLst (mNil))))))
theorem ok_law {P : Program} {w : World} {K : PySem.W.Frag} {mg : Str → Option Value} {base : Heap} {f : Addr} {fd : FuncData} {Ad_Sayer : Addr} {sp_law_deck sp_law_begun sp_law_draw sp_law_seen sp_law_deed sp_Sayer_due sp_Sayer_remembered : SpP} {sp : SpP} (F : Fun K "law" "law" s_law f fd) (c_law_deck : Fn P w K mg base 1 "_law_deck" s_law_deck P_law_deck sp_law_deck) (c_law_begun : Fn P w K mg base 3 "_law_begun" s_law_begun P_law_begun sp_law_begun) (c_law_draw : Fn P w K mg base 1 "_law_draw" s_law_draw P_law_draw sp_law_draw) (c_law_seen : Fn P w K mg base 3 "_law_seen" s_law_seen P_law_seen sp_law_seen) (c_law_deed : Fn P w K mg base 4 "_law_deed" s_law_deed P_law_deed sp_law_deed) (cl_Sayer : Cls K Ad_Sayer) (c_Sayer_due : FnM P w K mg base 1 Ad_Sayer "due" P_Sayer_due sp_Sayer_due pats_Sayer_due) (c_Sayer_remembered : FnM P w K mg base 1 Ad_Sayer "remembered" P_Sayer_remembered sp_Sayer_remembered pats_Sayer_remembered) (z_range : mg "range" = none) (z_repr : mg "repr" = none)
    (hp : ∀ (qs : List PV) (h : PH) (Q : N3.PK), qs.length = P_law.length → sp qs h Q → m_law Ad_Sayer sp_law_deck sp_law_begun sp_law_draw sp_law_seen sp_law_deed sp_Sayer_due sp_Sayer_remembered (ends Q) (sp0 N_law.length qs) h) : FnG P w K mg base (4 + 1) f fd P_law sp := by
  refine fn_ok (k := 4) F sc_law (m := m_law Ad_Sayer sp_law_deck sp_law_begun sp_law_draw sp_law_seen sp_law_deed sp_Sayer_due sp_Sayer_remembered) (fun cdv A outer s H E hr hG => ?_) hp
  have nd := sc_law.nd
  exact ls_cons (ls_set (i := 1) nd (le_fn c_law_deck hr (by decide) hG (la_cons (le_var (i := 0)) (la_nil))))
    (ls_cons (ls_par (i := 2) (j := 3) rfl nd (la_cons (le_lst (la_cons (le_fn c_law_begun hr (by decide) hG (la_cons (le_var (i := 1)) (la_nil))) (la_cons (le_fn c_law_begun hr (by decide) hG (la_cons (le_var (i := 1)) (la_nil))) (la_nil)))) (la_cons (le_lstM (la_nil)) (la_nil))))
    (ls_cons (ls_for (vs := [4]) PassesOwn.never rfl (li_rng1 z_range (la_cons (le_op op_addA kf_add (le_int) (le_fn c_law_draw hr (by decide) hG (la_cons (le_var (i := 1)) (la_cons (le_int) (la_nil))))) (la_nil))) (lg_name (i := 4) nd) (ls_cons (ls_set (i := 5) nd (le_ix (hu1 hr) (le_var (i := 2)) (le_fn c_law_draw hr (by decide) hG (la_cons (le_var (i := 1)) (la_cons (le_int) (la_nil))))))
    (ls_cons (ls_if (lt_w (lw_or (lt_not (lt_val (le_fn c_law_deed hr (by decide) hG (la_cons (le_var (i := 1)) (la_cons (le_var (i := 5)) (la_nil)))))) (lw_or (lt_not (lt_val (le_fn c_law_seen hr (by decide) hG (la_cons (le_ix (hu1 hr) (le_var (i := 2)) (le_int)) (la_nil))))) (lw_or1 (lt_not (lt_val (le_fn c_law_seen hr (by decide) hG (la_cons (le_ix (hu1 hr) (le_var (i := 2)) (le_int)) (la_nil))))))))) (ls_one (ls_ret (le_bl))) (ls_nil))
    (ls_one (ls_expr (le_append (le_var (i := 3)) (la_cons (le_tup (la_cons (le_meth0 c_Sayer_remembered (j := 0) (b := pat_Sayer_remembered_0) rfl hr (by decide) hG (le_ix (hu1 hr) (le_var (i := 5)) (le_str)) (lk_nil)) (la_cons (le_meth0 c_Sayer_due (j := 0) (b := pat_Sayer_due_0) rfl hr (by decide) hG (le_ix (hu1 hr) (le_var (i := 5)) (le_str)) (lk_nil)) (la_cons (le_repr hG (hu66 hr) z_repr (la_cons (le_tup (la_cons (le_meth0 c_Sayer_remembered (j := 0) (b := pat_Sayer_remembered_0) rfl hr (by decide) hG (le_ix (hu1 hr) (le_var (i := 5)) (le_str)) (lk_nil)) (la_cons (le_meth0 c_Sayer_due (j := 0) (b := pat_Sayer_due_0) rfl hr (by decide) hG (le_ix (hu1 hr) (le_var (i := 5)) (le_str)) (lk_nil)) (la_nil)))) (la_nil))) (la_nil))))) (la_nil))))))))
    (ls_one (ls_ret (le_cmp (op_eqA (hu64 hr)) lf_eq (le_lc [("_law_rows", 6), ("_law_due", 7), ("_law_kept", 8)] rfl nd (li_seqs (le_var (i := 3))) (blkOk_by (N := N_law) (sc := defScope s_law) (own := [("_law_rows", 6), ("_law_due", 7), ("_law_kept", 8)]) (by decide +kernel)) (fun _ _ _ _ _ => lg_tup rfl (lgs_cons (lg_name (i := 6) nd) (lgs_cons (lg_name (i := 7) nd) (lgs_cons (lg_name (i := 8) nd) (lgs_nil))))) (fun _ _ _ _ _ => lts_one (lt_cmp (op_neA (hu64 hr)) lf_ne (le_repr hG (hu66 hr) z_repr (la_cons (le_tup (la_cons (le_var (i := 6)) (la_cons (le_var (i := 7)) (la_nil)))) (la_nil))) (le_var (i := 8)) (nomark _))) (fun _ _ _ _ _ => le_int)) (le_lst (la_nil)) (nomark _))))))
/-! ### the head -/
section
variable {l : PySem.W.OpenLaw} {w : World} {K : PySem.W.Frag} {h : Heap} {mg : Str → Option Value} {fa : Addr}
theorem all_mk {sp_Said_init sp_Sayer_init sp_Sayer_len sp_Sayer_due sp_Sayer_answered sp_Sayer_beat sp_Sayer_again sp_Sayer_remembered sp_law_deck sp_law_draw sp_law_keys sp_law_words sp_law_pick sp_law_names sp_law_beat sp_Sayer_say sp_law_begun sp_law_seen sp_law_answers sp_law_deed : SpP} (X : K.In h) (G : h.Ns mainGlobals mg) (hfa : mg "law" = some (.ref fa))
    {f_Said_init f_Sayer_init f_Sayer_len f_Sayer_due f_Sayer_answered f_Sayer_beat f_Sayer_again f_Sayer_remembered f_law_deck f_law_draw f_law_keys f_law_words f_law_pick f_law_names f_law_beat f_Sayer_say f_law_begun f_law_seen f_law_answers f_law_deed f_law : Addr}
    {od_Said_init an_Said_init od_Sayer_init an_Sayer_init od_Sayer_len an_Sayer_len od_Sayer_due an_Sayer_due od_Sayer_answered an_Sayer_answered od_Sayer_beat an_Sayer_beat od_Sayer_again an_Sayer_again od_Sayer_remembered an_Sayer_remembered od_law_deck an_law_deck od_law_draw an_law_draw od_law_keys an_law_keys od_law_words an_law_words od_law_pick an_law_pick od_law_names an_law_names od_law_beat an_law_beat od_Sayer_say an_Sayer_say od_law_begun an_law_begun od_law_seen an_law_seen od_law_answers an_law_answers od_law_deed an_law_deed od_law an_law : Option Addr}
    {sl_Said_init sl_Sayer_init sl_Sayer_len sl_Sayer_due sl_Sayer_answered sl_Sayer_beat sl_Sayer_again sl_Sayer_remembered sl_law_deck sl_law_draw sl_law_keys sl_law_words sl_law_pick sl_law_names sl_law_beat sl_Sayer_say sl_law_begun sl_law_seen sl_law_answers sl_law_deed sl_law : Array (Option Value)}
    {oc_Said_init dc_Said_init pm_Said_init cd_Said_init ct_Said_init kV_Said_init oc_Sayer_init dc_Sayer_init pm_Sayer_init cd_Sayer_init ct_Sayer_init oc_Sayer_len dc_Sayer_len pm_Sayer_len cd_Sayer_len ct_Sayer_len kV_Sayer_len oc_Sayer_due dc_Sayer_due pm_Sayer_due cd_Sayer_due ct_Sayer_due kV_Sayer_due oc_Sayer_answered dc_Sayer_answered pm_Sayer_answered cd_Sayer_answered ct_Sayer_answered kV_Sayer_answered oc_Sayer_beat dc_Sayer_beat pm_Sayer_beat cd_Sayer_beat ct_Sayer_beat kV_Sayer_beat oc_Sayer_again dc_Sayer_again pm_Sayer_again cd_Sayer_again ct_Sayer_again kV_Sayer_again oc_Sayer_remembered dc_Sayer_remembered pm_Sayer_remembered cd_Sayer_remembered ct_Sayer_remembered kV_Sayer_remembered oc_law_deck dc_law_deck pm_law_deck cd_law_deck ct_law_deck kV_law_deck oc_law_draw dc_law_draw pm_law_draw cd_law_draw ct_law_draw kV_law_draw oc_law_keys dc_law_keys pm_law_keys cd_law_keys ct_law_keys kV_law_keys oc_law_words dc_law_words pm_law_words cd_law_words ct_law_words kV_law_words oc_law_pick dc_law_pick pm_law_pick cd_law_pick ct_law_pick kV_law_pick oc_law_names dc_law_names pm_law_names cd_law_names ct_law_names kV_law_names oc_law_beat dc_law_beat pm_law_beat cd_law_beat ct_law_beat kV_law_beat oc_Sayer_say dc_Sayer_say pm_Sayer_say cd_Sayer_say ct_Sayer_say kV_Sayer_say oc_law_begun dc_law_begun pm_law_begun cd_law_begun ct_law_begun kV_law_begun oc_law_seen dc_law_seen pm_law_seen cd_law_seen ct_law_seen kV_law_seen oc_law_answers dc_law_answers pm_law_answers cd_law_answers ct_law_answers kV_law_answers oc_law_deed dc_law_deed pm_law_deed cd_law_deed ct_law_deed kV_law_deed oc_law dc_law pm_law cd_law ct_law kV_law : Value}
    {td_Sayer_init_late : Tok}
    {Ad_Said Ad_Sayer D_Sayer_init : Addr}
    (A_Said : PySem.W.nsIn K mainGlobals "Said" = some (some (.ref Ad_Said)))
    (A_Sayer : PySem.W.nsIn K mainGlobals "Sayer" = some (some (.ref Ad_Sayer)))
    (a_Said_init : PySem.W.findIn K (.ref Ad_Said) "__init__" = some (some (.ref f_Said_init)))
    (i_Said_init : PySem.W.isFn K (.ref f_Said_init) = true)
    (l_Said_init : K.lookup f_Said_init = some ⟨oc_Said_init, od_Said_init, .func (PySem.W.fnOf "__init__" "Said.__init__" (defArgs s_Said_init) (defBody s_Said_init) (defScope s_Said_init) .none kV_Said_init dc_Said_init pm_Said_init an_Said_init cd_Said_init ct_Said_init), sl_Said_init⟩)
    (c_Said_init : PySem.W.codeIn K cd_Said_init "Said.__init__" = true)
    (k_Said_init : PySem.W.keepIn K (.ref f_Said_init) = true)
    (a_Sayer_init : PySem.W.findIn K (.ref Ad_Sayer) "__init__" = some (some (.ref f_Sayer_init)))
    (i_Sayer_init : PySem.W.isFn K (.ref f_Sayer_init) = true)
    (l_Sayer_init : K.lookup f_Sayer_init = some ⟨oc_Sayer_init, od_Sayer_init, .func (PySem.W.fnOf "__init__" "Sayer.__init__" (defArgs s_Sayer_init) (defBody s_Sayer_init) (defScope s_Sayer_init) .none (.ref D_Sayer_init) dc_Sayer_init pm_Sayer_init an_Sayer_init cd_Sayer_init ct_Sayer_init), sl_Sayer_init⟩)
    (c_Sayer_init : PySem.W.codeIn K cd_Sayer_init "Sayer.__init__" = true)
    (k_Sayer_init : PySem.W.keepIn K (.ref f_Sayer_init) = true)
    (d_Sayer_init_late : PySem.W.nsIn K D_Sayer_init "late" = some (some (.int 2 td_Sayer_init_late)))
    (a_Sayer_len : PySem.W.findIn K (.ref Ad_Sayer) "__len__" = some (some (.ref f_Sayer_len)))
    (i_Sayer_len : PySem.W.isFn K (.ref f_Sayer_len) = true)
    (l_Sayer_len : K.lookup f_Sayer_len = some ⟨oc_Sayer_len, od_Sayer_len, .func (PySem.W.fnOf "__len__" "Sayer.__len__" (defArgs s_Sayer_len) (defBody s_Sayer_len) (defScope s_Sayer_len) .none kV_Sayer_len dc_Sayer_len pm_Sayer_len an_Sayer_len cd_Sayer_len ct_Sayer_len), sl_Sayer_len⟩)
    (c_Sayer_len : PySem.W.codeIn K cd_Sayer_len "Sayer.__len__" = true)
    (k_Sayer_len : PySem.W.keepIn K (.ref f_Sayer_len) = true)
    (a_Sayer_due : PySem.W.findIn K (.ref Ad_Sayer) "due" = some (some (.ref f_Sayer_due)))
    (i_Sayer_due : PySem.W.isFn K (.ref f_Sayer_due) = true)
    (l_Sayer_due : K.lookup f_Sayer_due = some ⟨oc_Sayer_due, od_Sayer_due, .func (PySem.W.fnOf "due" "Sayer.due" (defArgs s_Sayer_due) (defBody s_Sayer_due) (defScope s_Sayer_due) .none kV_Sayer_due dc_Sayer_due pm_Sayer_due an_Sayer_due cd_Sayer_due ct_Sayer_due), sl_Sayer_due⟩)
    (c_Sayer_due : PySem.W.codeIn K cd_Sayer_due "Sayer.due" = true)
    (k_Sayer_due : PySem.W.keepIn K (.ref f_Sayer_due) = true)
    (a_Sayer_answered : PySem.W.findIn K (.ref Ad_Sayer) "answered" = some (some (.ref f_Sayer_answered)))
    (i_Sayer_answered : PySem.W.isFn K (.ref f_Sayer_answered) = true)
    (l_Sayer_answered : K.lookup f_Sayer_answered = some ⟨oc_Sayer_answered, od_Sayer_answered, .func (PySem.W.fnOf "answered" "Sayer.answered" (defArgs s_Sayer_answered) (defBody s_Sayer_answered) (defScope s_Sayer_answered) .none kV_Sayer_answered dc_Sayer_answered pm_Sayer_answered an_Sayer_answered cd_Sayer_answered ct_Sayer_answered), sl_Sayer_answered⟩)
    (c_Sayer_answered : PySem.W.codeIn K cd_Sayer_answered "Sayer.answered" = true)
    (k_Sayer_answered : PySem.W.keepIn K (.ref f_Sayer_answered) = true)
    (a_Sayer_beat : PySem.W.findIn K (.ref Ad_Sayer) "beat" = some (some (.ref f_Sayer_beat)))
    (i_Sayer_beat : PySem.W.isFn K (.ref f_Sayer_beat) = true)
    (l_Sayer_beat : K.lookup f_Sayer_beat = some ⟨oc_Sayer_beat, od_Sayer_beat, .func (PySem.W.fnOf "beat" "Sayer.beat" (defArgs s_Sayer_beat) (defBody s_Sayer_beat) (defScope s_Sayer_beat) .none kV_Sayer_beat dc_Sayer_beat pm_Sayer_beat an_Sayer_beat cd_Sayer_beat ct_Sayer_beat), sl_Sayer_beat⟩)
    (c_Sayer_beat : PySem.W.codeIn K cd_Sayer_beat "Sayer.beat" = true)
    (k_Sayer_beat : PySem.W.keepIn K (.ref f_Sayer_beat) = true)
    (a_Sayer_again : PySem.W.findIn K (.ref Ad_Sayer) "again" = some (some (.ref f_Sayer_again)))
    (i_Sayer_again : PySem.W.isFn K (.ref f_Sayer_again) = true)
    (l_Sayer_again : K.lookup f_Sayer_again = some ⟨oc_Sayer_again, od_Sayer_again, .func (PySem.W.fnOf "again" "Sayer.again" (defArgs s_Sayer_again) (defBody s_Sayer_again) (defScope s_Sayer_again) .none kV_Sayer_again dc_Sayer_again pm_Sayer_again an_Sayer_again cd_Sayer_again ct_Sayer_again), sl_Sayer_again⟩)
    (c_Sayer_again : PySem.W.codeIn K cd_Sayer_again "Sayer.again" = true)
    (k_Sayer_again : PySem.W.keepIn K (.ref f_Sayer_again) = true)
    (a_Sayer_remembered : PySem.W.findIn K (.ref Ad_Sayer) "remembered" = some (some (.ref f_Sayer_remembered)))
    (i_Sayer_remembered : PySem.W.isFn K (.ref f_Sayer_remembered) = true)
    (l_Sayer_remembered : K.lookup f_Sayer_remembered = some ⟨oc_Sayer_remembered, od_Sayer_remembered, .func (PySem.W.fnOf "remembered" "Sayer.remembered" (defArgs s_Sayer_remembered) (defBody s_Sayer_remembered) (defScope s_Sayer_remembered) .none kV_Sayer_remembered dc_Sayer_remembered pm_Sayer_remembered an_Sayer_remembered cd_Sayer_remembered ct_Sayer_remembered), sl_Sayer_remembered⟩)
    (c_Sayer_remembered : PySem.W.codeIn K cd_Sayer_remembered "Sayer.remembered" = true)
    (k_Sayer_remembered : PySem.W.keepIn K (.ref f_Sayer_remembered) = true)
    (a_law_deck : PySem.W.nsIn K mainGlobals "_law_deck" = some (some (.ref f_law_deck)))
    (l_law_deck : K.lookup f_law_deck = some ⟨oc_law_deck, od_law_deck, .func (PySem.W.fnOf "_law_deck" "_law_deck" (defArgs s_law_deck) (defBody s_law_deck) (defScope s_law_deck) .none kV_law_deck dc_law_deck pm_law_deck an_law_deck cd_law_deck ct_law_deck), sl_law_deck⟩)
    (c_law_deck : PySem.W.codeIn K cd_law_deck "_law_deck" = true)
    (k_law_deck : PySem.W.keepIn K (.ref f_law_deck) = true)
    (a_law_draw : PySem.W.nsIn K mainGlobals "_law_draw" = some (some (.ref f_law_draw)))
    (l_law_draw : K.lookup f_law_draw = some ⟨oc_law_draw, od_law_draw, .func (PySem.W.fnOf "_law_draw" "_law_draw" (defArgs s_law_draw) (defBody s_law_draw) (defScope s_law_draw) .none kV_law_draw dc_law_draw pm_law_draw an_law_draw cd_law_draw ct_law_draw), sl_law_draw⟩)
    (c_law_draw : PySem.W.codeIn K cd_law_draw "_law_draw" = true)
    (k_law_draw : PySem.W.keepIn K (.ref f_law_draw) = true)
    (a_law_keys : PySem.W.nsIn K mainGlobals "_law_keys" = some (some (.ref f_law_keys)))
    (l_law_keys : K.lookup f_law_keys = some ⟨oc_law_keys, od_law_keys, .func (PySem.W.fnOf "_law_keys" "_law_keys" (defArgs s_law_keys) (defBody s_law_keys) (defScope s_law_keys) .none kV_law_keys dc_law_keys pm_law_keys an_law_keys cd_law_keys ct_law_keys), sl_law_keys⟩)
    (c_law_keys : PySem.W.codeIn K cd_law_keys "_law_keys" = true)
    (k_law_keys : PySem.W.keepIn K (.ref f_law_keys) = true)
    (a_law_words : PySem.W.nsIn K mainGlobals "_law_words" = some (some (.ref f_law_words)))
    (l_law_words : K.lookup f_law_words = some ⟨oc_law_words, od_law_words, .func (PySem.W.fnOf "_law_words" "_law_words" (defArgs s_law_words) (defBody s_law_words) (defScope s_law_words) .none kV_law_words dc_law_words pm_law_words an_law_words cd_law_words ct_law_words), sl_law_words⟩)
    (c_law_words : PySem.W.codeIn K cd_law_words "_law_words" = true)
    (k_law_words : PySem.W.keepIn K (.ref f_law_words) = true)
    (a_law_pick : PySem.W.nsIn K mainGlobals "_law_pick" = some (some (.ref f_law_pick)))
    (l_law_pick : K.lookup f_law_pick = some ⟨oc_law_pick, od_law_pick, .func (PySem.W.fnOf "_law_pick" "_law_pick" (defArgs s_law_pick) (defBody s_law_pick) (defScope s_law_pick) .none kV_law_pick dc_law_pick pm_law_pick an_law_pick cd_law_pick ct_law_pick), sl_law_pick⟩)
    (c_law_pick : PySem.W.codeIn K cd_law_pick "_law_pick" = true)
    (k_law_pick : PySem.W.keepIn K (.ref f_law_pick) = true)
    (a_law_names : PySem.W.nsIn K mainGlobals "_law_names" = some (some (.ref f_law_names)))
    (l_law_names : K.lookup f_law_names = some ⟨oc_law_names, od_law_names, .func (PySem.W.fnOf "_law_names" "_law_names" (defArgs s_law_names) (defBody s_law_names) (defScope s_law_names) .none kV_law_names dc_law_names pm_law_names an_law_names cd_law_names ct_law_names), sl_law_names⟩)
    (c_law_names : PySem.W.codeIn K cd_law_names "_law_names" = true)
    (k_law_names : PySem.W.keepIn K (.ref f_law_names) = true)
    (a_law_beat : PySem.W.nsIn K mainGlobals "_law_beat" = some (some (.ref f_law_beat)))
    (l_law_beat : K.lookup f_law_beat = some ⟨oc_law_beat, od_law_beat, .func (PySem.W.fnOf "_law_beat" "_law_beat" (defArgs s_law_beat) (defBody s_law_beat) (defScope s_law_beat) .none kV_law_beat dc_law_beat pm_law_beat an_law_beat cd_law_beat ct_law_beat), sl_law_beat⟩)
    (c_law_beat : PySem.W.codeIn K cd_law_beat "_law_beat" = true)
    (k_law_beat : PySem.W.keepIn K (.ref f_law_beat) = true)
    (a_Sayer_say : PySem.W.findIn K (.ref Ad_Sayer) "say" = some (some (.ref f_Sayer_say)))
    (i_Sayer_say : PySem.W.isFn K (.ref f_Sayer_say) = true)
    (l_Sayer_say : K.lookup f_Sayer_say = some ⟨oc_Sayer_say, od_Sayer_say, .func (PySem.W.fnOf "say" "Sayer.say" (defArgs s_Sayer_say) (defBody s_Sayer_say) (defScope s_Sayer_say) .none kV_Sayer_say dc_Sayer_say pm_Sayer_say an_Sayer_say cd_Sayer_say ct_Sayer_say), sl_Sayer_say⟩)
    (c_Sayer_say : PySem.W.codeIn K cd_Sayer_say "Sayer.say" = true)
    (k_Sayer_say : PySem.W.keepIn K (.ref f_Sayer_say) = true)
    (a_law_begun : PySem.W.nsIn K mainGlobals "_law_begun" = some (some (.ref f_law_begun)))
    (l_law_begun : K.lookup f_law_begun = some ⟨oc_law_begun, od_law_begun, .func (PySem.W.fnOf "_law_begun" "_law_begun" (defArgs s_law_begun) (defBody s_law_begun) (defScope s_law_begun) .none kV_law_begun dc_law_begun pm_law_begun an_law_begun cd_law_begun ct_law_begun), sl_law_begun⟩)
    (c_law_begun : PySem.W.codeIn K cd_law_begun "_law_begun" = true)
    (k_law_begun : PySem.W.keepIn K (.ref f_law_begun) = true)
    (a_law_seen : PySem.W.nsIn K mainGlobals "_law_seen" = some (some (.ref f_law_seen)))
    (l_law_seen : K.lookup f_law_seen = some ⟨oc_law_seen, od_law_seen, .func (PySem.W.fnOf "_law_seen" "_law_seen" (defArgs s_law_seen) (defBody s_law_seen) (defScope s_law_seen) .none kV_law_seen dc_law_seen pm_law_seen an_law_seen cd_law_seen ct_law_seen), sl_law_seen⟩)
    (c_law_seen : PySem.W.codeIn K cd_law_seen "_law_seen" = true)
    (k_law_seen : PySem.W.keepIn K (.ref f_law_seen) = true)
    (a_law_answers : PySem.W.nsIn K mainGlobals "_law_answers" = some (some (.ref f_law_answers)))
    (l_law_answers : K.lookup f_law_answers = some ⟨oc_law_answers, od_law_answers, .func (PySem.W.fnOf "_law_answers" "_law_answers" (defArgs s_law_answers) (defBody s_law_answers) (defScope s_law_answers) .none kV_law_answers dc_law_answers pm_law_answers an_law_answers cd_law_answers ct_law_answers), sl_law_answers⟩)
    (c_law_answers : PySem.W.codeIn K cd_law_answers "_law_answers" = true)
    (k_law_answers : PySem.W.keepIn K (.ref f_law_answers) = true)
    (a_law_deed : PySem.W.nsIn K mainGlobals "_law_deed" = some (some (.ref f_law_deed)))
    (l_law_deed : K.lookup f_law_deed = some ⟨oc_law_deed, od_law_deed, .func (PySem.W.fnOf "_law_deed" "_law_deed" (defArgs s_law_deed) (defBody s_law_deed) (defScope s_law_deed) .none kV_law_deed dc_law_deed pm_law_deed an_law_deed cd_law_deed ct_law_deed), sl_law_deed⟩)
    (c_law_deed : PySem.W.codeIn K cd_law_deed "_law_deed" = true)
    (k_law_deed : PySem.W.keepIn K (.ref f_law_deed) = true)
    (a_law : PySem.W.nsIn K mainGlobals "law" = some (some (.ref f_law)))
    (l_law : K.lookup f_law = some ⟨oc_law, od_law, .func (PySem.W.fnOf "law" "law" (defArgs s_law) (defBody s_law) (defScope s_law) .none kV_law dc_law pm_law an_law cd_law ct_law), sl_law⟩)
    (c_law : PySem.W.codeIn K cd_law "law" = true)
    (k_law : PySem.W.keepIn K (.ref f_law) = true)
    (pg_Said : PySem.W.plainGet K Ad_Said Str.empty = true)
    (hd_Said : PySem.W.hasDictIn K Ad_Said = true)
    (po_Said : PySem.W.plainOver K Ad_Said = true)
    (sa_Said : PySem.W.findIn K (.ref Ad_Said) "__setattr__" = some (some (.builtin "object.__setattr__")))
    (mk_Said : PySem.W.makesIn K Ad_Said = true)
    (kc_Said : PySem.W.keepIn K (.ref Ad_Said) = true)
    (pg_Sayer : PySem.W.plainGet K Ad_Sayer Str.empty = true)
    (hd_Sayer : PySem.W.hasDictIn K Ad_Sayer = true)
    (po_Sayer : PySem.W.plainOver K Ad_Sayer = true)
    (sa_Sayer : PySem.W.findIn K (.ref Ad_Sayer) "__setattr__" = some (some (.builtin "object.__setattr__")))
    (mk_Sayer : PySem.W.makesIn K Ad_Sayer = true)
    (kc_Sayer : PySem.W.keepIn K (.ref Ad_Sayer) = true)
    (n_Said_turn_here : PySem.W.findIn K (.ref Ad_Said) "turn_here" = some none)
    (n_Said_word_here : PySem.W.findIn K (.ref Ad_Said) "word_here" = some none)
    (n_Said_names_heard : PySem.W.findIn K (.ref Ad_Said) "names_heard" = some none)
    (n_Said_wait_here : PySem.W.findIn K (.ref Ad_Said) "wait_here" = some none)
    (n_Sayer_others_told : PySem.W.findIn K (.ref Ad_Sayer) "others_told" = some none)
    (n_Sayer_late_beats : PySem.W.findIn K (.ref Ad_Sayer) "late_beats" = some none)
    (n_Sayer_words_said : PySem.W.findIn K (.ref Ad_Sayer) "words_said" = some none)
    (z_len : PySem.W.nsIn K mainGlobals "len" = some none)
    (z_tuple : PySem.W.nsIn K mainGlobals "tuple" = some none)
    (z_sorted : PySem.W.nsIn K mainGlobals "sorted" = some none)
    (z_list : PySem.W.nsIn K mainGlobals "list" = some none)
    (z_range : PySem.W.nsIn K mainGlobals "range" = some none)
    (z_repr : PySem.W.nsIn K mainGlobals "repr" = some none)
    (z_max : PySem.W.nsIn K mainGlobals "max" = some none)
    (z_min : PySem.W.nsIn K mainGlobals "min" = some none)
    (z_set : PySem.W.nsIn K mainGlobals "set" = some none)
    (p_Said_init : ∀ (qs : List PV) (h : PH) (Q : N3.PK), qs.length = P_Said_init.length → sp_Said_init qs h Q → m_Said_init Ad_Said (ends Q) (sp0 N_Said_init.length qs) h)
    (p_Sayer_init : ∀ (qs : List PV) (h : PH) (Q : N3.PK), qs.length = P_Sayer_init.length → sp_Sayer_init qs h Q → m_Sayer_init Ad_Sayer (ends Q) (sp0 N_Sayer_init.length qs) h)
    (p_Sayer_len : ∀ (qs : List PV) (h : PH) (Q : N3.PK), qs.length = P_Sayer_len.length → sp_Sayer_len qs h Q → m_Sayer_len Ad_Sayer (ends Q) (sp0 N_Sayer_len.length qs) h)
    (p_Sayer_due : ∀ (qs : List PV) (h : PH) (Q : N3.PK), qs.length = P_Sayer_due.length → sp_Sayer_due qs h Q → m_Sayer_due Ad_Sayer Ad_Said (ends Q) (sp0 N_Sayer_due.length qs) h)
    (p_Sayer_answered : ∀ (qs : List PV) (h : PH) (Q : N3.PK), qs.length = P_Sayer_answered.length → sp_Sayer_answered qs h Q → m_Sayer_answered Ad_Sayer Ad_Said (ends Q) (sp0 N_Sayer_answered.length qs) h)
    (p_Sayer_beat : ∀ (qs : List PV) (h : PH) (Q : N3.PK), qs.length = P_Sayer_beat.length → sp_Sayer_beat qs h Q → m_Sayer_beat Ad_Sayer Ad_Said (ends Q) (sp0 N_Sayer_beat.length qs) h)
    (p_Sayer_again : ∀ (qs : List PV) (h : PH) (Q : N3.PK), qs.length = P_Sayer_again.length → sp_Sayer_again qs h Q → m_Sayer_again Ad_Sayer Ad_Said (ends Q) (sp0 N_Sayer_again.length qs) h)
    (p_Sayer_remembered : ∀ (qs : List PV) (h : PH) (Q : N3.PK), qs.length = P_Sayer_remembered.length → sp_Sayer_remembered qs h Q → m_Sayer_remembered Ad_Sayer Ad_Said (ends Q) (sp0 N_Sayer_remembered.length qs) h)
    (p_law_deck : ∀ (qs : List PV) (h : PH) (Q : N3.PK), qs.length = P_law_deck.length → sp_law_deck qs h Q → m_law_deck (ends Q) (sp0 N_law_deck.length qs) h)
    (p_law_draw : ∀ (qs : List PV) (h : PH) (Q : N3.PK), qs.length = P_law_draw.length → sp_law_draw qs h Q → m_law_draw (ends Q) (sp0 N_law_draw.length qs) h)
    (p_law_keys : ∀ (qs : List PV) (h : PH) (Q : N3.PK), qs.length = P_law_keys.length → sp_law_keys qs h Q → m_law_keys (ends Q) (sp0 N_law_keys.length qs) h)
    (p_law_words : ∀ (qs : List PV) (h : PH) (Q : N3.PK), qs.length = P_law_words.length → sp_law_words qs h Q → m_law_words (ends Q) (sp0 N_law_words.length qs) h)
    (p_law_pick : ∀ (qs : List PV) (h : PH) (Q : N3.PK), qs.length = P_law_pick.length → sp_law_pick qs h Q → m_law_pick sp_law_draw (ends Q) (sp0 N_law_pick.length qs) h)
    (p_law_names : ∀ (qs : List PV) (h : PH) (Q : N3.PK), qs.length = P_law_names.length → sp_law_names qs h Q → m_law_names sp_law_draw (ends Q) (sp0 N_law_names.length qs) h)
    (p_law_beat : ∀ (qs : List PV) (h : PH) (Q : N3.PK), qs.length = P_law_beat.length → sp_law_beat qs h Q → m_law_beat Ad_Sayer sp_Sayer_beat (ends Q) (sp0 N_law_beat.length qs) h)
    (p_Sayer_say : ∀ (qs : List PV) (h : PH) (Q : N3.PK), qs.length = P_Sayer_say.length → sp_Sayer_say qs h Q → m_Sayer_say Ad_Sayer Ad_Said sp_Said_init (ends Q) (sp0 N_Sayer_say.length qs) h)
    (p_law_begun : ∀ (qs : List PV) (h : PH) (Q : N3.PK), qs.length = P_law_begun.length → sp_law_begun qs h Q → m_law_begun Ad_Sayer sp_law_pick sp_law_names sp_law_draw sp_Sayer_init (ends Q) (sp0 N_law_begun.length qs) h)
    (p_law_seen : ∀ (qs : List PV) (h : PH) (Q : N3.PK), qs.length = P_law_seen.length → sp_law_seen qs h Q → m_law_seen Ad_Sayer sp_Sayer_len sp_Sayer_remembered sp_Sayer_due (ends Q) (sp0 N_law_seen.length qs) h)
    (p_law_answers : ∀ (qs : List PV) (h : PH) (Q : N3.PK), qs.length = P_law_answers.length → sp_law_answers qs h Q → m_law_answers Ad_Sayer sp_law_pick sp_law_draw sp_Sayer_answered (ends Q) (sp0 N_law_answers.length qs) h)
    (p_law_deed : ∀ (qs : List PV) (h : PH) (Q : N3.PK), qs.length = P_law_deed.length → sp_law_deed qs h Q → m_law_deed Ad_Sayer sp_law_pick sp_law_keys sp_law_draw sp_law_words sp_law_answers sp_law_beat sp_law_seen sp_Sayer_say sp_Sayer_answered sp_Sayer_again (ends Q) (sp0 N_law_deed.length qs) h)
    (p_law : ∀ (qs : List PV) (h : PH) (Q : N3.PK), qs.length = P_law.length → spLaw 63 qs h Q → m_law Ad_Sayer sp_law_deck sp_law_begun sp_law_draw sp_law_seen sp_law_deed sp_Sayer_due sp_Sayer_remembered (ends Q) (sp0 N_law.length qs) h)
    : ∃ fd : FuncData, (∀ (s : Shared) (v : Value), BindsTo s fd ⟨[v], []⟩ [("_law_script", v)]) ∧ ∀ base : Heap, K.In base → base.Ns mainGlobals mg → FnG l.prog w K mg base 5 fa fd ["_law_script"] (spLaw 63) := by
  have e := hfa.symm.trans (PySem.W.mg_of X G a_law)
  cases e
  have CL_Said : Cls K Ad_Said := ⟨pg_Said, hd_Said, po_Said, sa_Said⟩
  have CL_Sayer : Cls K Ad_Sayer := ⟨pg_Sayer, hd_Sayer, po_Sayer, sa_Sayer⟩
  have F_Said_init := fun_mk (st := s_Said_init) l_Said_init c_Said_init k_Said_init
  have F_Sayer_init := fun_mk (st := s_Sayer_init) l_Sayer_init c_Sayer_init k_Sayer_init
  have F_Sayer_len := fun_mk (st := s_Sayer_len) l_Sayer_len c_Sayer_len k_Sayer_len
  have F_Sayer_due := fun_mk (st := s_Sayer_due) l_Sayer_due c_Sayer_due k_Sayer_due
  have F_Sayer_answered := fun_mk (st := s_Sayer_answered) l_Sayer_answered c_Sayer_answered k_Sayer_answered
  have F_Sayer_beat := fun_mk (st := s_Sayer_beat) l_Sayer_beat c_Sayer_beat k_Sayer_beat
  have F_Sayer_again := fun_mk (st := s_Sayer_again) l_Sayer_again c_Sayer_again k_Sayer_again
  have F_Sayer_remembered := fun_mk (st := s_Sayer_remembered) l_Sayer_remembered c_Sayer_remembered k_Sayer_remembered
  have F_law_deck := fun_mk (st := s_law_deck) l_law_deck c_law_deck k_law_deck
  have b_law_deck := F_law_deck.binds (ps := P_law_deck) fun _ _ _ _ _ _ us hl => match us, hl with | [_], _ => rfl
  have F_law_draw := fun_mk (st := s_law_draw) l_law_draw c_law_draw k_law_draw
  have b_law_draw := F_law_draw.binds (ps := P_law_draw) fun _ _ _ _ _ _ us hl => match us, hl with | [_, _], _ => rfl
  have F_law_keys := fun_mk (st := s_law_keys) l_law_keys c_law_keys k_law_keys
  have b_law_keys := F_law_keys.binds (ps := P_law_keys) fun _ _ _ _ _ _ us hl => match us, hl with | [], _ => rfl
  have F_law_words := fun_mk (st := s_law_words) l_law_words c_law_words k_law_words
  have b_law_words := F_law_words.binds (ps := P_law_words) fun _ _ _ _ _ _ us hl => match us, hl with | [], _ => rfl
  have F_law_pick := fun_mk (st := s_law_pick) l_law_pick c_law_pick k_law_pick
  have b_law_pick := F_law_pick.binds (ps := P_law_pick) fun _ _ _ _ _ _ us hl => match us, hl with | [_, _], _ => rfl
  have F_law_names := fun_mk (st := s_law_names) l_law_names c_law_names k_law_names
  have b_law_names := F_law_names.binds (ps := P_law_names) fun _ _ _ _ _ _ us hl => match us, hl with | [_, _], _ => rfl
  have F_law_beat := fun_mk (st := s_law_beat) l_law_beat c_law_beat k_law_beat
  have b_law_beat := F_law_beat.binds (ps := P_law_beat) fun _ _ _ _ _ _ us hl => match us, hl with | [_], _ => rfl
  have F_Sayer_say := fun_mk (st := s_Sayer_say) l_Sayer_say c_Sayer_say k_Sayer_say
  have F_law_begun := fun_mk (st := s_law_begun) l_law_begun c_law_begun k_law_begun
  have b_law_begun := F_law_begun.binds (ps := P_law_begun) fun _ _ _ _ _ _ us hl => match us, hl with | [_], _ => rfl
  have F_law_seen := fun_mk (st := s_law_seen) l_law_seen c_law_seen k_law_seen
  have b_law_seen := F_law_seen.binds (ps := P_law_seen) fun _ _ _ _ _ _ us hl => match us, hl with | [_], _ => rfl
  have F_law_answers := fun_mk (st := s_law_answers) l_law_answers c_law_answers k_law_answers
  have b_law_answers := F_law_answers.binds (ps := P_law_answers) fun _ _ _ _ _ _ us hl => match us, hl with | [_, _, _], _ => rfl
  have F_law_deed := fun_mk (st := s_law_deed) l_law_deed c_law_deed k_law_deed
  have b_law_deed := F_law_deed.binds (ps := P_law_deed) fun _ _ _ _ _ _ us hl => match us, hl with | [_, _], _ => rfl
  have F_law := fun_mk (st := s_law) l_law c_law k_law
  have b_law := F_law.binds (ps := P_law) fun _ _ _ _ _ _ us hl => match us, hl with | [_], _ => rfl
  refine ⟨PySem.W.fnOf "law" "law" (defArgs s_law) (defBody s_law) (defScope s_law) .none kV_law dc_law pm_law an_law cd_law ct_law, fun s v => .of_eq rfl, fun base _ _ => ?_⟩
  have C_Said_init : FnI l.prog w K mg base 1 "Said" Ad_Said P_Said_init sp_Said_init pats_Said_init := ⟨PySem.W.mg_of X G A_Said, _, _, ⟨mk_Said, a_Said_init, i_Said_init, kc_Said⟩, ⟨k_Said_init, (List.forall_mem_cons.mpr ⟨(kb_all (st := s_Said_init) (b := pat_Said_init_0) rfl (fun us ws h1 h2 => match us, ws, h1, h2 with | [_, _, _, _], [], _, _ => rfl) (fun l hl => match l, hl with | [_, _, _, _], _ => rfl)), (fun _ h => nomatch h)⟩), ok_Said_init F_Said_init CL_Said n_Said_turn_here n_Said_word_here n_Said_names_heard n_Said_wait_here p_Said_init⟩⟩
  have C_Sayer_init : FnI l.prog w K mg base 1 "Sayer" Ad_Sayer P_Sayer_init sp_Sayer_init pats_Sayer_init := ⟨PySem.W.mg_of X G A_Sayer, _, _, ⟨mk_Sayer, a_Sayer_init, i_Sayer_init, kc_Sayer⟩, ⟨k_Sayer_init, (List.forall_mem_cons.mpr ⟨(kb_kwo (D := D_Sayer_init) (st := s_Sayer_init) (ms := [("late", .int 2)]) (b := pat_Sayer_init_0) rfl (kwd_cons d_Sayer_init_late ⟨_, rfl⟩ kwd_nil) (fun us mv ws h1 h2 h3 => match us, mv, ws, h1, h2, h3 with | [_, _], [_], [], _, _, _ => ⟨_, _, _, _, _, _, rfl, rfl, rfl⟩) (fun l hl => match l, hl with | [_, _, _], _ => rfl) (by intro p hp; simp at hp; try (subst hp; trivial))), (List.forall_mem_cons.mpr ⟨(kb_kwo (D := D_Sayer_init) (st := s_Sayer_init) (ms := []) (b := pat_Sayer_init_1) rfl kwd_nil (fun us mv ws h1 h2 h3 => match us, mv, ws, h1, h2, h3 with | [_, _], [], [_], _, _, _ => rfl) (fun l hl => match l, hl with | [_, _, _], _ => rfl) (by intro p hp; simp at hp; try (subst hp; trivial))), (fun _ h => nomatch h)⟩)⟩), ok_Sayer_init F_Sayer_init CL_Sayer n_Sayer_others_told n_Sayer_late_beats n_Sayer_words_said p_Sayer_init⟩⟩
  have C_Sayer_len : FnM l.prog w K mg base 1 Ad_Sayer "__len__" P_Sayer_len sp_Sayer_len pats_Sayer_len := ⟨CL_Sayer, _, _, ⟨a_Sayer_len, i_Sayer_len, k_Sayer_len⟩, ⟨k_Sayer_len, (List.forall_mem_cons.mpr ⟨(kb_all (st := s_Sayer_len) (b := pat_Sayer_len_0) rfl (fun us ws h1 h2 => match us, ws, h1, h2 with | [_], [], _, _ => rfl) (fun l hl => match l, hl with | [_], _ => rfl)), (fun _ h => nomatch h)⟩), ok_Sayer_len F_Sayer_len CL_Sayer n_Sayer_words_said (PySem.W.mg_none_of X G z_len) p_Sayer_len⟩⟩
  have C_Sayer_due : FnM l.prog w K mg base 1 Ad_Sayer "due" P_Sayer_due sp_Sayer_due pats_Sayer_due := ⟨CL_Sayer, _, _, ⟨a_Sayer_due, i_Sayer_due, k_Sayer_due⟩, ⟨k_Sayer_due, (List.forall_mem_cons.mpr ⟨(kb_all (st := s_Sayer_due) (b := pat_Sayer_due_0) rfl (fun us ws h1 h2 => match us, ws, h1, h2 with | [_], [], _, _ => rfl) (fun l hl => match l, hl with | [_], _ => rfl)), (fun _ h => nomatch h)⟩), ok_Sayer_due F_Sayer_due CL_Sayer CL_Said n_Sayer_words_said n_Sayer_others_told n_Said_names_heard n_Said_word_here n_Said_turn_here (PySem.W.mg_none_of X G z_tuple) (PySem.W.mg_none_of X G z_sorted) p_Sayer_due⟩⟩
  have C_Sayer_answered : FnM l.prog w K mg base 1 Ad_Sayer "answered" P_Sayer_answered sp_Sayer_answered pats_Sayer_answered := ⟨CL_Sayer, _, _, ⟨a_Sayer_answered, i_Sayer_answered, k_Sayer_answered⟩, ⟨k_Sayer_answered, (List.forall_mem_cons.mpr ⟨(kb_all (st := s_Sayer_answered) (b := pat_Sayer_answered_0) rfl (fun us ws h1 h2 => match us, ws, h1, h2 with | [_], [_, _, _, _], _, _ => rfl) (fun l hl => match l, hl with | [_, _, _, _, _], _ => rfl)), (List.forall_mem_cons.mpr ⟨(kb_all (st := s_Sayer_answered) (b := pat_Sayer_answered_1) rfl (fun us ws h1 h2 => match us, ws, h1, h2 with | [_, _, _, _, _], [], _, _ => rfl) (fun l hl => match l, hl with | [_, _, _, _, _], _ => rfl)), (fun _ h => nomatch h)⟩)⟩), ok_Sayer_answered F_Sayer_answered CL_Sayer CL_Said n_Sayer_others_told n_Sayer_words_said n_Said_word_here n_Said_turn_here n_Said_names_heard p_Sayer_answered⟩⟩
  have C_Sayer_beat : FnM l.prog w K mg base 1 Ad_Sayer "beat" P_Sayer_beat sp_Sayer_beat pats_Sayer_beat := ⟨CL_Sayer, _, _, ⟨a_Sayer_beat, i_Sayer_beat, k_Sayer_beat⟩, ⟨k_Sayer_beat, (List.forall_mem_cons.mpr ⟨(kb_all (st := s_Sayer_beat) (b := pat_Sayer_beat_0) rfl (fun us ws h1 h2 => match us, ws, h1, h2 with | [_], [], _, _ => rfl) (fun l hl => match l, hl with | [_], _ => rfl)), (fun _ h => nomatch h)⟩), ok_Sayer_beat F_Sayer_beat CL_Sayer CL_Said n_Sayer_words_said n_Said_names_heard n_Sayer_others_told n_Said_wait_here n_Sayer_late_beats (PySem.W.mg_none_of X G z_list) (PySem.W.mg_none_of X G z_len) p_Sayer_beat⟩⟩
  have C_Sayer_again : FnM l.prog w K mg base 1 Ad_Sayer "again" P_Sayer_again sp_Sayer_again pats_Sayer_again := ⟨CL_Sayer, _, _, ⟨a_Sayer_again, i_Sayer_again, k_Sayer_again⟩, ⟨k_Sayer_again, (List.forall_mem_cons.mpr ⟨(kb_all (st := s_Sayer_again) (b := pat_Sayer_again_0) rfl (fun us ws h1 h2 => match us, ws, h1, h2 with | [_], [], _, _ => rfl) (fun l hl => match l, hl with | [_], _ => rfl)), (fun _ h => nomatch h)⟩), ok_Sayer_again F_Sayer_again CL_Sayer CL_Said n_Sayer_words_said n_Said_wait_here p_Sayer_again⟩⟩
  have C_Sayer_remembered : FnM l.prog w K mg base 1 Ad_Sayer "remembered" P_Sayer_remembered sp_Sayer_remembered pats_Sayer_remembered := ⟨CL_Sayer, _, _, ⟨a_Sayer_remembered, i_Sayer_remembered, k_Sayer_remembered⟩, ⟨k_Sayer_remembered, (List.forall_mem_cons.mpr ⟨(kb_all (st := s_Sayer_remembered) (b := pat_Sayer_remembered_0) rfl (fun us ws h1 h2 => match us, ws, h1, h2 with | [_], [], _, _ => rfl) (fun l hl => match l, hl with | [_], _ => rfl)), (fun _ h => nomatch h)⟩), ok_Sayer_remembered F_Sayer_remembered CL_Sayer CL_Said n_Sayer_words_said n_Said_names_heard n_Said_word_here n_Said_turn_here (PySem.W.mg_none_of X G z_tuple) (PySem.W.mg_none_of X G z_sorted) p_Sayer_remembered⟩⟩
  have C_law_deck : Fn l.prog w K mg base 1 "_law_deck" s_law_deck P_law_deck sp_law_deck := ⟨_, _, PySem.W.mg_of X G a_law_deck, F_law_deck, b_law_deck, ok_law_deck F_law_deck (PySem.W.mg_none_of X G z_list) p_law_deck⟩
  have C_law_draw : Fn l.prog w K mg base 1 "_law_draw" s_law_draw P_law_draw sp_law_draw := ⟨_, _, PySem.W.mg_of X G a_law_draw, F_law_draw, b_law_draw, ok_law_draw F_law_draw p_law_draw⟩
  have C_law_keys : Fn l.prog w K mg base 1 "_law_keys" s_law_keys P_law_keys sp_law_keys := ⟨_, _, PySem.W.mg_of X G a_law_keys, F_law_keys, b_law_keys, ok_law_keys F_law_keys p_law_keys⟩
  have C_law_words : Fn l.prog w K mg base 1 "_law_words" s_law_words P_law_words sp_law_words := ⟨_, _, PySem.W.mg_of X G a_law_words, F_law_words, b_law_words, ok_law_words F_law_words p_law_words⟩
  have C_law_pick : Fn l.prog w K mg base 2 "_law_pick" s_law_pick P_law_pick sp_law_pick := ⟨_, _, PySem.W.mg_of X G a_law_pick, F_law_pick, b_law_pick, ok_law_pick F_law_pick C_law_draw (PySem.W.mg_none_of X G z_len) p_law_pick⟩
  have C_law_names : Fn l.prog w K mg base 2 "_law_names" s_law_names P_law_names sp_law_names := ⟨_, _, PySem.W.mg_of X G a_law_names, F_law_names, b_law_names, ok_law_names F_law_names C_law_draw (PySem.W.mg_none_of X G z_range) (PySem.W.mg_none_of X G z_tuple) (PySem.W.mg_none_of X G z_sorted) p_law_names⟩
  have C_law_beat : Fn l.prog w K mg base 2 "_law_beat" s_law_beat P_law_beat sp_law_beat := ⟨_, _, PySem.W.mg_of X G a_law_beat, F_law_beat, b_law_beat, ok_law_beat F_law_beat CL_Sayer C_Sayer_beat (PySem.W.mg_none_of X G z_sorted) (PySem.W.mg_none_of X G z_len) p_law_beat⟩
  have C_Sayer_say : FnM l.prog w K mg base 3 Ad_Sayer "say" P_Sayer_say sp_Sayer_say pats_Sayer_say := ⟨CL_Sayer, _, _, ⟨a_Sayer_say, i_Sayer_say, k_Sayer_say⟩, ⟨k_Sayer_say, (List.forall_mem_cons.mpr ⟨(kb_all (st := s_Sayer_say) (b := pat_Sayer_say_0) rfl (fun us ws h1 h2 => match us, ws, h1, h2 with | [_, _, _], [], _, _ => rfl) (fun l hl => match l, hl with | [_, _, _], _ => rfl)), (fun _ h => nomatch h)⟩), ok_Sayer_say F_Sayer_say CL_Sayer CL_Said n_Sayer_words_said n_Said_turn_here C_Said_init p_Sayer_say⟩⟩
  have C_law_begun : Fn l.prog w K mg base 3 "_law_begun" s_law_begun P_law_begun sp_law_begun := ⟨_, _, PySem.W.mg_of X G a_law_begun, F_law_begun, b_law_begun, ok_law_begun F_law_begun C_law_pick C_law_names C_law_draw CL_Sayer C_Sayer_init p_law_begun⟩
  have C_law_seen : Fn l.prog w K mg base 3 "_law_seen" s_law_seen P_law_seen sp_law_seen := ⟨_, _, PySem.W.mg_of X G a_law_seen, F_law_seen, b_law_seen, ok_law_seen F_law_seen CL_Sayer C_Sayer_len C_Sayer_remembered C_Sayer_due (PySem.W.mg_none_of X G z_tuple) (PySem.W.mg_none_of X G z_sorted) (PySem.W.mg_none_of X G z_repr) (PySem.W.mg_none_of X G z_len) (PySem.W.mg_none_of X G z_range) p_law_seen⟩
  have C_law_answers : Fn l.prog w K mg base 3 "_law_answers" s_law_answers P_law_answers sp_law_answers := ⟨_, _, PySem.W.mg_of X G a_law_answers, F_law_answers, b_law_answers, ok_law_answers F_law_answers C_law_pick C_law_draw CL_Sayer C_Sayer_answered (PySem.W.mg_none_of X G z_max) (PySem.W.mg_none_of X G z_min) p_law_answers⟩
  have C_law_deed : Fn l.prog w K mg base 4 "_law_deed" s_law_deed P_law_deed sp_law_deed := ⟨_, _, PySem.W.mg_of X G a_law_deed, F_law_deed, b_law_deed, ok_law_deed F_law_deed C_law_pick C_law_keys C_law_draw C_law_words C_law_answers C_law_beat C_law_seen CL_Sayer C_Sayer_say C_Sayer_answered C_Sayer_again (PySem.W.mg_none_of X G z_sorted) (PySem.W.mg_none_of X G z_set) (PySem.W.mg_none_of X G z_range) (PySem.W.mg_none_of X G z_min) p_law_deed⟩
  exact ok_law F_law C_law_deck C_law_begun C_law_draw C_law_seen C_law_deed CL_Sayer C_Sayer_due C_Sayer_remembered (PySem.W.mg_none_of X G z_range) (PySem.W.mg_none_of X G z_repr) p_law
end
end Wneversaid_k41_words_said

namespace Wneversaid_k41_words_said
open PySem PySem.Spec PyProof.Rows L2 N3
/-! ### a dict as a list of entries -/
section
variable {α : Type} {K : α → Key} {f : α → PV}
theorem lk_mid {ds r : List α} {e : α} (hd : K e ∉ ds.map K) : lk ((ds ++ e :: r).map K) ((ds ++ e :: r).map f) (K e) = some (f e) := by
  induction ds with
  | nil => exact if_pos rfl
  | cons d ds ih =>
    rw [List.map_cons, List.mem_cons, not_or] at hd
    exact (if_neg (Ne.symm hd.1)).trans (ih hd.2)
theorem lk_no {es : List α} {k : Key} (hd : k ∉ es.map K) : lk (es.map K) (es.map f) k = none := by
  induction es with
  | nil => rfl
  | cons d ds ih =>
    rw [List.map_cons, List.mem_cons, not_or] at hd
    exact (if_neg (Ne.symm hd.1)).trans (ih hd.2)
theorem hasK_iff {ks : List Key} {k : Key} : hasK ks k = true ↔ k ∈ ks := by
  unfold hasK
  rw [List.any_eq_true]
  exact ⟨fun ⟨x, hx, e⟩ => of_decide_eq_true e ▸ hx, fun h => ⟨k, h, decide_eq_true rfl⟩⟩
theorem zip_if {es : List α} {k : Key} {v : PV} : List.zipWith (fun k' x => if k' = k then v else x) (es.map K) (es.map f) = es.map fun e => if K e = k then v else f e := by
  induction es with
  | nil => rfl
  | cons e es ih => rw [List.map_cons, List.map_cons, List.map_cons, List.zipWith_cons_cons, ih]
theorem map_if {es : List α} {k : Key} {v : PV} (h : k ∉ es.map K) : (es.map fun e => if K e = k then v else f e) = es.map f := List.map_congr_left fun e he => if_neg fun q => h (by rw [← q]; exact List.mem_map_of_mem he)
theorem nd_mid {ds r : List α} {e : α} (hn : ((ds ++ e :: r).map K).Nodup) : K e ∉ ds.map K ∧ K e ∉ r.map K ∧ ((ds ++ r).map K).Nodup := by
  rw [List.map_append, List.map_cons] at hn
  have h1 := List.nodup_append.mp hn
  have h2 := List.nodup_cons.mp h1.2.1
  refine ⟨fun q => h1.2.2 _ q _ List.mem_cons_self rfl, h2.1, ?_⟩
  rw [List.map_append]
  exact List.nodup_append.mpr ⟨h1.1, h2.2, fun a ha b hb => h1.2.2 a ha b (List.mem_cons_of_mem _ hb)⟩
theorem pk_mid {ds r : List α} {e : α} : pk ((ds ++ e :: r).map K) (K e) = (ds ++ e :: r).map K := if_pos (hasK_iff.mpr (List.mem_map_of_mem (by simp)))
theorem pvs_mid {ds r : List α} {e : α} {v : PV} (hn : ((ds ++ e :: r).map K).Nodup) : pvs ((ds ++ e :: r).map K) ((ds ++ e :: r).map f) (K e) v = ds.map f ++ v :: r.map f := by
  obtain ⟨h1, h2, -⟩ := nd_mid hn
  unfold pvs
  rw [if_pos (hasK_iff.mpr (List.mem_map_of_mem (by simp))), zip_if, List.map_append, List.map_cons, if_pos rfl, map_if h1, map_if h2]
theorem pk_new {es : List α} {k : Key} (h : k ∉ es.map K) : pk (es.map K) k = es.map K ++ [k] := if_neg fun e => h (hasK_iff.mp e)
theorem pvs_new {es : List α} {k : Key} {v : PV} (h : k ∉ es.map K) : pvs (es.map K) (es.map f) k v = es.map f ++ [v] := if_neg fun e => h (hasK_iff.mp e)
theorem eK_no {es : List α} {k : Key} (h : k ∉ es.map K) : eK (es.map K) k = es.map K := List.filter_eq_self.mpr fun a ha => decide_eq_true fun e => h (e ▸ ha)
theorem eK_mid {ds r : List α} {e : α} (hn : ((ds ++ e :: r).map K).Nodup) : eK ((ds ++ e :: r).map K) (K e) = (ds ++ r).map K := by
  obtain ⟨h1, h2, -⟩ := nd_mid hn
  have a := eK_no h1
  have b := eK_no h2
  unfold eK at a b ⊢
  rw [List.map_append, List.map_cons, List.filter_append, List.filter_cons_of_neg (by simp), a, b, List.map_append]
theorem eV_mid {ds r : List α} {e : α} (hn : ((ds ++ e :: r).map K).Nodup) : eV ((ds ++ e :: r).map K) ((ds ++ e :: r).map f) (K e) = (ds ++ r).map f := by
  obtain ⟨h1, h2, -⟩ := nd_mid hn
  clear hn
  have no : ∀ {l : List α}, K e ∉ l.map K → eV (l.map K) (l.map f) (K e) = l.map f := by
    intro l
    induction l with
    | nil => intro _; rfl
    | cons d l ih =>
      intro h
      rw [List.map_cons, List.mem_cons, not_or] at h
      show (if K d ≠ K e then _ else _) = _
      rw [if_pos (Ne.symm h.1), ih h.2]; rfl
  induction ds with
  | nil =>
    show (if K e ≠ K e then _ else _) = _
    rw [if_neg (by simp), no h2]; rfl
  | cons d ds ih =>
    rw [List.map_cons, List.mem_cons, not_or] at h1
    show (if K d ≠ K e then _ else _) = _
    rw [if_pos (Ne.symm h1.1)]
    exact congrArg (f d :: ·) (ih h1.2)
theorem mid_of {es : List α} {k : Key} (h : k ∈ es.map K) : ∃ ds e r, es = ds ++ e :: r ∧ K e = k := by
  obtain ⟨e, he, rfl⟩ := List.mem_map.mp h
  obtain ⟨ds, r, rfl⟩ := List.append_of_mem he
  exact ⟨ds, e, r, rfl, rfl⟩
end
theorem eqv_sd (x y : Str) : PyData.eqv (.str x) (.str y) = decide (x = y) := by
  show (x == y) = _
  rw [Bool.eq_iff_iff, beq_iff_eq, decide_eq_true_iff]
def Gd (h : PH) : Prop := ndH h ∧ ∀ b ks vs, h b ≠ some (.lck ks vs)
theorem Gd.up {h : PH} {a : Addr} {o : PO} (g : Gd h) (n : ndO o = true) (l : ∀ ks vs, o ≠ .lck ks vs) : Gd (up h a o) := by
  refine ⟨fun b u e => ?_, fun b ks vs e => ?_⟩
  · by_cases hb : b = a
    · rw [hb, up_same] at e; cases e; exact n
    · rw [up_ne hb] at e; exact g.1 b u e
  · by_cases hb : b = a
    · rw [hb, up_same] at e; exact l _ _ (Option.some.inj e)
    · rw [up_ne hb] at e; exact g.2 b ks vs e
theorem Gd.lck {h : PH} {a : Addr} {ks : List Key} {vs : List PV} (g : Gd h) : ndH (N3.up h a (.lck ks vs)) ∧ lk1 a (N3.up h a (.lck ks vs)) := by
  refine ⟨fun b u e => ?_, fun b ks vs e => ?_⟩
  · by_cases hb : b = a
    · rw [hb, up_same] at e; cases e; rfl
    · rw [up_ne hb] at e; exact g.1 b u e
  · by_cases hb : b = a
    · exact hb
    · rw [up_ne hb] at e; exact (g.2 b _ _ e).elim
theorem up_back {h : PH} {a : Addr} {o u : PO} (e : h a = some o) : up (up h a u) a o = h := by
  rw [up_up]
  funext b
  unfold N3.up
  split
  · rename_i q; rw [q]; exact e.symm
  · rfl
theorem nds_map {α : Type} {f : α → PV} : ∀ {es : List α}, (∀ e ∈ es, nd (f e) = true) → nds (es.map f) = true
  | [], _ => rfl
  | e :: es, h => by
    show (nd (f e) && nds (es.map f)) = true
    rw [h e List.mem_cons_self, nds_map fun x hx => h x (List.mem_cons_of_mem _ hx)]; rfl
/-! ### a sayer -/
structure Sa where
  k : Str
  t : Int
  x : Str
  ns : List Str
  n : Int
  a : Addr
  d : Addr
def sk (e : Sa) : Key := .inr e.k
def sr (e : Sa) : PV := .ref e.a
abbrev sfn : List Str := ["others_told", "late_beats", "words_said"]
abbrev dfn : List Str := ["turn_here", "word_here", "names_heard", "wait_here"]
structure Se where
  sa : Addr
  w : Addr
  others : List Str
  late : Int
def so (S : Addr) (e : Sa) : PO := .ins S dfn [.int e.t, .str e.x, .ref e.d, .int e.n]
def sd (e : Sa) : PO := .dct (e.ns.map Sum.inr) (e.ns.map fun _ => .bl true)
structure SO (C S : Addr) (I : Se) (es : List Sa) (h : PH) : Prop where
  o : h I.sa = some (.ins C sfn [.tup (I.others.map PV.str), .int I.late, .ref I.w])
  w : h I.w = some (.dct (es.map sk) (es.map sr))
  e1 : ∀ e ∈ es, h e.a = some (so S e)
  e2 : ∀ e ∈ es, h e.d = some (sd e)
  n0 : I.sa ≠ I.w
  n1 : I.sa ∉ es.map Sa.a
  n2 : I.sa ∉ es.map Sa.d
  n3 : I.w ∉ es.map Sa.a
  n4 : I.w ∉ es.map Sa.d
  na : (es.map Sa.a).Nodup
  nb : (es.map Sa.d).Nodup
  nx : ∀ x ∈ es.map Sa.a, x ∉ es.map Sa.d
  nk : (es.map sk).Nodup
  nn : ∀ e ∈ es, e.ns.Nodup
  nl : ∀ e ∈ es, e.ns.length ≤ 60
  ln : es.length ≤ 1000
theorem sG_others {a b c : PV} : fG "others_told" sfn [a, b, c] = some a := if_pos rfl
theorem sG_late {a b c : PV} : fG "late_beats" sfn [a, b, c] = some b := (if_neg (by decide +kernel)).trans (if_pos rfl)
theorem sG_words {a b c : PV} : fG "words_said" sfn [a, b, c] = some c := (if_neg (by decide +kernel)).trans ((if_neg (by decide +kernel)).trans (if_pos rfl))
theorem dG_turn {a b c d : PV} : fG "turn_here" dfn [a, b, c, d] = some a := if_pos rfl
theorem dG_word {a b c d : PV} : fG "word_here" dfn [a, b, c, d] = some b := (if_neg (by decide +kernel)).trans (if_pos rfl)
theorem dG_names {a b c d : PV} : fG "names_heard" dfn [a, b, c, d] = some c := (if_neg (by decide +kernel)).trans ((if_neg (by decide +kernel)).trans (if_pos rfl))
theorem dG_wait {a b c d : PV} : fG "wait_here" dfn [a, b, c, d] = some d := (if_neg (by decide +kernel)).trans ((if_neg (by decide +kernel)).trans ((if_neg (by decide +kernel)).trans (if_pos rfl)))
theorem dN_wait : fN "wait_here" dfn = dfn := by decide +kernel
theorem dV_wait {a b c d v : PV} : fV "wait_here" v dfn [a, b, c, d] = [a, b, c, v] := by
  unfold fV; rw [if_neg (by decide +kernel)]; unfold fV; rw [if_neg (by decide +kernel)]; unfold fV; rw [if_neg (by decide +kernel)]; unfold fV; rw [if_pos rfl]
/-- Said(turn, word, names): names differ -/
abbrev d1 : List Str := ["turn_here"]
abbrev d2 : List Str := ["turn_here", "word_here"]
abbrev d3 : List Str := ["turn_here", "word_here", "names_heard"]
theorem dN_1 : fN "turn_here" [] = d1 := rfl
theorem dN_2 : fN "word_here" d1 = d2 := by decide +kernel
theorem dN_3 : fN "names_heard" d2 = d3 := by decide +kernel
theorem dN_4 : fN "wait_here" d3 = dfn := by decide +kernel
theorem dV_2 {a v : PV} : fV "word_here" v d1 [a] = [a, v] := by
  unfold fV; rw [if_neg (by decide +kernel)]; rfl
theorem dV_3 {a b v : PV} : fV "names_heard" v d2 [a, b] = [a, b, v] := by
  unfold fV; rw [if_neg (by decide +kernel)]; unfold fV; rw [if_neg (by decide +kernel)]; rfl
theorem dV_4 {a b c v : PV} : fV "wait_here" v d3 [a, b, c] = [a, b, c, v] := by
  unfold fV; rw [if_neg (by decide +kernel)]; unfold fV; rw [if_neg (by decide +kernel)]; unfold fV; rw [if_neg (by decide +kernel)]; rfl
def spSaid (S : Addr) : SpP := fun ps h Q => ∃ (a : Addr) (t : Int) (x : Str) (ns : List Str), ps = [.ref a, .int t, .str x, .tup (ns.map PV.str)] ∧ h a = some (.ins S [] []) ∧ ns.Nodup ∧ ∀ d, h d = none → Q .non (N3.up (N3.up h a (so S ⟨"", t, x, ns, 0, a, d⟩)) d (sd ⟨"", t, x, ns, 0, a, d⟩))
theorem dc_names {gd : PH → Prop} {τ : PSt} {h : PH} {Q : List Key → List PV → PH → Prop} (hg : gd h) (t1 : ∀ v, gt (st τ 4 (some v)) 4 = some v) : ∀ (r ds : List Str), (ds ++ r).Nodup → Q ((ds ++ r).map Sum.inr) ((ds ++ r).map fun _ => PV.bl true) h →
    dcL gd τ (gN 4) mYes (mVar 4) (mC (.bl true)) (r.map PV.str) (ds.map Sum.inr) (ds.map fun _ => PV.bl true) h Q
  | [], ds, _, q => ⟨hg, by simpa using q⟩
  | e :: r, ds, nd, q => by
    refine ⟨hg, ?_⟩
    simp only [N3.mDput, N3.mB, N3.mU, N3.mVar, N3.mC, N3.sp0, N3.gt, N3.st, N3.rIx, N3.seqL, N3.dctL, N3.kOf, N3.rAdd, N3.mAsg, N3.gN, N3.mIfS, N3.mTest, N3.mPop, N3.mAppend, N3.mDrop, N3.mRet, N3.mRetN, N3.mNx, N3.mBrk, N3.mCnt, N3.mLst, N3.mLstM, N3.mCons, N3.mNil, N3.mTup, N3.mBlt, N3.mKw, N3.cat2, N3.cat2r, N3.gS, N3.gL, N3.mSlM, N3.rSlM, N3.mM1, N3.mSl, N3.mRev, N3.mStep, N3.mRevM, N3.mPart, N3.mNoPart, N3.rII, N3.rII0, N3.rIB, N3.rCmp, N3.rLt, N3.rLe, N3.rGt, N3.rGe, N3.mIsI, N3.tn, N3.isI, N3.mDisp, N3.mDct0, N3.mDct0M, N3.mPar3, N3.mAug, N3.rIAdd, N3.mExtend, N3.mInsert, N3.mPopAt, N3.rMin2, N3.rMax2, N3.rIntT, N3.rSplit, N3.rSplitM, N3.rAddM, N3.gPut, N3.mFmt, N3.mJs, N3.mJoin, N3.rDictP, N3.mRepM, N3.rListA, N3.rSortA, N3.mLc2, N3.lcI, N3.lcO, N3.rAllB, N3.rAnyB, N3.rStrI, N3.rIntO, N3.vwL, N3.rMul, N3.rMulT, N3.rNeg, N3.rSub, N3.rDiv, N3.rMod, N3.rPow, N3.mPar, N3.mAndT, N3.mOrT, N3.mNotT, N3.mAnd, N3.mOr, N3.mOrV, N3.mAndV, N3.trv, N3.mNot, N3.mIf, N3.mChn, N3.mKeep, N3.mRep, N3.mDispM, N3.mPs, N3.ends, N3.rLen, N3.rListOf, N3.rListOfM, N3.rTupOf, N3.rSumI, N3.listed, N3.rSl, N3.rRev, N3.rEq, N3.rNe, N3.rIsN, N3.rNotN, N3.isNon, N3.vw, N3.mYes, N3.gT, N3.gsCons, N3.gsNil, N3.mFor, N3.mSeqs, N3.mLc, N3.mLcM, N3.mRng1, N3.mRng2, N3.mEnum, N3.mEnumA, N3.mZip, N3.wp, N3.rJoin, N3.rSS, N3.rIdxS, N3.rRepr, N3.flat, N3.flats, N3.toD, N3.toDs, List.length_cons, List.length_nil, List.append_eq, List.cons_append, List.nil_append, List.map_cons, List.map_nil, if_true, if_false, Bool.false_eq_true, decide_eq_true_eq, Option.some.injEq, true_and, and_true, Bool.not_true, Bool.not_false, reduceCtorEq, Bool.and_self, Bool.and_true, Bool.true_and, ite_true, ite_false, t1]
    have h1 : (Sum.inr e : Key) ∉ ds.map Sum.inr := fun hx => by
      obtain ⟨y, hy, z⟩ := List.mem_map.mp hx
      injection z with z
      subst z
      exact (List.nodup_append.mp nd).2.2 _ hy _ List.mem_cons_self rfl
    have e1 : pk (ds.map Sum.inr) (Sum.inr e) = ds.map Sum.inr ++ [Sum.inr e] := pk_new (K := fun x : Str => (Sum.inr x : Key)) h1
    have e2 : pvs (ds.map Sum.inr) (ds.map fun _ => PV.bl true) (Sum.inr e) (.bl true) = (ds.map fun _ => PV.bl true) ++ [.bl true] := pvs_new (K := fun x : Str => (Sum.inr x : Key)) h1
    rw [e1, e2]
    have := dc_names (gd := gd) (τ := τ) (h := h) (Q := Q) hg t1 r (ds ++ [e]) (by rw [List.append_assoc]; exact nd) (by rw [List.append_assoc]; exact q)
    rw [List.map_append, List.map_append] at this
    exact this
theorem pure_Said_init {S : Addr} : ∀ qs h Q, qs.length = 4 → spSaid S qs h Q → m_Said_init S (ends Q) (sp0 5 qs) h := by
  rintro _ h Q - ⟨a, t, x, ns, rfl, ha, nn, k⟩
  unfold m_Said_init
  refine seq_step fun P hP => ?_
  simp only [mPutF, N3.mDput, N3.mB, N3.mU, N3.mVar, N3.mC, N3.sp0, N3.gt, N3.st, N3.rIx, N3.seqL, N3.dctL, N3.kOf, N3.rAdd, N3.mAsg, N3.gN, N3.mIfS, N3.mTest, N3.mPop, N3.mAppend, N3.mDrop, N3.mRet, N3.mRetN, N3.mNx, N3.mBrk, N3.mCnt, N3.mLst, N3.mLstM, N3.mCons, N3.mNil, N3.mTup, N3.mBlt, N3.mKw, N3.cat2, N3.cat2r, N3.gS, N3.gL, N3.mSlM, N3.rSlM, N3.mM1, N3.mSl, N3.mRev, N3.mStep, N3.mRevM, N3.mPart, N3.mNoPart, N3.rII, N3.rII0, N3.rIB, N3.rCmp, N3.rLt, N3.rLe, N3.rGt, N3.rGe, N3.mIsI, N3.tn, N3.isI, N3.mDisp, N3.mDct0, N3.mDct0M, N3.mPar3, N3.mAug, N3.rIAdd, N3.mExtend, N3.mInsert, N3.mPopAt, N3.rMin2, N3.rMax2, N3.rIntT, N3.rSplit, N3.rSplitM, N3.rAddM, N3.gPut, N3.mFmt, N3.mJs, N3.mJoin, N3.rDictP, N3.mRepM, N3.rListA, N3.rSortA, N3.mLc2, N3.lcI, N3.lcO, N3.rAllB, N3.rAnyB, N3.rStrI, N3.rIntO, N3.vwL, N3.rMul, N3.rMulT, N3.rNeg, N3.rSub, N3.rDiv, N3.rMod, N3.rPow, N3.mPar, N3.mAndT, N3.mOrT, N3.mNotT, N3.mAnd, N3.mOr, N3.mOrV, N3.mAndV, N3.trv, N3.mNot, N3.mIf, N3.mChn, N3.mKeep, N3.mRep, N3.mDispM, N3.mPs, N3.ends, N3.rLen, N3.rListOf, N3.rListOfM, N3.rTupOf, N3.rSumI, N3.listed, N3.rSl, N3.rRev, N3.rEq, N3.rNe, N3.rIsN, N3.rNotN, N3.isNon, N3.vw, N3.mYes, N3.gT, N3.gsCons, N3.gsNil, N3.mFor, N3.mSeqs, N3.mLc, N3.mLcM, N3.mRng1, N3.mRng2, N3.mEnum, N3.mEnumA, N3.mZip, N3.wp, N3.rJoin, N3.rSS, N3.rIdxS, N3.rRepr, N3.flat, N3.flats, N3.toD, N3.toDs, List.length_cons, List.length_nil, List.append_eq, List.cons_append, List.nil_append, List.map_cons, List.map_nil, if_true, if_false, Bool.false_eq_true, decide_eq_true_eq, Option.some.injEq, true_and, and_true, Bool.not_true, Bool.not_false, reduceCtorEq, Bool.and_self, Bool.and_true, Bool.true_and, ite_true, ite_false, ha, dN_1]
  refine ⟨by decide, ?_⟩
  rw [show fV "turn_here" (PV.int t) [] [] = [PV.int t] from rfl]
  subst hP
  refine seq_step fun P hP => ?_
  simp only [mPutF, N3.mDput, N3.mB, N3.mU, N3.mVar, N3.mC, N3.sp0, N3.gt, N3.st, N3.rIx, N3.seqL, N3.dctL, N3.kOf, N3.rAdd, N3.mAsg, N3.gN, N3.mIfS, N3.mTest, N3.mPop, N3.mAppend, N3.mDrop, N3.mRet, N3.mRetN, N3.mNx, N3.mBrk, N3.mCnt, N3.mLst, N3.mLstM, N3.mCons, N3.mNil, N3.mTup, N3.mBlt, N3.mKw, N3.cat2, N3.cat2r, N3.gS, N3.gL, N3.mSlM, N3.rSlM, N3.mM1, N3.mSl, N3.mRev, N3.mStep, N3.mRevM, N3.mPart, N3.mNoPart, N3.rII, N3.rII0, N3.rIB, N3.rCmp, N3.rLt, N3.rLe, N3.rGt, N3.rGe, N3.mIsI, N3.tn, N3.isI, N3.mDisp, N3.mDct0, N3.mDct0M, N3.mPar3, N3.mAug, N3.rIAdd, N3.mExtend, N3.mInsert, N3.mPopAt, N3.rMin2, N3.rMax2, N3.rIntT, N3.rSplit, N3.rSplitM, N3.rAddM, N3.gPut, N3.mFmt, N3.mJs, N3.mJoin, N3.rDictP, N3.mRepM, N3.rListA, N3.rSortA, N3.mLc2, N3.lcI, N3.lcO, N3.rAllB, N3.rAnyB, N3.rStrI, N3.rIntO, N3.vwL, N3.rMul, N3.rMulT, N3.rNeg, N3.rSub, N3.rDiv, N3.rMod, N3.rPow, N3.mPar, N3.mAndT, N3.mOrT, N3.mNotT, N3.mAnd, N3.mOr, N3.mOrV, N3.mAndV, N3.trv, N3.mNot, N3.mIf, N3.mChn, N3.mKeep, N3.mRep, N3.mDispM, N3.mPs, N3.ends, N3.rLen, N3.rListOf, N3.rListOfM, N3.rTupOf, N3.rSumI, N3.listed, N3.rSl, N3.rRev, N3.rEq, N3.rNe, N3.rIsN, N3.rNotN, N3.isNon, N3.vw, N3.mYes, N3.gT, N3.gsCons, N3.gsNil, N3.mFor, N3.mSeqs, N3.mLc, N3.mLcM, N3.mRng1, N3.mRng2, N3.mEnum, N3.mEnumA, N3.mZip, N3.wp, N3.rJoin, N3.rSS, N3.rIdxS, N3.rRepr, N3.flat, N3.flats, N3.toD, N3.toDs, List.length_cons, List.length_nil, List.append_eq, List.cons_append, List.nil_append, List.map_cons, List.map_nil, if_true, if_false, Bool.false_eq_true, decide_eq_true_eq, Option.some.injEq, true_and, and_true, Bool.not_true, Bool.not_false, reduceCtorEq, Bool.and_self, Bool.and_true, Bool.true_and, ite_true, ite_false, up_same]
  refine ⟨by decide, ?_⟩
  rw [dN_2, dV_2, up_up]
  subst hP
  refine seq_step fun P hP => ?_
  simp only [mPutF, mDcM, mSeqs, mVar, N3.sp0, gt, N3.wp, N3.st]
  refine dc_names trivial (fun _ => rfl) ns [] nn fun d hd => ?_
  have nd : d ≠ a := fun e => by rw [e, up_same] at hd; cases hd
  rw [up_ne nd.symm, up_same]
  simp only [true_and]
  rw [dN_3, dV_3, up_swap nd, up_up]
  refine ⟨by decide, ?_⟩
  rw [up_ne nd] at hd
  subst hP
  simp only [mPutF, N3.mDput, N3.mB, N3.mU, N3.mVar, N3.mC, N3.sp0, N3.gt, N3.st, N3.rIx, N3.seqL, N3.dctL, N3.kOf, N3.rAdd, N3.mAsg, N3.gN, N3.mIfS, N3.mTest, N3.mPop, N3.mAppend, N3.mDrop, N3.mRet, N3.mRetN, N3.mNx, N3.mBrk, N3.mCnt, N3.mLst, N3.mLstM, N3.mCons, N3.mNil, N3.mTup, N3.mBlt, N3.mKw, N3.cat2, N3.cat2r, N3.gS, N3.gL, N3.mSlM, N3.rSlM, N3.mM1, N3.mSl, N3.mRev, N3.mStep, N3.mRevM, N3.mPart, N3.mNoPart, N3.rII, N3.rII0, N3.rIB, N3.rCmp, N3.rLt, N3.rLe, N3.rGt, N3.rGe, N3.mIsI, N3.tn, N3.isI, N3.mDisp, N3.mDct0, N3.mDct0M, N3.mPar3, N3.mAug, N3.rIAdd, N3.mExtend, N3.mInsert, N3.mPopAt, N3.rMin2, N3.rMax2, N3.rIntT, N3.rSplit, N3.rSplitM, N3.rAddM, N3.gPut, N3.mFmt, N3.mJs, N3.mJoin, N3.rDictP, N3.mRepM, N3.rListA, N3.rSortA, N3.mLc2, N3.lcI, N3.lcO, N3.rAllB, N3.rAnyB, N3.rStrI, N3.rIntO, N3.vwL, N3.rMul, N3.rMulT, N3.rNeg, N3.rSub, N3.rDiv, N3.rMod, N3.rPow, N3.mPar, N3.mAndT, N3.mOrT, N3.mNotT, N3.mAnd, N3.mOr, N3.mOrV, N3.mAndV, N3.trv, N3.mNot, N3.mIf, N3.mChn, N3.mKeep, N3.mRep, N3.mDispM, N3.mPs, N3.ends, N3.rLen, N3.rListOf, N3.rListOfM, N3.rTupOf, N3.rSumI, N3.listed, N3.rSl, N3.rRev, N3.rEq, N3.rNe, N3.rIsN, N3.rNotN, N3.isNon, N3.vw, N3.mYes, N3.gT, N3.gsCons, N3.gsNil, N3.mFor, N3.mSeqs, N3.mLc, N3.mLcM, N3.mRng1, N3.mRng2, N3.mEnum, N3.mEnumA, N3.mZip, N3.wp, N3.rJoin, N3.rSS, N3.rIdxS, N3.rRepr, N3.flat, N3.flats, N3.toD, N3.toDs, List.length_cons, List.length_nil, List.append_eq, List.cons_append, List.nil_append, List.map_cons, List.map_nil, if_true, if_false, Bool.false_eq_true, decide_eq_true_eq, Option.some.injEq, true_and, and_true, Bool.not_true, Bool.not_false, reduceCtorEq, Bool.and_self, Bool.and_true, Bool.true_and, ite_true, ite_false]
  rw [up_ne nd.symm, up_same]
  simp only [true_and]
  rw [dN_4, dV_4, up_swap nd, up_up]
  exact ⟨by decide, k d hd⟩
def spSayer (C : Addr) : SpP := fun ps h Q => ∃ (a : Addr) (os : List Str) (late : Int), ps = [.ref a, .tup (os.map PV.str), .int late] ∧ h a = some (.ins C [] []) ∧ ∀ w, h w = none → Q .non (N3.up (N3.up h a (.ins C sfn [.tup (os.map PV.str), .int late, .ref w])) w (.dct [] []))
abbrev s1 : List Str := ["others_told"]
abbrev s2 : List Str := ["others_told", "late_beats"]
theorem sN_1 : fN "others_told" [] = s1 := rfl
theorem sN_2 : fN "late_beats" s1 = s2 := by decide +kernel
theorem sN_3 : fN "words_said" s2 = sfn := by decide +kernel
theorem sV_2 {a v : PV} : fV "late_beats" v s1 [a] = [a, v] := by
  unfold fV; rw [if_neg (by decide +kernel)]; rfl
theorem sV_3 {a b v : PV} : fV "words_said" v s2 [a, b] = [a, b, v] := by
  unfold fV; rw [if_neg (by decide +kernel)]; unfold fV; rw [if_neg (by decide +kernel)]; rfl
theorem pure_Sayer_init {C : Addr} : ∀ qs h Q, qs.length = 3 → spSayer C qs h Q → m_Sayer_init C (ends Q) (sp0 3 qs) h := by
  rintro _ h Q - ⟨a, os, late, rfl, ha, k⟩
  unfold m_Sayer_init
  refine seq_step fun P hP => ?_
  simp only [mPutF, N3.mDput, N3.mB, N3.mU, N3.mVar, N3.mC, N3.sp0, N3.gt, N3.st, N3.rIx, N3.seqL, N3.dctL, N3.kOf, N3.rAdd, N3.mAsg, N3.gN, N3.mIfS, N3.mTest, N3.mPop, N3.mAppend, N3.mDrop, N3.mRet, N3.mRetN, N3.mNx, N3.mBrk, N3.mCnt, N3.mLst, N3.mLstM, N3.mCons, N3.mNil, N3.mTup, N3.mBlt, N3.mKw, N3.cat2, N3.cat2r, N3.gS, N3.gL, N3.mSlM, N3.rSlM, N3.mM1, N3.mSl, N3.mRev, N3.mStep, N3.mRevM, N3.mPart, N3.mNoPart, N3.rII, N3.rII0, N3.rIB, N3.rCmp, N3.rLt, N3.rLe, N3.rGt, N3.rGe, N3.mIsI, N3.tn, N3.isI, N3.mDisp, N3.mDct0, N3.mDct0M, N3.mPar3, N3.mAug, N3.rIAdd, N3.mExtend, N3.mInsert, N3.mPopAt, N3.rMin2, N3.rMax2, N3.rIntT, N3.rSplit, N3.rSplitM, N3.rAddM, N3.gPut, N3.mFmt, N3.mJs, N3.mJoin, N3.rDictP, N3.mRepM, N3.rListA, N3.rSortA, N3.mLc2, N3.lcI, N3.lcO, N3.rAllB, N3.rAnyB, N3.rStrI, N3.rIntO, N3.vwL, N3.rMul, N3.rMulT, N3.rNeg, N3.rSub, N3.rDiv, N3.rMod, N3.rPow, N3.mPar, N3.mAndT, N3.mOrT, N3.mNotT, N3.mAnd, N3.mOr, N3.mOrV, N3.mAndV, N3.trv, N3.mNot, N3.mIf, N3.mChn, N3.mKeep, N3.mRep, N3.mDispM, N3.mPs, N3.ends, N3.rLen, N3.rListOf, N3.rListOfM, N3.rTupOf, N3.rSumI, N3.listed, N3.rSl, N3.rRev, N3.rEq, N3.rNe, N3.rIsN, N3.rNotN, N3.isNon, N3.vw, N3.mYes, N3.gT, N3.gsCons, N3.gsNil, N3.mFor, N3.mSeqs, N3.mLc, N3.mLcM, N3.mRng1, N3.mRng2, N3.mEnum, N3.mEnumA, N3.mZip, N3.wp, N3.rJoin, N3.rSS, N3.rIdxS, N3.rRepr, N3.flat, N3.flats, N3.toD, N3.toDs, List.length_cons, List.length_nil, List.append_eq, List.cons_append, List.nil_append, List.map_cons, List.map_nil, if_true, if_false, Bool.false_eq_true, decide_eq_true_eq, Option.some.injEq, true_and, and_true, Bool.not_true, Bool.not_false, reduceCtorEq, Bool.and_self, Bool.and_true, Bool.true_and, ite_true, ite_false, ha, sN_1]
  refine ⟨by decide, ?_⟩
  rw [show fV "others_told" (PV.tup (os.map PV.str)) [] [] = [PV.tup (os.map PV.str)] from rfl]
  subst hP
  refine seq_step fun P hP => ?_
  simp only [mPutF, N3.mDput, N3.mB, N3.mU, N3.mVar, N3.mC, N3.sp0, N3.gt, N3.st, N3.rIx, N3.seqL, N3.dctL, N3.kOf, N3.rAdd, N3.mAsg, N3.gN, N3.mIfS, N3.mTest, N3.mPop, N3.mAppend, N3.mDrop, N3.mRet, N3.mRetN, N3.mNx, N3.mBrk, N3.mCnt, N3.mLst, N3.mLstM, N3.mCons, N3.mNil, N3.mTup, N3.mBlt, N3.mKw, N3.cat2, N3.cat2r, N3.gS, N3.gL, N3.mSlM, N3.rSlM, N3.mM1, N3.mSl, N3.mRev, N3.mStep, N3.mRevM, N3.mPart, N3.mNoPart, N3.rII, N3.rII0, N3.rIB, N3.rCmp, N3.rLt, N3.rLe, N3.rGt, N3.rGe, N3.mIsI, N3.tn, N3.isI, N3.mDisp, N3.mDct0, N3.mDct0M, N3.mPar3, N3.mAug, N3.rIAdd, N3.mExtend, N3.mInsert, N3.mPopAt, N3.rMin2, N3.rMax2, N3.rIntT, N3.rSplit, N3.rSplitM, N3.rAddM, N3.gPut, N3.mFmt, N3.mJs, N3.mJoin, N3.rDictP, N3.mRepM, N3.rListA, N3.rSortA, N3.mLc2, N3.lcI, N3.lcO, N3.rAllB, N3.rAnyB, N3.rStrI, N3.rIntO, N3.vwL, N3.rMul, N3.rMulT, N3.rNeg, N3.rSub, N3.rDiv, N3.rMod, N3.rPow, N3.mPar, N3.mAndT, N3.mOrT, N3.mNotT, N3.mAnd, N3.mOr, N3.mOrV, N3.mAndV, N3.trv, N3.mNot, N3.mIf, N3.mChn, N3.mKeep, N3.mRep, N3.mDispM, N3.mPs, N3.ends, N3.rLen, N3.rListOf, N3.rListOfM, N3.rTupOf, N3.rSumI, N3.listed, N3.rSl, N3.rRev, N3.rEq, N3.rNe, N3.rIsN, N3.rNotN, N3.isNon, N3.vw, N3.mYes, N3.gT, N3.gsCons, N3.gsNil, N3.mFor, N3.mSeqs, N3.mLc, N3.mLcM, N3.mRng1, N3.mRng2, N3.mEnum, N3.mEnumA, N3.mZip, N3.wp, N3.rJoin, N3.rSS, N3.rIdxS, N3.rRepr, N3.flat, N3.flats, N3.toD, N3.toDs, List.length_cons, List.length_nil, List.append_eq, List.cons_append, List.nil_append, List.map_cons, List.map_nil, if_true, if_false, Bool.false_eq_true, decide_eq_true_eq, Option.some.injEq, true_and, and_true, Bool.not_true, Bool.not_false, reduceCtorEq, Bool.and_self, Bool.and_true, Bool.true_and, ite_true, ite_false, up_same]
  refine ⟨by decide, ?_⟩
  rw [sN_2, sV_2, up_up]
  subst hP
  simp only [mPutF, N3.mDput, N3.mB, N3.mU, N3.mVar, N3.mC, N3.sp0, N3.gt, N3.st, N3.rIx, N3.seqL, N3.dctL, N3.kOf, N3.rAdd, N3.mAsg, N3.gN, N3.mIfS, N3.mTest, N3.mPop, N3.mAppend, N3.mDrop, N3.mRet, N3.mRetN, N3.mNx, N3.mBrk, N3.mCnt, N3.mLst, N3.mLstM, N3.mCons, N3.mNil, N3.mTup, N3.mBlt, N3.mKw, N3.cat2, N3.cat2r, N3.gS, N3.gL, N3.mSlM, N3.rSlM, N3.mM1, N3.mSl, N3.mRev, N3.mStep, N3.mRevM, N3.mPart, N3.mNoPart, N3.rII, N3.rII0, N3.rIB, N3.rCmp, N3.rLt, N3.rLe, N3.rGt, N3.rGe, N3.mIsI, N3.tn, N3.isI, N3.mDisp, N3.mDct0, N3.mDct0M, N3.mPar3, N3.mAug, N3.rIAdd, N3.mExtend, N3.mInsert, N3.mPopAt, N3.rMin2, N3.rMax2, N3.rIntT, N3.rSplit, N3.rSplitM, N3.rAddM, N3.gPut, N3.mFmt, N3.mJs, N3.mJoin, N3.rDictP, N3.mRepM, N3.rListA, N3.rSortA, N3.mLc2, N3.lcI, N3.lcO, N3.rAllB, N3.rAnyB, N3.rStrI, N3.rIntO, N3.vwL, N3.rMul, N3.rMulT, N3.rNeg, N3.rSub, N3.rDiv, N3.rMod, N3.rPow, N3.mPar, N3.mAndT, N3.mOrT, N3.mNotT, N3.mAnd, N3.mOr, N3.mOrV, N3.mAndV, N3.trv, N3.mNot, N3.mIf, N3.mChn, N3.mKeep, N3.mRep, N3.mDispM, N3.mPs, N3.ends, N3.rLen, N3.rListOf, N3.rListOfM, N3.rTupOf, N3.rSumI, N3.listed, N3.rSl, N3.rRev, N3.rEq, N3.rNe, N3.rIsN, N3.rNotN, N3.isNon, N3.vw, N3.mYes, N3.gT, N3.gsCons, N3.gsNil, N3.mFor, N3.mSeqs, N3.mLc, N3.mLcM, N3.mRng1, N3.mRng2, N3.mEnum, N3.mEnumA, N3.mZip, N3.wp, N3.rJoin, N3.rSS, N3.rIdxS, N3.rRepr, N3.flat, N3.flats, N3.toD, N3.toDs, List.length_cons, List.length_nil, List.append_eq, List.cons_append, List.nil_append, List.map_cons, List.map_nil, if_true, if_false, Bool.false_eq_true, decide_eq_true_eq, Option.some.injEq, true_and, and_true, Bool.not_true, Bool.not_false, reduceCtorEq, Bool.and_self, Bool.and_true, Bool.true_and, ite_true, ite_false]
  intro w hw
  have nw : w ≠ a := fun e => by rw [e, up_same] at hw; cases hw
  rw [up_ne nw.symm, up_same]
  simp only [true_and]
  rw [sN_3, sV_3, up_swap nw, up_up]
  rw [up_ne nw] at hw
  exact ⟨by decide, k w hw⟩
def spSLen (C S : Addr) : SpP := fun ps h Q => ∃ (I : Se) (es : List Sa), ps = [.ref I.sa] ∧ SO C S I es h ∧ Q (.int (es.length : Nat)) h
theorem pure_Sayer_len {C S : Addr} : ∀ qs h Q, qs.length = 1 → spSLen C S qs h Q → m_Sayer_len C (ends Q) (sp0 1 qs) h := by
  rintro _ h Q - ⟨I, es, rfl, H, k⟩
  simp only [m_Sayer_len, mFld, rLenK, N3.mDput, N3.mB, N3.mU, N3.mVar, N3.mC, N3.sp0, N3.gt, N3.st, N3.rIx, N3.seqL, N3.dctL, N3.kOf, N3.rAdd, N3.mAsg, N3.gN, N3.mIfS, N3.mTest, N3.mPop, N3.mAppend, N3.mDrop, N3.mRet, N3.mRetN, N3.mNx, N3.mBrk, N3.mCnt, N3.mLst, N3.mLstM, N3.mCons, N3.mNil, N3.mTup, N3.mBlt, N3.mKw, N3.cat2, N3.cat2r, N3.gS, N3.gL, N3.mSlM, N3.rSlM, N3.mM1, N3.mSl, N3.mRev, N3.mStep, N3.mRevM, N3.mPart, N3.mNoPart, N3.rII, N3.rII0, N3.rIB, N3.rCmp, N3.rLt, N3.rLe, N3.rGt, N3.rGe, N3.mIsI, N3.tn, N3.isI, N3.mDisp, N3.mDct0, N3.mDct0M, N3.mPar3, N3.mAug, N3.rIAdd, N3.mExtend, N3.mInsert, N3.mPopAt, N3.rMin2, N3.rMax2, N3.rIntT, N3.rSplit, N3.rSplitM, N3.rAddM, N3.gPut, N3.mFmt, N3.mJs, N3.mJoin, N3.rDictP, N3.mRepM, N3.rListA, N3.rSortA, N3.mLc2, N3.lcI, N3.lcO, N3.rAllB, N3.rAnyB, N3.rStrI, N3.rIntO, N3.vwL, N3.rMul, N3.rMulT, N3.rNeg, N3.rSub, N3.rDiv, N3.rMod, N3.rPow, N3.mPar, N3.mAndT, N3.mOrT, N3.mNotT, N3.mAnd, N3.mOr, N3.mOrV, N3.mAndV, N3.trv, N3.mNot, N3.mIf, N3.mChn, N3.mKeep, N3.mRep, N3.mDispM, N3.mPs, N3.ends, N3.rLen, N3.rListOf, N3.rListOfM, N3.rTupOf, N3.rSumI, N3.listed, N3.rSl, N3.rRev, N3.rEq, N3.rNe, N3.rIsN, N3.rNotN, N3.isNon, N3.vw, N3.mYes, N3.gT, N3.gsCons, N3.gsNil, N3.mFor, N3.mSeqs, N3.mLc, N3.mLcM, N3.mRng1, N3.mRng2, N3.mEnum, N3.mEnumA, N3.mZip, N3.wp, N3.rJoin, N3.rSS, N3.rIdxS, N3.rRepr, N3.flat, N3.flats, N3.toD, N3.toDs, List.length_cons, List.length_nil, List.append_eq, List.cons_append, List.nil_append, List.map_cons, List.map_nil, if_true, if_false, Bool.false_eq_true, decide_eq_true_eq, Option.some.injEq, true_and, and_true, Bool.not_true, Bool.not_false, reduceCtorEq, Bool.and_self, Bool.and_true, Bool.true_and, ite_true, ite_false, H.o, sG_words, H.w, List.length_map]
  exact k
/-! ### a word is set -/
def SetE (es : List Sa) (e' : Sa) (es' : List Sa) : Prop := (sk e' ∉ es.map sk ∧ es' = es ++ [e']) ∨ ∃ ds e r, es = ds ++ e :: r ∧ e.k = e'.k ∧ es' = ds ++ e' :: r
theorem SO.set {C S : Addr} {I : Se} {es : List Sa} {h : PH} (H : SO C S I es h) {ds m r : List Sa} (es' : es = ds ++ m ++ r) {e' : Sa} (nk : sk e' ∉ (ds ++ r).map sk) (nn : e'.ns.Nodup) (nl : e'.ns.length ≤ 60) (ha : h e'.a = none) (hd : h e'.d = none) (hne : e'.d ≠ e'.a) (hl : (ds ++ e' :: r).length ≤ 1000) :
    SO C S I (ds ++ e' :: r) (N3.up (N3.up (N3.up h e'.a (so S e')) e'.d (sd e')) I.w (.dct ((ds ++ e' :: r).map sk) ((ds ++ e' :: r).map sr))) := by
  have sub : (ds ++ r).Sublist es := by
    rw [es', List.append_assoc]
    exact (List.Sublist.refl ds).append (List.sublist_append_right m r)
  have na : ∀ {x o}, h x = some o → x ≠ e'.a := fun {x o} e z => by rw [z, ha] at e; cases e
  have nd : ∀ {x o}, h x = some o → x ≠ e'.d := fun {x o} e z => by rw [z, hd] at e; cases e
  have pm : ∀ {β : Type} (f : Sa → β), ((ds ++ e' :: r).map f).Perm (f e' :: (ds ++ r).map f) := fun f => List.perm_middle.map f
  have out : ∀ {β : Type} {f : Sa → β} {x : β}, x ≠ f e' → x ∉ es.map f → x ∉ (ds ++ e' :: r).map f := fun {β f x} q1 q2 hx => by
    rcases List.mem_cons.mp ((pm f).mem_iff.mp hx) with z | z
    · exact q1 z
    · exact q2 ((sub.map f).mem z)
  have mm : ∀ {e}, e ∈ ds ++ e' :: r → e = e' ∨ e ∈ es := fun {e} he => by
    rcases List.mem_cons.mp (List.perm_middle.mem_iff.mp he) with z | z
    · exact .inl z
    · exact .inr (sub.mem z)
  have pu : ∀ {x o}, h x = some o → x ≠ I.w → N3.up (N3.up (N3.up h e'.a (so S e')) e'.d (sd e')) I.w (.dct ((ds ++ e' :: r).map sk) ((ds ++ e' :: r).map sr)) x = some o := fun {x o} e q => by
    rw [up_ne q, up_ne (nd e), up_ne (na e)]; exact e
  have wa := na H.w
  have wd := nd H.w
  have aN : e'.a ∉ es.map Sa.a := fun z => by obtain ⟨e, he, z⟩ := List.mem_map.mp z; exact na (H.e1 e he) z
  have aN2 : e'.a ∉ es.map Sa.d := fun z => by obtain ⟨e, he, z⟩ := List.mem_map.mp z; exact na (H.e2 e he) z
  have dN : e'.d ∉ es.map Sa.d := fun z => by obtain ⟨e, he, z⟩ := List.mem_map.mp z; exact nd (H.e2 e he) z
  have dN2 : e'.d ∉ es.map Sa.a := fun z => by obtain ⟨e, he, z⟩ := List.mem_map.mp z; exact nd (H.e1 e he) z
  refine ⟨pu H.o H.n0, up_same, fun e he => ?_, fun e he => ?_, H.n0, out (na H.o) H.n1, out (nd H.o) H.n2, out wa H.n3, out wd H.n4, ?_, ?_, fun x hx => ?_, ?_, fun e he => ?_, fun e he => ?_, hl⟩
  · rcases mm he with rfl | he
    · rw [up_ne wa.symm, up_ne hne.symm, up_same]
    · exact pu (H.e1 e he) fun z => H.n3 (z ▸ List.mem_map_of_mem he)
  · rcases mm he with rfl | he
    · rw [up_ne wd.symm, up_same]
    · exact pu (H.e2 e he) fun z => H.n4 (z ▸ List.mem_map_of_mem he)
  · exact (pm Sa.a).nodup_iff.mpr (List.nodup_cons.mpr ⟨fun z => aN ((sub.map Sa.a).mem z), (sub.map Sa.a).nodup H.na⟩)
  · exact (pm Sa.d).nodup_iff.mpr (List.nodup_cons.mpr ⟨fun z => dN ((sub.map Sa.d).mem z), (sub.map Sa.d).nodup H.nb⟩)
  · rcases List.mem_cons.mp ((pm Sa.a).mem_iff.mp hx) with rfl | z
    · exact out hne.symm aN2
    · exact out (fun q => dN2 (q ▸ (sub.map Sa.a).mem z)) (H.nx x ((sub.map Sa.a).mem z))
  · exact (pm sk).nodup_iff.mpr (List.nodup_cons.mpr ⟨nk, (sub.map sk).nodup H.nk⟩)
  · rcases mm he with rfl | he
    · exact nn
    · exact H.nn e he
  · rcases mm he with rfl | he
    · exact nl
    · exact H.nl e he
theorem SO.set' {C S : Addr} {I : Se} {es : List Sa} {h : PH} (H : SO C S I es h) {e' : Sa} {es' : List Sa} (se : SetE es e' es') (nn : e'.ns.Nodup) (nl : e'.ns.length ≤ 60) (ha : h e'.a = none) (hd : h e'.d = none) (hne : e'.d ≠ e'.a) (hl : es.length < 1000) :
    SO C S I es' (N3.up (N3.up (N3.up h e'.a (so S e')) e'.d (sd e')) I.w (.dct (pk (es.map sk) (sk e')) (pvs (es.map sk) (es.map sr) (sk e') (sr e')))) := by
  rcases se with ⟨hn, rfl⟩ | ⟨ds, e, r, rfl, ek, rfl⟩
  · rw [pk_new hn, pvs_new hn]
    have := H.set (ds := es) (m := []) (r := []) (by simp) (e' := e') (by simpa using hn) nn nl ha hd hne (by rw [List.length_append]; show es.length + 1 ≤ 1000; omega)
    rwa [List.map_append, List.map_append] at this
  · have e1 : sk e' = sk e := by unfold sk; rw [ek]
    have nd := H.nk
    obtain ⟨m1, m2, -⟩ := nd_mid nd
    have := H.set (ds := ds) (m := [e]) (r := r) (by rw [List.append_assoc]; rfl) (e' := e') (by rw [e1, List.map_append]; exact fun z => (List.mem_append.mp z).elim m1 m2) nn nl ha hd hne (by rw [List.length_append] at hl ⊢; rw [List.length_cons] at hl ⊢; omega)
    rw [e1, pk_mid, pvs_mid nd]
    have q1 : (ds ++ e' :: r).map sk = (ds ++ e :: r).map sk := by rw [List.map_append, List.map_append, List.map_cons, List.map_cons, e1]
    have q2 : (ds ++ e' :: r).map sr = ds.map sr ++ sr e' :: r.map sr := by rw [List.map_append, List.map_cons]
    rw [q1, q2] at this
    exact this
/-- behind a word that is set -/
def SetP (C S : Addr) (I : Se) (es : List Sa) (h : PH) (k : Str) (t : Int) (x : Str) (ns : List Str) (Q : PH → Prop) : Prop :=
  ∀ a d es' h', h a = none → h d = none → d ≠ a → SetE es ⟨k, t, x, ns, 0, a, d⟩ es' → SO C S I es' h' → Gd h' → (∀ y, h y ≠ none → y ≠ I.w → h' y = h y) → Q h'
theorem setE_ex (es : List Sa) (e' : Sa) : ∃ es', SetE es e' es' := by
  rcases Classical.em (sk e' ∈ es.map sk) with hm | hm
  · obtain ⟨ds, e, r, er, ek⟩ := mid_of hm
    refine ⟨ds ++ e' :: r, .inr ⟨ds, e, r, er, ?_, rfl⟩⟩
    unfold sk at ek; injection ek
  · exact ⟨_, .inl ⟨hm, rfl⟩⟩
theorem put_run {C S : Addr} {I : Se} {es : List Sa} {h : PH} {k : Str} {t : Int} {x : Str} {ns : List Str} {Q : PH → Prop} (H : SO C S I es h) (g : Gd h) (nn : ns.Nodup) (nl : ns.length ≤ 60) (hl : es.length < 1000) (q : SetP C S I es h k t x ns Q) (a d : Addr) (ha : h a = none) (hd : h d = none) (ne : d ≠ a) :
    Q (N3.up (N3.up (N3.up h a (so S ⟨k, t, x, ns, 0, a, d⟩)) d (sd ⟨k, t, x, ns, 0, a, d⟩)) I.w (.dct (pk (es.map sk) (.inr k)) (pvs (es.map sk) (es.map sr) (.inr k) (.ref a)))) := by
  obtain ⟨es', se⟩ := setE_ex es ⟨k, t, x, ns, 0, a, d⟩
  refine q a d es' _ ha hd ne se (H.set' se nn nl ha hd ne hl) (((g.up (o := so S ⟨k, t, x, ns, 0, a, d⟩) rfl (fun _ _ e => by cases e)).up (o := sd ⟨k, t, x, ns, 0, a, d⟩) (nds_map (f := fun _ => PV.bl true) fun _ _ => rfl) (fun _ _ e => by cases e)).up ?_ (fun _ _ e => by cases e)) fun y hy hw => ?_
  · show nds _ = true
    rcases Classical.em ((Sum.inr k : Key) ∈ es.map sk) with hm | hm
    · obtain ⟨ds, e, r, rfl, ek⟩ := mid_of hm
      rw [← ek, pvs_mid H.nk, show ds.map sr ++ PV.ref a :: r.map sr = (ds ++ (⟨k, t, x, ns, 0, a, d⟩ : Sa) :: r).map sr by rw [List.map_append, List.map_cons]; rfl]
      exact nds_map (f := sr) fun _ _ => rfl
    · rw [pvs_new hm, show es.map sr ++ [PV.ref a] = (es ++ [(⟨k, t, x, ns, 0, a, d⟩ : Sa)]).map sr by rw [List.map_append]; rfl]
      exact nds_map (f := sr) fun _ _ => rfl
  · rw [up_ne hw, up_ne (show y ≠ d from fun z => hy (by rw [z]; exact hd)), up_ne (show y ≠ a from fun z => hy (by rw [z]; exact ha))]
def spSay (C S : Addr) : SpP := fun ps h Q => ∃ (I : Se) (es : List Sa) (k x : Str), ps = [.ref I.sa, .str k, .str x] ∧ SO C S I es h ∧ Gd h ∧ es.length < 1000 ∧
  (((Sum.inr k : Key) ∉ es.map sk ∧ SetP C S I es h k 1 x [] (Q .non)) ∨ ∃ ds e r, es = ds ++ e :: r ∧ e.k = k ∧ SetP C S I es h k (e.t + 1) x [] (Q .non))
theorem pure_Sayer_say {C S : Addr} : ∀ qs h Q, qs.length = 3 → spSay C S qs h Q → m_Sayer_say C S (spSaid S) (ends Q) (sp0 4 qs) h := by
  rintro _ h Q - ⟨I, es, k, x, rfl, H, g, hl, q⟩
  unfold m_Sayer_say
  have fin : ∀ t : Int, SetP C S I es h k t x [] (Q .non) → mDput (mMake S (spSaid S) pat_Said_init_0 (mCons (mVar 3) (mCons (mVar 2) (mCons (mTup (mNil)) (mNil)))) (mNil)) (mFld C "words_said" (mVar 0)) (mVar 1) (ends Q) [some (.ref I.sa), some (.str k), some (.str x), some (.int t)] h := by
    intro t q
    simp only [mMake, mFld, N3.mDput, N3.mB, N3.mU, N3.mVar, N3.mC, N3.sp0, N3.gt, N3.st, N3.rIx, N3.seqL, N3.dctL, N3.kOf, N3.rAdd, N3.mAsg, N3.gN, N3.mIfS, N3.mTest, N3.mPop, N3.mAppend, N3.mDrop, N3.mRet, N3.mRetN, N3.mNx, N3.mBrk, N3.mCnt, N3.mLst, N3.mLstM, N3.mCons, N3.mNil, N3.mTup, N3.mBlt, N3.mKw, N3.cat2, N3.cat2r, N3.gS, N3.gL, N3.mSlM, N3.rSlM, N3.mM1, N3.mSl, N3.mRev, N3.mStep, N3.mRevM, N3.mPart, N3.mNoPart, N3.rII, N3.rII0, N3.rIB, N3.rCmp, N3.rLt, N3.rLe, N3.rGt, N3.rGe, N3.mIsI, N3.tn, N3.isI, N3.mDisp, N3.mDct0, N3.mDct0M, N3.mPar3, N3.mAug, N3.rIAdd, N3.mExtend, N3.mInsert, N3.mPopAt, N3.rMin2, N3.rMax2, N3.rIntT, N3.rSplit, N3.rSplitM, N3.rAddM, N3.gPut, N3.mFmt, N3.mJs, N3.mJoin, N3.rDictP, N3.mRepM, N3.rListA, N3.rSortA, N3.mLc2, N3.lcI, N3.lcO, N3.rAllB, N3.rAnyB, N3.rStrI, N3.rIntO, N3.vwL, N3.rMul, N3.rMulT, N3.rNeg, N3.rSub, N3.rDiv, N3.rMod, N3.rPow, N3.mPar, N3.mAndT, N3.mOrT, N3.mNotT, N3.mAnd, N3.mOr, N3.mOrV, N3.mAndV, N3.trv, N3.mNot, N3.mIf, N3.mChn, N3.mKeep, N3.mRep, N3.mDispM, N3.mPs, N3.ends, N3.rLen, N3.rListOf, N3.rListOfM, N3.rTupOf, N3.rSumI, N3.listed, N3.rSl, N3.rRev, N3.rEq, N3.rNe, N3.rIsN, N3.rNotN, N3.isNon, N3.vw, N3.mYes, N3.gT, N3.gsCons, N3.gsNil, N3.mFor, N3.mSeqs, N3.mLc, N3.mLcM, N3.mRng1, N3.mRng2, N3.mEnum, N3.mEnumA, N3.mZip, N3.wp, N3.rJoin, N3.rSS, N3.rIdxS, N3.rRepr, N3.flat, N3.flats, N3.toD, N3.toDs, List.length_cons, List.length_nil, List.append_eq, List.cons_append, List.nil_append, List.map_cons, List.map_nil, if_true, if_false, Bool.false_eq_true, decide_eq_true_eq, Option.some.injEq, true_and, and_true, Bool.not_true, Bool.not_false, reduceCtorEq, Bool.and_self, Bool.and_true, Bool.true_and, ite_true, ite_false]
    intro a ha
    refine ⟨a, t, x, [], rfl, up_same, .nil, fun d hd => ⟨rfl, ?_⟩⟩
    have ne : d ≠ a := fun z => by rw [z, up_same] at hd; cases hd
    rw [up_ne ne] at hd
    rw [up_up]
    have sa : I.sa ≠ a ∧ I.sa ≠ d := ⟨fun z => (by have := H.o; rw [z, ha] at this; cases this), fun z => (by have := H.o; rw [z, hd] at this; cases this)⟩
    have sw : I.w ≠ a ∧ I.w ≠ d := ⟨fun z => (by have := H.w; rw [z, ha] at this; cases this), fun z => (by have := H.w; rw [z, hd] at this; cases this)⟩
    rw [up_ne sa.2, up_ne sa.1, H.o]
    simp only [true_and, sG_words]
    rw [up_ne sw.2, up_ne sw.1, H.w]
    simp only []
    exact ⟨by rw [List.length_map]; show _ < 16777216; omega, put_run H g .nil (Nat.zero_le _) hl q a d ha hd ne⟩
  refine seq_step fun P hP => ?_
  simp only [mFld, rInD, N3.mDput, N3.mB, N3.mU, N3.mVar, N3.mC, N3.sp0, N3.gt, N3.st, N3.rIx, N3.seqL, N3.dctL, N3.kOf, N3.rAdd, N3.mAsg, N3.gN, N3.mIfS, N3.mTest, N3.mPop, N3.mAppend, N3.mDrop, N3.mRet, N3.mRetN, N3.mNx, N3.mBrk, N3.mCnt, N3.mLst, N3.mLstM, N3.mCons, N3.mNil, N3.mTup, N3.mBlt, N3.mKw, N3.cat2, N3.cat2r, N3.gS, N3.gL, N3.mSlM, N3.rSlM, N3.mM1, N3.mSl, N3.mRev, N3.mStep, N3.mRevM, N3.mPart, N3.mNoPart, N3.rII, N3.rII0, N3.rIB, N3.rCmp, N3.rLt, N3.rLe, N3.rGt, N3.rGe, N3.mIsI, N3.tn, N3.isI, N3.mDisp, N3.mDct0, N3.mDct0M, N3.mPar3, N3.mAug, N3.rIAdd, N3.mExtend, N3.mInsert, N3.mPopAt, N3.rMin2, N3.rMax2, N3.rIntT, N3.rSplit, N3.rSplitM, N3.rAddM, N3.gPut, N3.mFmt, N3.mJs, N3.mJoin, N3.rDictP, N3.mRepM, N3.rListA, N3.rSortA, N3.mLc2, N3.lcI, N3.lcO, N3.rAllB, N3.rAnyB, N3.rStrI, N3.rIntO, N3.vwL, N3.rMul, N3.rMulT, N3.rNeg, N3.rSub, N3.rDiv, N3.rMod, N3.rPow, N3.mPar, N3.mAndT, N3.mOrT, N3.mNotT, N3.mAnd, N3.mOr, N3.mOrV, N3.mAndV, N3.trv, N3.mNot, N3.mIf, N3.mChn, N3.mKeep, N3.mRep, N3.mDispM, N3.mPs, N3.ends, N3.rLen, N3.rListOf, N3.rListOfM, N3.rTupOf, N3.rSumI, N3.listed, N3.rSl, N3.rRev, N3.rEq, N3.rNe, N3.rIsN, N3.rNotN, N3.isNon, N3.vw, N3.mYes, N3.gT, N3.gsCons, N3.gsNil, N3.mFor, N3.mSeqs, N3.mLc, N3.mLcM, N3.mRng1, N3.mRng2, N3.mEnum, N3.mEnumA, N3.mZip, N3.wp, N3.rJoin, N3.rSS, N3.rIdxS, N3.rRepr, N3.flat, N3.flats, N3.toD, N3.toDs, List.length_cons, List.length_nil, List.append_eq, List.cons_append, List.nil_append, List.map_cons, List.map_nil, if_true, if_false, Bool.false_eq_true, decide_eq_true_eq, Option.some.injEq, true_and, and_true, Bool.not_true, Bool.not_false, reduceCtorEq, Bool.and_self, Bool.and_true, Bool.true_and, ite_true, ite_false, H.o, sG_words, H.w]
  rcases q with ⟨hn, q⟩ | ⟨ds, e, r, er, rfl, q⟩
  · rw [lk_no hn, if_neg (by decide)]
    subst hP
    exact fin 1 q
  · have el : lk (es.map sk) (es.map sr) (Sum.inr e.k) = some (sr e) := by
      have nd := H.nk
      rw [er] at nd ⊢
      exact lk_mid (K := sk) (nd_mid nd).1
    rw [el, if_pos (show ((some (sr e)).isSome != false) = true from rfl)]
    simp only [sr, H.e1 e (by rw [er]; simp), so, dG_turn, true_and]
    subst hP
    exact fin (e.t + 1) q
theorem nd_anyS {α β : Type} {K : α → β} {ds r : List α} {e : α} (hn : ((ds ++ e :: r).map K).Nodup) : K e ∉ ds.map K ∧ K e ∉ r.map K := by
  rw [List.map_append, List.map_cons] at hn
  have h1 := List.nodup_append.mp hn
  have h2 := List.nodup_cons.mp h1.2.1
  exact ⟨fun q => h1.2.2 _ q _ List.mem_cons_self rfl, h2.1⟩
theorem any_strs (os : List Str) (o : Str) : (toDs (os.map PV.str)).any (fun d => PyData.eqv d (.str o)) = decide (o ∈ os) := by
  induction os with
  | nil => rfl
  | cons a os ih =>
    show (PyData.eqv (.str a) (.str o) || (toDs (os.map PV.str)).any (fun d => PyData.eqv d (.str o))) = _
    rw [ih, eqv_sd]
    by_cases e : a = o
    · subst e; simp
    · have e2 : ¬ o = a := fun z => e z.symm
      simp [e, e2]
theorem depth_strs (os : List Str) : PyData.depthAll (toDs (os.map PV.str)) ≤ 64 := by
  have : PyData.depthAll (toDs (os.map PV.str)) = 0 := by
    induction os with
    | nil => simp [toDs, PyData.depthAll]
    | cons a os ih => simp [toDs, toD, PyData.depthAll, PyData.depth, ih]
  omega
theorem in_strs {os : List Str} {o : Str} {h : PH} {Q : PK} (q : Q (.bl (decide (o ∈ os))) h) : rInP false (.str o) (.tup (os.map PV.str)) h Q := by
  show flat _ = true ∧ _
  refine ⟨rfl, flats_of fun p hp => ?_, depth_strs os, ?_⟩
  · obtain ⟨r, -, rfl⟩ := List.mem_map.mp hp
    rfl
  · rw [show toD (vw h (.str o)) = .str o from rfl, any_strs, Bool.bne_false]
    exact q
def addN (o : Str) (ns : List Str) : List Str := if o ∈ ns then ns else ns ++ [o]
def hit (os : List Str) (o k : Str) (t : Int) (x : Str) (e : Sa) : Sa := if e.k = k ∧ o ∈ os ∧ e.t = t ∧ e.x = x then { e with ns := addN o e.ns } else e
theorem sd_add (e : Sa) (o : Str) : sd { e with ns := addN o e.ns } = .dct (pk (e.ns.map Sum.inr) (.inr o)) (pvs (e.ns.map Sum.inr) (e.ns.map fun _ => .bl true) (.inr o) (.bl true)) := by
  unfold sd addN
  dsimp only
  split
  · rename_i hm
    obtain ⟨ds, r, er⟩ := List.append_of_mem hm
    have e1 : pk (e.ns.map Sum.inr) (.inr o) = e.ns.map Sum.inr := if_pos (hasK_iff.mpr (List.mem_map_of_mem hm))
    have e2 : pvs (e.ns.map Sum.inr) (e.ns.map fun _ => PV.bl true) (.inr o) (.bl true) = e.ns.map fun _ => PV.bl true := by
      refine (if_pos (hasK_iff.mpr (List.mem_map_of_mem hm))).trans ?_
      rw [zip_if (K := fun x : Str => (Sum.inr x : Key))]
      exact List.map_congr_left fun x _ => by split <;> rfl
    rw [e1, e2]
  · rename_i hm
    have h1 : (Sum.inr o : Key) ∉ e.ns.map Sum.inr := fun hx => by
      obtain ⟨y, hy, z⟩ := List.mem_map.mp hx
      injection z with z
      exact hm (z ▸ hy)
    rw [pk_new (K := fun x : Str => (Sum.inr x : Key)) h1, pvs_new (K := fun x : Str => (Sum.inr x : Key)) h1, List.map_append, List.map_append]; rfl
def spAns (C S : Addr) : SpP := fun ps h Q => ∃ (I : Se) (es : List Sa) (o k : Str) (t : Int) (x : Str), ps = [.ref I.sa, .str o, .str k, .int t, .str x] ∧ SO C S I es h ∧ Gd h ∧ (∀ e ∈ es, e.ns.length < 60) ∧
  ∀ h', SO C S I (es.map (hit I.others o k t x)) h' → Gd h' → (∀ y, y ∉ es.map Sa.d → h' y = h y) → Q .non h'
theorem pure_Sayer_answered {C S : Addr} : ∀ qs h Q, qs.length = 5 → spAns C S qs h Q → m_Sayer_answered C S (ends Q) (sp0 6 qs) h := by
  rintro _ h Q - ⟨I, es, o, k, t, x, rfl, H, g, hl, q⟩
  unfold m_Sayer_answered
  have same : (∀ e ∈ es, ¬ (e.k = k ∧ o ∈ I.others ∧ e.t = t ∧ e.x = x)) → Q .non h := by
    intro hn
    have : es.map (hit I.others o k t x) = es := by
      have : es.map (hit I.others o k t x) = es.map id := List.map_congr_left fun e he => if_neg (hn e he)
      rw [this, List.map_id]
    exact q h (by rw [this]; exact H) g fun _ _ => rfl
  simp only [mIfS, mAndT, mTest, mFld, rInD, mB, mVar, gt, N3.sp0, H.o, sG_words, dctL, H.w, kOf, true_and]
  rcases Classical.em ((Sum.inr k : Key) ∈ es.map sk) with hm | hm
  · obtain ⟨ds, e, r, er, ek⟩ := mid_of hm
    have ekk : e.k = k := by unfold sk at ek; injection ek
    have he : e ∈ es := by rw [er]; simp
    have nd := H.nk
    have el : lk (es.map sk) (es.map sr) (Sum.inr k) = some (sr e) := by
      rw [← ek]
      rw [er] at nd ⊢
      exact lk_mid (K := sk) (nd_mid nd).1
    have only : ∀ e2 ∈ es, e2.k = k → e2 = e := by
      intro e2 h2 k2
      rw [er] at nd
      obtain ⟨m1, m2, -⟩ := nd_mid nd
      have s2 : sk e2 = sk e := by unfold sk; rw [k2, ekk]
      rw [er] at h2
      rcases List.mem_append.mp h2 with z | z
      · exact (m1 (s2 ▸ List.mem_map_of_mem z)).elim
      · rcases List.mem_cons.mp z with z | z
        · exact z
        · exact (m2 (s2 ▸ List.mem_map_of_mem z)).elim
    rw [el, if_pos (show ((some (sr e)).isSome != false) = true from rfl)]
    refine in_strs ?_
    by_cases ho : o ∈ I.others
    · rw [decide_eq_true ho]
      simp only [if_true]
      refine seq_step fun P hP => ?_
      simp only [mFld, N3.mDput, N3.mB, N3.mU, N3.mVar, N3.mC, N3.sp0, N3.gt, N3.st, N3.rIx, N3.seqL, N3.dctL, N3.kOf, N3.rAdd, N3.mAsg, N3.gN, N3.mIfS, N3.mTest, N3.mPop, N3.mAppend, N3.mDrop, N3.mRet, N3.mRetN, N3.mNx, N3.mBrk, N3.mCnt, N3.mLst, N3.mLstM, N3.mCons, N3.mNil, N3.mTup, N3.mBlt, N3.mKw, N3.cat2, N3.cat2r, N3.gS, N3.gL, N3.mSlM, N3.rSlM, N3.mM1, N3.mSl, N3.mRev, N3.mStep, N3.mRevM, N3.mPart, N3.mNoPart, N3.rII, N3.rII0, N3.rIB, N3.rCmp, N3.rLt, N3.rLe, N3.rGt, N3.rGe, N3.mIsI, N3.tn, N3.isI, N3.mDisp, N3.mDct0, N3.mDct0M, N3.mPar3, N3.mAug, N3.rIAdd, N3.mExtend, N3.mInsert, N3.mPopAt, N3.rMin2, N3.rMax2, N3.rIntT, N3.rSplit, N3.rSplitM, N3.rAddM, N3.gPut, N3.mFmt, N3.mJs, N3.mJoin, N3.rDictP, N3.mRepM, N3.rListA, N3.rSortA, N3.mLc2, N3.lcI, N3.lcO, N3.rAllB, N3.rAnyB, N3.rStrI, N3.rIntO, N3.vwL, N3.rMul, N3.rMulT, N3.rNeg, N3.rSub, N3.rDiv, N3.rMod, N3.rPow, N3.mPar, N3.mAndT, N3.mOrT, N3.mNotT, N3.mAnd, N3.mOr, N3.mOrV, N3.mAndV, N3.trv, N3.mNot, N3.mIf, N3.mChn, N3.mKeep, N3.mRep, N3.mDispM, N3.mPs, N3.ends, N3.rLen, N3.rListOf, N3.rListOfM, N3.rTupOf, N3.rSumI, N3.listed, N3.rSl, N3.rRev, N3.rEq, N3.rNe, N3.rIsN, N3.rNotN, N3.isNon, N3.vw, N3.mYes, N3.gT, N3.gsCons, N3.gsNil, N3.mFor, N3.mSeqs, N3.mLc, N3.mLcM, N3.mRng1, N3.mRng2, N3.mEnum, N3.mEnumA, N3.mZip, N3.wp, N3.rJoin, N3.rSS, N3.rIdxS, N3.rRepr, N3.flat, N3.flats, N3.toD, N3.toDs, List.length_cons, List.length_nil, List.append_eq, List.cons_append, List.nil_append, List.map_cons, List.map_nil, if_true, if_false, Bool.false_eq_true, decide_eq_true_eq, Option.some.injEq, true_and, and_true, Bool.not_true, Bool.not_false, reduceCtorEq, Bool.and_self, Bool.and_true, Bool.true_and, ite_true, ite_false, H.o, sG_words, H.w, el, sr]
      subst hP
      simp only [mFld, N3.mDput, N3.mB, N3.mU, N3.mVar, N3.mC, N3.sp0, N3.gt, N3.st, N3.rIx, N3.seqL, N3.dctL, N3.kOf, N3.rAdd, N3.mAsg, N3.gN, N3.mIfS, N3.mTest, N3.mPop, N3.mAppend, N3.mDrop, N3.mRet, N3.mRetN, N3.mNx, N3.mBrk, N3.mCnt, N3.mLst, N3.mLstM, N3.mCons, N3.mNil, N3.mTup, N3.mBlt, N3.mKw, N3.cat2, N3.cat2r, N3.gS, N3.gL, N3.mSlM, N3.rSlM, N3.mM1, N3.mSl, N3.mRev, N3.mStep, N3.mRevM, N3.mPart, N3.mNoPart, N3.rII, N3.rII0, N3.rIB, N3.rCmp, N3.rLt, N3.rLe, N3.rGt, N3.rGe, N3.mIsI, N3.tn, N3.isI, N3.mDisp, N3.mDct0, N3.mDct0M, N3.mPar3, N3.mAug, N3.rIAdd, N3.mExtend, N3.mInsert, N3.mPopAt, N3.rMin2, N3.rMax2, N3.rIntT, N3.rSplit, N3.rSplitM, N3.rAddM, N3.gPut, N3.mFmt, N3.mJs, N3.mJoin, N3.rDictP, N3.mRepM, N3.rListA, N3.rSortA, N3.mLc2, N3.lcI, N3.lcO, N3.rAllB, N3.rAnyB, N3.rStrI, N3.rIntO, N3.vwL, N3.rMul, N3.rMulT, N3.rNeg, N3.rSub, N3.rDiv, N3.rMod, N3.rPow, N3.mPar, N3.mAndT, N3.mOrT, N3.mNotT, N3.mAnd, N3.mOr, N3.mOrV, N3.mAndV, N3.trv, N3.mNot, N3.mIf, N3.mChn, N3.mKeep, N3.mRep, N3.mDispM, N3.mPs, N3.ends, N3.rLen, N3.rListOf, N3.rListOfM, N3.rTupOf, N3.rSumI, N3.listed, N3.rSl, N3.rRev, N3.rEq, N3.rNe, N3.rIsN, N3.rNotN, N3.isNon, N3.vw, N3.mYes, N3.gT, N3.gsCons, N3.gsNil, N3.mFor, N3.mSeqs, N3.mLc, N3.mLcM, N3.mRng1, N3.mRng2, N3.mEnum, N3.mEnumA, N3.mZip, N3.wp, N3.rJoin, N3.rSS, N3.rIdxS, N3.rRepr, N3.flat, N3.flats, N3.toD, N3.toDs, List.length_cons, List.length_nil, List.append_eq, List.cons_append, List.nil_append, List.map_cons, List.map_nil, if_true, if_false, Bool.false_eq_true, decide_eq_true_eq, Option.some.injEq, true_and, and_true, Bool.not_true, Bool.not_false, reduceCtorEq, Bool.and_self, Bool.and_true, Bool.true_and, ite_true, ite_false, H.e1 e he, so, dG_turn, dG_word, eqv_int, eqv_sd, dG_names, H.e2 e he, sd]
      have dp : (PyData.int e.t).depth ≤ 64 := by simp [PyData.depth]
      have dx : (PyData.str e.x).depth ≤ 64 := by simp [PyData.depth]
      refine ⟨dp, ite2 (fun c => ⟨dx, ite2 (fun c2 => ?_) (fun c2 => ?_)⟩) (fun c => ?_)⟩
      · have c : e.t = t := by simpa using c
        have c2 : e.x = x := by simpa using c2
        refine ⟨by rw [List.length_map]; have := hl e he; show _ < 16777216; omega, ?_⟩
        have sde := sd_add e o
        rw [← sde]
        have hh : ∀ e2 ∈ es, (e2 = e ∧ hit I.others o k t x e2 = { e with ns := addN o e.ns }) ∨ (e2.d ≠ e.d ∧ hit I.others o k t x e2 = e2) := by
          intro e2 h2
          by_cases kk2 : e2.k = k
          · have := only e2 h2 kk2
            subst this
            exact .inl ⟨rfl, if_pos ⟨ekk, ho, c, c2⟩⟩
          · refine .inr ⟨fun z => ?_, if_neg fun z => kk2 z.1⟩
            have nb := H.nb
            rw [er] at nb h2
            obtain ⟨m1, m2⟩ := nd_anyS nb
            rcases List.mem_append.mp h2 with w | w
            · exact m1 (by rw [← z]; exact List.mem_map_of_mem w)
            · rcases List.mem_cons.mp w with w | w
              · exact kk2 (w ▸ ekk)
              · exact m2 (by rw [← z]; exact List.mem_map_of_mem w)
        have fa : ∀ e2, (hit I.others o k t x e2).a = e2.a ∧ (hit I.others o k t x e2).d = e2.d ∧ (hit I.others o k t x e2).k = e2.k ∧ so S (hit I.others o k t x e2) = so S e2 := fun e2 => by unfold hit; split <;> exact ⟨rfl, rfl, rfl, rfl⟩
        have ma : (es.map (hit I.others o k t x)).map Sa.a = es.map Sa.a := by rw [List.map_map]; exact List.map_congr_left fun e2 _ => (fa e2).1
        have md : (es.map (hit I.others o k t x)).map Sa.d = es.map Sa.d := by rw [List.map_map]; exact List.map_congr_left fun e2 _ => (fa e2).2.1
        have mk : (es.map (hit I.others o k t x)).map sk = es.map sk := by rw [List.map_map]; exact List.map_congr_left fun e2 _ => by show sk _ = _; unfold sk; rw [(fa e2).2.2.1]
        have mr : (es.map (hit I.others o k t x)).map sr = es.map sr := by rw [List.map_map]; exact List.map_congr_left fun e2 _ => by show sr _ = _; unfold sr; rw [(fa e2).1]
        have hd : e.d ∈ es.map Sa.d := List.mem_map_of_mem he
        refine q _ ⟨?_, ?_, fun e2 h2 => ?_, fun e2 h2 => ?_, H.n0, by rw [ma]; exact H.n1, by rw [md]; exact H.n2, by rw [ma]; exact H.n3, by rw [md]; exact H.n4, by rw [ma]; exact H.na, by rw [md]; exact H.nb, by rw [ma, md]; exact H.nx, by rw [mk]; exact H.nk, fun e2 h2 => ?_, fun e2 h2 => ?_, by rw [List.length_map]; exact H.ln⟩ ?_ fun y hy => up_ne fun z => hy (z ▸ hd)
        · exact (up_ne (show I.sa ≠ e.d from fun z => H.n2 (by rw [z]; exact hd))).trans H.o
        · rw [mk, mr]
          exact (up_ne (show I.w ≠ e.d from fun z => H.n4 (by rw [z]; exact hd))).trans H.w
        · obtain ⟨e3, h3, rfl⟩ := List.mem_map.mp h2
          rw [(fa e3).1, (fa e3).2.2.2]
          exact (up_ne (show e3.a ≠ e.d from fun z => H.nx _ (List.mem_map_of_mem h3) (by rw [z]; exact hd))).trans (H.e1 e3 h3)
        · obtain ⟨e3, h3, rfl⟩ := List.mem_map.mp h2
          rcases hh e3 h3 with ⟨rfl, z⟩ | ⟨z1, z⟩
          · rw [z]; exact up_same
          · rw [z]; exact (up_ne z1).trans (H.e2 e3 h3)
        · obtain ⟨e3, h3, rfl⟩ := List.mem_map.mp h2
          rcases hh e3 h3 with ⟨rfl, z⟩ | ⟨z1, z⟩
          · rw [z]
            show (addN o e3.ns).Nodup
            unfold addN
            split
            · exact H.nn e3 h3
            · rename_i hm
              exact List.nodup_append.mpr ⟨H.nn e3 h3, by simp, fun a ha b hb => by rw [List.mem_singleton] at hb; subst hb; exact fun z => hm (z ▸ ha)⟩
          · rw [z]; exact H.nn e3 h3
        · obtain ⟨e3, h3, rfl⟩ := List.mem_map.mp h2
          rcases hh e3 h3 with ⟨rfl, z⟩ | ⟨z1, z⟩
          · rw [z]
            show (addN o e3.ns).length ≤ 60
            have := hl e3 h3
            unfold addN
            split
            · omega
            · rw [List.length_append]; show _ + 1 ≤ 60; omega
          · rw [z]; exact H.nl e3 h3
        · exact g.up (o := sd { e with ns := addN o e.ns }) (nds_map (f := fun _ => PV.bl true) fun _ _ => rfl) (fun _ _ e => by cases e)
      · have c2 : e.x ≠ x := by simpa using c2
        exact same fun e2 h2 z => c2 (only e2 h2 z.1 ▸ z.2.2.2)
      · have c : e.t ≠ t := by simpa using c
        exact same fun e2 h2 z => c (only e2 h2 z.1 ▸ z.2.2.1)
    · rw [decide_eq_false ho]
      simp only [Bool.false_eq_true, if_false, mNx]
      exact same fun e2 h2 z => ho z.2.1
  · rw [lk_no hm, if_neg (by decide)]
    simp only [Bool.false_eq_true, if_false, mNx]
    exact same fun e2 h2 z => hm (List.mem_map.mpr ⟨e2, h2, by unfold sk; rw [z.1]⟩)
/-! ### again -/
def zeroS (e : Sa) : Sa := { e with n := 0 }
def spSAgain (C S : Addr) : SpP := fun ps h Q => ∃ (I : Se) (es : List Sa), ps = [.ref I.sa] ∧ SO C S I es h ∧ Gd h ∧ ∀ h', SO C S I (es.map zeroS) h' → Gd h' → (∀ y, y ∉ es.map Sa.a → h' y = h y) → Q .non h'
theorem SO.wait {C S : Addr} {I : Se} {es : List Sa} {h h' : PH} (H : SO C S I es h) {f : Sa → Sa} (ff : ∀ e, (f e).k = e.k ∧ (f e).a = e.a ∧ (f e).d = e.d ∧ (f e).ns = e.ns) (e1 : ∀ e ∈ es, h' e.a = some (so S (f e))) (e2 : ∀ y, y ∉ es.map Sa.a → h' y = h y) : SO C S I (es.map f) h' := by
  have ma : (es.map f).map Sa.a = es.map Sa.a := by rw [List.map_map]; exact List.map_congr_left fun e _ => (ff e).2.1
  have md : (es.map f).map Sa.d = es.map Sa.d := by rw [List.map_map]; exact List.map_congr_left fun e _ => (ff e).2.2.1
  have mk : (es.map f).map sk = es.map sk := by rw [List.map_map]; exact List.map_congr_left fun e _ => by show sk _ = _; unfold sk; rw [(ff e).1]
  have mr : (es.map f).map sr = es.map sr := by rw [List.map_map]; exact List.map_congr_left fun e _ => by show sr _ = _; unfold sr; rw [(ff e).2.1]
  refine ⟨(e2 _ H.n1).trans H.o, by rw [mk, mr]; exact (e2 _ H.n3).trans H.w, fun e he => ?_, fun e he => ?_, H.n0, by rw [ma]; exact H.n1, by rw [md]; exact H.n2, by rw [ma]; exact H.n3, by rw [md]; exact H.n4, by rw [ma]; exact H.na, by rw [md]; exact H.nb, by rw [ma, md]; exact H.nx, by rw [mk]; exact H.nk, fun e he => ?_, fun e he => ?_, by rw [List.length_map]; exact H.ln⟩ <;> obtain ⟨e, hee, rfl⟩ := List.mem_map.mp he
  · rw [(ff e).2.1]; exact e1 e hee
  · rw [(ff e).2.2.1, show sd (f e) = sd e by unfold sd; rw [(ff e).2.2.2]]
    exact (e2 _ fun z => H.nx _ z (List.mem_map_of_mem hee)).trans (H.e2 e hee)
  · rw [(ff e).2.2.2]; exact H.nn e hee
  · rw [(ff e).2.2.2]; exact H.nl e hee
theorem pure_Sayer_again {C S : Addr} : ∀ qs h Q, qs.length = 1 → spSAgain C S qs h Q → m_Sayer_again C S (ends Q) (sp0 2 qs) h := by
  rintro _ h Q - ⟨I, es, rfl, H, g, q⟩
  unfold m_Sayer_again
  refine ⟨I.w, _, _, H.w, ?_⟩
  simp only [mFor, mValsI, mFld, mVar, gt, N3.sp0, up_ne H.n0, H.o, sG_words, true_and, up_same]
  refine ⟨by rw [List.length_map]; have := H.ln; show _ ≤ 16777216; omega, ?_⟩
  refine forL_of (W := fun ps τ h4 => ∃ ds r v, es = ds ++ r ∧ ps = r.map sr ∧ h4 I.w = some (.lck (es.map sk) (es.map sr)) ∧ (∀ e ∈ ds, h4 e.a = some (so S (zeroS e))) ∧ (∀ e ∈ r, h4 e.a = some (so S e)) ∧
    (∀ x, x ≠ I.w → x ∉ es.map Sa.a → h4 x = h x) ∧ ndH h4 ∧ lk1 I.w h4 ∧ τ = [some (.ref I.sa), v] ∧ (v = none ∨ ∃ y, v = some (.ref y))) ?_ ?_ _ _ _ ⟨[], es, none, rfl, rfl, up_same, (fun e he => by simp at he), (fun e he => (up_ne (show e.a ≠ I.w from fun z => H.n3 (by rw [← z]; exact List.mem_map_of_mem he))).trans (H.e1 e he)), (fun x x1 _ => up_ne x1), g.lck.1, g.lck.2, rfl, .inl rfl⟩
  · rintro p ps τ h4' ⟨ds, r, v, er, ee, hr, hd, hrr, ho, nh, l1, rfl, -⟩
    obtain ⟨e, r, rfl⟩ : ∃ e r', r = e :: r' := by
      cases r with
      | nil => cases ee
      | cons e r => exact ⟨e, r, rfl⟩
    obtain ⟨rfl, rfl⟩ := List.cons.inj ee
    refine ⟨hr, fun P' hP' => ?_⟩
    have he : e ∈ es := by rw [er]; simp
    have hea : e.a ∈ es.map Sa.a := List.mem_map_of_mem he
    have ea := hrr e List.mem_cons_self
    have na := H.na
    rw [er] at na
    obtain ⟨m1, m2⟩ := nd_anyS na
    simp only [mPutF, N3.mDput, N3.mB, N3.mU, N3.mVar, N3.mC, N3.sp0, N3.gt, N3.st, N3.rIx, N3.seqL, N3.dctL, N3.kOf, N3.rAdd, N3.mAsg, N3.gN, N3.mIfS, N3.mTest, N3.mPop, N3.mAppend, N3.mDrop, N3.mRet, N3.mRetN, N3.mNx, N3.mBrk, N3.mCnt, N3.mLst, N3.mLstM, N3.mCons, N3.mNil, N3.mTup, N3.mBlt, N3.mKw, N3.cat2, N3.cat2r, N3.gS, N3.gL, N3.mSlM, N3.rSlM, N3.mM1, N3.mSl, N3.mRev, N3.mStep, N3.mRevM, N3.mPart, N3.mNoPart, N3.rII, N3.rII0, N3.rIB, N3.rCmp, N3.rLt, N3.rLe, N3.rGt, N3.rGe, N3.mIsI, N3.tn, N3.isI, N3.mDisp, N3.mDct0, N3.mDct0M, N3.mPar3, N3.mAug, N3.rIAdd, N3.mExtend, N3.mInsert, N3.mPopAt, N3.rMin2, N3.rMax2, N3.rIntT, N3.rSplit, N3.rSplitM, N3.rAddM, N3.gPut, N3.mFmt, N3.mJs, N3.mJoin, N3.rDictP, N3.mRepM, N3.rListA, N3.rSortA, N3.mLc2, N3.lcI, N3.lcO, N3.rAllB, N3.rAnyB, N3.rStrI, N3.rIntO, N3.vwL, N3.rMul, N3.rMulT, N3.rNeg, N3.rSub, N3.rDiv, N3.rMod, N3.rPow, N3.mPar, N3.mAndT, N3.mOrT, N3.mNotT, N3.mAnd, N3.mOr, N3.mOrV, N3.mAndV, N3.trv, N3.mNot, N3.mIf, N3.mChn, N3.mKeep, N3.mRep, N3.mDispM, N3.mPs, N3.ends, N3.rLen, N3.rListOf, N3.rListOfM, N3.rTupOf, N3.rSumI, N3.listed, N3.rSl, N3.rRev, N3.rEq, N3.rNe, N3.rIsN, N3.rNotN, N3.isNon, N3.vw, N3.mYes, N3.gT, N3.gsCons, N3.gsNil, N3.mFor, N3.mSeqs, N3.mLc, N3.mLcM, N3.mRng1, N3.mRng2, N3.mEnum, N3.mEnumA, N3.mZip, N3.wp, N3.rJoin, N3.rSS, N3.rIdxS, N3.rRepr, N3.flat, N3.flats, N3.toD, N3.toDs, List.length_cons, List.length_nil, List.append_eq, List.cons_append, List.nil_append, List.map_cons, List.map_nil, if_true, if_false, Bool.false_eq_true, decide_eq_true_eq, Option.some.injEq, true_and, and_true, Bool.not_true, Bool.not_false, reduceCtorEq, Bool.and_self, Bool.and_true, Bool.true_and, ite_true, ite_false, sr, ea, so, dN_wait, dV_wait]
    refine ⟨by decide, ?_⟩
    refine hP' _ _ ⟨ds ++ [e], r, _, by rw [er, List.append_assoc]; rfl, rfl, by rw [up_ne (show I.w ≠ e.a from fun z => H.n3 (by rw [z]; exact hea))]; exact hr, fun x hx => ?_, fun x hx => ?_, fun x x1 x2 => ?_, fun b u hb => ?_, fun b ks vs hb => ?_, rfl, .inr ⟨_, rfl⟩⟩
    · rcases List.mem_append.mp hx with hx | hx
      · rw [up_ne (show x.a ≠ e.a from fun z => m1 (by rw [← z]; exact List.mem_map_of_mem hx))]; exact hd x hx
      · rw [List.mem_singleton] at hx; subst hx
        exact up_same
    · rw [up_ne (show x.a ≠ e.a from fun z => m2 (by rw [← z]; exact List.mem_map_of_mem hx))]; exact hrr x (List.mem_cons_of_mem _ hx)
    · rw [up_ne (show x ≠ e.a from fun z => x2 (by rw [z]; exact hea))]; exact ho x x1 x2
    · by_cases hc : b = e.a
      · rw [hc, up_same] at hb; cases hb; rfl
      · rw [up_ne hc] at hb; exact nh b u hb
    · by_cases hc : b = e.a
      · rw [hc, up_same] at hb; cases hb
      · rw [up_ne hc] at hb; exact l1 b _ _ hb
  · rintro τ h4' ⟨ds, r, v, er, ee, hr, hd, hrr, ho, nh, l1, rfl, hv⟩
    cases r with
    | cons e r => cases ee
    | nil =>
      rw [List.append_nil] at er
      refine ⟨hr, ⟨hr, ?_, nh, l1⟩, ?_⟩
      · rcases hv with rfl | ⟨y, rfl⟩ <;> rfl
      · have o5 : ∀ y, y ∉ es.map Sa.a → N3.up h4' I.w (.dct (es.map sk) (es.map sr)) y = h y := fun y hy => by
          by_cases hw : y = I.w
          · rw [hw, up_same]; exact H.w.symm
          · rw [up_ne hw]; exact ho y hw hy
        refine q _ (H.wait (f := zeroS) (fun e => ⟨rfl, rfl, rfl, rfl⟩) (fun e he => ?_) o5) ⟨fun b u hb => ?_, fun b ks vs hb => ?_⟩ o5
        · rw [up_ne (show e.a ≠ I.w from fun z => H.n3 (by rw [← z]; exact List.mem_map_of_mem he))]; exact hd e (er ▸ he)
        · by_cases hc : b = I.w
          · rw [hc, up_same] at hb; cases hb
            exact nds_map (f := sr) fun _ _ => rfl
          · rw [up_ne hc] at hb; exact nh b u hb
        · by_cases hc : b = I.w
          · rw [hc, up_same] at hb; cases hb
          · rw [up_ne hc] at hb; exact hc (l1 b _ _ hb)
/-! ### beat -/
theorem SO.upd1 {C S : Addr} {I : Se} {ds r : List Sa} {e : Sa} {h : PH} (H : SO C S I (ds ++ e :: r) h) (n : Int) : SO C S I (ds ++ { e with n := n } :: r) (N3.up h e.a (so S { e with n := n })) := by
  obtain ⟨m1, m2⟩ := nd_anyS H.na
  have eq : (ds ++ e :: r).map (fun x => if x.a = e.a then { x with n := n } else x) = ds ++ { e with n := n } :: r := by
    rw [List.map_append, List.map_cons, if_pos rfl]
    have d1 : ds.map (fun x => if x.a = e.a then { x with n := n } else x) = ds := by
      have : ds.map (fun x => if x.a = e.a then { x with n := n } else x) = ds.map id := List.map_congr_left fun x hx => if_neg fun z => m1 (by rw [← z]; exact List.mem_map_of_mem hx)
      rw [this, List.map_id]
    have d2 : r.map (fun x => if x.a = e.a then { x with n := n } else x) = r := by
      have : r.map (fun x => if x.a = e.a then { x with n := n } else x) = r.map id := List.map_congr_left fun x hx => if_neg fun z => m2 (by rw [← z]; exact List.mem_map_of_mem hx)
      rw [this, List.map_id]
    rw [d1, d2]
  have := H.wait (h' := N3.up h e.a (so S { e with n := n })) (f := fun x => if x.a = e.a then { x with n := n } else x) (fun x => by split <;> exact ⟨rfl, rfl, rfl, rfl⟩) (fun x hx => ?_) (fun y hy => up_ne fun z => hy (by rw [z]; simp))
  · rw [eq] at this; exact this
  · by_cases hc : x.a = e.a
    · rw [if_pos hc, hc, up_same]
      have hxe : x = e := by
        rcases List.mem_append.mp hx with z | z
        · exact (m1 (by rw [← hc]; exact List.mem_map_of_mem z)).elim
        · rcases List.mem_cons.mp z with z | z
          · exact z
          · exact (m2 (by rw [← hc]; exact List.mem_map_of_mem z)).elim
      rw [hxe]
    · rw [if_neg hc, up_ne hc]; exact H.e1 x hx
theorem SO.del {C S : Addr} {I : Se} {ds r : List Sa} {e : Sa} {h : PH} (H : SO C S I (ds ++ e :: r) h) : SO C S I (ds ++ r) (N3.up h I.w (.dct ((ds ++ r).map sk) ((ds ++ r).map sr))) := by
  have sub : (ds ++ r).Sublist (ds ++ e :: r) := (List.Sublist.refl ds).append (List.sublist_cons_self e r)
  refine ⟨(up_ne H.n0).trans H.o, up_same, fun x hx => ?_, fun x hx => ?_, H.n0, fun z => H.n1 ((sub.map Sa.a).mem z), fun z => H.n2 ((sub.map Sa.d).mem z), fun z => H.n3 ((sub.map Sa.a).mem z), fun z => H.n4 ((sub.map Sa.d).mem z), (sub.map Sa.a).nodup H.na, (sub.map Sa.d).nodup H.nb, fun x hx z => H.nx x ((sub.map Sa.a).mem hx) ((sub.map Sa.d).mem z), (sub.map sk).nodup H.nk, fun x hx => H.nn x (sub.mem hx), fun x hx => H.nl x (sub.mem hx), Nat.le_trans sub.length_le H.ln⟩
  · exact (up_ne (show x.a ≠ I.w from fun z => H.n3 (by rw [← z]; exact List.mem_map_of_mem (sub.mem hx)))).trans (H.e1 x (sub.mem hx))
  · exact (up_ne (show x.d ≠ I.w from fun z => H.n4 (by rw [← z]; exact List.mem_map_of_mem (sub.mem hx)))).trans (H.e2 x (sub.mem hx))
def sstep (os : List Str) (late : Int) (e : Sa) : Option Sa := if e.ns.length < os.length then some { e with n := 0 } else if e.n = 2 * late + 2 then none else some { e with n := e.n + 1 }
def sbeat (os : List Str) (late : Int) (es : List Sa) : List Sa := es.filterMap (sstep os late)
def spSBeat (C S : Addr) : SpP := fun ps h Q => ∃ (I : Se) (es : List Sa), ps = [.ref I.sa] ∧ SO C S I es h ∧ Gd h ∧ I.others.length ≤ 1000 ∧ 0 ≤ I.late ∧ I.late ≤ 1000 ∧
  ∀ h', SO C S I (sbeat I.others I.late es) h' → Gd h' → (∀ y, y ≠ I.w → y ∉ es.map Sa.a → h' y = h y) → Q .non h'
theorem pure_Sayer_beat {C S : Addr} : ∀ qs h Q, qs.length = 1 → spSBeat C S qs h Q → m_Sayer_beat C S (ends Q) (sp0 3 qs) h := by
  rintro _ h Q - ⟨I, es, rfl, H, g, ol, l0, l1, q⟩
  unfold m_Sayer_beat
  have kp : (es.map sk).map kP = es.map fun e => PV.str e.k := by rw [List.map_map]; rfl
  simp only [mFor, mFld, rListK, N3.mDput, N3.mB, N3.mU, N3.mVar, N3.mC, N3.sp0, N3.gt, N3.st, N3.rIx, N3.seqL, N3.dctL, N3.kOf, N3.rAdd, N3.mAsg, N3.gN, N3.mIfS, N3.mTest, N3.mPop, N3.mAppend, N3.mDrop, N3.mRet, N3.mRetN, N3.mNx, N3.mBrk, N3.mCnt, N3.mLst, N3.mLstM, N3.mCons, N3.mNil, N3.mTup, N3.mBlt, N3.mKw, N3.cat2, N3.cat2r, N3.gS, N3.gL, N3.mSlM, N3.rSlM, N3.mM1, N3.mSl, N3.mRev, N3.mStep, N3.mRevM, N3.mPart, N3.mNoPart, N3.rII, N3.rII0, N3.rIB, N3.rCmp, N3.rLt, N3.rLe, N3.rGt, N3.rGe, N3.mIsI, N3.tn, N3.isI, N3.mDisp, N3.mDct0, N3.mDct0M, N3.mPar3, N3.mAug, N3.rIAdd, N3.mExtend, N3.mInsert, N3.mPopAt, N3.rMin2, N3.rMax2, N3.rIntT, N3.rSplit, N3.rSplitM, N3.rAddM, N3.gPut, N3.mFmt, N3.mJs, N3.mJoin, N3.rDictP, N3.mRepM, N3.rListA, N3.rSortA, N3.mLc2, N3.lcI, N3.lcO, N3.rAllB, N3.rAnyB, N3.rStrI, N3.rIntO, N3.vwL, N3.rMul, N3.rMulT, N3.rNeg, N3.rSub, N3.rDiv, N3.rMod, N3.rPow, N3.mPar, N3.mAndT, N3.mOrT, N3.mNotT, N3.mAnd, N3.mOr, N3.mOrV, N3.mAndV, N3.trv, N3.mNot, N3.mIf, N3.mChn, N3.mKeep, N3.mRep, N3.mDispM, N3.mPs, N3.ends, N3.rLen, N3.rListOf, N3.rListOfM, N3.rTupOf, N3.rSumI, N3.listed, N3.rSl, N3.rRev, N3.rEq, N3.rNe, N3.rIsN, N3.rNotN, N3.isNon, N3.vw, N3.mYes, N3.gT, N3.gsCons, N3.gsNil, N3.mFor, N3.mSeqs, N3.mLc, N3.mLcM, N3.mRng1, N3.mRng2, N3.mEnum, N3.mEnumA, N3.mZip, N3.wp, N3.rJoin, N3.rSS, N3.rIdxS, N3.rRepr, N3.flat, N3.flats, N3.toD, N3.toDs, List.length_cons, List.length_nil, List.append_eq, List.cons_append, List.nil_append, List.map_cons, List.map_nil, if_true, if_false, Bool.false_eq_true, decide_eq_true_eq, Option.some.injEq, true_and, and_true, Bool.not_true, Bool.not_false, reduceCtorEq, Bool.and_self, Bool.and_true, Bool.true_and, ite_true, ite_false, H.o, sG_words, H.w, kp, gdS]
  refine forL_of (W := fun ps τ h2 => ∃ ds r v1 v2, ps = r.map (fun e => PV.str e.k) ∧ SO C S I (ds ++ r) h2 ∧ sbeat I.others I.late es = ds ++ sbeat I.others I.late r ∧ Gd h2 ∧ (∀ y, y ≠ I.w → y ∉ es.map Sa.a → h2 y = h y) ∧ (∀ e ∈ r, e ∈ es) ∧ τ = [some (.ref I.sa), v1, v2]) ?_ ?_ _ _ _ ⟨[], es, none, none, rfl, H, rfl, g, fun _ _ _ => rfl, fun _ h => h, rfl⟩
  · rintro p ps τ h2 ⟨ds, r, v1, v2, ee, H2, eb, g2, o2, sub, rfl⟩
    obtain ⟨e, r, rfl⟩ : ∃ e r', r = e :: r' := by
      cases r with
      | nil => cases ee
      | cons e r => exact ⟨e, r, rfl⟩
    obtain ⟨rfl, rfl⟩ := List.cons.inj ee
    refine ⟨trivial, fun P' hP' => ?_⟩
    simp only [gN, N3.st]
    have el : ∀ (f : Sa → PV), lk ((ds ++ e :: r).map sk) ((ds ++ e :: r).map f) (Sum.inr e.k) = some (f e) := fun f => lk_mid (K := sk) (nd_mid H2.nk).1
    have hes : e.a ∈ es.map Sa.a := List.mem_map_of_mem (sub e List.mem_cons_self)
    have ea := H2.e1 e (by simp)
    have ed := H2.e2 e (by simp)
    have up1 : ∀ n, sstep I.others I.late e = some { e with n := n } → P' [some (.ref I.sa), some (.str e.k), some (.ref e.a)] (N3.up h2 e.a (so S { e with n := n })) := by
      intro n hs
      refine hP' _ _ ⟨ds ++ [{ e with n := n }], r, _, _, rfl, ?_, ?_, g2.up rfl (fun _ _ e => by cases e), fun y y1 y2 => (up_ne fun z => y2 (by rw [z]; exact hes)).trans (o2 y y1 y2), fun x hx => sub x (List.mem_cons_of_mem _ hx), rfl⟩
      · rw [List.append_assoc]; exact H2.upd1 n
      · rw [eb]; unfold sbeat; rw [List.filterMap_cons_some hs, List.append_assoc]; rfl
    refine seq_step fun P2 hP2 => ?_
    simp only [mFld, N3.mDput, N3.mB, N3.mU, N3.mVar, N3.mC, N3.sp0, N3.gt, N3.st, N3.rIx, N3.seqL, N3.dctL, N3.kOf, N3.rAdd, N3.mAsg, N3.gN, N3.mIfS, N3.mTest, N3.mPop, N3.mAppend, N3.mDrop, N3.mRet, N3.mRetN, N3.mNx, N3.mBrk, N3.mCnt, N3.mLst, N3.mLstM, N3.mCons, N3.mNil, N3.mTup, N3.mBlt, N3.mKw, N3.cat2, N3.cat2r, N3.gS, N3.gL, N3.mSlM, N3.rSlM, N3.mM1, N3.mSl, N3.mRev, N3.mStep, N3.mRevM, N3.mPart, N3.mNoPart, N3.rII, N3.rII0, N3.rIB, N3.rCmp, N3.rLt, N3.rLe, N3.rGt, N3.rGe, N3.mIsI, N3.tn, N3.isI, N3.mDisp, N3.mDct0, N3.mDct0M, N3.mPar3, N3.mAug, N3.rIAdd, N3.mExtend, N3.mInsert, N3.mPopAt, N3.rMin2, N3.rMax2, N3.rIntT, N3.rSplit, N3.rSplitM, N3.rAddM, N3.gPut, N3.mFmt, N3.mJs, N3.mJoin, N3.rDictP, N3.mRepM, N3.rListA, N3.rSortA, N3.mLc2, N3.lcI, N3.lcO, N3.rAllB, N3.rAnyB, N3.rStrI, N3.rIntO, N3.vwL, N3.rMul, N3.rMulT, N3.rNeg, N3.rSub, N3.rDiv, N3.rMod, N3.rPow, N3.mPar, N3.mAndT, N3.mOrT, N3.mNotT, N3.mAnd, N3.mOr, N3.mOrV, N3.mAndV, N3.trv, N3.mNot, N3.mIf, N3.mChn, N3.mKeep, N3.mRep, N3.mDispM, N3.mPs, N3.ends, N3.rLen, N3.rListOf, N3.rListOfM, N3.rTupOf, N3.rSumI, N3.listed, N3.rSl, N3.rRev, N3.rEq, N3.rNe, N3.rIsN, N3.rNotN, N3.isNon, N3.vw, N3.mYes, N3.gT, N3.gsCons, N3.gsNil, N3.mFor, N3.mSeqs, N3.mLc, N3.mLcM, N3.mRng1, N3.mRng2, N3.mEnum, N3.mEnumA, N3.mZip, N3.wp, N3.rJoin, N3.rSS, N3.rIdxS, N3.rRepr, N3.flat, N3.flats, N3.toD, N3.toDs, List.length_cons, List.length_nil, List.append_eq, List.cons_append, List.nil_append, List.map_cons, List.map_nil, if_true, if_false, Bool.false_eq_true, decide_eq_true_eq, Option.some.injEq, true_and, and_true, Bool.not_true, Bool.not_false, reduceCtorEq, Bool.and_self, Bool.and_true, Bool.true_and, ite_true, ite_false, H2.o, sG_words, H2.w, el, sr]
    subst hP2
    simp only [mFld, rLenK, N3.mDput, N3.mB, N3.mU, N3.mVar, N3.mC, N3.sp0, N3.gt, N3.st, N3.rIx, N3.seqL, N3.dctL, N3.kOf, N3.rAdd, N3.mAsg, N3.gN, N3.mIfS, N3.mTest, N3.mPop, N3.mAppend, N3.mDrop, N3.mRet, N3.mRetN, N3.mNx, N3.mBrk, N3.mCnt, N3.mLst, N3.mLstM, N3.mCons, N3.mNil, N3.mTup, N3.mBlt, N3.mKw, N3.cat2, N3.cat2r, N3.gS, N3.gL, N3.mSlM, N3.rSlM, N3.mM1, N3.mSl, N3.mRev, N3.mStep, N3.mRevM, N3.mPart, N3.mNoPart, N3.rII, N3.rII0, N3.rIB, N3.rCmp, N3.rLt, N3.rLe, N3.rGt, N3.rGe, N3.mIsI, N3.tn, N3.isI, N3.mDisp, N3.mDct0, N3.mDct0M, N3.mPar3, N3.mAug, N3.rIAdd, N3.mExtend, N3.mInsert, N3.mPopAt, N3.rMin2, N3.rMax2, N3.rIntT, N3.rSplit, N3.rSplitM, N3.rAddM, N3.gPut, N3.mFmt, N3.mJs, N3.mJoin, N3.rDictP, N3.mRepM, N3.rListA, N3.rSortA, N3.mLc2, N3.lcI, N3.lcO, N3.rAllB, N3.rAnyB, N3.rStrI, N3.rIntO, N3.vwL, N3.rMul, N3.rMulT, N3.rNeg, N3.rSub, N3.rDiv, N3.rMod, N3.rPow, N3.mPar, N3.mAndT, N3.mOrT, N3.mNotT, N3.mAnd, N3.mOr, N3.mOrV, N3.mAndV, N3.trv, N3.mNot, N3.mIf, N3.mChn, N3.mKeep, N3.mRep, N3.mDispM, N3.mPs, N3.ends, N3.rLen, N3.rListOf, N3.rListOfM, N3.rTupOf, N3.rSumI, N3.listed, N3.rSl, N3.rRev, N3.rEq, N3.rNe, N3.rIsN, N3.rNotN, N3.isNon, N3.vw, N3.mYes, N3.gT, N3.gsCons, N3.gsNil, N3.mFor, N3.mSeqs, N3.mLc, N3.mLcM, N3.mRng1, N3.mRng2, N3.mEnum, N3.mEnumA, N3.mZip, N3.wp, N3.rJoin, N3.rSS, N3.rIdxS, N3.rRepr, N3.flat, N3.flats, N3.toD, N3.toDs, List.length_cons, List.length_nil, List.append_eq, List.cons_append, List.nil_append, List.map_cons, List.map_nil, if_true, if_false, Bool.false_eq_true, decide_eq_true_eq, Option.some.injEq, true_and, and_true, Bool.not_true, Bool.not_false, reduceCtorEq, Bool.and_self, Bool.and_true, Bool.true_and, ite_true, ite_false, ea, so, dG_names, ed, sd, List.length_map, H2.o, sG_others, dG_wait, sG_late, eqv_int]
    refine ite2 (fun c => ?_) (fun c => ?_)
    · have c : e.ns.length < I.others.length := by omega
      simp only [mPutF, N3.mDput, N3.mB, N3.mU, N3.mVar, N3.mC, N3.sp0, N3.gt, N3.st, N3.rIx, N3.seqL, N3.dctL, N3.kOf, N3.rAdd, N3.mAsg, N3.gN, N3.mIfS, N3.mTest, N3.mPop, N3.mAppend, N3.mDrop, N3.mRet, N3.mRetN, N3.mNx, N3.mBrk, N3.mCnt, N3.mLst, N3.mLstM, N3.mCons, N3.mNil, N3.mTup, N3.mBlt, N3.mKw, N3.cat2, N3.cat2r, N3.gS, N3.gL, N3.mSlM, N3.rSlM, N3.mM1, N3.mSl, N3.mRev, N3.mStep, N3.mRevM, N3.mPart, N3.mNoPart, N3.rII, N3.rII0, N3.rIB, N3.rCmp, N3.rLt, N3.rLe, N3.rGt, N3.rGe, N3.mIsI, N3.tn, N3.isI, N3.mDisp, N3.mDct0, N3.mDct0M, N3.mPar3, N3.mAug, N3.rIAdd, N3.mExtend, N3.mInsert, N3.mPopAt, N3.rMin2, N3.rMax2, N3.rIntT, N3.rSplit, N3.rSplitM, N3.rAddM, N3.gPut, N3.mFmt, N3.mJs, N3.mJoin, N3.rDictP, N3.mRepM, N3.rListA, N3.rSortA, N3.mLc2, N3.lcI, N3.lcO, N3.rAllB, N3.rAnyB, N3.rStrI, N3.rIntO, N3.vwL, N3.rMul, N3.rMulT, N3.rNeg, N3.rSub, N3.rDiv, N3.rMod, N3.rPow, N3.mPar, N3.mAndT, N3.mOrT, N3.mNotT, N3.mAnd, N3.mOr, N3.mOrV, N3.mAndV, N3.trv, N3.mNot, N3.mIf, N3.mChn, N3.mKeep, N3.mRep, N3.mDispM, N3.mPs, N3.ends, N3.rLen, N3.rListOf, N3.rListOfM, N3.rTupOf, N3.rSumI, N3.listed, N3.rSl, N3.rRev, N3.rEq, N3.rNe, N3.rIsN, N3.rNotN, N3.isNon, N3.vw, N3.mYes, N3.gT, N3.gsCons, N3.gsNil, N3.mFor, N3.mSeqs, N3.mLc, N3.mLcM, N3.mRng1, N3.mRng2, N3.mEnum, N3.mEnumA, N3.mZip, N3.wp, N3.rJoin, N3.rSS, N3.rIdxS, N3.rRepr, N3.flat, N3.flats, N3.toD, N3.toDs, List.length_cons, List.length_nil, List.append_eq, List.cons_append, List.nil_append, List.map_cons, List.map_nil, if_true, if_false, Bool.false_eq_true, decide_eq_true_eq, Option.some.injEq, true_and, and_true, Bool.not_true, Bool.not_false, reduceCtorEq, Bool.and_self, Bool.and_true, Bool.true_and, ite_true, ite_false, ea, so, dN_wait, dV_wait]
      refine ⟨by decide, ?_⟩
      exact up1 0 (by unfold sstep; rw [if_pos c])
    · have c : ¬ e.ns.length < I.others.length := by omega
      refine ⟨.inl ?_, by simp [PyData.depth], ite2 (fun c2 => ?_) (fun c2 => ?_)⟩
      · omega
      · have c2 : e.n = 2 * I.late + 2 := by simpa using c2
        have hs : sstep I.others I.late e = none := by unfold sstep; rw [if_neg c, if_pos c2]
        simp only [mDelK, mFld, N3.mDput, N3.mB, N3.mU, N3.mVar, N3.mC, N3.sp0, N3.gt, N3.st, N3.rIx, N3.seqL, N3.dctL, N3.kOf, N3.rAdd, N3.mAsg, N3.gN, N3.mIfS, N3.mTest, N3.mPop, N3.mAppend, N3.mDrop, N3.mRet, N3.mRetN, N3.mNx, N3.mBrk, N3.mCnt, N3.mLst, N3.mLstM, N3.mCons, N3.mNil, N3.mTup, N3.mBlt, N3.mKw, N3.cat2, N3.cat2r, N3.gS, N3.gL, N3.mSlM, N3.rSlM, N3.mM1, N3.mSl, N3.mRev, N3.mStep, N3.mRevM, N3.mPart, N3.mNoPart, N3.rII, N3.rII0, N3.rIB, N3.rCmp, N3.rLt, N3.rLe, N3.rGt, N3.rGe, N3.mIsI, N3.tn, N3.isI, N3.mDisp, N3.mDct0, N3.mDct0M, N3.mPar3, N3.mAug, N3.rIAdd, N3.mExtend, N3.mInsert, N3.mPopAt, N3.rMin2, N3.rMax2, N3.rIntT, N3.rSplit, N3.rSplitM, N3.rAddM, N3.gPut, N3.mFmt, N3.mJs, N3.mJoin, N3.rDictP, N3.mRepM, N3.rListA, N3.rSortA, N3.mLc2, N3.lcI, N3.lcO, N3.rAllB, N3.rAnyB, N3.rStrI, N3.rIntO, N3.vwL, N3.rMul, N3.rMulT, N3.rNeg, N3.rSub, N3.rDiv, N3.rMod, N3.rPow, N3.mPar, N3.mAndT, N3.mOrT, N3.mNotT, N3.mAnd, N3.mOr, N3.mOrV, N3.mAndV, N3.trv, N3.mNot, N3.mIf, N3.mChn, N3.mKeep, N3.mRep, N3.mDispM, N3.mPs, N3.ends, N3.rLen, N3.rListOf, N3.rListOfM, N3.rTupOf, N3.rSumI, N3.listed, N3.rSl, N3.rRev, N3.rEq, N3.rNe, N3.rIsN, N3.rNotN, N3.isNon, N3.vw, N3.mYes, N3.gT, N3.gsCons, N3.gsNil, N3.mFor, N3.mSeqs, N3.mLc, N3.mLcM, N3.mRng1, N3.mRng2, N3.mEnum, N3.mEnumA, N3.mZip, N3.wp, N3.rJoin, N3.rSS, N3.rIdxS, N3.rRepr, N3.flat, N3.flats, N3.toD, N3.toDs, List.length_cons, List.length_nil, List.append_eq, List.cons_append, List.nil_append, List.map_cons, List.map_nil, if_true, if_false, Bool.false_eq_true, decide_eq_true_eq, Option.some.injEq, true_and, and_true, Bool.not_true, Bool.not_false, reduceCtorEq, Bool.and_self, Bool.and_true, Bool.true_and, ite_true, ite_false, H2.o, sG_words, H2.w]
        rw [el, show eK ((ds ++ e :: r).map sk) (Sum.inr e.k) = (ds ++ r).map sk from eK_mid (K := sk) H2.nk, show eV ((ds ++ e :: r).map sk) ((ds ++ e :: r).map sr) (Sum.inr e.k) = (ds ++ r).map sr from eV_mid (K := sk) H2.nk]
        refine ⟨rfl, hP' _ _ ⟨ds, r, _, _, rfl, H2.del, ?_, g2.up (nds_map (f := sr) fun _ _ => rfl) (fun _ _ e => by cases e), fun y y1 y2 => (up_ne y1).trans (o2 y y1 y2), fun x hx => sub x (List.mem_cons_of_mem _ hx), rfl⟩⟩
        rw [eb]; unfold sbeat; rw [List.filterMap_cons_none hs]
      · have c2 : e.n ≠ 2 * I.late + 2 := by simpa using c2
        simp only [mAugF, N3.mDput, N3.mB, N3.mU, N3.mVar, N3.mC, N3.sp0, N3.gt, N3.st, N3.rIx, N3.seqL, N3.dctL, N3.kOf, N3.rAdd, N3.mAsg, N3.gN, N3.mIfS, N3.mTest, N3.mPop, N3.mAppend, N3.mDrop, N3.mRet, N3.mRetN, N3.mNx, N3.mBrk, N3.mCnt, N3.mLst, N3.mLstM, N3.mCons, N3.mNil, N3.mTup, N3.mBlt, N3.mKw, N3.cat2, N3.cat2r, N3.gS, N3.gL, N3.mSlM, N3.rSlM, N3.mM1, N3.mSl, N3.mRev, N3.mStep, N3.mRevM, N3.mPart, N3.mNoPart, N3.rII, N3.rII0, N3.rIB, N3.rCmp, N3.rLt, N3.rLe, N3.rGt, N3.rGe, N3.mIsI, N3.tn, N3.isI, N3.mDisp, N3.mDct0, N3.mDct0M, N3.mPar3, N3.mAug, N3.rIAdd, N3.mExtend, N3.mInsert, N3.mPopAt, N3.rMin2, N3.rMax2, N3.rIntT, N3.rSplit, N3.rSplitM, N3.rAddM, N3.gPut, N3.mFmt, N3.mJs, N3.mJoin, N3.rDictP, N3.mRepM, N3.rListA, N3.rSortA, N3.mLc2, N3.lcI, N3.lcO, N3.rAllB, N3.rAnyB, N3.rStrI, N3.rIntO, N3.vwL, N3.rMul, N3.rMulT, N3.rNeg, N3.rSub, N3.rDiv, N3.rMod, N3.rPow, N3.mPar, N3.mAndT, N3.mOrT, N3.mNotT, N3.mAnd, N3.mOr, N3.mOrV, N3.mAndV, N3.trv, N3.mNot, N3.mIf, N3.mChn, N3.mKeep, N3.mRep, N3.mDispM, N3.mPs, N3.ends, N3.rLen, N3.rListOf, N3.rListOfM, N3.rTupOf, N3.rSumI, N3.listed, N3.rSl, N3.rRev, N3.rEq, N3.rNe, N3.rIsN, N3.rNotN, N3.isNon, N3.vw, N3.mYes, N3.gT, N3.gsCons, N3.gsNil, N3.mFor, N3.mSeqs, N3.mLc, N3.mLcM, N3.mRng1, N3.mRng2, N3.mEnum, N3.mEnumA, N3.mZip, N3.wp, N3.rJoin, N3.rSS, N3.rIdxS, N3.rRepr, N3.flat, N3.flats, N3.toD, N3.toDs, List.length_cons, List.length_nil, List.append_eq, List.cons_append, List.nil_append, List.map_cons, List.map_nil, if_true, if_false, Bool.false_eq_true, decide_eq_true_eq, Option.some.injEq, true_and, and_true, Bool.not_true, Bool.not_false, reduceCtorEq, Bool.and_self, Bool.and_true, Bool.true_and, ite_true, ite_false, ea, so, dG_wait, dN_wait, dV_wait, true_and]
        refine ⟨by decide, ?_⟩
        exact up1 (e.n + 1) (by unfold sstep; rw [if_neg c, if_neg c2])
  · rintro τ h2 ⟨ds, r, v1, v2, ee, H2, eb, g2, o2, sub, rfl⟩
    refine ⟨trivial, ?_⟩
    cases r with
    | cons e r => cases ee
    | nil =>
      rw [List.append_nil] at H2
      have : sbeat I.others I.late es = ds := by rw [eb]; unfold sbeat; simp
      rw [← this] at H2
      exact q h2 H2 g2 o2
/-! ### sorted texts -/
def leS (a b : Str) : Prop := ¬ b.cps.toList < a.cps.toList
theorem str_ext {a b : Str} (h : a.cps.toList = b.cps.toList) : a = b := by
  cases a; cases b
  simp only at h
  congr 1
  exact Array.toList_inj.mp h
theorem leS_same {a b : Str} (h1 : leS a b) (h2 : leS b a) : a = b := str_ext (List.le_antisymm h1 h2)
theorem leS_trans {a b c : Str} (h1 : leS a b) (h2 : leS b c) : leS a c := List.le_trans h1 h2
theorem rising_pw : ∀ (l : List Str) (p : Str), risingS p l = true → (p :: l).Pairwise leS
  | [], p, _ => List.pairwise_singleton _ _
  | x :: r, p, h => by
    have h : (!ltCps x.cps.toList p.cps.toList && risingS x r) = true := h
    rw [Bool.and_eq_true, Bool.not_eq_true', ltCps_eq, decide_eq_false_iff_not] at h
    have ih := rising_pw r x h.2
    refine List.pairwise_cons.mpr ⟨fun y hy => ?_, ih⟩
    rcases List.mem_cons.mp hy with rfl | hy
    · exact h.1
    · exact leS_trans h.1 ((List.pairwise_cons.mp ih).1 y hy)
theorem sortedS_pw : ∀ {l : List Str}, sortedS l = true → l.Pairwise leS
  | [], _ => .nil
  | x :: r, h => rising_pw r x h
theorem sortedS_one {a b : List Str} (p : a.Perm b) (h1 : sortedS a = true) (h2 : sortedS b = true) : a = b :=
  perm_one p (sortedS_pw h1) (sortedS_pw h2) fun _ _ _ _ q1 q2 => leS_same q1 q2
/-- the sorted texts -/
noncomputable def srtN (ns : List Str) : List Str := Classical.epsilon fun ys => ys.Perm ns ∧ sortedS ys = true
theorem srtN_of {ns ys : List Str} (p : ys.Perm ns) (s : sortedS ys = true) : ys = srtN ns := by
  have h := Classical.epsilon_spec (p := fun ys : List Str => ys.Perm ns ∧ sortedS ys = true) ⟨ys, p, s⟩
  exact sortedS_one (p.trans h.1.symm) s h.2
theorem srtN_perm {ns ms : List Str} (p : ns.Perm ms) : srtN ns = srtN ms := by
  unfold srtN
  congr 1
  funext ys
  exact propext ⟨fun h => ⟨h.1.trans p, h.2⟩, fun h => ⟨h.1.trans p.symm, h.2⟩⟩
/-! ### remembered -/
noncomputable def rowP (e : Sa) : PV := .tup [.str e.k, .int e.t, .str e.x, .tup ((srtN e.ns).map PV.str)]
noncomputable def srtR (es : List Sa) : List PV := (es.map rowP).mergeSort (PySem.W.dataLe false toD)
theorem flat_row (es : List Sa) : flats (es.map rowP) = true := flats_of fun p hp => by
  obtain ⟨r, -, rfl⟩ := List.mem_map.mp hp
  show (true && (true && (true && (flats ((srtN r.ns).map PV.str) && true)))) = true
  rw [flats_of fun p hp => by
    obtain ⟨y, -, rfl⟩ := List.mem_map.mp hp
    rfl]
  rfl
theorem depth0_strs (os : List Str) : PyData.depthAll (toDs (os.map PV.str)) = 0 := by
  induction os with
  | nil => simp [toDs, PyData.depthAll]
  | cons a os ih => simp [toDs, toD, PyData.depthAll, PyData.depth, ih]
theorem nd_row (e : Sa) : nd (rowP e) = true := by
  show (true && (true && (true && (nds ((srtN e.ns).map PV.str) && true)))) = true
  rw [nds_map fun _ _ => rfl]; rfl
theorem srtb_row (es : List Sa) : Srtb ((es.map rowP).map toD) := by
  rw [List.map_map]
  refine ⟨PySem.W.AllAlike.of fun a b => ?_, PySem.W.Sortable.tuples fun a => ⟨_, _, rfl⟩, fun b hb => ?_, fun b hb => ?_⟩
  · have al : ∀ xs ys : List Str, PySem.W.alikeAll (toDs (xs.map PV.str)) (toDs (ys.map PV.str)) = true := by
      intro xs
      induction xs with
      | nil => intro ys; cases ys <;> simp [toDs, PySem.W.alikeAll]
      | cons x xs ih =>
        intro ys
        cases ys with
        | nil => simp [toDs, PySem.W.alikeAll]
        | cons y ys => simp [toDs, toD, PySem.W.alikeAll, PySem.W.alike, ih ys]
    simp [rowP, toD, toDs, PySem.W.alike, PySem.W.alikeAll, al]
  · obtain ⟨r, -, rfl⟩ := List.mem_map.mp hb
    have hd : ∀ xs : List Str, PyData.hasDictAll (toDs (xs.map PV.str)) = false := by
      intro xs
      induction xs with
      | nil => rfl
      | cons x xs ih => simp [toDs, toD, PyData.hasDictAll, PyData.hasDict, ih]
    simp [rowP, toD, toDs, PyData.hasDict, PyData.hasDictAll, hd]
  · obtain ⟨r, -, rfl⟩ := List.mem_map.mp hb
    simp [rowP, toD, toDs, PyData.depth, PyData.depthAll, depth0_strs]
def spSRem (C S : Addr) : SpP := fun ps h Q => ∃ (I : Se) (es : List Sa), ps = [.ref I.sa] ∧ SO C S I es h ∧ Gd h ∧ ∀ h', Gd h' → (∀ y, h y ≠ none → h' y = h y) → Q (.tup (srtR es)) h'
theorem pure_Sayer_remembered {C S : Addr} : ∀ qs h Q, qs.length = 1 → spSRem C S qs h Q → m_Sayer_remembered C S (ends Q) (sp0 4 qs) h := by
  rintro _ h Q - ⟨I, es, rfl, H, g, q⟩
  unfold m_Sayer_remembered
  refine seq_step fun P hP => ?_
  simp only [N3.mDput, N3.mB, N3.mU, N3.mVar, N3.mC, N3.sp0, N3.gt, N3.st, N3.rIx, N3.seqL, N3.dctL, N3.kOf, N3.rAdd, N3.mAsg, N3.gN, N3.mIfS, N3.mTest, N3.mPop, N3.mAppend, N3.mDrop, N3.mRet, N3.mRetN, N3.mNx, N3.mBrk, N3.mCnt, N3.mLst, N3.mLstM, N3.mCons, N3.mNil, N3.mTup, N3.mBlt, N3.mKw, N3.cat2, N3.cat2r, N3.gS, N3.gL, N3.mSlM, N3.rSlM, N3.mM1, N3.mSl, N3.mRev, N3.mStep, N3.mRevM, N3.mPart, N3.mNoPart, N3.rII, N3.rII0, N3.rIB, N3.rCmp, N3.rLt, N3.rLe, N3.rGt, N3.rGe, N3.mIsI, N3.tn, N3.isI, N3.mDisp, N3.mDct0, N3.mDct0M, N3.mPar3, N3.mAug, N3.rIAdd, N3.mExtend, N3.mInsert, N3.mPopAt, N3.rMin2, N3.rMax2, N3.rIntT, N3.rSplit, N3.rSplitM, N3.rAddM, N3.gPut, N3.mFmt, N3.mJs, N3.mJoin, N3.rDictP, N3.mRepM, N3.rListA, N3.rSortA, N3.mLc2, N3.lcI, N3.lcO, N3.rAllB, N3.rAnyB, N3.rStrI, N3.rIntO, N3.vwL, N3.rMul, N3.rMulT, N3.rNeg, N3.rSub, N3.rDiv, N3.rMod, N3.rPow, N3.mPar, N3.mAndT, N3.mOrT, N3.mNotT, N3.mAnd, N3.mOr, N3.mOrV, N3.mAndV, N3.trv, N3.mNot, N3.mIf, N3.mChn, N3.mKeep, N3.mRep, N3.mDispM, N3.mPs, N3.ends, N3.rLen, N3.rListOf, N3.rListOfM, N3.rTupOf, N3.rSumI, N3.listed, N3.rSl, N3.rRev, N3.rEq, N3.rNe, N3.rIsN, N3.rNotN, N3.isNon, N3.vw, N3.mYes, N3.gT, N3.gsCons, N3.gsNil, N3.mFor, N3.mSeqs, N3.mLc, N3.mLcM, N3.mRng1, N3.mRng2, N3.mEnum, N3.mEnumA, N3.mZip, N3.wp, N3.rJoin, N3.rSS, N3.rIdxS, N3.rRepr, N3.flat, N3.flats, N3.toD, N3.toDs, List.length_cons, List.length_nil, List.append_eq, List.cons_append, List.nil_append, List.map_cons, List.map_nil, if_true, if_false, Bool.false_eq_true, decide_eq_true_eq, Option.some.injEq, true_and, and_true, Bool.not_true, Bool.not_false, reduceCtorEq, Bool.and_self, Bool.and_true, Bool.true_and, ite_true, ite_false]
  intro f hf
  subst hP
  refine seq_step fun P hP => ?_
  have ne : ∀ {x o}, h x = some o → x ≠ f := fun {x o} e z => by rw [z, hf] at e; cases e
  have wf := ne H.w
  have items : List.zipWith (fun k v => PV.tup [kP k, v]) (es.map sk) (es.map sr) = es.map fun e => PV.tup [.str e.k, .ref e.a] := by
    clear H q g ne wf
    induction es with
    | nil => rfl
    | cons e es ih => rw [List.map_cons, List.map_cons, List.map_cons, List.zipWith_cons_cons, ih]; rfl
  refine ⟨I.w, _, _, (up_ne wf).trans H.w, ?_⟩
  simp only [mFor, mItemsI, mFld, mVar, gt, up_ne H.n0, up_ne (ne H.o), H.o, sG_words, true_and, up_same, items]
  refine ⟨by rw [List.length_map]; have := H.ln; show _ ≤ 16777216; omega, ?_⟩
  refine forL_of (W := fun ps τ h4 => ∃ ds r v2 v3, es = ds ++ r ∧ ps = r.map (fun e => PV.tup [.str e.k, .ref e.a]) ∧ h4 = N3.up (N3.up h f (.lst (ds.map rowP))) I.w (.lck (es.map sk) (es.map sr)) ∧ τ = [some (.ref I.sa), some (.ref f), v2, v3] ∧ ndS [v2, v3] = true) ?_ ?_ _ _ _ ⟨[], es, none, none, rfl, rfl, rfl, rfl, rfl⟩
  · rintro p ps τ h4 ⟨ds, r, v2, v3, er, ee, rfl, rfl, -⟩
    obtain ⟨e, r, rfl⟩ : ∃ e r', r = e :: r' := by
      cases r with
      | nil => cases ee
      | cons e r => exact ⟨e, r, rfl⟩
    obtain ⟨rfl, rfl⟩ := List.cons.inj ee
    refine ⟨up_same, fun P' hP' => ?_⟩
    have he : e ∈ es := by rw [er]; simp
    have ea : N3.up (N3.up h f (.lst (ds.map rowP))) I.w (.lck (es.map sk) (es.map sr)) e.a = some (so S e) := by
      rw [up_ne (show e.a ≠ I.w from fun z => H.n3 (by rw [← z]; exact List.mem_map_of_mem he)), up_ne (ne (H.e1 e he))]; exact H.e1 e he
    have ed : N3.up (N3.up h f (.lst (ds.map rowP))) I.w (.lck (es.map sk) (es.map sr)) e.d = some (sd e) := by
      rw [up_ne (show e.d ≠ I.w from fun z => H.n4 (by rw [← z]; exact List.mem_map_of_mem he)), up_ne (ne (H.e2 e he))]; exact H.e2 e he
    have ef : N3.up (N3.up h f (.lst (ds.map rowP))) I.w (.lck (es.map sk) (es.map sr)) f = some (.lst (ds.map rowP)) := by rw [up_ne wf.symm, up_same]
    simp only [mFld, rSortK, N3.mDput, N3.mB, N3.mU, N3.mVar, N3.mC, N3.sp0, N3.gt, N3.st, N3.rIx, N3.seqL, N3.dctL, N3.kOf, N3.rAdd, N3.mAsg, N3.gN, N3.mIfS, N3.mTest, N3.mPop, N3.mAppend, N3.mDrop, N3.mRet, N3.mRetN, N3.mNx, N3.mBrk, N3.mCnt, N3.mLst, N3.mLstM, N3.mCons, N3.mNil, N3.mTup, N3.mBlt, N3.mKw, N3.cat2, N3.cat2r, N3.gS, N3.gL, N3.mSlM, N3.rSlM, N3.mM1, N3.mSl, N3.mRev, N3.mStep, N3.mRevM, N3.mPart, N3.mNoPart, N3.rII, N3.rII0, N3.rIB, N3.rCmp, N3.rLt, N3.rLe, N3.rGt, N3.rGe, N3.mIsI, N3.tn, N3.isI, N3.mDisp, N3.mDct0, N3.mDct0M, N3.mPar3, N3.mAug, N3.rIAdd, N3.mExtend, N3.mInsert, N3.mPopAt, N3.rMin2, N3.rMax2, N3.rIntT, N3.rSplit, N3.rSplitM, N3.rAddM, N3.gPut, N3.mFmt, N3.mJs, N3.mJoin, N3.rDictP, N3.mRepM, N3.rListA, N3.rSortA, N3.mLc2, N3.lcI, N3.lcO, N3.rAllB, N3.rAnyB, N3.rStrI, N3.rIntO, N3.vwL, N3.rMul, N3.rMulT, N3.rNeg, N3.rSub, N3.rDiv, N3.rMod, N3.rPow, N3.mPar, N3.mAndT, N3.mOrT, N3.mNotT, N3.mAnd, N3.mOr, N3.mOrV, N3.mAndV, N3.trv, N3.mNot, N3.mIf, N3.mChn, N3.mKeep, N3.mRep, N3.mDispM, N3.mPs, N3.ends, N3.rLen, N3.rListOf, N3.rListOfM, N3.rTupOf, N3.rSumI, N3.listed, N3.rSl, N3.rRev, N3.rEq, N3.rNe, N3.rIsN, N3.rNotN, N3.isNon, N3.vw, N3.mYes, N3.gT, N3.gsCons, N3.gsNil, N3.mFor, N3.mSeqs, N3.mLc, N3.mLcM, N3.mRng1, N3.mRng2, N3.mEnum, N3.mEnumA, N3.mZip, N3.wp, N3.rJoin, N3.rSS, N3.rIdxS, N3.rRepr, N3.flat, N3.flats, N3.toD, N3.toDs, List.length_cons, List.length_nil, List.append_eq, List.cons_append, List.nil_append, List.map_cons, List.map_nil, if_true, if_false, Bool.false_eq_true, decide_eq_true_eq, Option.some.injEq, true_and, and_true, Bool.not_true, Bool.not_false, reduceCtorEq, Bool.and_self, Bool.and_true, Bool.true_and, ite_true, ite_false, ea, so, dG_turn, dG_word, dG_names, ed, sd]
    refine ⟨⟨_, _, rfl, ef⟩, e.ns, rfl, by have := H.nl e he; omega, fun ys py sy => ?_⟩
    simp only [listed, seqL, ef]
    refine ⟨by rw [List.length_map]; have := H.ln; rw [er, List.length_append, List.length_cons] at this; show _ < 16777216; omega, ?_⟩
    refine hP' _ _ ⟨ds ++ [e], r, _, _, by rw [er, List.append_assoc]; rfl, rfl, ?_, rfl, rfl⟩
    rw [up_swap wf, up_up, srtN_of py sy, List.map_append]
    rfl
  · rintro τ h4 ⟨ds, r, v2, v3, er, ee, rfl, rfl, nv⟩
    cases r with
    | cons e r => cases ee
    | nil =>
      rw [List.append_nil] at er
      subst er
      have G1 : Gd (N3.up h f (.lst (es.map rowP))) := g.up (nds_map (f := rowP) fun e _ => nd_row e) (fun _ _ e => by cases e)
      refine ⟨up_same, ⟨up_same, ?_, G1.lck.1, G1.lck.2⟩, ?_⟩
      · exact nv
      · subst hP
        rw [up_back ((up_ne wf).trans H.w)]
        simp only [rSortA, N3.mDput, N3.mB, N3.mU, N3.mVar, N3.mC, N3.sp0, N3.gt, N3.st, N3.rIx, N3.seqL, N3.dctL, N3.kOf, N3.rAdd, N3.mAsg, N3.gN, N3.mIfS, N3.mTest, N3.mPop, N3.mAppend, N3.mDrop, N3.mRet, N3.mRetN, N3.mNx, N3.mBrk, N3.mCnt, N3.mLst, N3.mLstM, N3.mCons, N3.mNil, N3.mTup, N3.mBlt, N3.mKw, N3.cat2, N3.cat2r, N3.gS, N3.gL, N3.mSlM, N3.rSlM, N3.mM1, N3.mSl, N3.mRev, N3.mStep, N3.mRevM, N3.mPart, N3.mNoPart, N3.rII, N3.rII0, N3.rIB, N3.rCmp, N3.rLt, N3.rLe, N3.rGt, N3.rGe, N3.mIsI, N3.tn, N3.isI, N3.mDisp, N3.mDct0, N3.mDct0M, N3.mPar3, N3.mAug, N3.rIAdd, N3.mExtend, N3.mInsert, N3.mPopAt, N3.rMin2, N3.rMax2, N3.rIntT, N3.rSplit, N3.rSplitM, N3.rAddM, N3.gPut, N3.mFmt, N3.mJs, N3.mJoin, N3.rDictP, N3.mRepM, N3.rListA, N3.rSortA, N3.mLc2, N3.lcI, N3.lcO, N3.rAllB, N3.rAnyB, N3.rStrI, N3.rIntO, N3.vwL, N3.rMul, N3.rMulT, N3.rNeg, N3.rSub, N3.rDiv, N3.rMod, N3.rPow, N3.mPar, N3.mAndT, N3.mOrT, N3.mNotT, N3.mAnd, N3.mOr, N3.mOrV, N3.mAndV, N3.trv, N3.mNot, N3.mIf, N3.mChn, N3.mKeep, N3.mRep, N3.mDispM, N3.mPs, N3.ends, N3.rLen, N3.rListOf, N3.rListOfM, N3.rTupOf, N3.rSumI, N3.listed, N3.rSl, N3.rRev, N3.rEq, N3.rNe, N3.rIsN, N3.rNotN, N3.isNon, N3.vw, N3.mYes, N3.gT, N3.gsCons, N3.gsNil, N3.mFor, N3.mSeqs, N3.mLc, N3.mLcM, N3.mRng1, N3.mRng2, N3.mEnum, N3.mEnumA, N3.mZip, N3.wp, N3.rJoin, N3.rSS, N3.rIdxS, N3.rRepr, N3.flat, N3.flats, N3.toD, N3.toDs, List.length_cons, List.length_nil, List.append_eq, List.cons_append, List.nil_append, List.map_cons, List.map_nil, if_true, if_false, Bool.false_eq_true, decide_eq_true_eq, Option.some.injEq, true_and, and_true, Bool.not_true, Bool.not_false, reduceCtorEq, Bool.and_self, Bool.and_true, Bool.true_and, ite_true, ite_false, listed, seqL, up_same, flat_row]
        exact ⟨srtb_row es, q _ G1 fun y hy => up_ne fun z => hy (by rw [z]; exact hf)⟩
/-! ### due -/
def dueP (e : Sa) (o : Str) : PV := .tup [.str o, .str e.k, .int e.t, .str e.x]
def dueL (os : List Str) (e : Sa) : List Str := os.filter fun o => !decide (o ∈ e.ns)
def dues (os : List Str) (es : List Sa) : List PV := (es.map fun e => (dueL os e).map (dueP e)).flatten
theorem dues_app (os : List Str) (a b : List Sa) : dues os (a ++ b) = dues os a ++ dues os b := by unfold dues; rw [List.map_append, List.flatten_append]
theorem dues_mem {os : List Str} {es : List Sa} {p : PV} (h : p ∈ dues os es) : ∃ e ∈ es, ∃ o ∈ os, p = dueP e o := by
  obtain ⟨l, hl, hp⟩ := List.mem_flatten.mp h
  obtain ⟨e, he, rfl⟩ := List.mem_map.mp hl
  obtain ⟨o, ho, rfl⟩ := List.mem_map.mp hp
  exact ⟨e, he, o, (List.mem_filter.mp ho).1, rfl⟩
theorem dues_len (os : List Str) : ∀ es : List Sa, (dues os es).length ≤ es.length * os.length
  | [] => by simp [dues]
  | e :: es => by
    have ih := dues_len os es
    have : dues os (e :: es) = (dueL os e).map (dueP e) ++ dues os es := rfl
    rw [this, List.length_append, List.length_map, List.length_cons, Nat.succ_mul]
    have : (dueL os e).length ≤ os.length := List.length_filter_le _ _
    omega
theorem lk_names (ns : List Str) (o : Str) : (lk (ns.map Sum.inr) (ns.map fun _ => PV.bl true) (Sum.inr o)).isSome = decide (o ∈ ns) := by
  induction ns with
  | nil => rfl
  | cons a ns ih =>
    show (if (Sum.inr a : Key) = Sum.inr o then some (PV.bl true) else _).isSome = _
    by_cases e : a = o
    · subst e; rw [if_pos rfl]; simp
    · rw [if_neg (fun z => e (Sum.inr.inj z)), ih]
      have e2 : ¬ o = a := fun z => e z.symm
      simp [e2]
theorem flat_due {os : List Str} {es : List Sa} : flats (dues os es) = true := flats_of fun p hp => by
  obtain ⟨e, -, o, -, rfl⟩ := dues_mem hp
  rfl
def isDue (p : PyData) : Prop := ∃ a b c d, p = .tuple [.str a, .str b, .int c, .str d]
theorem toDs_map (xs : List PV) : xs.map toD = toDs xs := by
  induction xs with
  | nil => rfl
  | cons x xs ih => rw [List.map_cons, ih]; rfl
def spDue (C S : Addr) : SpP := fun ps h Q => ∃ (I : Se) (es : List Sa), ps = [.ref I.sa] ∧ SO C S I es h ∧ Gd h ∧ I.others.length ≤ 1000 ∧ ∀ h', Gd h' → (∀ y, h y ≠ none → h' y = h y) → Q (.tup ((dues I.others es).mergeSort (PySem.W.dataLe false toD))) h'
structure Du where
  o : Str
  k : Str
  t : Int
  x : Str
def duP (d : Du) : PV := .tup [.str d.o, .str d.k, .int d.t, .str d.x]
theorem dues_du (os : List Str) (es : List Sa) : ∃ l : List Du, dues os es = l.map duP := by
  induction es with
  | nil => exact ⟨[], rfl⟩
  | cons e es ih =>
    obtain ⟨l, hl⟩ := ih
    refine ⟨(dueL os e).map (fun o => ⟨o, e.k, e.t, e.x⟩) ++ l, ?_⟩
    rw [List.map_append, List.map_map, ← hl]
    rfl
theorem srtb_due (os : List Str) (es : List Sa) : Srtb ((dues os es).map toD) := by
  obtain ⟨l, hl⟩ := dues_du os es
  rw [hl, List.map_map]
  refine ⟨PySem.W.AllAlike.of fun a b => ?_, PySem.W.Sortable.tuples fun a => ⟨_, _, rfl⟩, fun b hb => ?_, fun b hb => ?_⟩
  · simp [duP, toD, toDs, PySem.W.alike, PySem.W.alikeAll]
  · obtain ⟨r, -, rfl⟩ := List.mem_map.mp hb
    rfl
  · obtain ⟨r, -, rfl⟩ := List.mem_map.mp hb
    simp [duP, toD, toDs, PyData.depth, PyData.depthAll]
theorem pure_Sayer_due {C S : Addr} : ∀ qs h Q, qs.length = 1 → spDue C S qs h Q → m_Sayer_due C S (ends Q) (sp0 6 qs) h := by
  rintro _ h Q - ⟨I, es, rfl, H, g, ol, q⟩
  unfold m_Sayer_due
  refine seq_step fun P hP => ?_
  simp only [N3.mDput, N3.mB, N3.mU, N3.mVar, N3.mC, N3.sp0, N3.gt, N3.st, N3.rIx, N3.seqL, N3.dctL, N3.kOf, N3.rAdd, N3.mAsg, N3.gN, N3.mIfS, N3.mTest, N3.mPop, N3.mAppend, N3.mDrop, N3.mRet, N3.mRetN, N3.mNx, N3.mBrk, N3.mCnt, N3.mLst, N3.mLstM, N3.mCons, N3.mNil, N3.mTup, N3.mBlt, N3.mKw, N3.cat2, N3.cat2r, N3.gS, N3.gL, N3.mSlM, N3.rSlM, N3.mM1, N3.mSl, N3.mRev, N3.mStep, N3.mRevM, N3.mPart, N3.mNoPart, N3.rII, N3.rII0, N3.rIB, N3.rCmp, N3.rLt, N3.rLe, N3.rGt, N3.rGe, N3.mIsI, N3.tn, N3.isI, N3.mDisp, N3.mDct0, N3.mDct0M, N3.mPar3, N3.mAug, N3.rIAdd, N3.mExtend, N3.mInsert, N3.mPopAt, N3.rMin2, N3.rMax2, N3.rIntT, N3.rSplit, N3.rSplitM, N3.rAddM, N3.gPut, N3.mFmt, N3.mJs, N3.mJoin, N3.rDictP, N3.mRepM, N3.rListA, N3.rSortA, N3.mLc2, N3.lcI, N3.lcO, N3.rAllB, N3.rAnyB, N3.rStrI, N3.rIntO, N3.vwL, N3.rMul, N3.rMulT, N3.rNeg, N3.rSub, N3.rDiv, N3.rMod, N3.rPow, N3.mPar, N3.mAndT, N3.mOrT, N3.mNotT, N3.mAnd, N3.mOr, N3.mOrV, N3.mAndV, N3.trv, N3.mNot, N3.mIf, N3.mChn, N3.mKeep, N3.mRep, N3.mDispM, N3.mPs, N3.ends, N3.rLen, N3.rListOf, N3.rListOfM, N3.rTupOf, N3.rSumI, N3.listed, N3.rSl, N3.rRev, N3.rEq, N3.rNe, N3.rIsN, N3.rNotN, N3.isNon, N3.vw, N3.mYes, N3.gT, N3.gsCons, N3.gsNil, N3.mFor, N3.mSeqs, N3.mLc, N3.mLcM, N3.mRng1, N3.mRng2, N3.mEnum, N3.mEnumA, N3.mZip, N3.wp, N3.rJoin, N3.rSS, N3.rIdxS, N3.rRepr, N3.flat, N3.flats, N3.toD, N3.toDs, List.length_cons, List.length_nil, List.append_eq, List.cons_append, List.nil_append, List.map_cons, List.map_nil, if_true, if_false, Bool.false_eq_true, decide_eq_true_eq, Option.some.injEq, true_and, and_true, Bool.not_true, Bool.not_false, reduceCtorEq, Bool.and_self, Bool.and_true, Bool.true_and, ite_true, ite_false]
  intro f hf
  subst hP
  refine seq_step fun P hP => ?_
  have ne : ∀ {x o}, h x = some o → x ≠ f := fun {x o} e z => by rw [z, hf] at e; cases e
  have wf := ne H.w
  have items : List.zipWith (fun k v => PV.tup [kP k, v]) (es.map sk) (es.map sr) = es.map fun e => PV.tup [.str e.k, .ref e.a] := by
    clear H q g ne wf
    induction es with
    | nil => rfl
    | cons e es ih => rw [List.map_cons, List.map_cons, List.map_cons, List.zipWith_cons_cons, ih]; rfl
  refine ⟨I.w, _, _, (up_ne wf).trans H.w, ?_⟩
  simp only [mFor, mItemsI, mFld, mVar, gt, up_ne H.n0, up_ne (ne H.o), H.o, sG_words, true_and, up_same, items]
  refine ⟨by rw [List.length_map]; have := H.ln; show _ ≤ 16777216; omega, ?_⟩
  refine forL_of (W := fun ps τ h4 => ∃ ds r v2 v3 v4, es = ds ++ r ∧ ps = r.map (fun e => PV.tup [.str e.k, .ref e.a]) ∧ h4 = N3.up (N3.up h f (.lst (dues I.others ds))) I.w (.lck (es.map sk) (es.map sr)) ∧ τ = [some (.ref I.sa), some (.ref f), v2, v3, v4, none] ∧ ndS [v2, v3, v4, none] = true) ?_ ?_ _ _ _ ⟨[], es, none, none, none, rfl, rfl, rfl, rfl, rfl⟩
  · rintro p ps τ h4 ⟨ds, r, v2, v3, v4, er, ee, rfl, rfl, -⟩
    obtain ⟨e, r, rfl⟩ : ∃ e r', r = e :: r' := by
      cases r with
      | nil => cases ee
      | cons e r => exact ⟨e, r, rfl⟩
    obtain ⟨rfl, rfl⟩ := List.cons.inj ee
    refine ⟨up_same, fun P' hP' => ?_⟩
    have he : e ∈ es := by rw [er]; simp
    have es_ : N3.up (N3.up h f (.lst (dues I.others ds))) I.w (.lck (es.map sk) (es.map sr)) I.sa = some (.ins C sfn [.tup (I.others.map PV.str), .int I.late, .ref I.w]) := by
      rw [up_ne H.n0, up_ne (ne H.o)]; exact H.o
    have ea : N3.up (N3.up h f (.lst (dues I.others ds))) I.w (.lck (es.map sk) (es.map sr)) e.a = some (so S e) := by
      rw [up_ne (show e.a ≠ I.w from fun z => H.n3 (by rw [← z]; exact List.mem_map_of_mem he)), up_ne (ne (H.e1 e he))]; exact H.e1 e he
    have ed : N3.up (N3.up h f (.lst (dues I.others ds))) I.w (.lck (es.map sk) (es.map sr)) e.d = some (sd e) := by
      rw [up_ne (show e.d ≠ I.w from fun z => H.n4 (by rw [← z]; exact List.mem_map_of_mem he)), up_ne (ne (H.e2 e he))]; exact H.e2 e he
    have ef : N3.up (N3.up h f (.lst (dues I.others ds))) I.w (.lck (es.map sk) (es.map sr)) f = some (.lst (dues I.others ds)) := by rw [up_ne wf.symm, up_same]
    generalize hh : N3.up (N3.up h f (.lst (dues I.others ds))) I.w (.lck (es.map sk) (es.map sr)) = h4 at es_ ea ed ef
    simp only [gT, gsCons, gsNil, gN, N3.st]
    refine ⟨rfl, trivial, ?_⟩
    refine seq_step fun P2 hP2 => ?_
    simp only [mAsg, mLc, mSeqs, mFld, mVar, gt, es_, sG_others, true_and]
    refine lcL_filter (c := fun p => match p with | .str o => !decide (o ∈ e.ns) | _ => false) (f := id) trivial _ _ (fun p hp P acc z => ?_) ?_
    · obtain ⟨o, ho, rfl⟩ := List.mem_map.mp hp
      simp only [mFld, rInD, N3.mDput, N3.mB, N3.mU, N3.mVar, N3.mC, N3.sp0, N3.gt, N3.st, N3.rIx, N3.seqL, N3.dctL, N3.kOf, N3.rAdd, N3.mAsg, N3.gN, N3.mIfS, N3.mTest, N3.mPop, N3.mAppend, N3.mDrop, N3.mRet, N3.mRetN, N3.mNx, N3.mBrk, N3.mCnt, N3.mLst, N3.mLstM, N3.mCons, N3.mNil, N3.mTup, N3.mBlt, N3.mKw, N3.cat2, N3.cat2r, N3.gS, N3.gL, N3.mSlM, N3.rSlM, N3.mM1, N3.mSl, N3.mRev, N3.mStep, N3.mRevM, N3.mPart, N3.mNoPart, N3.rII, N3.rII0, N3.rIB, N3.rCmp, N3.rLt, N3.rLe, N3.rGt, N3.rGe, N3.mIsI, N3.tn, N3.isI, N3.mDisp, N3.mDct0, N3.mDct0M, N3.mPar3, N3.mAug, N3.rIAdd, N3.mExtend, N3.mInsert, N3.mPopAt, N3.rMin2, N3.rMax2, N3.rIntT, N3.rSplit, N3.rSplitM, N3.rAddM, N3.gPut, N3.mFmt, N3.mJs, N3.mJoin, N3.rDictP, N3.mRepM, N3.rListA, N3.rSortA, N3.mLc2, N3.lcI, N3.lcO, N3.rAllB, N3.rAnyB, N3.rStrI, N3.rIntO, N3.vwL, N3.rMul, N3.rMulT, N3.rNeg, N3.rSub, N3.rDiv, N3.rMod, N3.rPow, N3.mPar, N3.mAndT, N3.mOrT, N3.mNotT, N3.mAnd, N3.mOr, N3.mOrV, N3.mAndV, N3.trv, N3.mNot, N3.mIf, N3.mChn, N3.mKeep, N3.mRep, N3.mDispM, N3.mPs, N3.ends, N3.rLen, N3.rListOf, N3.rListOfM, N3.rTupOf, N3.rSumI, N3.listed, N3.rSl, N3.rRev, N3.rEq, N3.rNe, N3.rIsN, N3.rNotN, N3.isNon, N3.vw, N3.mYes, N3.gT, N3.gsCons, N3.gsNil, N3.mFor, N3.mSeqs, N3.mLc, N3.mLcM, N3.mRng1, N3.mRng2, N3.mEnum, N3.mEnumA, N3.mZip, N3.wp, N3.rJoin, N3.rSS, N3.rIdxS, N3.rRepr, N3.flat, N3.flats, N3.toD, N3.toDs, List.length_cons, List.length_nil, List.append_eq, List.cons_append, List.nil_append, List.map_cons, List.map_nil, if_true, if_false, Bool.false_eq_true, decide_eq_true_eq, Option.some.injEq, true_and, and_true, Bool.not_true, Bool.not_false, reduceCtorEq, Bool.and_self, Bool.and_true, Bool.true_and, ite_true, ite_false, ea, so, dG_names, ed, sd, lk_names]
      cases hc : decide (o ∈ e.ns) with
      | true => simp only [hc] at z; simpa using z
      | false => simp only [hc] at z; simpa using z
    · have ef2 : ((I.others.map PV.str).filter fun p => match p with | .str o => !decide (o ∈ e.ns) | _ => false) = (dueL I.others e).map PV.str := by
        unfold dueL
        rw [List.filter_map]; rfl
      rw [ef2, List.map_id, List.nil_append]
      subst hP2
      simp only [mDrop, mExtend, mCons, mNil, mVar, gt, gN, N3.st]
      refine ⟨⟨_, _, rfl, ef⟩, ?_⟩
      simp only [mLc, mSeqs, mVar, gt, seqL]
      refine lcL_map (f := fun p => match p with | .str o => dueP e o | p => p) trivial _ _ (fun p hp P' z => ?_) ?_
      · obtain ⟨o, ho, rfl⟩ := List.mem_map.mp hp
        simp only [mFld, N3.mDput, N3.mB, N3.mU, N3.mVar, N3.mC, N3.sp0, N3.gt, N3.st, N3.rIx, N3.seqL, N3.dctL, N3.kOf, N3.rAdd, N3.mAsg, N3.gN, N3.mIfS, N3.mTest, N3.mPop, N3.mAppend, N3.mDrop, N3.mRet, N3.mRetN, N3.mNx, N3.mBrk, N3.mCnt, N3.mLst, N3.mLstM, N3.mCons, N3.mNil, N3.mTup, N3.mBlt, N3.mKw, N3.cat2, N3.cat2r, N3.gS, N3.gL, N3.mSlM, N3.rSlM, N3.mM1, N3.mSl, N3.mRev, N3.mStep, N3.mRevM, N3.mPart, N3.mNoPart, N3.rII, N3.rII0, N3.rIB, N3.rCmp, N3.rLt, N3.rLe, N3.rGt, N3.rGe, N3.mIsI, N3.tn, N3.isI, N3.mDisp, N3.mDct0, N3.mDct0M, N3.mPar3, N3.mAug, N3.rIAdd, N3.mExtend, N3.mInsert, N3.mPopAt, N3.rMin2, N3.rMax2, N3.rIntT, N3.rSplit, N3.rSplitM, N3.rAddM, N3.gPut, N3.mFmt, N3.mJs, N3.mJoin, N3.rDictP, N3.mRepM, N3.rListA, N3.rSortA, N3.mLc2, N3.lcI, N3.lcO, N3.rAllB, N3.rAnyB, N3.rStrI, N3.rIntO, N3.vwL, N3.rMul, N3.rMulT, N3.rNeg, N3.rSub, N3.rDiv, N3.rMod, N3.rPow, N3.mPar, N3.mAndT, N3.mOrT, N3.mNotT, N3.mAnd, N3.mOr, N3.mOrV, N3.mAndV, N3.trv, N3.mNot, N3.mIf, N3.mChn, N3.mKeep, N3.mRep, N3.mDispM, N3.mPs, N3.ends, N3.rLen, N3.rListOf, N3.rListOfM, N3.rTupOf, N3.rSumI, N3.listed, N3.rSl, N3.rRev, N3.rEq, N3.rNe, N3.rIsN, N3.rNotN, N3.isNon, N3.vw, N3.mYes, N3.gT, N3.gsCons, N3.gsNil, N3.mFor, N3.mSeqs, N3.mLc, N3.mLcM, N3.mRng1, N3.mRng2, N3.mEnum, N3.mEnumA, N3.mZip, N3.wp, N3.rJoin, N3.rSS, N3.rIdxS, N3.rRepr, N3.flat, N3.flats, N3.toD, N3.toDs, List.length_cons, List.length_nil, List.append_eq, List.cons_append, List.nil_append, List.map_cons, List.map_nil, if_true, if_false, Bool.false_eq_true, decide_eq_true_eq, Option.some.injEq, true_and, and_true, Bool.not_true, Bool.not_false, reduceCtorEq, Bool.and_self, Bool.and_true, Bool.true_and, ite_true, ite_false, ea, so, dG_turn, dG_word]
        exact z
      · rw [List.nil_append, List.map_map]
        simp only [ef]
        have dd : dues I.others (ds ++ [e]) = dues I.others ds ++ (dueL I.others e).map (dueP e) := by rw [dues_app]; unfold dues; simp
        refine ⟨?_, ?_⟩
        · have h1 := dues_len I.others (ds ++ [e])
          rw [dd, List.length_append, List.length_map] at h1
          rw [List.length_map]
          have h2 : (ds ++ [e]).length ≤ 1000 := by have := H.ln; rw [er, List.length_append, List.length_cons] at this; rw [List.length_append]; show _ + 1 ≤ 1000; omega
          have h3 := Nat.mul_le_mul h2 ol
          show _ ≤ 16777216; omega
        · refine hP' _ _ ⟨ds ++ [e], r, _, _, _, by rw [er, List.append_assoc]; rfl, rfl, ?_, rfl, ?_⟩
          · rw [← hh, up_swap wf, up_up, dd]; rfl
          · show (true && (true && (nds ((dueL I.others e).map PV.str) && true))) = true
            rw [nds_map fun _ _ => rfl]; rfl
  · rintro τ h4 ⟨ds, r, v2, v3, v4, er, ee, rfl, rfl, nv⟩
    cases r with
    | cons e r => cases ee
    | nil =>
      rw [List.append_nil] at er
      subst er
      have nd_all : nds (dues I.others es) = true := by
        obtain ⟨l, hl⟩ := dues_du I.others es
        rw [hl]; exact nds_map (f := duP) fun _ _ => rfl
      have G1 : Gd (N3.up h f (.lst (dues I.others es))) := g.up nd_all (fun _ _ e => by cases e)
      refine ⟨up_same, ⟨up_same, ?_, G1.lck.1, G1.lck.2⟩, ?_⟩
      · exact nv
      · subst hP
        rw [up_back ((up_ne wf).trans H.w)]
        simp only [rSortA, N3.mDput, N3.mB, N3.mU, N3.mVar, N3.mC, N3.sp0, N3.gt, N3.st, N3.rIx, N3.seqL, N3.dctL, N3.kOf, N3.rAdd, N3.mAsg, N3.gN, N3.mIfS, N3.mTest, N3.mPop, N3.mAppend, N3.mDrop, N3.mRet, N3.mRetN, N3.mNx, N3.mBrk, N3.mCnt, N3.mLst, N3.mLstM, N3.mCons, N3.mNil, N3.mTup, N3.mBlt, N3.mKw, N3.cat2, N3.cat2r, N3.gS, N3.gL, N3.mSlM, N3.rSlM, N3.mM1, N3.mSl, N3.mRev, N3.mStep, N3.mRevM, N3.mPart, N3.mNoPart, N3.rII, N3.rII0, N3.rIB, N3.rCmp, N3.rLt, N3.rLe, N3.rGt, N3.rGe, N3.mIsI, N3.tn, N3.isI, N3.mDisp, N3.mDct0, N3.mDct0M, N3.mPar3, N3.mAug, N3.rIAdd, N3.mExtend, N3.mInsert, N3.mPopAt, N3.rMin2, N3.rMax2, N3.rIntT, N3.rSplit, N3.rSplitM, N3.rAddM, N3.gPut, N3.mFmt, N3.mJs, N3.mJoin, N3.rDictP, N3.mRepM, N3.rListA, N3.rSortA, N3.mLc2, N3.lcI, N3.lcO, N3.rAllB, N3.rAnyB, N3.rStrI, N3.rIntO, N3.vwL, N3.rMul, N3.rMulT, N3.rNeg, N3.rSub, N3.rDiv, N3.rMod, N3.rPow, N3.mPar, N3.mAndT, N3.mOrT, N3.mNotT, N3.mAnd, N3.mOr, N3.mOrV, N3.mAndV, N3.trv, N3.mNot, N3.mIf, N3.mChn, N3.mKeep, N3.mRep, N3.mDispM, N3.mPs, N3.ends, N3.rLen, N3.rListOf, N3.rListOfM, N3.rTupOf, N3.rSumI, N3.listed, N3.rSl, N3.rRev, N3.rEq, N3.rNe, N3.rIsN, N3.rNotN, N3.isNon, N3.vw, N3.mYes, N3.gT, N3.gsCons, N3.gsNil, N3.mFor, N3.mSeqs, N3.mLc, N3.mLcM, N3.mRng1, N3.mRng2, N3.mEnum, N3.mEnumA, N3.mZip, N3.wp, N3.rJoin, N3.rSS, N3.rIdxS, N3.rRepr, N3.flat, N3.flats, N3.toD, N3.toDs, List.length_cons, List.length_nil, List.append_eq, List.cons_append, List.nil_append, List.map_cons, List.map_nil, if_true, if_false, Bool.false_eq_true, decide_eq_true_eq, Option.some.injEq, true_and, and_true, Bool.not_true, Bool.not_false, reduceCtorEq, Bool.and_self, Bool.and_true, Bool.true_and, ite_true, ite_false, listed, seqL, up_same, flat_due]
        exact ⟨srtb_due I.others es, q _ G1 fun y hy => up_ne fun z => hy (by rw [z]; exact hf)⟩
end Wneversaid_k41_words_said

namespace Wneversaid_k41_words_said
open PySem PySem.Spec PyProof.Rows L2 N3
/-! ### sorted data: one list, in whatever order it came -/
mutual
theorem eqv_alike : ∀ x y : PyData, PySem.W.alike x y = true → PyData.eqv x y = true → x = y
  | .none, y, h, _ => by
    cases y with
    | none => rfl
    | _ => simp [PySem.W.alike] at h
  | .bool a, y, h, e => by
    cases y with
    | bool b => simp [PyData.eqv] at e; rw [e]
    | _ => simp [PySem.W.alike] at h
  | .int a, y, h, e => by
    cases y with
    | int b => simp [PyData.eqv] at e; rw [e]
    | _ => simp [PySem.W.alike] at h
  | .str a, y, h, e => by
    cases y with
    | str b => simp [PyData.eqv] at e; rw [e]
    | _ => simp [PySem.W.alike] at h
  | .list xs, y, h, e => by
    cases y with
    | list ys => rw [eqvs_alike xs ys (by simpa [PySem.W.alike] using h) (by simpa [PyData.eqv] using e)]
    | _ => simp [PySem.W.alike] at h
  | .tuple xs, y, h, e => by
    cases y with
    | tuple ys => rw [eqvs_alike xs ys (by simpa [PySem.W.alike] using h) (by simpa [PyData.eqv] using e)]
    | _ => simp [PySem.W.alike] at h
  | .dict _, y, h, _ => by cases y <;> simp [PySem.W.alike] at h
theorem eqvs_alike : ∀ xs ys : List PyData, PySem.W.alikeAll xs ys = true → PyData.eqvAll xs ys = true → xs = ys
  | [], [], _, _ => rfl
  | [], y :: ys, _, e => by simp [PyData.eqvAll] at e
  | x :: xs, [], _, e => by simp [PyData.eqvAll] at e
  | x :: xs, y :: ys, h, e => by
    have h := PySem.W.alike_all_cons h
    rw [PySem.W.eqv_all_cons, Bool.and_eq_true] at e
    rw [eqv_alike x y h.1 e.1, eqvs_alike xs ys h.2 e.2]
end
mutual
theorem toD_inj : ∀ p q : PV, flat p = true → flat q = true → toD p = toD q → p = q
  | .non, q, _, g, e => by cases q <;> simp [toD, flat] at e g ⊢
  | .bl b, q, _, g, e => by cases q <;> simp_all [toD, flat]
  | .int b, q, _, g, e => by cases q <;> simp_all [toD, flat]
  | .str b, q, _, g, e => by cases q <;> simp_all [toD, flat]
  | .tup ps, q, f, g, e => by
    cases q with
    | tup qs => rw [toDs_inj ps qs (by simpa [flat] using f) (by simpa [flat] using g) (by simpa [toD] using e)]
    | _ => simp [toD, flat] at e g
  | .lst ps, q, f, g, e => by
    cases q with
    | lst qs => rw [toDs_inj ps qs (by simpa [flat] using f) (by simpa [flat] using g) (by simpa [toD] using e)]
    | _ => simp [toD, flat] at e g
  | .dct _ _, _, f, _, _ => by simp [flat] at f
  | .ref _, _, f, _, _ => by simp [flat] at f
  | .ty _, _, f, _, _ => by simp [flat] at f
theorem toDs_inj : ∀ ps qs : List PV, flats ps = true → flats qs = true → toDs ps = toDs qs → ps = qs
  | [], [], _, _, _ => rfl
  | [], _ :: _, _, _, e => by simp [toDs] at e
  | _ :: _, [], _, _, e => by simp [toDs] at e
  | p :: ps, q :: qs, f, g, e => by
    simp only [flats, Bool.and_eq_true] at f g
    simp only [toDs, List.cons.injEq] at e
    rw [toD_inj p q f.1 g.1 e.1, toDs_inj ps qs f.2 g.2 e.2]
end
abbrev leD : PV → PV → Bool := PySem.W.dataLe false toD
theorem leD_total : PySem.W.TotalLe leD := PySem.W.sortLe_total _ false _
theorem alike_same {x y : PyData} (al : PySem.W.alike x y = true) (h1 : PySem.W.dataLt x y = false) (h2 : PySem.W.dataLt y x = false) : x = y := by
  have e : PySem.W.keyToks x = PySem.W.keyToks y := PyProof.Rows.lex_total _ _ h1 h2
  refine eqv_alike x y al ?_
  cases q : PyData.eqv x y with
  | true => rfl
  | false =>
    have t := (PySem.W.toks_eqv x y al).2 q [.inl 0] [.inl 1]
    rw [e, PySem.W.lex_pre] at t
    rw [show PyProof.Rows.lexLt PyProof.Rows.itemOrd (PySem.W.keyToks y) (PySem.W.keyToks y) = false from PyProof.Rows.lex_irrefl _] at t
    rw [PyProof.Rows.lex_diff (O := PyProof.Rows.itemOrd) (by simp)] at t
    exact absurd t (by decide)
theorem flats_mem : ∀ {ps : List PV} {p : PV}, flats ps = true → p ∈ ps → flat p = true
  | q :: ps, p, f, h => by
    simp only [flats, Bool.and_eq_true] at f
    rcases List.mem_cons.mp h with rfl | h
    · exact f.1
    · exact flats_mem f.2 h
theorem leD_same {a : List PV} (f : flats a = true) (al : PySem.W.AllAlike (a.map toD)) {x y : PV} (hx : x ∈ a) (hy : y ∈ a) (h1 : leD x y = true) (h2 : leD y x = true) : x = y := by
  have e1 : PySem.W.dataLt (toD y) (toD x) = false := by simpa [leD, PySem.W.dataLe_eq] using h1
  have e2 : PySem.W.dataLt (toD x) (toD y) = false := by simpa [leD, PySem.W.dataLe_eq] using h2
  exact toD_inj x y (flats_mem f hx) (flats_mem f hy) (alike_same (al _ (List.mem_map_of_mem hx) _ (List.mem_map_of_mem hy)) e2 e1)
theorem sort1 {a b : List PV} (p : a.Perm b) (f : flats a = true) (al : PySem.W.AllAlike (a.map toD)) : a.mergeSort leD = b.mergeSort leD :=
  perm_one (le := fun a b => leD a b = true) (((List.mergeSort_perm a leD).trans p).trans (List.mergeSort_perm b leD).symm) (PySem.W.sort_pairwise leD_total _) (PySem.W.sort_pairwise leD_total _)
    fun _ hx _ hy h1 h2 => leD_same f al ((List.mergeSort_perm a leD).mem_iff.mp hx) ((List.mergeSort_perm a leD).mem_iff.mp hy) h1 h2
/-- what a map's permutation is a map of -/
theorem perm_map_ex {α β : Type} {f : α → β} {l : List β} {es : List α} (p : l.Perm (es.map f)) : ∃ fs : List α, fs.Perm es ∧ l = fs.map f := by
  generalize e : es.map f = m at p
  induction p generalizing es with
  | nil => exact ⟨[], by rw [List.map_eq_nil_iff.mp e], rfl⟩
  | cons x _ ih =>
    cases es with
    | nil => cases e
    | cons a es =>
      obtain ⟨rfl, e2⟩ := List.cons.inj e
      obtain ⟨fs, p, rfl⟩ := ih e2
      exact ⟨a :: fs, p.cons a, rfl⟩
  | swap x y l =>
    match es, e with
    | a :: b :: es, e =>
      obtain ⟨rfl, e2⟩ := List.cons.inj e
      obtain ⟨rfl, rfl⟩ := List.cons.inj e2
      exact ⟨b :: a :: es, List.Perm.swap _ _ _, rfl⟩
  | trans _ _ ih1 ih2 =>
    obtain ⟨fs, p, e1⟩ := ih2 e
    obtain ⟨gs, p2, e2⟩ := ih1 e1.symm
    exact ⟨gs, p2.trans p, e2⟩
/-! ### the deck, by its two objects -/
def DO (D : Dk) (n : Nat) (h : PH) : Prop := ∃ (xs : List Int) (gone : Int), xs.length ≤ 63 ∧ 0 ≤ gone ∧ gone ≤ n ∧ h D.d = some (.lst [.ref D.l, .int D.ev, .int gone]) ∧ h D.l = some (.lst (xs.map PV.int))
theorem nds_ints (xs : List Int) : nds (xs.map PV.int) = true := nds_map fun _ _ => rfl
theorem DO.at {D : Dk} {n : Nat} {h : PH} (d : DO D n h) : Dk.At { D with h0 := h } n h := by
  obtain ⟨xs, g, h1, h2, h3, e1, e2⟩ := d
  refine ⟨xs, g, h1, h2, h3, ?_⟩
  unfold Dk.hp
  dsimp only
  funext b
  unfold N3.up
  split
  · rename_i q; rw [q]; exact e2
  · split
    · rename_i q; rw [q]; exact e1
    · rfl
theorem DO.of {D : Dk} {n : Nat} {h : PH} (a : D.At n h) : DO D n h := by
  obtain ⟨xs, g, h1, h2, h3, rfl⟩ := a
  exact ⟨xs, g, h1, h2, h3, Dk.at_d, Dk.at_l⟩
theorem at_out {D : Dk} {n : Nat} {h : PH} (a : D.At n h) {x : Addr} (n1 : x ≠ D.d) (n2 : x ≠ D.l) : h x = D.h0 x := a.rd n1 n2
theorem at_gd {D : Dk} {n : Nat} {h : PH} (a : D.At n h) (g : Gd D.h0) : Gd h := by
  obtain ⟨xs, g', h1, h2, h3, rfl⟩ := a
  unfold Dk.hp
  exact (g.up rfl (fun _ _ e => by cases e)).up (nds_ints xs) (fun _ _ e => by cases e)
theorem draw_do {D : Dk} {n : Nat} {h : PH} {Q : PK} {many : Int} (d : DO D n h) (g : Gd h) (hn : n < 900000000) (h1 : 1 ≤ many) (h2 : many < 1073741824)
    (k : ∀ r h', 0 ≤ r → r < many → DO D (n + 1) h' → Gd h' → (∀ x, x ≠ D.d → x ≠ D.l → h' x = h x) → Q (.int r) h') : spDraw [.ref D.d, .int many] h Q :=
  draw_to (D := { D with h0 := h }) d.at hn h1 h2 fun r h' r0 r1 a => k r h' r0 r1 (by have := DO.of a; exact this) (at_gd a g) fun x n1 n2 => a.rd n1 n2
theorem pick_do {D : Dk} {n : Nat} {h : PH} {Q : PK} {xs : List PV} (d : DO D n h) (g : Gd h) (hn : n < 900000000) (h1 : xs ≠ []) (h2 : xs.length ≤ 100000)
    (k : ∀ v ∈ xs, ∀ h', DO D (n + 1) h' → Gd h' → (∀ x, x ≠ D.d → x ≠ D.l → h' x = h x) → Q v h') : spPick [.ref D.d, .lst xs] h Q :=
  pick_lst (D := { D with h0 := h }) d.at hn h1 h2 fun v hv h' a => k v hv h' (by have := DO.of a; exact this) (at_gd a g) fun x n1 n2 => a.rd n1 n2
theorem DO.mono {D : Dk} {n m : Nat} {h : PH} (d : DO D n h) (hm : n ≤ m) : DO D m h := by
  obtain ⟨xs, g, h1, h2, h3, e⟩ := d
  exact ⟨xs, g, h1, h2, by omega, e⟩
theorem DO.keep {D : Dk} {n : Nat} {h h' : PH} (d : DO D n h) (e1 : h' D.d = h D.d) (e2 : h' D.l = h D.l) : DO D n h' := by
  obtain ⟨xs, g, h1, h2, h3, e, f⟩ := d
  exact ⟨xs, g, h1, h2, h3, e1.trans e, e2.trans f⟩
theorem DO.ne {D : Dk} {n : Nat} {h : PH} {x : Addr} (d : DO D n h) (e : h x = none) : x ≠ D.d ∧ x ≠ D.l := by
  obtain ⟨xs, g, h1, h2, h3, e1, e2⟩ := d
  exact ⟨fun z => (by rw [z, e1] at e; cases e), fun z => (by rw [z, e2] at e; cases e)⟩
theorem DO.live {D : Dk} {n : Nat} {h : PH} (d : DO D n h) : h D.d ≠ none ∧ h D.l ≠ none := by
  obtain ⟨xs, g, h1, h2, h3, e1, e2⟩ := d
  exact ⟨by rw [e1]; simp, by rw [e2]; simp⟩
/-! ### names, drawn -/
theorem leD_str (a b : Str) : leD (.str a) (.str b) = decide (a.cps.toList ≤ b.cps.toList) := by
  show (!PySem.W.dataLt (.str b) (.str a)) = _
  rw [PySem.W.dataLt_str, PySem.W.not_lt_str]
structure NmOk (os : List Str) : Prop where
  n : os.length ≤ 4
  nd : os.Nodup
  s : os.Pairwise leS
  t : ∀ o ∈ os, ∃ l : List Nat, o = S l ∧ l.length ≤ 7 ∧ ∀ c ∈ l, 97 ≤ c ∧ c < 123
/-- sorted texts are texts, sorted -/
theorem sort_strs (os : List Str) : ∃ ys : List Str, ys.Perm os ∧ ys.Pairwise leS ∧ (os.map PV.str).mergeSort leD = ys.map PV.str := by
  obtain ⟨ys, p, e⟩ := perm_map_ex (List.mergeSort_perm (os.map PV.str) leD)
  refine ⟨ys, p, ?_, e⟩
  have h := PySem.W.sort_pairwise leD_total (os.map PV.str)
  rw [e, List.pairwise_map] at h
  exact h.imp fun {a b} h => by
    rw [leD_str, decide_eq_true_eq] at h
    exact h
theorem flats_strs (os : List Str) : flats (os.map PV.str) = true := flats_of fun p hp => by
  obtain ⟨y, -, rfl⟩ := List.mem_map.mp hp
  rfl
theorem srtb_strs (os : List Str) : Srtb ((os.map PV.str).map toD) := by
  rw [List.map_map]
  refine ⟨PySem.W.AllAlike.of fun a b => by simp [toD, PySem.W.alike], PySem.W.Sortable.others fun b => ⟨by simp [toD], fun xs => by simp [toD]⟩, fun b hb => ?_, fun b hb => ?_⟩ <;> obtain ⟨r, -, rfl⟩ := List.mem_map.mp hb
  · rfl
  · simp [toD, PyData.depth]
abbrev abcT : Str := "abcdefghijklmnopqrstuvwxyz"
theorem cl_abc : cl abcT = (List.range 26).map (97 + ·) := by decide +kernel
theorem abc_ix {r : Int} {h : PH} {Q : PK} (h0 : 0 ≤ r) (h1 : r < 26) (q : Q (.str (S [97 + r.toNat])) h) : N3.rIx (.str abcT) (.int r) h Q := by
  refine ⟨by rw [cl_length, cl_abc]; decide, ?_⟩
  have e : atI (cl abcT) r = some (97 + r.toNat) := by
    rw [cl_abc]
    unfold atI ixN
    rw [List.length_map, List.length_range, if_pos h0, if_pos (by omega)]
    show ((List.range 26).map (97 + ·))[r.toNat]? = _
    rw [List.getElem?_map, List.getElem?_range (by omega)]; rfl
  rw [e]
  exact q
def sg (at_ : Int) (i : Nat) : Nat := 97 + ((at_ + 7 * (i : Int)) % 26).toNat
def nm (way at_ : Int) (st : List Nat) (i : Nat) : List Nat := if way = 0 then [sg at_ i] else if way = 1 then cut st none (some (1 + at_ % 5)) ++ [sg at_ i] else sg at_ i :: cut st none (some ((i : Int) % 6))
theorem sg_inj {a : Int} {i j : Nat} (hi : i < 4) (hj : j < 4) (e : sg a i = sg a j) : i = j := by
  unfold sg at e
  omega
theorem nm_inj {way a : Int} {st : List Nat} {i j : Nat} (hi : i < 4) (hj : j < 4) (e : nm way a st i = nm way a st j) : i = j := by
  unfold nm at e
  split at e
  · exact sg_inj hi hj (List.cons.inj e).1
  · split at e
    · exact sg_inj hi hj (List.cons.inj (List.append_cancel_left e)).1
    · exact sg_inj hi hj (List.cons.inj e).1
theorem sg_lo (a : Int) (i : Nat) : 97 ≤ sg a i ∧ sg a i < 123 := by
  unfold sg; omega
theorem nm_ok {way a : Int} {st : List Nat} (h : st.length = 5) (hs : ∀ c ∈ st, 97 ≤ c ∧ c < 123) (i : Nat) : (nm way a st i).length ≤ 7 ∧ ∀ c ∈ nm way a st i, 97 ≤ c ∧ c < 123 := by
  have cl_ : ∀ (x : Option Int) c, c ∈ cut st none x → 97 ≤ c ∧ c < 123 := fun x c hc => hs c (mem_cut hc)
  have ln : ∀ x : Option Int, (cut st none x).length ≤ 5 := fun x => by have := cut_length st none x; omega
  unfold nm
  split
  · exact ⟨by simp, fun c hc => by rw [List.mem_singleton] at hc; subst hc; exact sg_lo _ _⟩
  · split
    · refine ⟨by rw [List.length_append]; have := ln (some (1 + a % 5)); show _ + 1 ≤ 7; omega, fun c hc => ?_⟩
      rcases List.mem_append.mp hc with z | z
      · exact cl_ _ c z
      · rw [List.mem_singleton] at z; subst z; exact sg_lo _ _
    · refine ⟨by rw [List.length_cons]; have := ln (some ((i : Int) % 6)); omega, fun c hc => ?_⟩
      rcases List.mem_cons.mp hc with z | z
      · subst z; exact sg_lo _ _
      · exact cl_ _ c z
def spNames : SpP := fun ps h Q => ∃ (D : Dk) (n : Nat) (many : Int), ps = [.ref D.d, .int many] ∧ DO D n h ∧ Gd h ∧ n < 700000000 ∧ 0 ≤ many ∧ many ≤ 4 ∧
  ∀ os h', NmOk os → DO D (n + 7) h' → Gd h' → (∀ x, h x ≠ none → x ≠ D.d → x ≠ D.l → h' x = h x) → Q (.tup (os.map PV.str)) h'
theorem pure_law_names : ∀ qs h Q, qs.length = 2 → spNames qs h Q → m_law_names spDraw (ends Q) (sp0 9 qs) h := by
  rintro _ h Q - ⟨D, n, many, rfl, d, g, hn, m0, m1, q⟩
  unfold m_law_names
  refine seq_step fun P hP => ?_
  simp only [mAsg, mTup, mCons, mNil, mBlt, mVar, mC, gt, N3.sp0, gT, gsCons, gsNil, gN, N3.st]
  refine draw_do d g (by omega) (by decide) (by decide) fun way h1 w0 w1 d1 g1 o1 => ?_
  refine draw_do d1 g1 (by omega) (by decide) (by decide) fun at_ h2 a0 a1 d2 g2 o2 => ?_
  refine ⟨rfl, trivial, ?_⟩
  have o12 : ∀ x, x ≠ D.d → x ≠ D.l → h2 x = h x := fun x x1 x2 => (o2 x x1 x2).trans (o1 x x1 x2)
  clear o1 o2 d1 g1
  subst hP
  refine seq_step fun P hP => ?_
  simp only [mAsg, mM1, mCons, mNil, mLc, mRng1, mC, mVar, gt, gN, N3.st, N3.wp, mB, mBlt]
  refine ⟨⟨_, rfl⟩, ⟨by decide, by decide⟩, ?_⟩
  refine lcL_of (W := fun ps acc h' => (∀ z ∈ acc, ∃ c, (97 ≤ c ∧ c < 123) ∧ z = .str (S [c])) ∧ acc.length + ps.length = 5 ∧ DO D (n + 2 + acc.length) h' ∧ Gd h' ∧ (∀ x, x ≠ D.d → x ≠ D.l → h' x = h x)) ?_ ?_ _ _ _ ⟨fun _ z => (List.not_mem_nil z).elim, rfl, d2, g2, o12⟩
  · rintro p ps acc h' ⟨za, zl, d3, g3, o3⟩
    refine ⟨trivial, fun P' hP' => ?_⟩
    rw [List.length_cons] at zl
    simp only [mYes, if_true, mB, mVar, mBlt, mCons, mNil, mC, gt, gN, N3.st]
    refine draw_do d3 g3 (by omega) (by decide) (by decide) fun r h4 r0 r1 d4 g4 o4 => ?_
    refine abc_ix r0 r1 ?_
    refine hP' _ _ ⟨fun z hz => ?_, by rw [List.length_append]; show _ + 1 + _ = 5; omega, by rw [List.length_append]; exact d4, g4, fun x x1 x2 => (o4 x x1 x2).trans (o3 x x1 x2)⟩
    rcases List.mem_append.mp hz with hz | hz
    · exact za z hz
    · rw [List.mem_singleton] at hz
      exact ⟨_, by omega, hz⟩
  · rintro acc h3 ⟨za, zl, d3, g3, o3⟩
    refine ⟨trivial, ?_⟩
    have zl : acc.length = 5 := by simpa using zl
    rw [zl] at d3
    obtain ⟨st, rfl, hst, lst⟩ := signs_of (fun c => 97 ≤ c ∧ c < 123) acc za
    rw [zl] at lst
    refine ⟨_, rfl, ?_, ?_⟩
    · rw [sum_ones, lst, List.length_map, show ("" : Str).length = 0 from rfl, lst]; show 5 + 5 * 0 ≤ 16777216; decide
    · rw [show cl ("" : Str) = [] from rfl, joinL_nil, flat_ones]
      subst hP
      refine seq_step fun P hP => ?_
      simp only [N3.mDput, N3.mB, N3.mU, N3.mVar, N3.mC, N3.sp0, N3.gt, N3.st, N3.rIx, N3.seqL, N3.dctL, N3.kOf, N3.rAdd, N3.mAsg, N3.gN, N3.mIfS, N3.mTest, N3.mPop, N3.mAppend, N3.mDrop, N3.mRet, N3.mRetN, N3.mNx, N3.mBrk, N3.mCnt, N3.mLst, N3.mLstM, N3.mCons, N3.mNil, N3.mTup, N3.mBlt, N3.mKw, N3.cat2, N3.cat2r, N3.gS, N3.gL, N3.mSlM, N3.rSlM, N3.mM1, N3.mSl, N3.mRev, N3.mStep, N3.mRevM, N3.mPart, N3.mNoPart, N3.rII, N3.rII0, N3.rIB, N3.rCmp, N3.rLt, N3.rLe, N3.rGt, N3.rGe, N3.mIsI, N3.tn, N3.isI, N3.mDisp, N3.mDct0, N3.mDct0M, N3.mPar3, N3.mAug, N3.rIAdd, N3.mExtend, N3.mInsert, N3.mPopAt, N3.rMin2, N3.rMax2, N3.rIntT, N3.rSplit, N3.rSplitM, N3.rAddM, N3.gPut, N3.mFmt, N3.mJs, N3.mJoin, N3.rDictP, N3.mRepM, N3.rListA, N3.rSortA, N3.mLc2, N3.lcI, N3.lcO, N3.rAllB, N3.rAnyB, N3.rStrI, N3.rIntO, N3.vwL, N3.rMul, N3.rMulT, N3.rNeg, N3.rSub, N3.rDiv, N3.rMod, N3.rPow, N3.mPar, N3.mAndT, N3.mOrT, N3.mNotT, N3.mAnd, N3.mOr, N3.mOrV, N3.mAndV, N3.trv, N3.mNot, N3.mIf, N3.mChn, N3.mKeep, N3.mRep, N3.mDispM, N3.mPs, N3.ends, N3.rLen, N3.rListOf, N3.rListOfM, N3.rTupOf, N3.rSumI, N3.listed, N3.rSl, N3.rRev, N3.rEq, N3.rNe, N3.rIsN, N3.rNotN, N3.isNon, N3.vw, N3.mYes, N3.gT, N3.gsCons, N3.gsNil, N3.mFor, N3.mSeqs, N3.mLc, N3.mLcM, N3.mRng1, N3.mRng2, N3.mEnum, N3.mEnumA, N3.mZip, N3.wp, N3.rJoin, N3.rSS, N3.rIdxS, N3.rRepr, N3.flat, N3.flats, N3.toD, N3.toDs, List.length_cons, List.length_nil, List.append_eq, List.cons_append, List.nil_append, List.map_cons, List.map_nil, if_true, if_false, Bool.false_eq_true, decide_eq_true_eq, Option.some.injEq, true_and, and_true, Bool.not_true, Bool.not_false, reduceCtorEq, Bool.and_self, Bool.and_true, Bool.true_and, ite_true, ite_false]
      intro a ha
      have ad := d3.ne ha
      subst hP
      refine seq_step fun P hP => ?_
      simp only [mFor, mRng1, mCons, mVar, gt, mNil, gN, N3.st]
      refine ⟨⟨by omega, by omega⟩, ?_⟩
      refine forL_of (W := fun ps τ h' => ∃ (j k : Nat) (v7 v8 : Option PV), j + k = many.toNat ∧ ps = (List.range' j k).map (fun i : Nat => PV.int (0 + (i : Int))) ∧ h' = N3.up h3 a (.lst ((List.range j).map fun i => .str (S (nm way at_ st i)))) ∧
        τ = [some (.ref D.d), some (.int many), some (.str abcT), some (.int way), some (.int at_), some (.str (S st)), some (.ref a), v7, v8]) ?_ ?_ _ _ _ ⟨0, many.toNat, none, none, by omega, by unfold rng; rw [List.range_eq_range'], rfl, rfl⟩
      · rintro p ps τ h' ⟨j, k, v7, v8, jk, ee, rfl, rfl⟩
        obtain ⟨k, rfl⟩ : ∃ k', k = k' + 1 := by
          cases k with
          | zero => cases ee
          | succ k => exact ⟨k, rfl⟩
        rw [List.range'_succ, List.map_cons] at ee
        obtain ⟨rfl, rfl⟩ := List.cons.inj ee
        refine ⟨trivial, fun P' hP' => ?_⟩
        refine seq_step fun P2 hP2 => ?_
        simp only [mAsg, mB, mVar, mC, gt, gN, N3.st, N3.rMul, N3.rAdd, N3.rMod, N3.rII]
        refine ⟨.inl (by decide), by decide, ?_⟩
        have e0 := Int.emod_nonneg (at_ + 7 * (0 + (j : Int))) (by decide : (26 : Int) ≠ 0)
        have e1 := Int.emod_lt_of_pos (at_ + 7 * (0 + (j : Int))) (by decide : (0 : Int) < 26)
        refine abc_ix e0 e1 ?_
        have es : 97 + ((at_ + 7 * (0 + (j : Int))) % 26).toNat = sg at_ j := by unfold sg; rw [Int.zero_add]
        rw [es]
        subst hP2
        simp only [mDrop, mAppend, mCons, mNil, mLst, mVar, gt, mB, mSl, mNoPart, mPart, mC, N3.rSl, N3.rAdd, N3.rMod, N3.rII, cl_S, S_append, S_length]
        have c1 := cut_length st none (some (1 + at_ % 5))
        have c2 := cut_length st none (some ((0 + (j : Int)) % 6))
        refine ⟨⟨_, _, rfl, up_same⟩, by decide, by rw [lst]; decide, ?_, by decide, by rw [lst]; decide, ?_, ?_⟩
        · show _ + 1 ≤ 16777216; omega
        · show 1 + _ ≤ 16777216; omega
        · have go : PV.str (S (nm way at_ st j)) = (if way = 0 then PV.str (S [sg at_ j]) else if way = 1 then PV.str (S (cut st none (some (1 + at_ % 5)) ++ [sg at_ j])) else PV.str (S ([sg at_ j] ++ cut st none (some ((0 + (j : Int)) % 6))))) := by
            unfold nm
            split
            · rfl
            · split
              · rfl
              · rw [Int.zero_add]; rfl
          have fin : ∀ v : PV, v = PV.str (S (nm way at_ st j)) → (match (PV.ref a), [v] with
            | .ref a_1, [q] => (match N3.up h3 a (.lst ((List.range j).map fun i => .str (S (nm way at_ st i)))) a_1 with | some (.lst xs) => xs.length < SZ ∧ P' [some (.ref D.d), some (.int many), some (.str abcT), some (.int way), some (.int at_), some (.str (S st)), some (.ref a), some (.int (0 + (j : Int))), some (.str (S [sg at_ j]))] (N3.up (N3.up h3 a (.lst ((List.range j).map fun i => .str (S (nm way at_ st i))))) a_1 (.lst (xs ++ [q]))) | _ => False)
            | _, _ => False) := by
            rintro v rfl
            simp only [up_same]
            refine ⟨by rw [List.length_map, List.length_range]; show j < 16777216; omega, ?_⟩
            rw [up_up]
            refine hP' _ _ ⟨j + 1, k, _, _, by omega, rfl, ?_, rfl⟩
            rw [List.range_succ, List.map_append]; rfl
          rcases (show way = 0 ∨ way = 1 ∨ way = 2 by omega) with rfl | rfl | rfl
          · exact fin _ (by rw [go]; rfl)
          · exact fin _ (by rw [go]; rfl)
          · exact fin _ (by rw [go]; rfl)
      · rintro τ h' ⟨j, k, v7, v8, jk, ee, rfl, rfl⟩
        refine ⟨trivial, ?_⟩
        have : k = 0 := by
          cases k with
          | zero => rfl
          | succ k => rw [List.range'_succ] at ee; cases ee
        subst this
        subst hP
        have ns_ : (List.range j).map (fun i => PV.str (S (nm way at_ st i))) = ((List.range j).map fun i => S (nm way at_ st i)).map PV.str := by rw [List.map_map]; rfl
        simp only [mRet, mBlt, mCons, mNil, mVar, gt, N3.rSortA, N3.listed, seqL, up_same, N3.rTupOf]
        rw [ns_]
        refine ⟨flats_strs _, srtb_strs _, ?_⟩
        obtain ⟨os, p, so_, e⟩ := sort_strs ((List.range j).map fun i => S (nm way at_ st i))
        have j3 : j ≤ 4 := by omega
        have e : (((List.range j).map fun i => S (nm way at_ st i)).map PV.str).mergeSort (PySem.W.dataLe false toD) = os.map PV.str := e
        rw [e]
        refine q os _ ⟨?_, ?_, so_, fun o ho => ?_⟩ ((d3.mono (by omega)).keep (up_ne ad.1.symm) (up_ne ad.2.symm)) (g3.up (nds_map (f := PV.str) fun _ _ => rfl) (fun _ _ e => by cases e)) (fun x hx x1 x2 => ?_)
        · rw [p.length_eq, List.length_map, List.length_range]; exact j3
        · refine p.nodup_iff.mpr ?_
          refine List.pairwise_map.mpr (List.Pairwise.imp_of_mem (R := (· ≠ ·)) (fun {i i'} hi hi' ne z => ne ?_) List.nodup_range)
          rw [List.mem_range] at hi hi'
          exact nm_inj (by omega) (by omega) (by have := congrArg cl z; rwa [cl_S, cl_S] at this)
        · obtain ⟨i, hi, rfl⟩ := List.mem_map.mp (p.mem_iff.mp ho)
          exact ⟨_, rfl, nm_ok lst hst i⟩
        · have xa : x ≠ a := fun z => by
            have : h3 x = h x := o3 x x1 x2
            rw [z, ha] at this
            exact hx (by rw [z, ← this])
          rw [up_ne xa]; exact o3 x x1 x2
end Wneversaid_k41_words_said

namespace Wneversaid_k41_words_said
open PySem PySem.Spec PyProof.Rows L2 N3
theorem lock_e {m : ME} {τ : PSt} {h : PH} {Q : PK} {a : Addr} {ks : List Key} {vs : List PV} (g : Gd h) (e : h a = some (.dct ks vs)) (p : PV) (np : nd p = true) (hm : ∀ P : PK, P p (up h a (.lck ks vs)) → m τ (up h a (.lck ks vs)) P) (q : Q p h) : mLockE m τ h Q :=
  ⟨a, ks, vs, e, hm _ ⟨⟨up_same, np, g.lck.1, g.lck.2⟩, by rw [up_back e]; exact q⟩⟩
theorem lock_n {m : ME} {τ : PSt} {h : PH} {Q : PK} {a : Addr} {ks : List Key} {vs : List PV} {o : PO} (g : Gd h) (e : h a = some (.dct ks vs)) (no : ndO o = true) (nl : ∀ ks vs, o ≠ .lck ks vs) (hm : ∀ P : PK, (∀ b, up h a (.lck ks vs) b = none → P (.ref b) (up (up h a (.lck ks vs)) b o)) → m τ (up h a (.lck ks vs)) P) (q : ∀ b, h b = none → Q (.ref b) (up h b o)) : mLockE m τ h Q := by
  refine ⟨a, ks, vs, e, hm _ fun b hb => ?_⟩
  have nb : b ≠ a := fun z => by rw [z, up_same] at hb; cases hb
  refine ⟨⟨by rw [up_ne nb.symm, up_same], rfl, fun c u z => ?_, fun c ks' vs' z => ?_⟩, ?_⟩
  · by_cases hc : c = b
    · rw [hc, up_same] at z; cases z; exact no
    · rw [up_ne hc] at z; exact g.lck.1 c u z
  · by_cases hc : c = b
    · rw [hc, up_same] at z; exact (nl _ _ (Option.some.inj z)).elim
    · rw [up_ne hc] at z; exact g.lck.2 c _ _ z
  · rw [up_swap nb, up_back e]
    rw [up_ne nb] at hb
    exact q b hb
def sfp (I : Se) (es : List Sa) : List Addr := I.sa :: I.w :: (es.map Sa.a ++ es.map Sa.d)
theorem SO.mono {C S : Addr} {I : Se} {es : List Sa} {h h' : PH} (H : SO C S I es h) (e : ∀ x ∈ sfp I es, h' x = h x) : SO C S I es h' := by
  have m : ∀ {x o}, x ∈ sfp I es → h x = some o → h' x = some o := fun {x o} hx z => (e x hx).trans z
  refine ⟨m (by simp [sfp]) H.o, m (by simp [sfp]) H.w, fun x hx => m ?_ (H.e1 x hx), fun x hx => m ?_ (H.e2 x hx), H.n0, H.n1, H.n2, H.n3, H.n4, H.na, H.nb, H.nx, H.nk, H.nn, H.nl, H.ln⟩
  · exact List.mem_cons_of_mem _ (List.mem_cons_of_mem _ (List.mem_append_left _ (List.mem_map_of_mem hx)))
  · exact List.mem_cons_of_mem _ (List.mem_cons_of_mem _ (List.mem_append_right _ (List.mem_map_of_mem hx)))
theorem SO.live {C S : Addr} {I : Se} {es : List Sa} {h : PH} (H : SO C S I es h) {x : Addr} (hx : x ∈ sfp I es) : h x ≠ none := by
  simp only [sfp, List.mem_cons, List.mem_append, List.mem_map] at hx
  rcases hx with rfl | rfl | ⟨e, he, rfl⟩ | ⟨e, he, rfl⟩
  · rw [H.o]; simp
  · rw [H.w]; simp
  · rw [H.e1 e he]; simp
  · rw [H.e2 e he]; simp
theorem mem_sfp_d {I : Se} {es : List Sa} {x : Addr} (h : x ∈ es.map Sa.d) : x ∈ sfp I es := List.mem_cons_of_mem _ (List.mem_cons_of_mem _ (List.mem_append_right _ h))
theorem mem_sfp_a {I : Se} {es : List Sa} {x : Addr} (h : x ∈ es.map Sa.a) : x ∈ sfp I es := List.mem_cons_of_mem _ (List.mem_cons_of_mem _ (List.mem_append_left _ h))
theorem nd_le {α : Type} [DecidableEq α] : ∀ {l m : List α}, l.Nodup → (∀ x ∈ l, x ∈ m) → l.length ≤ m.length
  | [], m, _, _ => Nat.zero_le _
  | x :: l, m, hn, hs => by
    have hn := List.nodup_cons.mp hn
    have h1 : x ∈ m := hs x List.mem_cons_self
    have ih := nd_le (m := m.erase x) hn.2 fun y hy => (List.mem_erase_of_ne (fun e => hn.1 (by rw [← e]; exact hy))).mpr (hs y (List.mem_cons_of_mem _ hy))
    rw [List.length_erase_of_mem h1] at ih
    have : 0 < m.length := List.length_pos_of_mem h1
    rw [List.length_cons]; omega
theorem lcT {α : Type} {gd : PH → Prop} {τ : PSt} {g : MG} {t : MT} {m : ME} {h : PH} {Q : List PV → PH → Prop} (enc : α → PV) (c : α → Bool) (f : α → PV) (hg : gd h) :
    ∀ (xs : List α) (acc : List PV), (∀ x ∈ xs, ∀ (P : List PV → PH → Prop) (acc : List PV), (if c x = true then P (acc ++ [f x]) h else P acc h) → g (enc x) τ h fun τ1 h1 => t τ1 h1 fun b h2 => if b = true then m τ1 h2 fun v h3 => P (acc ++ [v]) h3 else P acc h2) →
      Q (acc ++ (xs.filter c).map f) h → lcL gd τ g t m (xs.map enc) acc h Q
  | [], acc, _, q => ⟨hg, by simpa using q⟩
  | x :: xs, acc, hs, q => by
    refine ⟨hg, hs x List.mem_cons_self (fun acc h3 => lcL gd τ g t m (xs.map enc) acc h3 Q) acc ?_⟩
    cases hc : c x with
    | true => exact lcT enc c f hg xs _ (fun y hy => hs y (List.mem_cons_of_mem _ hy)) (by simpa [List.filter_cons, hc] using q)
    | false => exact lcT enc c f hg xs _ (fun y hy => hs y (List.mem_cons_of_mem _ hy)) (by simpa [List.filter_cons, hc] using q)
/-! ### what the law keeps of a sayer -/
structure Ro where
  e : Sa
  ra : Addr
  nv : Option Addr
  ln : List Str
def rk (r : Ro) : Key := .inr r.e.k
def rv (r : Ro) : PV := .ref r.ra
def nmV (r : Ro) : PV := match r.nv with | some b => .ref b | none => .lst (r.ln.map PV.str)
def rwo (r : Ro) : PO := .lst [.int r.e.t, .str r.e.x, nmV r, .int r.e.n]
structure LI where
  I : Se
  it : Addr
  rw : Addr
  rs : List Ro
  b : Int
def esOf (rs : List Ro) : List Sa := rs.map Ro.e
def lf (rs : List Ro) : List Addr := rs.map Ro.ra ++ rs.filterMap Ro.nv
def fp (T : LI) : List Addr := T.it :: T.rw :: (lf T.rs ++ sfp T.I (esOf T.rs))
abbrev kSa : Key := .inr ("sayer" : Str)
abbrev kOt : Key := .inr ("others" : Str)
abbrev kLa : Key := .inr ("late" : Str)
abbrev kRo : Key := .inr ("rows" : Str)
abbrev kBe : Key := .inr ("beats" : Str)
abbrev itk : List Key := [kSa, kOt, kLa, kRo, kBe]
theorem lk_sa {a b c d e : PV} : lk itk [a, b, c, d, e] (.inr ("sayer" : Str)) = some a := if_pos rfl
theorem lk_ot {a b c d e : PV} : lk itk [a, b, c, d, e] (.inr ("others" : Str)) = some b := (if_neg (by decide +kernel)).trans (if_pos rfl)
theorem lk_la {a b c d e : PV} : lk itk [a, b, c, d, e] (.inr ("late" : Str)) = some c := (if_neg (by decide +kernel)).trans ((if_neg (by decide +kernel)).trans (if_pos rfl))
theorem lk_ro {a b c d e : PV} : lk itk [a, b, c, d, e] (.inr ("rows" : Str)) = some d := (if_neg (by decide +kernel)).trans ((if_neg (by decide +kernel)).trans ((if_neg (by decide +kernel)).trans (if_pos rfl)))
theorem lk_be {a b c d e : PV} : lk itk [a, b, c, d, e] (.inr ("beats" : Str)) = some e := (if_neg (by decide +kernel)).trans ((if_neg (by decide +kernel)).trans ((if_neg (by decide +kernel)).trans ((if_neg (by decide +kernel)).trans (if_pos rfl))))
theorem pk_be : pk itk (.inr ("beats" : Str)) = itk := if_pos (by decide +kernel)
theorem pvs_be {a b c d e v : PV} : pvs itk [a, b, c, d, e] (.inr ("beats" : Str)) v = [a, b, c, d, v] := by
  have h : hasK itk kBe = true := by decide +kernel
  have h1 : ¬ (kSa = kBe) := by decide +kernel
  have h2 : ¬ (kOt = kBe) := by decide +kernel
  have h3 : ¬ (kLa = kBe) := by decide +kernel
  have h4 : ¬ (kRo = kBe) := by decide +kernel
  refine (if_pos h).trans ?_
  show [if kSa = kBe then v else a, if kOt = kBe then v else b, if kLa = kBe then v else c, if kRo = kBe then v else d, if kBe = kBe then v else e] = _
  rw [if_neg h1, if_neg h2, if_neg h3, if_neg h4, if_pos rfl]
abbrev ks5 : List Str := ["3 ann seats 1 2", "a", "", "h view", "10 b t -5"]
abbrev ws5 : List Str := ["stands", "gone", "", "1 2\na b", "1"]
structure EB (j : Nat) (rs : List Ro) : Prop where
  k : ∀ r ∈ rs, r.e.k ∈ ks5
  x : ∀ r ∈ rs, r.e.x ∈ ws5
  t0 : ∀ r ∈ rs, 1 ≤ r.e.t
  t1 : ∀ r ∈ rs, r.e.t ≤ (j : Int)
  ln : rs.length ≤ j
structure LO (C S : Addr) (T : LI) (j : Nat) (h : PH) : Prop where
  H : SO C S T.I (esOf T.rs) h
  it : h T.it = some (.dct itk [.ref T.I.sa, .tup (T.I.others.map PV.str), .int T.I.late, .ref T.rw, .int T.b])
  rw : h T.rw = some (.dct (T.rs.map rk) (T.rs.map rv))
  el : ∀ r ∈ T.rs, h r.ra = some (rwo r)
  en : ∀ r ∈ T.rs, ∀ b, r.nv = some b → h b = some (.lst (r.ln.map PV.str))
  ef : ∀ r ∈ T.rs, r.nv = none → ∀ o ∈ T.I.others, o ∈ r.ln
  pn : ∀ r ∈ T.rs, r.ln.Perm r.e.ns
  so : ∀ r ∈ T.rs, ∀ o ∈ r.e.ns, o ∈ T.I.others
  nd : (T.it :: T.rw :: lf T.rs).Nodup
  xs : ∀ x ∈ T.it :: T.rw :: lf T.rs, x ∉ sfp T.I (esOf T.rs)
  eb : EB j T.rs
  ok : NmOk T.I.others
  l0 : 1 ≤ T.I.late
  l1 : T.I.late ≤ 4
section
variable {C S : Addr} {T : LI} {j : Nat} {h h' : PH} {r : Ro}
theorem mem_ra {rs : List Ro} (hr : r ∈ rs) : r.ra ∈ lf rs := List.mem_append_left _ (List.mem_map_of_mem hr)
theorem mem_nv {rs : List Ro} {b : Addr} (hr : r ∈ rs) (hb : r.nv = some b) : b ∈ lf rs := List.mem_append_right _ (List.mem_filterMap.mpr ⟨r, hr, hb⟩)
theorem fp_lf {x : Addr} (hx : x ∈ lf T.rs) : x ∈ fp T := List.mem_cons_of_mem _ (List.mem_cons_of_mem _ (List.mem_append_left _ hx))
theorem fp_sf {x : Addr} (hx : x ∈ sfp T.I (esOf T.rs)) : x ∈ fp T := List.mem_cons_of_mem _ (List.mem_cons_of_mem _ (List.mem_append_right _ hx))
theorem fp_it : T.it ∈ fp T := List.mem_cons_self
theorem fp_rw : T.rw ∈ fp T := List.mem_cons_of_mem _ List.mem_cons_self
theorem LO.mono (L : LO C S T j h) (e : ∀ x ∈ fp T, h' x = h x) : LO C S T j h' :=
  ⟨L.H.mono fun x hx => e x (fp_sf hx), (e _ fp_it).trans L.it, (e _ fp_rw).trans L.rw, fun r hr => (e _ (fp_lf (mem_ra hr))).trans (L.el r hr), fun r hr b hb => (e _ (fp_lf (mem_nv hr hb))).trans (L.en r hr b hb), L.ef, L.pn, L.so, L.nd, L.xs, L.eb, L.ok, L.l0, L.l1⟩
theorem EB.up {rs : List Ro} (b : EB j rs) : EB (j + 1) rs := ⟨b.k, b.x, b.t0, fun e he => by have := b.t1 e he; omega, by have := b.ln; omega⟩
theorem LO.up (L : LO C S T j h) : LO C S T (j + 1) h := ⟨L.H, L.it, L.rw, L.el, L.en, L.ef, L.pn, L.so, L.nd, L.xs, L.eb.up, L.ok, L.l0, L.l1⟩
theorem LO.live (L : LO C S T j h) {x : Addr} (hx : x ∈ fp T) : h x ≠ none := by
  simp only [fp, lf, List.mem_cons, List.mem_append, List.mem_map, List.mem_filterMap] at hx
  rcases hx with rfl | rfl | (⟨r, hr, rfl⟩ | ⟨r, hr, hb⟩) | hx
  · rw [L.it]; simp
  · rw [L.rw]; simp
  · rw [L.el r hr]; simp
  · rw [L.en r hr _ hb]; simp
  · exact L.H.live hx
theorem LO.nk (L : LO C S T j h) : (T.rs.map rk).Nodup := by
  have := L.H.nk
  unfold esOf at this
  rw [List.map_map] at this
  exact this
theorem LO.apart (L : LO C S T j h) : T.it ≠ T.rw ∧ T.it ∉ lf T.rs ∧ T.rw ∉ lf T.rs ∧ (lf T.rs).Nodup := by
  have := L.nd
  simp only [List.nodup_cons, List.mem_cons, not_or] at this
  exact ⟨this.1.1, this.1.2, this.2.1, this.2.2⟩
theorem LO.lenN (L : LO C S T j h) (hr : r ∈ T.rs) : r.ln.length ≤ 4 := by
  rw [(L.pn r hr).length_eq]
  have nn : r.e.ns.Nodup := L.H.nn r.e (List.mem_map_of_mem hr)
  exact Nat.le_trans (nd_le nn fun o ho => L.so r hr o ho) L.ok.n
theorem nd_nmV (r : Ro) : nd (nmV r) = true := by
  unfold nmV
  split
  · rfl
  · exact nds_map fun _ _ => rfl
theorem kp_rk (rs : List Ro) : (rs.map rk).map kP = rs.map fun r => PV.str r.e.k := by rw [List.map_map]; rfl
/-- the names of a row, asked -/
theorem not_in {o : Str} {Q : PK} (hn : ∀ b, r.nv = some b → h b = some (.lst (r.ln.map PV.str))) (q : Q (.bl (!decide (o ∈ r.ln))) h) : rInP true (.str o) (nmV r) h Q := by
  cases hv : r.nv with
  | none =>
    have e : nmV r = .lst (r.ln.map PV.str) := by unfold nmV; rw [hv]
    rw [e]
    simp only [rInP, listed, seqL]
    refine ⟨rfl, flats_strs _, depth_strs _, ?_⟩
    rw [show toD (vw h (.str o)) = .str o from rfl, any_strs, Bool.bne_true]
    exact q
  | some b =>
    have e : nmV r = .ref b := by unfold nmV; rw [hv]
    rw [e]
    simp only [rInP, listed, seqL, hn b hv]
    refine ⟨rfl, flats_strs _, depth_strs _, ?_⟩
    rw [show toD (vw h (.str o)) = .str o from rfl, any_strs, Bool.bne_true]
    exact q
end
end Wneversaid_k41_words_said

namespace Wneversaid_k41_words_said
open PySem PySem.Spec PyProof.Rows L2 N3
/-! ### seen -/
theorem pw_rising : ∀ (l : List Str) (p : Str), (p :: l).Pairwise leS → risingS p l = true
  | [], _, _ => rfl
  | x :: r, p, h => by
    have h := List.pairwise_cons.mp h
    have h1 := h.1 x List.mem_cons_self
    show (!ltCps x.cps.toList p.cps.toList && risingS x r) = true
    rw [pw_rising r x h.2, Bool.and_true, Bool.not_eq_true', ltCps_eq, decide_eq_false_iff_not]
    exact h1
theorem pw_sortedS {l : List Str} (h : l.Pairwise leS) : sortedS l = true := by
  cases l with
  | nil => rfl
  | cons x r => exact pw_rising r x h
theorem sort_srtN (ns : List Str) : (ns.map PV.str).mergeSort (PySem.W.dataLe false toD) = (srtN ns).map PV.str := by
  obtain ⟨ys, p, s, e⟩ := sort_strs ns
  rw [show (ns.map PV.str).mergeSort (PySem.W.dataLe false toD) = ys.map PV.str from e, srtN_of p (pw_sortedS s)]
def txk (x : Str) : Prop := Tx 20 (cl x)
theorem tx_k {x : Str} (h : x ∈ ks5) : Tx 20 (cl x) := by
  simp only [ks5, List.mem_cons, List.not_mem_nil, or_false] at h
  rcases h with rfl | rfl | rfl | rfl | rfl <;> exact ⟨by decide +kernel, by decide +kernel⟩
theorem tx_w {x : Str} (h : x ∈ ws5) : Tx 20 (cl x) := by
  simp only [ws5, List.mem_cons, List.not_mem_nil, or_false] at h
  rcases h with rfl | rfl | rfl | rfl | rfl <;> exact ⟨by decide +kernel, by decide +kernel⟩
theorem tx_o {os : List Str} (ok : NmOk os) {o : Str} (h : o ∈ os) : Tx 20 (cl o) := by
  obtain ⟨l, rfl, ll, lc⟩ := ok.t o h
  rw [cl_S]
  exact ⟨fun c hc => by have := lc c hc; omega, by omega⟩
theorem th_int {i : Int} (h0 : 0 ≤ i) (h1 : i ≤ 1000) : TH 0 202 (.int i) := (TH.int (k := 10) (by omega)).mono (by decide) (by decide)
section
variable {C S : Addr} {T : LI} {j : Nat} {h : PH}
theorem th_row (L : LO C S T j h) (hj : j ≤ 60) {e : Sa} (he : e ∈ esOf T.rs) : TH 2 4000 (rowP e) := by
  obtain ⟨r, hr, rfl⟩ := List.mem_map.mp he
  have nn : (srtN r.e.ns).Perm r.e.ns := by
    have h := Classical.epsilon_spec (p := fun ys : List Str => ys.Perm r.e.ns ∧ sortedS ys = true) (by
      obtain ⟨ys, p, s, -⟩ := sort_strs r.e.ns
      exact ⟨ys, p, pw_sortedS s⟩)
    exact h.1
  have nl : r.e.ns.length ≤ 4 := by rw [← (L.pn r hr).length_eq]; exact L.lenN hr
  have t0 := L.eb.t0 r hr
  have t1 := L.eb.t1 r hr
  have names : TH 1 820 (.tup ((srtN r.e.ns).map PV.str)) := by
    refine (TH.tup (n := 0) (z := 202) fun x hx => ?_).mono (by decide) (by rw [List.length_map, nn.length_eq]; omega)
    obtain ⟨o, ho, rfl⟩ := List.mem_map.mp hx
    exact TH.strS (tx_o L.ok (L.so r hr o (nn.mem_iff.mp ho)))
  refine (TH.tup (n := 1) (z := 820) fun x hx => ?_).mono (by decide) (by show 4 * (820 + 2) + 3 ≤ 4000; decide)
  simp only [List.mem_cons, List.not_mem_nil, or_false] at hx
  rcases hx with rfl | rfl | rfl | rfl
  · exact (TH.strS (tx_k (L.eb.k r hr))).mono (by decide) (by decide)
  · exact (th_int (by omega) (by omega)).mono (by decide) (by decide)
  · exact (TH.strS (tx_w (L.eb.x r hr))).mono (by decide) (by decide)
  · exact names
theorem th_rows (L : LO C S T j h) (hj : j ≤ 60) : TH 3 240123 (.tup (srtR (esOf T.rs))) := by
  have p := List.mergeSort_perm ((esOf T.rs).map rowP) (PySem.W.dataLe false toD)
  refine (TH.tup (n := 2) (z := 4000) fun x hx => ?_).mono (by decide) ?_
  · obtain ⟨e, he, rfl⟩ := List.mem_map.mp (p.mem_iff.mp hx)
    exact th_row L hj he
  · have hl : (srtR (esOf T.rs)).length = T.rs.length := by
      unfold srtR
      rw [p.length_eq, List.length_map]; unfold esOf; rw [List.length_map]
    have := L.eb.ln
    rw [hl]
    have : T.rs.length * (4000 + 2) ≤ 60 * (4000 + 2) := Nat.mul_le_mul_right _ (by omega)
    omega
theorem th_dues (L : LO C S T j h) (hj : j ≤ 60) : TH 3 240123 (.tup ((dues T.I.others (esOf T.rs)).mergeSort (PySem.W.dataLe false toD))) := by
  have p := List.mergeSort_perm (dues T.I.others (esOf T.rs)) (PySem.W.dataLe false toD)
  have ln := dues_len T.I.others (esOf T.rs)
  refine (TH.tup (n := 1) (z := 820) fun x hx => ?_).mono (by decide) ?_
  · obtain ⟨e, he, o, ho, rfl⟩ := dues_mem (p.mem_iff.mp hx)
    obtain ⟨r, hr, rfl⟩ := List.mem_map.mp he
    have t0 := L.eb.t0 r hr
    have t1 := L.eb.t1 r hr
    refine (TH.tup (n := 0) (z := 202) fun y hy => ?_).mono (by decide) (by show 4 * (202 + 2) + 3 ≤ 820; decide)
    simp only [List.mem_cons, List.not_mem_nil, or_false] at hy
    rcases hy with rfl | rfl | rfl | rfl
    · exact TH.strS (tx_o L.ok ho)
    · exact TH.strS (tx_k (L.eb.k r hr))
    · exact th_int (by omega) (by omega)
    · exact TH.strS (tx_w (L.eb.x r hr))
  · rw [p.length_eq]
    have e1 : (esOf T.rs).length = T.rs.length := List.length_map ..
    rw [e1] at ln
    have := L.eb.ln
    have := L.ok.n
    have e2 : T.rs.length * T.I.others.length ≤ 60 * 4 := Nat.mul_le_mul (by omega) (by omega)
    have : (dues T.I.others (esOf T.rs)).length * (820 + 2) ≤ 240 * (820 + 2) := Nat.mul_le_mul_right _ (by omega)
    omega
end
/-- all that is seen -/
noncomputable def seenP (T : LI) : PV := .tup [.tup ((dues T.I.others (esOf T.rs)).mergeSort (PySem.W.dataLe false toD)), .tup (srtR (esOf T.rs)), .int ((esOf T.rs).length : Nat)]
theorem th_seen {C S : Addr} {T : LI} {j : Nat} {h : PH} (L : LO C S T j h) (hj : j ≤ 60) : TH 4 720378 (seenP T) := by
  refine (TH.tup (n := 3) (z := 240123) fun x hx => ?_).mono (by decide) (by show 3 * (240123 + 2) + 3 ≤ 720378; decide)
  simp only [List.mem_cons, List.not_mem_nil, or_false] at hx
  rcases hx with rfl | rfl | rfl
  · exact th_dues L hj
  · exact th_rows L hj
  · have := L.eb.ln
    have e1 : (esOf T.rs).length = T.rs.length := List.length_map ..
    exact (th_int (by omega) (by omega)).mono (by decide) (by decide)
theorem nds_dues (os : List Str) (es : List Sa) : nds (dues os es) = true := by
  obtain ⟨l, e⟩ := dues_du os es
  rw [e]
  exact nds_map fun _ _ => rfl
theorem eq_two {a : Str} {h : PH} {Q : PK} (q : Q (.bl true) h) : N3.rEq (.lst [.str a, .str a]) (.lst [.str a, .str a]) h Q := by
  refine ⟨rfl, rfl, by simp [vw, toD, toDs, PyData.depth, PyData.depthAll], ?_⟩
  rw [eqv_self _ (by rfl)]
  exact q
theorem f4_0 {a b c d : PV} : atI [a, b, c, d] 0 = some a := rfl
theorem f4_1 {a b c d : PV} : atI [a, b, c, d] 1 = some b := rfl
theorem f4_2 {a b c d : PV} : atI [a, b, c, d] 2 = some c := rfl
theorem f4_3 {a b c d : PV} : atI [a, b, c, d] 3 = some d := rfl
theorem rem_no : ("remembered" : Str) ∉ sfn := by decide +kernel
theorem due_no : ("due" : Str) ∉ sfn := by decide +kernel
theorem ndS_app : ∀ xs ys : PSt, ndS (xs ++ ys) = (ndS xs && ndS ys)
  | [], _ => (Bool.true_and _).symm
  | none :: xs, ys => ndS_app xs ys
  | some p :: xs, ys => by
    show (nd p && ndS (xs ++ ys)) = (nd p && ndS xs && ndS ys)
    rw [ndS_app xs ys, Bool.and_assoc]
def spSeen (C S : Addr) : SpP := fun ps h Q => ∃ (T : LI) (j : Nat), ps = [.ref T.it] ∧ LO C S T j h ∧ Gd h ∧ j ≤ 60 ∧ ∀ h', Gd h' → (∀ y, h y ≠ none → h' y = h y) → Q (.bl true) h'
theorem pure_law_seen {C S : Addr} : ∀ qs h Q, qs.length = 1 → spSeen C S qs h Q → m_law_seen C (spSLen C S) (spSRem C S) (spDue C S) (ends Q) (sp0 13 qs) h := by
  rintro _ h Q - ⟨T, j, rfl, L, g, hj, q⟩
  unfold m_law_seen
  obtain ⟨a1, a2, a3, a4⟩ := L.apart
  have ln := L.eb.ln
  have on := L.ok.n
  refine seq_step fun P hP => ?_
  simp only [mAsg, mTup, mCons, mNil, mB, mVar, mC, mLst, gt, N3.sp0, N3.rIx, seqL, dctL, L.it, kOf, lk_sa, lk_ro, gT, gsCons, gsNil, gN, N3.st]
  refine ⟨rfl, trivial, ?_⟩
  have lkr : ∀ (ds r : List Ro) (x : Ro), T.rs = ds ++ x :: r → ∀ f : Ro → PV, lk (T.rs.map rk) (T.rs.map f) (Sum.inr x.e.k) = some (f x) := fun ds r x er f => by
    have nd := L.nk
    rw [er] at nd ⊢
    exact lk_mid (K := rk) (nd_mid nd).1
  subst hP
  refine seq_step fun P hP => ?_
  refine ⟨T.rw, _, _, L.rw, ?_⟩
  simp only [mFor, mKeysI, mVar, gt, up_same, kp_rk]
  refine ⟨by rw [List.length_map]; show _ ≤ 16777216; omega, ?_⟩
  refine forL_of (W := fun ps τ h4 => h4 = N3.up h T.rw (.lck (T.rs.map rk) (T.rs.map rv)) ∧ ∃ ds r v4 v5 v6 v7 v8, T.rs = ds ++ r ∧ ps = r.map (fun r => PV.str r.e.k) ∧
    τ = [some (.ref T.it), some (.ref T.I.sa), some (.ref T.rw), some (.lst (dues T.I.others (esOf ds))), v4, v5, v6, v7, v8, none, none, none, none] ∧ ndS [v4, v5, v6, v7, v8] = true) ?_ ?_ _ _ _ ⟨rfl, [], T.rs, none, none, none, none, none, rfl, rfl, rfl, rfl⟩
  · rintro p ps τ h4 ⟨rfl, ds, r, v4, v5, v6, v7, v8, er, ee, rfl, -⟩
    obtain ⟨x, r, rfl⟩ : ∃ e r', r = e :: r' := by
      cases r with
      | nil => cases ee
      | cons e r => exact ⟨e, r, rfl⟩
    obtain ⟨rfl, rfl⟩ := List.cons.inj ee
    have hx : x ∈ T.rs := by rw [er]; simp
    have xw : x.ra ≠ T.rw := fun z => a3 (z ▸ mem_ra hx)
    have xe : N3.up h T.rw (.lck (T.rs.map rk) (T.rs.map rv)) x.ra = some (rwo x) := by rw [up_ne xw]; exact L.el x hx
    have iw : N3.up h T.rw (.lck (T.rs.map rk) (T.rs.map rv)) T.it = _ := (up_ne a1).trans L.it
    have xn : ∀ b, x.nv = some b → N3.up h T.rw (.lck (T.rs.map rk) (T.rs.map rv)) b = some (.lst (x.ln.map PV.str)) := fun b hb => by
      rw [up_ne (show b ≠ T.rw from fun z => a3 (by rw [← z]; exact mem_nv hx hb))]; exact L.en x hx b hb
    refine ⟨up_same, fun P' hP' => ?_⟩
    refine seq_step fun P2 hP2 => ?_
    simp only [mAsg, mB, mVar, gt, gN, N3.st, N3.rIx, seqL, dctL, up_same, kOf, lkr ds r x er, rv]
    simp only [gL, gsCons, gsNil, gN, N3.st, seqL, xe, rwo]
    refine ⟨rfl, trivial, ?_⟩
    subst hP2
    simp only [mAsg, mB, mVar, mC, gt, gN, N3.st, mLc, mSeqs, N3.rIx, seqL, dctL, iw, kOf, lk_ot, N3.wp]
    refine lcT (enc := PV.str) (c := fun o => !decide (o ∈ x.ln)) (f := fun o => dueP x.e o) trivial T.I.others [] (fun o ho P2 acc z => ?_) ?_
    · simp only [gN, N3.st, mTest, mB, mVar, gt, mTup, mCons, mNil]
      refine not_in xn ?_
      exact z
    · simp only [List.nil_append, N3.rAdd, seqL]
      have ed : (T.I.others.filter fun o => !decide (o ∈ x.ln)).map (fun o => dueP x.e o) = (dueL T.I.others x.e).map (dueP x.e) := by
        unfold dueL
        congr 1
        refine List.filter_congr fun o _ => ?_
        rw [decide_eq_decide.mpr (L.pn x hx).mem_iff]
      rw [ed]
      have en : dues T.I.others (esOf (ds ++ [x])) = dues T.I.others (esOf ds) ++ (dueL T.I.others x.e).map (dueP x.e) := by
        unfold esOf
        rw [List.map_append, dues_app]
        congr 1
        show ((dueL T.I.others x.e).map (dueP x.e) ++ []) = _
        rw [List.append_nil]
      have nl : (dues T.I.others (esOf ds)).length + ((dueL T.I.others x.e).map (dueP x.e)).length ≤ 16777216 := by
        have := dues_len T.I.others (esOf (ds ++ [x]))
        rw [en, List.length_append] at this
        have e1 : (esOf (ds ++ [x])).length ≤ 60 := by
          unfold esOf
          rw [List.length_map, List.length_append]
          have := congrArg List.length er
          rw [List.length_append, List.length_cons] at this
          show _ + 1 ≤ 60
          omega
        have := Nat.mul_le_mul e1 on
        omega
      refine ⟨nl, ?_⟩
      rw [← en]
      refine hP' _ _ ⟨rfl, ds ++ [x], r, _, _, _, _, _, by rw [er, List.append_assoc]; rfl, rfl, rfl, ?_⟩
      simp only [ndS, nd, nd_nmV, Bool.and_self, Bool.and_true]
  · rintro τ h4 ⟨rfl, ds, r, v4, v5, v6, v7, v8, er, ee, rfl, hns⟩
    cases r with
    | cons e r => cases ee
    | nil =>
      rw [List.append_nil] at er
      rw [← er]
      have nA : ∀ v : PV, nd v = true → ∀ ys : PSt, ndS ys = true → ndS ([some (.ref T.it), some (.ref T.I.sa), some (.ref T.rw), some (.lst (dues T.I.others (esOf T.rs)))] ++ ([v4, v5, v6, v7, v8] ++ ys)) = true := fun v _ ys hy => by
        rw [ndS_app, ndS_app, hns, hy]
        simp only [ndS, nd, nds_dues, Bool.and_self, Bool.and_true]
      refine ⟨up_same, ⟨up_same, nA .non rfl [none, none, none, none] rfl, g.lck.1, g.lck.2⟩, ?_⟩
      rw [up_back L.rw]
      subst hP
      dsimp only
      refine seq_step fun P hP => ?_
      refine ⟨T.rw, _, _, L.rw, ?_⟩
      simp only [mAsg, mLc, mKeysI, mVar, gt, N3.wp, N3.st, up_same, kp_rk]
      refine ⟨by rw [List.length_map]; show _ ≤ 16777216; omega, ?_⟩
      refine lcL_of (W := fun ps acc h2 => h2 = N3.up h T.rw (.lck (T.rs.map rk) (T.rs.map rv)) ∧ ∃ ds r, T.rs = ds ++ r ∧ ps = r.map (fun r => PV.str r.e.k) ∧ acc = (esOf ds).map rowP) ?_ ?_ _ _ _ ⟨rfl, [], T.rs, rfl, rfl, rfl⟩
      · rintro p ps acc h2 ⟨rfl, ds, r, er, ee, rfl⟩
        obtain ⟨x, r, rfl⟩ : ∃ e r', r = e :: r' := by
          cases r with
          | nil => cases ee
          | cons e r => exact ⟨e, r, rfl⟩
        obtain ⟨rfl, rfl⟩ := List.cons.inj ee
        have hx : x ∈ T.rs := by rw [er]; simp
        have xe : N3.up h T.rw (.lck (T.rs.map rk) (T.rs.map rv)) x.ra = some (rwo x) := by rw [up_ne (show x.ra ≠ T.rw from fun z => a3 (by rw [← z]; exact mem_ra hx))]; exact L.el x hx
        have xn : listed (N3.up h T.rw (.lck (T.rs.map rk) (T.rs.map rv))) (nmV x) = some (x.ln.map PV.str) := by
          unfold nmV
          cases hv : x.nv with
          | none => rfl
          | some b => simp only [listed, seqL, up_ne (show b ≠ T.rw from fun z => a3 (by rw [← z]; exact mem_nv hx hv)), L.en x hx b hv]
        refine ⟨up_same, fun P' hP' => ?_⟩
        simp only [mYes, if_true, mTup, mCons, mNil, mB, mBlt, mVar, mC, gt, gN, N3.st, N3.rIx, seqL, dctL, up_same, kOf, lkr ds r x er, rv, seqL, xe, rwo, f4_0, f4_1, f4_2, N3.rSortA, xn]
        refine ⟨flats_strs _, srtb_strs _, ?_⟩
        rw [sort_srtN]
        simp only [N3.rTupOf, listed, seqL]
        refine hP' _ _ ⟨rfl, ds ++ [x], r, by rw [er, List.append_assoc]; rfl, rfl, ?_⟩
        unfold esOf
        rw [List.map_append, List.map_append]
        show _ ++ [PV.tup [.str x.e.k, .int x.e.t, .str x.e.x, .tup ((srtN x.ln).map PV.str)]] = _ ++ [rowP x.e]
        unfold rowP
        rw [srtN_perm (L.pn x hx)]
      · rintro acc h2 ⟨rfl, ds, r, er, ee, rfl⟩
        cases r with
        | cons e r => cases ee
        | nil =>
        rw [List.append_nil] at er
        rw [← er]
        have nk : nd (.lst ((esOf T.rs).map rowP)) = true := nds_map fun e _ => nd_row e
        refine ⟨up_same, ⟨up_same, nA .non rfl [some (.lst ((esOf T.rs).map rowP)), none, none, none] (by show (nd (PV.lst ((esOf T.rs).map rowP)) && true) = true; rw [nk]; rfl), g.lck.1, g.lck.2⟩, ?_⟩
        rw [up_back L.rw]
        subst hP
        dsimp only
        refine seq_step fun P hP => ?_
        simp only [gN, N3.st, mAsg, mBlt, mTup, mCons, mNil, mVar, gt, N3.rSortA, listed, N3.rTupOf, seqL, rLenK, L.rw, List.length_map]
        refine ⟨flat_due, srtb_due _ _, flat_row _, srtb_row _, ?_⟩
        have tr := th_seen L hj
        have e1 : (esOf T.rs).length = T.rs.length := List.length_map ..
        rw [← e1]
        refine TH.repr (p := .tup [_, _, _]) tr (by decide) (by decide) ?_
        subst hP
        simp only [mRet, mB, mLc, mRng1, mCons, mC, mNil, mLst, mVar, gt, N3.wp, N3.st]
        refine ⟨by decide, ?_⟩
        refine lcL_of (W := fun ps acc h2 => ∃ a b, a + b = 2 ∧ ps.length = a ∧ acc = List.replicate b (.str (toD (seenP T)).shown) ∧ Gd h2 ∧ ∀ y, h y ≠ none → h2 y = h y) ?_ ?_ _ _ _ ⟨2, 0, rfl, rng_len, rfl, g, fun _ _ => rfl⟩
        · rintro p ps acc h2 ⟨a, b, ab, pl, rfl, g2, o2⟩
          rw [List.length_cons] at pl
          refine ⟨trivial, fun P' hP' => ?_⟩
          have L2 := L.mono fun x hx => o2 x (L.live hx)
          simp only [mYes, if_true, mBlt, mTup, mCons, mNil, mMeth, mVar, gt, gN, N3.st, L2.H.o]
          refine ⟨trivial, due_no, T.I, _, rfl, L2.H, g2, by omega, fun h3 g3 o3 => ?_⟩
          have L3 := L2.mono fun x hx => o3 x (L2.live hx)
          simp only [L3.H.o]
          refine ⟨trivial, rem_no, T.I, _, rfl, L3.H, g3, fun h4 g4 o4 => ?_⟩
          have L4 := L3.mono fun x hx => o4 x (L3.live hx)
          simp only [rLenO, L4.H.o, true_and]
          refine ⟨T.I, _, rfl, L4.H, _, rfl, by rw [e1]; show _ ≤ 16777216; omega, ?_⟩
          refine TH.repr (p := .tup [_, _, _]) tr (by decide) (by decide) ?_
          refine hP' _ _ ⟨a - 1, b + 1, by omega, by omega, ?_, g4, fun y hy => ?_⟩
          · rw [List.replicate_succ']; rfl
          · have y2 := o2 y hy
            have y3 := o3 y (by rw [y2]; exact hy)
            exact (o4 y (by rw [y3, y2]; exact hy)).trans (y3.trans y2)
        · rintro acc h2 ⟨a, b, ab, pl, rfl, g2, o2⟩
          refine ⟨trivial, ?_⟩
          have : b = 2 := by simp at pl; omega
          subst this
          exact eq_two (q h2 g2 o2)
end Wneversaid_k41_words_said

namespace Wneversaid_k41_words_said
open PySem PySem.Spec PyProof.Rows L2 N3
/-! ### the law's own beat -/
def rstep (os : List Str) (late : Int) (r : Ro) : Option Ro := (sstep os late r.e).map fun e => { r with e := e }
def pz (os : List Str) (late : Int) (Z : List Str) (r : Ro) : Option Ro := if r.e.k ∈ Z then rstep os late r else some r
def rbeat (os : List Str) (late : Int) (rs : List Ro) : List Ro := rs.filterMap (rstep os late)
theorem fm_congr {f g : Ro → Option Ro} : ∀ {rs : List Ro}, (∀ x ∈ rs, f x = g x) → rs.filterMap f = rs.filterMap g
  | [], _ => rfl
  | x :: rs, h => by rw [List.filterMap_cons, List.filterMap_cons, h x List.mem_cons_self, fm_congr fun y hy => h y (List.mem_cons_of_mem _ hy)]
section
variable {os Z : List Str} {late : Int} {rs ds r : List Ro} {x y : Ro} {k : Str}
theorem rstep_same (h : rstep os late x = some y) : y.e.k = x.e.k ∧ y.e.t = x.e.t ∧ y.e.x = x.e.x ∧ y.e.ns = x.e.ns ∧ y.e.a = x.e.a ∧ y.e.d = x.e.d ∧ y.ra = x.ra ∧ y.nv = x.nv ∧ y.ln = x.ln := by
  unfold rstep sstep at h
  split at h
  · cases h; exact ⟨rfl, rfl, rfl, rfl, rfl, rfl, rfl, rfl, rfl⟩
  · split at h
    · cases h
    · cases h; exact ⟨rfl, rfl, rfl, rfl, rfl, rfl, rfl, rfl, rfl⟩
theorem pz_same (h : pz os late Z x = some y) : y.e.k = x.e.k ∧ y.e.t = x.e.t ∧ y.e.x = x.e.x ∧ y.e.ns = x.e.ns ∧ y.e.a = x.e.a ∧ y.e.d = x.e.d ∧ y.ra = x.ra ∧ y.nv = x.nv ∧ y.ln = x.ln := by
  unfold pz at h
  split at h
  · exact rstep_same h
  · cases h; exact ⟨rfl, rfl, rfl, rfl, rfl, rfl, rfl, rfl, rfl⟩
theorem fm_mem {f : Ro → Option Ro} (hf : ∀ x y, f x = some y → y.e.k = x.e.k ∧ y.e.t = x.e.t ∧ y.e.x = x.e.x ∧ y.e.ns = x.e.ns ∧ y.e.a = x.e.a ∧ y.e.d = x.e.d ∧ y.ra = x.ra ∧ y.nv = x.nv ∧ y.ln = x.ln) (h : y ∈ rs.filterMap f) : ∃ x ∈ rs, y.e.k = x.e.k ∧ y.e.t = x.e.t ∧ y.e.x = x.e.x ∧ y.e.ns = x.e.ns ∧ y.e.a = x.e.a ∧ y.e.d = x.e.d ∧ y.ra = x.ra ∧ y.nv = x.nv ∧ y.ln = x.ln := by
  obtain ⟨x, hx, e⟩ := List.mem_filterMap.mp h
  exact ⟨x, hx, hf x y e⟩
theorem fm_sub {β : Type} {f : Ro → Option Ro} {g : Ro → β} (hf : ∀ x y, f x = some y → g y = g x) : ∀ rs : List Ro, ((rs.filterMap f).map g).Sublist (rs.map g)
  | [] => .slnil
  | x :: rs => by
    rw [List.filterMap_cons]
    cases e : f x with
    | none => exact (fm_sub hf rs).cons _
    | some y =>
      simp only [List.map_cons, hf x y e]
      exact (fm_sub hf rs).cons_cons _
theorem fm_nv {f : Ro → Option Ro} (hf : ∀ x y, f x = some y → y.nv = x.nv) : ∀ rs : List Ro, ((rs.filterMap f).filterMap Ro.nv).Sublist (rs.filterMap Ro.nv)
  | [] => .slnil
  | x :: rs => by
    rw [List.filterMap_cons]
    cases e : f x with
    | none =>
      simp only [List.filterMap_cons (f := Ro.nv)]
      cases x.nv with
      | none => exact fm_nv hf rs
      | some b => exact (fm_nv hf rs).cons _
    | some y =>
      simp only [List.filterMap_cons (f := Ro.nv), hf x y e]
      cases x.nv with
      | none => exact fm_nv hf rs
      | some b => exact (fm_nv hf rs).cons_cons _
theorem lf_sub {f : Ro → Option Ro} (h1 : ∀ x y, f x = some y → y.ra = x.ra) (h2 : ∀ x y, f x = some y → y.nv = x.nv) (rs : List Ro) : (lf (rs.filterMap f)).Sublist (lf rs) := (fm_sub h1 rs).append (fm_nv h2 rs)
theorem es_beat : esOf (rbeat os late rs) = sbeat os late (esOf rs) := by
  unfold esOf rbeat sbeat
  induction rs with
  | nil => rfl
  | cons x rs ih =>
    rw [List.filterMap_cons, List.map_cons, List.filterMap_cons]
    unfold rstep at ih ⊢
    cases e : sstep os late x.e with
    | none => simpa [e] using ih
    | some y => simpa [e] using ih
theorem pz_nil : rs.filterMap (pz os late []) = rs := by
  induction rs with
  | nil => rfl
  | cons x rs ih =>
    rw [List.filterMap_cons]
    unfold pz at ih ⊢
    simp only [List.not_mem_nil, if_false] at ih ⊢
    rw [ih]
theorem pz_all (h : ∀ x ∈ rs, x.e.k ∈ Z) : rs.filterMap (pz os late Z) = rbeat os late rs := by
  unfold rbeat
  refine fm_congr fun x hx => ?_
  unfold pz
  rw [if_pos (h x hx)]
theorem pz_out (h : ∀ x ∈ rs, x.e.k ≠ k) : rs.filterMap (pz os late (k :: Z)) = rs.filterMap (pz os late Z) := by
  refine fm_congr fun x hx => ?_
  unfold pz
  simp [h x hx]
end
theorem sf_thin {I : Se} {rs : List Ro} {f : Ro → Option Ro} (hf : ∀ x y, f x = some y → y.e.k = x.e.k ∧ y.e.t = x.e.t ∧ y.e.x = x.e.x ∧ y.e.ns = x.e.ns ∧ y.e.a = x.e.a ∧ y.e.d = x.e.d ∧ y.ra = x.ra ∧ y.nv = x.nv ∧ y.ln = x.ln) : ∀ x ∈ sfp I (esOf (rs.filterMap f)), x ∈ sfp I (esOf rs) := fun x hx => by
  have sE : ∀ {β : Type} {g : Sa → β}, (∀ x y, f x = some y → g y.e = g x.e) → ((esOf (rs.filterMap f)).map g).Sublist ((esOf rs).map g) := fun {β g} hg => by
    unfold esOf
    rw [List.map_map, List.map_map]
    exact fm_sub (g := g ∘ Ro.e) hg rs
  simp only [sfp, List.mem_cons, List.mem_append] at hx ⊢
  rcases hx with z | z | z | z
  · exact .inl z
  · exact .inr (.inl z)
  · exact .inr (.inr (.inl ((sE fun x y e => (hf x y e).2.2.2.2.1).mem z)))
  · exact .inr (.inr (.inr ((sE fun x y e => (hf x y e).2.2.2.2.2.1).mem z)))
/-- a list less, or changed at some: the law's record holds on -/
theorem LO.thin {C S : Addr} {T : LI} {j : Nat} {h h' : PH} (L : LO C S T j h) {f : Ro → Option Ro} (hf : ∀ x y, f x = some y → y.e.k = x.e.k ∧ y.e.t = x.e.t ∧ y.e.x = x.e.x ∧ y.e.ns = x.e.ns ∧ y.e.a = x.e.a ∧ y.e.d = x.e.d ∧ y.ra = x.ra ∧ y.nv = x.nv ∧ y.ln = x.ln)
    (H : SO C S T.I (esOf (T.rs.filterMap f)) h') (it : h' T.it = h T.it) (rw : h' T.rw = some (.dct ((T.rs.filterMap f).map rk) ((T.rs.filterMap f).map rv))) (el : ∀ y ∈ T.rs.filterMap f, h' y.ra = some (rwo y)) (en : ∀ x ∈ T.rs, ∀ b, x.nv = some b → h' b = h b) :
    LO C S { T with rs := T.rs.filterMap f } j h' := by
  have sub : (lf (T.rs.filterMap f)).Sublist (lf T.rs) := lf_sub (fun x y e => (hf x y e).2.2.2.2.2.2.1) (fun x y e => (hf x y e).2.2.2.2.2.2.2.1) T.rs
  have sE : ∀ {β : Type} {g : Sa → β}, (∀ x y, f x = some y → g y.e = g x.e) → ((esOf (T.rs.filterMap f)).map g).Sublist ((esOf T.rs).map g) := fun {β g} hg => by
    unfold esOf
    rw [List.map_map, List.map_map]
    exact fm_sub (g := g ∘ Ro.e) hg T.rs
  have sS : ∀ x ∈ sfp T.I (esOf (T.rs.filterMap f)), x ∈ sfp T.I (esOf T.rs) := fun x hx => by
    simp only [sfp, List.mem_cons, List.mem_append] at hx ⊢
    rcases hx with z | z | z | z
    · exact .inl z
    · exact .inr (.inl z)
    · exact .inr (.inr (.inl ((sE fun x y e => (hf x y e).2.2.2.2.1).mem z)))
    · exact .inr (.inr (.inr ((sE fun x y e => (hf x y e).2.2.2.2.2.1).mem z)))
  have m := fun {y : Ro} (hy : y ∈ T.rs.filterMap f) => fm_mem hf hy
  have sN : (T.it :: T.rw :: lf (T.rs.filterMap f)).Sublist (T.it :: T.rw :: lf T.rs) := (sub.cons_cons _).cons_cons _
  refine ⟨H, it.trans L.it, rw, el, fun y hy b hb => ?_, fun y hy hn o ho => ?_, fun y hy => ?_, fun y hy o ho => ?_, sN.nodup L.nd, fun x hx z => L.xs x (sN.mem hx) (sS x z), ⟨fun y hy => ?_, fun y hy => ?_, fun y hy => ?_, fun y hy => ?_, ?_⟩, L.ok, L.l0, L.l1⟩
  · obtain ⟨x, hx, e1, e2, e3, e4, e5, e6, e7, e8, e9⟩ := m hy
    rw [e9]
    rw [e8] at hb
    exact (en x hx b hb).trans (L.en x hx b hb)
  · obtain ⟨x, hx, e1, e2, e3, e4, e5, e6, e7, e8, e9⟩ := m hy
    rw [e9]; exact L.ef x hx (by rw [← e8]; exact hn) o ho
  · obtain ⟨x, hx, e1, e2, e3, e4, e5, e6, e7, e8, e9⟩ := m hy
    rw [e9, e4]; exact L.pn x hx
  · obtain ⟨x, hx, e1, e2, e3, e4, e5, e6, e7, e8, e9⟩ := m hy
    rw [e4] at ho; exact L.so x hx o ho
  · obtain ⟨x, hx, e1, -⟩ := m hy
    rw [e1]; exact L.eb.k x hx
  · obtain ⟨x, hx, e1, e2, e3, -⟩ := m hy
    rw [e3]; exact L.eb.x x hx
  · obtain ⟨x, hx, e1, e2, -⟩ := m hy
    rw [e2]; exact L.eb.t0 x hx
  · obtain ⟨x, hx, e1, e2, -⟩ := m hy
    rw [e2]; exact L.eb.t1 x hx
  · exact Nat.le_trans (List.length_filterMap_le _ _) L.eb.ln
theorem fp_thin {T : LI} {f : Ro → Option Ro} (hf : ∀ x y, f x = some y → y.e.k = x.e.k ∧ y.e.t = x.e.t ∧ y.e.x = x.e.x ∧ y.e.ns = x.e.ns ∧ y.e.a = x.e.a ∧ y.e.d = x.e.d ∧ y.ra = x.ra ∧ y.nv = x.nv ∧ y.ln = x.ln) : ∀ x ∈ fp { T with rs := T.rs.filterMap f }, x ∈ fp T := fun x hx => by
  have sub : (lf (T.rs.filterMap f)).Sublist (lf T.rs) := lf_sub (fun x y e => (hf x y e).2.2.2.2.2.2.1) (fun x y e => (hf x y e).2.2.2.2.2.2.2.1) T.rs
  have sE : ∀ {β : Type} {g : Sa → β}, (∀ x y, f x = some y → g y.e = g x.e) → ((esOf (T.rs.filterMap f)).map g).Sublist ((esOf T.rs).map g) := fun {β g} hg => by
    unfold esOf
    rw [List.map_map, List.map_map]
    exact fm_sub (g := g ∘ Ro.e) hg T.rs
  simp only [fp, sfp, List.mem_cons, List.mem_append] at hx ⊢
  rcases hx with z | z | z | z | z | z | z
  · exact .inl z
  · exact .inr (.inl z)
  · exact .inr (.inr (.inl (sub.mem z)))
  · exact .inr (.inr (.inr (.inl z)))
  · exact .inr (.inr (.inr (.inr (.inl z))))
  · exact .inr (.inr (.inr (.inr (.inr (.inl ((sE fun x y e => (hf x y e).2.2.2.2.1).mem z))))))
  · exact .inr (.inr (.inr (.inr (.inr (.inr ((sE fun x y e => (hf x y e).2.2.2.2.2.1).mem z))))))
def spLBeat (C S : Addr) : SpP := fun ps h Q => ∃ (T : LI) (j : Nat), ps = [.ref T.it] ∧ LO C S T j h ∧ Gd h ∧ j ≤ 60 ∧ ∀ h', LO C S { T with rs := rbeat T.I.others T.I.late T.rs } j h' → Gd h' → (∀ x, x ∉ fp T → h' x = h x) → Q .non h'
theorem beat_no : ("beat" : Str) ∉ sfn := by decide +kernel
theorem key_str (rs : List Ro) : rs.map rk = (rs.map fun r => r.e.k).map Sum.inr := by rw [List.map_map]; rfl
theorem nd_k {rs : List Ro} (h : (rs.map rk).Nodup) : (rs.map fun r => r.e.k).Nodup := by
  rw [key_str] at h
  exact (List.pairwise_map.mp h).imp fun hne e => hne (congrArg _ e)
theorem len_nm {h : PH} {r : Ro} {Q : PK} (hn : ∀ b, r.nv = some b → h b = some (.lst (r.ln.map PV.str))) (hl : r.ln.length ≤ 1000) (q : Q (.int (r.ln.length : Nat)) h) : N3.rLen [nmV r] h Q := by
  cases hv : r.nv with
  | none =>
    have e : nmV r = .lst (r.ln.map PV.str) := by unfold nmV; rw [hv]
    rw [e]
    simp only [N3.rLen, seqL, List.length_map]
    exact q
  | some b =>
    have e : nmV r = .ref b := by unfold nmV; rw [hv]
    rw [e]
    simp only [N3.rLen, seqL, hn b hv, List.length_map]
    exact q
theorem pure_law_beat {C S : Addr} : ∀ qs h Q, qs.length = 1 → spLBeat C S qs h Q → m_law_beat C (spSBeat C S) (ends Q) (sp0 3 qs) h := by
  rintro _ h Q - ⟨T, j, rfl, L, g, hj, q⟩
  unfold m_law_beat
  obtain ⟨a1, a2, a3, a4⟩ := L.apart
  have nk := nd_k L.nk
  have on := L.ok.n
  have ll := L.eb.ln
  have l0 := L.l0
  have l1 := L.l1
  refine seq_step fun P hP => ?_
  simp only [mDrop, mMeth, mB, mVar, mC, mNil, gt, N3.sp0, N3.rIx, seqL, dctL, L.it, kOf, lk_sa, L.H.o]
  refine ⟨trivial, beat_no, T.I, _, rfl, L.H, g, by omega, by omega, by omega, fun h1 H1 g1 o1 => ?_⟩
  have ns : ∀ x ∈ T.it :: T.rw :: lf T.rs, h1 x = h x := fun x hx => by
    have := L.xs x hx
    simp only [sfp, List.mem_cons, List.mem_append, not_or] at this
    exact o1 x this.2.1 this.2.2.1
  have I1 := (ns _ List.mem_cons_self).trans L.it
  have R1 := (ns _ (List.mem_cons_of_mem _ List.mem_cons_self)).trans L.rw
  have E1 : ∀ r ∈ T.rs, h1 r.ra = some (rwo r) := fun r hr => (ns _ (List.mem_cons_of_mem _ (List.mem_cons_of_mem _ (mem_ra hr)))).trans (L.el r hr)
  have N1 : ∀ r ∈ T.rs, ∀ b, r.nv = some b → h1 b = some (.lst (r.ln.map PV.str)) := fun r hr b hb => (ns _ (List.mem_cons_of_mem _ (List.mem_cons_of_mem _ (mem_nv hr hb)))).trans (L.en r hr b hb)
  subst hP
  simp only [mFor, mSeqs, mBlt, mCons, mNil, mB, mVar, mC, gt, N3.rIx, seqL, dctL, I1, kOf, lk_ro, rSortK, R1]
  refine ⟨T.rs.map fun r => r.e.k, key_str _, by rw [List.length_map]; omega, fun ys py sy => ?_⟩
  refine forL_of (W := fun ps τ h2 => ∃ Z rest v1 v2, ps = rest.map PV.str ∧ (∀ k ∈ rest, k ∉ Z) ∧ rest.Nodup ∧ (∀ k, k ∈ (T.rs.map fun r => r.e.k) ↔ k ∈ Z ∨ k ∈ rest) ∧ h2 T.rw = some (.dct ((T.rs.filterMap (pz T.I.others T.I.late Z)).map rk) ((T.rs.filterMap (pz T.I.others T.I.late Z)).map rv)) ∧ (∀ r ∈ T.rs.filterMap (pz T.I.others T.I.late Z), h2 r.ra = some (rwo r)) ∧
      (∀ x, x ≠ T.rw → x ∉ T.rs.map Ro.ra → h2 x = h1 x) ∧ Gd h2 ∧ τ = [some (.ref T.it), v1, v2]) ?_ ?_ _ _ _ ⟨[], ys, none, none, rfl, fun _ _ => by simp, py.nodup_iff.mpr nk, fun k => by simp [py.mem_iff], by rw [pz_nil]; exact R1, by rw [pz_nil]; exact E1, fun _ _ _ => rfl, g1, rfl⟩
  · rintro p ps τ h2 ⟨Z, rest, v1, v2, ee, hz, nr, hk, hr, he, ho, g2, rfl⟩
    obtain ⟨k, rest, rfl⟩ : ∃ e r', rest = e :: r' := by
      cases rest with
      | nil => cases ee
      | cons e r => exact ⟨e, r, rfl⟩
    obtain ⟨rfl, rfl⟩ := List.cons.inj ee
    refine ⟨trivial, fun P' hP' => ?_⟩
    obtain ⟨r, hrs, rfl⟩ := List.mem_map.mp ((hk k).mpr (.inr List.mem_cons_self))
    obtain ⟨ds, rr, er⟩ := List.append_of_mem hrs
    have nz : r.e.k ∉ Z := hz _ List.mem_cons_self
    have pr : pz T.I.others T.I.late Z r = some r := by unfold pz; rw [if_neg nz]
    have c0 : T.rs.filterMap (pz T.I.others T.I.late Z) = ds.filterMap (pz T.I.others T.I.late Z) ++ r :: rr.filterMap (pz T.I.others T.I.late Z) := by
      rw [er, List.filterMap_append, List.filterMap_cons, pr]
    have nk' := nk
    rw [er] at nk'
    obtain ⟨n1, n2⟩ := nd_anyS (K := fun r : Ro => r.e.k) nk'
    have na : (T.rs.map Ro.ra).Nodup := (List.nodup_append.mp a4).1
    have na' := na
    rw [er] at na'
    obtain ⟨m1, m2⟩ := nd_anyS na'
    have q1 : ds.filterMap (pz T.I.others T.I.late (r.e.k :: Z)) = ds.filterMap (pz T.I.others T.I.late Z) := pz_out fun x hx z => n1 (z ▸ List.mem_map_of_mem (f := fun r : Ro => r.e.k) hx)
    have q2 : rr.filterMap (pz T.I.others T.I.late (r.e.k :: Z)) = rr.filterMap (pz T.I.others T.I.late Z) := pz_out fun x hx z => n2 (z ▸ List.mem_map_of_mem (f := fun r : Ro => r.e.k) hx)
    have ndc : ((ds.filterMap (pz T.I.others T.I.late Z) ++ r :: rr.filterMap (pz T.I.others T.I.late Z)).map rk).Nodup := by
      rw [← c0]
      exact (fm_sub (g := rk) (fun x y e => by unfold rk; rw [(pz_same e).1]) T.rs).nodup L.nk
    have It : h2 T.it = _ := (ho _ a1 (fun z => a2 (List.mem_append_left _ z))).trans I1
    rw [c0] at hr
    have ea : h2 r.ra = some (rwo r) := he r (by rw [c0]; simp)
    have nb : ∀ x ∈ T.rs, ∀ b, x.nv = some b → b ≠ T.rw ∧ b ∉ T.rs.map Ro.ra := fun x hx b hb => ⟨fun z => a3 (z ▸ mem_nv hx hb), fun z => (List.nodup_append.mp a4).2.2 _ z _ (List.mem_filterMap.mpr ⟨x, hx, hb⟩) rfl⟩
    have en : ∀ b, r.nv = some b → h2 b = some (.lst (r.ln.map PV.str)) := fun b hb => (ho b (nb r hrs b hb).1 (nb r hrs b hb).2).trans (N1 r hrs b hb)
    have elk : ∀ (f : Ro → PV), lk ((ds.filterMap (pz T.I.others T.I.late Z) ++ r :: rr.filterMap (pz T.I.others T.I.late Z)).map rk) ((ds.filterMap (pz T.I.others T.I.late Z) ++ r :: rr.filterMap (pz T.I.others T.I.late Z)).map f) (Sum.inr r.e.k) = some (f r) := fun f => lk_mid (K := rk) (nd_mid ndc).1
    have ra_w : r.ra ≠ T.rw := fun z => a3 (z ▸ mem_ra hrs)
    have ma : ∀ x ∈ ds.filterMap (pz T.I.others T.I.late Z) ++ rr.filterMap (pz T.I.others T.I.late Z), x.ra ≠ r.ra ∧ x.ra ≠ T.rw ∧ x ∈ T.rs.filterMap (pz T.I.others T.I.late Z) := by
      intro x hx
      have hx2 : x ∈ T.rs.filterMap (pz T.I.others T.I.late Z) := by
        rw [c0]; rcases List.mem_append.mp hx with hx | hx
        · exact List.mem_append_left _ hx
        · exact List.mem_append_right _ (List.mem_cons_of_mem _ hx)
      obtain ⟨y, hy, -, -, -, -, -, -, ya, -⟩ := fm_mem (fun _ _ => pz_same) hx2
      refine ⟨fun z => ?_, by rw [ya]; exact fun z => a3 (z ▸ mem_ra hy), hx2⟩
      rcases List.mem_append.mp hx with hx | hx
      · obtain ⟨w, hw, -, -, -, -, -, -, wa, -⟩ := fm_mem (fun _ _ => pz_same) hx
        exact m1 (by rw [← z, wa]; exact List.mem_map_of_mem hw)
      · obtain ⟨w, hw, -, -, -, -, -, -, wa, -⟩ := fm_mem (fun _ _ => pz_same) hx
        exact m2 (by rw [← z, wa]; exact List.mem_map_of_mem hw)
    have step : ∀ h3 v, h3 T.rw = some (.dct ((T.rs.filterMap (pz T.I.others T.I.late (r.e.k :: Z))).map rk) ((T.rs.filterMap (pz T.I.others T.I.late (r.e.k :: Z))).map rv)) → (∀ x ∈ T.rs.filterMap (pz T.I.others T.I.late (r.e.k :: Z)), h3 x.ra = some (rwo x)) → (∀ x, x ≠ T.rw → x ∉ T.rs.map Ro.ra → h3 x = h2 x) → Gd h3 → P' [some (.ref T.it), some (.str r.e.k), v] h3 := by
      intro h3 v b1 b2 b3 b4
      refine hP' _ _ ⟨r.e.k :: Z, rest, _, _, rfl, fun k hk2 => ?_, (List.nodup_cons.mp nr).2, fun k => ?_, b1, b2, fun x n1 n2 => (b3 x n1 n2).trans (ho x n1 n2), b4, rfl⟩
      · intro hc
        rcases List.mem_cons.mp hc with rfl | hc
        · exact (List.nodup_cons.mp nr).1 hk2
        · exact hz k (List.mem_cons_of_mem _ hk2) hc
      · rw [hk k]
        simp only [List.mem_cons]
        constructor
        · rintro (z | z | z)
          · exact .inl (.inr z)
          · exact .inl (.inl z)
          · exact .inr z
        · rintro ((z | z) | z)
          · exact .inr (.inl z)
          · exact .inl z
          · exact .inr (.inr z)
    have set : ∀ m : Int, pz T.I.others T.I.late (r.e.k :: Z) r = some { r with e := { r.e with n := m } } → ∀ v, P' [some (.ref T.it), some (.str r.e.k), v] (N3.up h2 r.ra (.lst [.int r.e.t, .str r.e.x, nmV r, .int m])) := by
      intro m em v
      have c1 : T.rs.filterMap (pz T.I.others T.I.late (r.e.k :: Z)) = ds.filterMap (pz T.I.others T.I.late Z) ++ { r with e := { r.e with n := m } } :: rr.filterMap (pz T.I.others T.I.late Z) := by
        rw [er, List.filterMap_append, List.filterMap_cons, em, q1, q2]
      refine step _ v ?_ (fun x hx => ?_) (fun x n1 n2 => up_ne fun z => n2 (z ▸ List.mem_map_of_mem hrs)) (g2.up ?_ (fun _ _ e => by cases e))
      · rw [up_ne ra_w.symm, hr, c1]
        simp only [List.map_append, List.map_cons]
        rfl
      · rw [c1] at hx
        rcases List.mem_append.mp hx with hx | hx
        · obtain ⟨x1, -, x3⟩ := ma x (List.mem_append_left _ hx)
          rw [up_ne x1]; exact he x x3
        · rcases List.mem_cons.mp hx with rfl | hx
          · exact up_same
          · obtain ⟨x1, -, x3⟩ := ma x (List.mem_append_right _ hx)
            rw [up_ne x1]; exact he x x3
      · show (true && (true && (nd (nmV r) && (true && true)))) = true
        rw [nd_nmV]; rfl
    have lnn : r.ln.length = r.e.ns.length := (L.pn r hrs).length_eq
    have l4 := L.lenN hrs
    simp only [gN, N3.st]
    refine seq_step fun P2 hP2 => ?_
    simp only [mAsg, mB, mVar, mC, gt, gN, N3.st, N3.rIx, seqL, dctL, It, kOf, lk_ro, hr, elk, rv]
    subst hP2
    simp only [mIfS, mTest, mB, mBlt, mCons, mNil, mVar, mC, gt, N3.rIx, seqL, dctL, ea, rwo, f4_2, It, kOf, lk_ot]
    refine len_nm en (by omega) ?_
    simp only [N3.rLen, seqL, dctL, It, kOf, lk_ot, List.length_map, N3.rLt, N3.rCmp]
    refine ite2 (fun c => ?_) (fun c => ?_)
    · have c : r.e.ns.length < T.I.others.length := by
        have : ((r.ln.length : Nat) : Int) < ((T.I.others.length : Nat) : Int) := by simpa using c
        omega
      have := set 0 (by unfold pz rstep sstep; rw [if_pos List.mem_cons_self, if_pos c]; rfl)
      simp only [N3.mDput, N3.mB, N3.mU, N3.mVar, N3.mC, N3.sp0, N3.gt, N3.st, N3.rIx, N3.seqL, N3.dctL, N3.kOf, N3.rAdd, N3.mAsg, N3.gN, N3.mIfS, N3.mTest, N3.mPop, N3.mAppend, N3.mDrop, N3.mRet, N3.mRetN, N3.mNx, N3.mBrk, N3.mCnt, N3.mLst, N3.mLstM, N3.mCons, N3.mNil, N3.mTup, N3.mBlt, N3.mKw, N3.cat2, N3.cat2r, N3.gS, N3.gL, N3.mSlM, N3.rSlM, N3.mM1, N3.mSl, N3.mRev, N3.mStep, N3.mRevM, N3.mPart, N3.mNoPart, N3.rII, N3.rII0, N3.rIB, N3.rCmp, N3.rLt, N3.rLe, N3.rGt, N3.rGe, N3.mIsI, N3.tn, N3.isI, N3.mDisp, N3.mDct0, N3.mDct0M, N3.mPar3, N3.mAug, N3.rIAdd, N3.mExtend, N3.mInsert, N3.mPopAt, N3.rMin2, N3.rMax2, N3.rIntT, N3.rSplit, N3.rSplitM, N3.rAddM, N3.gPut, N3.mFmt, N3.mJs, N3.mJoin, N3.rDictP, N3.mRepM, N3.rListA, N3.rSortA, N3.mLc2, N3.lcI, N3.lcO, N3.rAllB, N3.rAnyB, N3.rStrI, N3.rIntO, N3.vwL, N3.rMul, N3.rMulT, N3.rNeg, N3.rSub, N3.rDiv, N3.rMod, N3.rPow, N3.mPar, N3.mAndT, N3.mOrT, N3.mNotT, N3.mAnd, N3.mOr, N3.mOrV, N3.mAndV, N3.trv, N3.mNot, N3.mIf, N3.mChn, N3.mKeep, N3.mRep, N3.mDispM, N3.mPs, N3.ends, N3.rLen, N3.rListOf, N3.rListOfM, N3.rTupOf, N3.rSumI, N3.listed, N3.rSl, N3.rRev, N3.rEq, N3.rNe, N3.rIsN, N3.rNotN, N3.isNon, N3.vw, N3.mYes, N3.gT, N3.gsCons, N3.gsNil, N3.mFor, N3.mSeqs, N3.mLc, N3.mLcM, N3.mRng1, N3.mRng2, N3.mEnum, N3.mEnumA, N3.mZip, N3.wp, N3.rJoin, N3.rSS, N3.rIdxS, N3.rRepr, N3.flat, N3.flats, N3.toD, N3.toDs, List.length_cons, List.length_nil, List.append_eq, List.cons_append, List.nil_append, List.map_cons, List.map_nil, if_true, if_false, Bool.false_eq_true, decide_eq_true_eq, Option.some.injEq, true_and, and_true, Bool.not_true, Bool.not_false, reduceCtorEq, Bool.and_self, Bool.and_true, Bool.true_and, ite_true, ite_false, ea, rwo]
      exact this _
    · have c : ¬ r.e.ns.length < T.I.others.length := by
        have : ¬ ((r.ln.length : Nat) : Int) < ((T.I.others.length : Nat) : Int) := by simpa using c
        omega
      simp only [mIfS, mTest, mB, mBlt, mVar, mC, gt, N3.rIx, seqL, dctL, ea, rwo, f4_3, It, kOf, lk_la, N3.rMul, N3.rAdd, N3.rEq, vw, toD, flat, eqv_int, true_and]
      refine ⟨.inr (by omega), by simp [PyData.depth], ite2 (fun c2 => ?_) (fun c2 => ?_)⟩
      · have c2 : r.e.n = 2 * T.I.late + 2 := by simpa using c2
        have em : pz T.I.others T.I.late (r.e.k :: Z) r = none := by
          unfold pz rstep sstep
          rw [if_pos List.mem_cons_self, if_neg c, if_pos c2]; rfl
        have c1 : T.rs.filterMap (pz T.I.others T.I.late (r.e.k :: Z)) = ds.filterMap (pz T.I.others T.I.late Z) ++ rr.filterMap (pz T.I.others T.I.late Z) := by
          rw [er, List.filterMap_append, List.filterMap_cons, em, q1, q2]
        have e1 : eK ((ds.filterMap (pz T.I.others T.I.late Z) ++ r :: rr.filterMap (pz T.I.others T.I.late Z)).map rk) (Sum.inr r.e.k) = _ := eK_mid (K := rk) ndc
        have e2 : ∀ f : Ro → PV, eV ((ds.filterMap (pz T.I.others T.I.late Z) ++ r :: rr.filterMap (pz T.I.others T.I.late Z)).map rk) ((ds.filterMap (pz T.I.others T.I.late Z) ++ r :: rr.filterMap (pz T.I.others T.I.late Z)).map f) (Sum.inr r.e.k) = _ := fun f => eV_mid (K := rk) ndc
        simp only [mPopK, N3.mDput, N3.mB, N3.mU, N3.mVar, N3.mC, N3.sp0, N3.gt, N3.st, N3.rIx, N3.seqL, N3.dctL, N3.kOf, N3.rAdd, N3.mAsg, N3.gN, N3.mIfS, N3.mTest, N3.mPop, N3.mAppend, N3.mDrop, N3.mRet, N3.mRetN, N3.mNx, N3.mBrk, N3.mCnt, N3.mLst, N3.mLstM, N3.mCons, N3.mNil, N3.mTup, N3.mBlt, N3.mKw, N3.cat2, N3.cat2r, N3.gS, N3.gL, N3.mSlM, N3.rSlM, N3.mM1, N3.mSl, N3.mRev, N3.mStep, N3.mRevM, N3.mPart, N3.mNoPart, N3.rII, N3.rII0, N3.rIB, N3.rCmp, N3.rLt, N3.rLe, N3.rGt, N3.rGe, N3.mIsI, N3.tn, N3.isI, N3.mDisp, N3.mDct0, N3.mDct0M, N3.mPar3, N3.mAug, N3.rIAdd, N3.mExtend, N3.mInsert, N3.mPopAt, N3.rMin2, N3.rMax2, N3.rIntT, N3.rSplit, N3.rSplitM, N3.rAddM, N3.gPut, N3.mFmt, N3.mJs, N3.mJoin, N3.rDictP, N3.mRepM, N3.rListA, N3.rSortA, N3.mLc2, N3.lcI, N3.lcO, N3.rAllB, N3.rAnyB, N3.rStrI, N3.rIntO, N3.vwL, N3.rMul, N3.rMulT, N3.rNeg, N3.rSub, N3.rDiv, N3.rMod, N3.rPow, N3.mPar, N3.mAndT, N3.mOrT, N3.mNotT, N3.mAnd, N3.mOr, N3.mOrV, N3.mAndV, N3.trv, N3.mNot, N3.mIf, N3.mChn, N3.mKeep, N3.mRep, N3.mDispM, N3.mPs, N3.ends, N3.rLen, N3.rListOf, N3.rListOfM, N3.rTupOf, N3.rSumI, N3.listed, N3.rSl, N3.rRev, N3.rEq, N3.rNe, N3.rIsN, N3.rNotN, N3.isNon, N3.vw, N3.mYes, N3.gT, N3.gsCons, N3.gsNil, N3.mFor, N3.mSeqs, N3.mLc, N3.mLcM, N3.mRng1, N3.mRng2, N3.mEnum, N3.mEnumA, N3.mZip, N3.wp, N3.rJoin, N3.rSS, N3.rIdxS, N3.rRepr, N3.flat, N3.flats, N3.toD, N3.toDs, List.length_cons, List.length_nil, List.append_eq, List.cons_append, List.nil_append, List.map_cons, List.map_nil, if_true, if_false, Bool.false_eq_true, decide_eq_true_eq, Option.some.injEq, true_and, and_true, Bool.not_true, Bool.not_false, reduceCtorEq, Bool.and_self, Bool.and_true, Bool.true_and, ite_true, ite_false, It, lk_ro, hr, Option.isSome_some]
        rw [elk, e1, e2]
        refine step _ _ (by rw [up_same, c1]) (fun x hx => ?_) (fun x n1 n2 => up_ne n1) (g2.up (nds_map fun _ _ => rfl) (fun _ _ e => by cases e))
        rw [c1] at hx
        obtain ⟨-, x2, x3⟩ := ma x hx
        rw [up_ne x2]; exact he x x3
      · have c2 : ¬ r.e.n = 2 * T.I.late + 2 := by simpa using c2
        have := set (r.e.n + 1) (by unfold pz rstep sstep; rw [if_pos List.mem_cons_self, if_neg c, if_neg c2]; rfl)
        simp only [N3.mDput, N3.mB, N3.mU, N3.mVar, N3.mC, N3.sp0, N3.gt, N3.st, N3.rIx, N3.seqL, N3.dctL, N3.kOf, N3.rAdd, N3.mAsg, N3.gN, N3.mIfS, N3.mTest, N3.mPop, N3.mAppend, N3.mDrop, N3.mRet, N3.mRetN, N3.mNx, N3.mBrk, N3.mCnt, N3.mLst, N3.mLstM, N3.mCons, N3.mNil, N3.mTup, N3.mBlt, N3.mKw, N3.cat2, N3.cat2r, N3.gS, N3.gL, N3.mSlM, N3.rSlM, N3.mM1, N3.mSl, N3.mRev, N3.mStep, N3.mRevM, N3.mPart, N3.mNoPart, N3.rII, N3.rII0, N3.rIB, N3.rCmp, N3.rLt, N3.rLe, N3.rGt, N3.rGe, N3.mIsI, N3.tn, N3.isI, N3.mDisp, N3.mDct0, N3.mDct0M, N3.mPar3, N3.mAug, N3.rIAdd, N3.mExtend, N3.mInsert, N3.mPopAt, N3.rMin2, N3.rMax2, N3.rIntT, N3.rSplit, N3.rSplitM, N3.rAddM, N3.gPut, N3.mFmt, N3.mJs, N3.mJoin, N3.rDictP, N3.mRepM, N3.rListA, N3.rSortA, N3.mLc2, N3.lcI, N3.lcO, N3.rAllB, N3.rAnyB, N3.rStrI, N3.rIntO, N3.vwL, N3.rMul, N3.rMulT, N3.rNeg, N3.rSub, N3.rDiv, N3.rMod, N3.rPow, N3.mPar, N3.mAndT, N3.mOrT, N3.mNotT, N3.mAnd, N3.mOr, N3.mOrV, N3.mAndV, N3.trv, N3.mNot, N3.mIf, N3.mChn, N3.mKeep, N3.mRep, N3.mDispM, N3.mPs, N3.ends, N3.rLen, N3.rListOf, N3.rListOfM, N3.rTupOf, N3.rSumI, N3.listed, N3.rSl, N3.rRev, N3.rEq, N3.rNe, N3.rIsN, N3.rNotN, N3.isNon, N3.vw, N3.mYes, N3.gT, N3.gsCons, N3.gsNil, N3.mFor, N3.mSeqs, N3.mLc, N3.mLcM, N3.mRng1, N3.mRng2, N3.mEnum, N3.mEnumA, N3.mZip, N3.wp, N3.rJoin, N3.rSS, N3.rIdxS, N3.rRepr, N3.flat, N3.flats, N3.toD, N3.toDs, List.length_cons, List.length_nil, List.append_eq, List.cons_append, List.nil_append, List.map_cons, List.map_nil, if_true, if_false, Bool.false_eq_true, decide_eq_true_eq, Option.some.injEq, true_and, and_true, Bool.not_true, Bool.not_false, reduceCtorEq, Bool.and_self, Bool.and_true, Bool.true_and, ite_true, ite_false, ea, rwo, f4_3]
        exact this _
  · rintro τ h2 ⟨Z, rest, v1, v2, ee, hz, nr, hk, hr, he, ho, g2, rfl⟩
    refine ⟨trivial, ?_⟩
    cases rest with
    | cons e r => cases ee
    | nil =>
      have c1 : T.rs.filterMap (pz T.I.others T.I.late Z) = rbeat T.I.others T.I.late T.rs := pz_all fun r hr => by
        rcases (hk r.e.k).mp (List.mem_map_of_mem (f := fun r : Ro => r.e.k) hr) with z | z
        · exact z
        · cases z
      rw [c1] at hr he
      have fr : ∀ x, x ≠ T.rw → x ∉ T.rs.map Ro.ra → h2 x = h1 x := ho
      have H2 : SO C S T.I (esOf (rbeat T.I.others T.I.late T.rs)) h2 := by
        rw [es_beat]
        refine H1.mono fun x hx => ?_
        have hx2 : x ∈ sfp T.I (esOf T.rs) := by
          rw [← es_beat] at hx
          exact sf_thin (fun _ _ => rstep_same) x hx
        exact fr x (fun z => L.xs x (by rw [z]; simp) hx2) fun z => L.xs x (List.mem_cons_of_mem _ (List.mem_cons_of_mem _ (List.mem_append_left _ z))) hx2
      have L2 := LO.thin (h' := h2) L (f := rstep T.I.others T.I.late) (fun _ _ => rstep_same) H2 ((fr _ a1 fun z => a2 (List.mem_append_left _ z)).trans (ns _ List.mem_cons_self)) hr he (fun x hx b hb => by
        have m := mem_nv hx hb
        refine (fr b (fun z => a3 (z ▸ m)) fun z => (List.nodup_append.mp a4).2.2 _ z _ (List.mem_filterMap.mpr ⟨x, hx, hb⟩) rfl).trans (ns _ (List.mem_cons_of_mem _ (List.mem_cons_of_mem _ m))))
      refine q h2 L2 g2 fun x hx => ?_
      have x1 : x ≠ T.rw := fun z => hx (z ▸ fp_rw)
      have x2 : x ∉ T.rs.map Ro.ra := fun z => hx (fp_lf (List.mem_append_left _ z))
      have x3 : x ∉ sfp T.I (esOf T.rs) := fun z => hx (fp_sf z)
      simp only [sfp, List.mem_cons, List.mem_append, not_or] at x3
      exact (fr x x1 x2).trans (o1 x x3.2.1 x3.2.2.1)
end Wneversaid_k41_words_said

namespace Wneversaid_k41_words_said
open PySem PySem.Spec PyProof.Rows L2 N3
/-! ### begun -/
def spLBegun (C S : Addr) : SpP := fun ps h Q => ∃ (D : Dk) (n : Nat), ps = [.ref D.d] ∧ DO D n h ∧ Gd h ∧ n < 600000000 ∧
  ∀ T h', T.b = 0 → LO C S T 0 h' → DO D (n + 10) h' → Gd h' → (∀ x ∈ fp T, h x = none) → (∀ x, h x ≠ none → x ≠ D.d → x ≠ D.l → h' x = h x) → Q (.ref T.it) h'
theorem pure_law_begun {C S : Addr} : ∀ qs h Q, qs.length = 1 → spLBegun C S qs h Q → m_law_begun C spPick spNames spDraw (spSayer C) (ends Q) (sp0 4 qs) h := by
  rintro _ h Q - ⟨D, n, rfl, d, g, hn, k⟩
  unfold m_law_begun
  refine seq_step fun P hP => ?_
  simp only [mPar, mBlt, mCons, mNil, mVar, mLst, mC, N3.sp0, gt, N3.st]
  refine draw_do d g (by omega) (by decide) (by decide) fun many h0 m0 m1 d0 g0 o0 => ?_
  refine ⟨D, _, many, rfl, d0, g0, by omega, m0, by omega, fun os h0' ok d0' g0' o0' => ?_⟩
  refine pick_do d0' g0' (by omega) (by simp) (by decide) fun v hv h1 d1 g1 o1 => ?_
  have dl0 := d.live
  have keep : ∀ x, h x ≠ none → x ≠ D.d → x ≠ D.l → h1 x = h x := fun x x0 x1 x2 => by
    have e0 := o0 x x1 x2
    exact (o1 x x1 x2).trans ((o0' x (by rw [e0]; exact x0) x1 x2).trans e0)
  have fr1 : ∀ x, h1 x = none → h x = none := fun x hx => Classical.byContradiction fun z => by
    obtain ⟨a, b⟩ := d1.ne hx
    rw [keep x z a b] at hx
    exact z hx
  subst hP
  have fin : ∀ (late : Int), 1 ≤ late → late ≤ 4 → ∀ a w, h1 a = none → h1 w = none → w ≠ a → ∀ r, (up (up h1 a (.ins C sfn [.tup (os.map PV.str), .int late, .ref w])) w (.dct [] [])) r = none → ∀ it, (up (up (up h1 a (.ins C sfn [.tup (os.map PV.str), .int late, .ref w])) w (.dct [] [])) r (.dct [] [])) it = none →
      Q (.ref it) (up (up (up (up h1 a (.ins C sfn [.tup (os.map PV.str), .int late, .ref w])) w (.dct [] [])) r (.dct [] [])) it (.dct itk [.ref a, .tup (os.map PV.str), .int late, .ref r, .int 0])) := by
    intro late l0 l1 a w ha hw nw r hr it hit
    have r2 : r ≠ w := fun z => by rw [z, up_same] at hr; cases hr
    rw [up_ne r2] at hr
    have r3 : r ≠ a := fun z => by rw [z, up_same] at hr; cases hr
    rw [up_ne r3] at hr
    have i0 : it ≠ r := fun z => by rw [z, up_same] at hit; cases hit
    rw [up_ne i0] at hit
    have i2 : it ≠ w := fun z => by rw [z, up_same] at hit; cases hit
    rw [up_ne i2] at hit
    have i3 : it ≠ a := fun z => by rw [z, up_same] at hit; cases hit
    rw [up_ne i3] at hit
    have out : ∀ x, x ≠ a → x ≠ w → x ≠ r → x ≠ it → (up (up (up (up h1 a (.ins C sfn [.tup (os.map PV.str), .int late, .ref w])) w (.dct [] [])) r (.dct [] [])) it (.dct itk [.ref a, .tup (os.map PV.str), .int late, .ref r, .int 0])) x = h1 x := fun x x1 x2 x4 x5 => by
      rw [up_ne x5, up_ne x4, up_ne x2, up_ne x1]
    have sm : ∀ {y x}, h1 y = none → h1 x ≠ none → x ≠ y := fun {y x} hy hx z => hx (z ▸ hy)
    have dn := d1.live
    refine k ⟨⟨a, w, os, late⟩, it, r, [], 0⟩ _ rfl ⟨⟨?_, ?_, fun e he => by simp [esOf] at he, fun e he => by simp [esOf] at he, nw.symm, by simp [esOf], by simp [esOf], by simp [esOf], by simp [esOf], .nil, .nil, fun x hx => by simp [esOf] at hx, .nil, fun e he => by simp [esOf] at he, fun e he => by simp [esOf] at he, Nat.zero_le _⟩, up_same, ?_, fun e he => by simp at he, fun e he => by simp at he, fun e he => by simp at he, fun e he => by simp at he, fun e he => by simp at he, ?_, ?_, ⟨by simp, by simp, by simp, by simp, Nat.le_refl _⟩, ok, l0, l1⟩ ?_ ?_ ?_ ?_
    · rw [up_ne i3.symm, up_ne r3.symm, up_ne nw.symm, up_same]
    · rw [up_ne i2.symm, up_ne r2.symm, up_same]; rfl
    · rw [up_ne i0.symm, up_same]; rfl
    · show [it, r].Nodup
      exact List.nodup_cons.mpr ⟨by simpa using i0, List.nodup_cons.mpr ⟨by simp, .nil⟩⟩
    · intro x hx
      simp only [lf, List.map_nil, List.filterMap_nil, List.append_nil, List.mem_cons, List.not_mem_nil, or_false] at hx
      simp only [sfp, esOf, List.map_nil, List.append_nil, List.mem_cons, List.not_mem_nil, or_false, not_or]
      rcases hx with rfl | rfl
      · exact ⟨i3, i2⟩
      · exact ⟨r3, r2⟩
    · exact (d1.mono (by omega)).keep (out _ (sm ha dn.1) (sm hw dn.1) (sm hr dn.1) (sm hit dn.1)) (out _ (sm ha dn.2) (sm hw dn.2) (sm hr dn.2) (sm hit dn.2))
    · refine (((g1.up ?_ ?_).up rfl ?_).up rfl ?_).up ?_ ?_
      · show (nds (os.map PV.str) && (true && (true && true))) = true
        rw [nds_map fun _ _ => rfl]; rfl
      · intro _ _ e; cases e
      · intro _ _ e; cases e
      · intro _ _ e; cases e
      · show (true && (nds (os.map PV.str) && (true && (true && (true && true))))) = true
        rw [nds_map fun _ _ => rfl]; rfl
      · intro _ _ e; cases e
    · intro x hx
      simp only [fp, lf, sfp, esOf, List.map_nil, List.filterMap_nil, List.append_nil, List.nil_append, List.mem_cons, List.not_mem_nil, or_false] at hx
      rcases hx with rfl | rfl | rfl | rfl
      · exact fr1 _ hit
      · exact fr1 _ hr
      · exact fr1 _ ha
      · exact fr1 _ hw
    · intro x hx n1 n2
      have hx1 : h1 x ≠ none := by rw [keep x hx n1 n2]; exact hx
      exact (out x (sm ha hx1) (sm hw hx1) (sm hr hx1) (sm hit hx1)).trans (keep x hx n1 n2)
  have mk : ∀ (late : Int) (P : PK), (∀ a w, h1 a = none → h1 w = none → w ≠ a → P (.ref a) (up (up h1 a (.ins C sfn [.tup (os.map PV.str), .int late, .ref w])) w (.dct [] []))) →
      ∀ a, h1 a = none → spSayer C [.ref a, .tup (os.map PV.str), .int late] (up h1 a (.ins C [] [])) (fun v h3 => v = .non ∧ P (.ref a) h3) := by
    intro late P hP a ha
    refine ⟨a, os, late, rfl, up_same, fun w hw => ⟨rfl, ?_⟩⟩
    have nw : w ≠ a := fun z => by rw [z, up_same] at hw; cases hw
    rw [up_ne nw] at hw
    rw [up_up]
    exact hP a w ha hw nw
  have main : ∀ late : Int, 1 ≤ late → late ≤ 4 → v = .int late → mSeq (mAsg (mIf (mTest (mB rIsN (mVar 2) (mC .non))) (mMake C (spSayer C) pat_Sayer_init_0 (mCons (mVar 1) (mNil)) (mNil)) (mMake C (spSayer C) pat_Sayer_init_1 (mCons (mVar 1) (mNil)) (mCons (mVar 2) (mNil)))) (gN 3))
      (mRet (mDispM [(mC (.str "sayer"), mVar 3), (mC (.str "others"), mVar 1), (mC (.str "late"), mIf (mTest (mB rIsN (mVar 2) (mC .non))) (mC (.int 2)) (mVar 2)), (mC (.str "rows"), mDct0M), (mC (.str "beats"), mC (.int 0))])) (ends Q) [some (.ref D.d), some (.tup (os.map PV.str)), some v, none] h1 := by
    rintro late l0 l1 rfl
    refine seq_step fun P hP => ?_
    simp only [mMake, N3.mDput, N3.mB, N3.mU, N3.mVar, N3.mC, N3.sp0, N3.gt, N3.st, N3.rIx, N3.seqL, N3.dctL, N3.kOf, N3.rAdd, N3.mAsg, N3.gN, N3.mIfS, N3.mTest, N3.mPop, N3.mAppend, N3.mDrop, N3.mRet, N3.mRetN, N3.mNx, N3.mBrk, N3.mCnt, N3.mLst, N3.mLstM, N3.mCons, N3.mNil, N3.mTup, N3.mBlt, N3.mKw, N3.cat2, N3.cat2r, N3.gS, N3.gL, N3.mSlM, N3.rSlM, N3.mM1, N3.mSl, N3.mRev, N3.mStep, N3.mRevM, N3.mPart, N3.mNoPart, N3.rII, N3.rII0, N3.rIB, N3.rCmp, N3.rLt, N3.rLe, N3.rGt, N3.rGe, N3.mIsI, N3.tn, N3.isI, N3.mDisp, N3.mDct0, N3.mDct0M, N3.mPar3, N3.mAug, N3.rIAdd, N3.mExtend, N3.mInsert, N3.mPopAt, N3.rMin2, N3.rMax2, N3.rIntT, N3.rSplit, N3.rSplitM, N3.rAddM, N3.gPut, N3.mFmt, N3.mJs, N3.mJoin, N3.rDictP, N3.mRepM, N3.rListA, N3.rSortA, N3.mLc2, N3.lcI, N3.lcO, N3.rAllB, N3.rAnyB, N3.rStrI, N3.rIntO, N3.vwL, N3.rMul, N3.rMulT, N3.rNeg, N3.rSub, N3.rDiv, N3.rMod, N3.rPow, N3.mPar, N3.mAndT, N3.mOrT, N3.mNotT, N3.mAnd, N3.mOr, N3.mOrV, N3.mAndV, N3.trv, N3.mNot, N3.mIf, N3.mChn, N3.mKeep, N3.mRep, N3.mDispM, N3.mPs, N3.ends, N3.rLen, N3.rListOf, N3.rListOfM, N3.rTupOf, N3.rSumI, N3.listed, N3.rSl, N3.rRev, N3.rEq, N3.rNe, N3.rIsN, N3.rNotN, N3.isNon, N3.vw, N3.mYes, N3.gT, N3.gsCons, N3.gsNil, N3.mFor, N3.mSeqs, N3.mLc, N3.mLcM, N3.mRng1, N3.mRng2, N3.mEnum, N3.mEnumA, N3.mZip, N3.wp, N3.rJoin, N3.rSS, N3.rIdxS, N3.rRepr, N3.flat, N3.flats, N3.toD, N3.toDs, List.length_cons, List.length_nil, List.append_eq, List.cons_append, List.nil_append, List.map_cons, List.map_nil, if_true, if_false, Bool.false_eq_true, decide_eq_true_eq, Option.some.injEq, true_and, and_true, Bool.not_true, Bool.not_false, reduceCtorEq, Bool.and_self, Bool.and_true, Bool.true_and, ite_true, ite_false]
    refine fun a ha => mk late (fun v h3 => P [some (.ref D.d), some (.tup (os.map PV.str)), some (.int late), some v] h3) (fun a w ha hw nw => ?_) a ha
    subst hP
    simp only [N3.mDput, N3.mB, N3.mU, N3.mVar, N3.mC, N3.sp0, N3.gt, N3.st, N3.rIx, N3.seqL, N3.dctL, N3.kOf, N3.rAdd, N3.mAsg, N3.gN, N3.mIfS, N3.mTest, N3.mPop, N3.mAppend, N3.mDrop, N3.mRet, N3.mRetN, N3.mNx, N3.mBrk, N3.mCnt, N3.mLst, N3.mLstM, N3.mCons, N3.mNil, N3.mTup, N3.mBlt, N3.mKw, N3.cat2, N3.cat2r, N3.gS, N3.gL, N3.mSlM, N3.rSlM, N3.mM1, N3.mSl, N3.mRev, N3.mStep, N3.mRevM, N3.mPart, N3.mNoPart, N3.rII, N3.rII0, N3.rIB, N3.rCmp, N3.rLt, N3.rLe, N3.rGt, N3.rGe, N3.mIsI, N3.tn, N3.isI, N3.mDisp, N3.mDct0, N3.mDct0M, N3.mPar3, N3.mAug, N3.rIAdd, N3.mExtend, N3.mInsert, N3.mPopAt, N3.rMin2, N3.rMax2, N3.rIntT, N3.rSplit, N3.rSplitM, N3.rAddM, N3.gPut, N3.mFmt, N3.mJs, N3.mJoin, N3.rDictP, N3.mRepM, N3.rListA, N3.rSortA, N3.mLc2, N3.lcI, N3.lcO, N3.rAllB, N3.rAnyB, N3.rStrI, N3.rIntO, N3.vwL, N3.rMul, N3.rMulT, N3.rNeg, N3.rSub, N3.rDiv, N3.rMod, N3.rPow, N3.mPar, N3.mAndT, N3.mOrT, N3.mNotT, N3.mAnd, N3.mOr, N3.mOrV, N3.mAndV, N3.trv, N3.mNot, N3.mIf, N3.mChn, N3.mKeep, N3.mRep, N3.mDispM, N3.mPs, N3.ends, N3.rLen, N3.rListOf, N3.rListOfM, N3.rTupOf, N3.rSumI, N3.listed, N3.rSl, N3.rRev, N3.rEq, N3.rNe, N3.rIsN, N3.rNotN, N3.isNon, N3.vw, N3.mYes, N3.gT, N3.gsCons, N3.gsNil, N3.mFor, N3.mSeqs, N3.mLc, N3.mLcM, N3.mRng1, N3.mRng2, N3.mEnum, N3.mEnumA, N3.mZip, N3.wp, N3.rJoin, N3.rSS, N3.rIdxS, N3.rRepr, N3.flat, N3.flats, N3.toD, N3.toDs, List.length_cons, List.length_nil, List.append_eq, List.cons_append, List.nil_append, List.map_cons, List.map_nil, if_true, if_false, Bool.false_eq_true, decide_eq_true_eq, Option.some.injEq, true_and, and_true, Bool.not_true, Bool.not_false, reduceCtorEq, Bool.and_self, Bool.and_true, Bool.true_and, ite_true, ite_false]
    intro r hr
    refine ⟨by decide +kernel, fun it hit => ?_⟩
    exact fin late l0 l1 a w ha hw nw r hr it hit
  simp only [List.mem_cons, List.not_mem_nil, or_false] at hv
  rcases hv with rfl | rfl | rfl | rfl | rfl
  · exact main 1 (by decide) (by decide) rfl
  · exact main 2 (by decide) (by decide) rfl
  · exact main 3 (by decide) (by decide) rfl
  · exact main 4 (by decide) (by decide) rfl
  · refine seq_step fun P hP => ?_
    simp only [mMake, N3.mDput, N3.mB, N3.mU, N3.mVar, N3.mC, N3.sp0, N3.gt, N3.st, N3.rIx, N3.seqL, N3.dctL, N3.kOf, N3.rAdd, N3.mAsg, N3.gN, N3.mIfS, N3.mTest, N3.mPop, N3.mAppend, N3.mDrop, N3.mRet, N3.mRetN, N3.mNx, N3.mBrk, N3.mCnt, N3.mLst, N3.mLstM, N3.mCons, N3.mNil, N3.mTup, N3.mBlt, N3.mKw, N3.cat2, N3.cat2r, N3.gS, N3.gL, N3.mSlM, N3.rSlM, N3.mM1, N3.mSl, N3.mRev, N3.mStep, N3.mRevM, N3.mPart, N3.mNoPart, N3.rII, N3.rII0, N3.rIB, N3.rCmp, N3.rLt, N3.rLe, N3.rGt, N3.rGe, N3.mIsI, N3.tn, N3.isI, N3.mDisp, N3.mDct0, N3.mDct0M, N3.mPar3, N3.mAug, N3.rIAdd, N3.mExtend, N3.mInsert, N3.mPopAt, N3.rMin2, N3.rMax2, N3.rIntT, N3.rSplit, N3.rSplitM, N3.rAddM, N3.gPut, N3.mFmt, N3.mJs, N3.mJoin, N3.rDictP, N3.mRepM, N3.rListA, N3.rSortA, N3.mLc2, N3.lcI, N3.lcO, N3.rAllB, N3.rAnyB, N3.rStrI, N3.rIntO, N3.vwL, N3.rMul, N3.rMulT, N3.rNeg, N3.rSub, N3.rDiv, N3.rMod, N3.rPow, N3.mPar, N3.mAndT, N3.mOrT, N3.mNotT, N3.mAnd, N3.mOr, N3.mOrV, N3.mAndV, N3.trv, N3.mNot, N3.mIf, N3.mChn, N3.mKeep, N3.mRep, N3.mDispM, N3.mPs, N3.ends, N3.rLen, N3.rListOf, N3.rListOfM, N3.rTupOf, N3.rSumI, N3.listed, N3.rSl, N3.rRev, N3.rEq, N3.rNe, N3.rIsN, N3.rNotN, N3.isNon, N3.vw, N3.mYes, N3.gT, N3.gsCons, N3.gsNil, N3.mFor, N3.mSeqs, N3.mLc, N3.mLcM, N3.mRng1, N3.mRng2, N3.mEnum, N3.mEnumA, N3.mZip, N3.wp, N3.rJoin, N3.rSS, N3.rIdxS, N3.rRepr, N3.flat, N3.flats, N3.toD, N3.toDs, List.length_cons, List.length_nil, List.append_eq, List.cons_append, List.nil_append, List.map_cons, List.map_nil, if_true, if_false, Bool.false_eq_true, decide_eq_true_eq, Option.some.injEq, true_and, and_true, Bool.not_true, Bool.not_false, reduceCtorEq, Bool.and_self, Bool.and_true, Bool.true_and, ite_true, ite_false, gN, N3.st]
    refine fun a ha => mk 2 (fun v h3 => P [some (.ref D.d), some (.tup (os.map PV.str)), some .non, some v] h3) (fun a w ha hw nw => ?_) a ha
    subst hP
    simp only [N3.mDput, N3.mB, N3.mU, N3.mVar, N3.mC, N3.sp0, N3.gt, N3.st, N3.rIx, N3.seqL, N3.dctL, N3.kOf, N3.rAdd, N3.mAsg, N3.gN, N3.mIfS, N3.mTest, N3.mPop, N3.mAppend, N3.mDrop, N3.mRet, N3.mRetN, N3.mNx, N3.mBrk, N3.mCnt, N3.mLst, N3.mLstM, N3.mCons, N3.mNil, N3.mTup, N3.mBlt, N3.mKw, N3.cat2, N3.cat2r, N3.gS, N3.gL, N3.mSlM, N3.rSlM, N3.mM1, N3.mSl, N3.mRev, N3.mStep, N3.mRevM, N3.mPart, N3.mNoPart, N3.rII, N3.rII0, N3.rIB, N3.rCmp, N3.rLt, N3.rLe, N3.rGt, N3.rGe, N3.mIsI, N3.tn, N3.isI, N3.mDisp, N3.mDct0, N3.mDct0M, N3.mPar3, N3.mAug, N3.rIAdd, N3.mExtend, N3.mInsert, N3.mPopAt, N3.rMin2, N3.rMax2, N3.rIntT, N3.rSplit, N3.rSplitM, N3.rAddM, N3.gPut, N3.mFmt, N3.mJs, N3.mJoin, N3.rDictP, N3.mRepM, N3.rListA, N3.rSortA, N3.mLc2, N3.lcI, N3.lcO, N3.rAllB, N3.rAnyB, N3.rStrI, N3.rIntO, N3.vwL, N3.rMul, N3.rMulT, N3.rNeg, N3.rSub, N3.rDiv, N3.rMod, N3.rPow, N3.mPar, N3.mAndT, N3.mOrT, N3.mNotT, N3.mAnd, N3.mOr, N3.mOrV, N3.mAndV, N3.trv, N3.mNot, N3.mIf, N3.mChn, N3.mKeep, N3.mRep, N3.mDispM, N3.mPs, N3.ends, N3.rLen, N3.rListOf, N3.rListOfM, N3.rTupOf, N3.rSumI, N3.listed, N3.rSl, N3.rRev, N3.rEq, N3.rNe, N3.rIsN, N3.rNotN, N3.isNon, N3.vw, N3.mYes, N3.gT, N3.gsCons, N3.gsNil, N3.mFor, N3.mSeqs, N3.mLc, N3.mLcM, N3.mRng1, N3.mRng2, N3.mEnum, N3.mEnumA, N3.mZip, N3.wp, N3.rJoin, N3.rSS, N3.rIdxS, N3.rRepr, N3.flat, N3.flats, N3.toD, N3.toDs, List.length_cons, List.length_nil, List.append_eq, List.cons_append, List.nil_append, List.map_cons, List.map_nil, if_true, if_false, Bool.false_eq_true, decide_eq_true_eq, Option.some.injEq, true_and, and_true, Bool.not_true, Bool.not_false, reduceCtorEq, Bool.and_self, Bool.and_true, Bool.true_and, ite_true, ite_false]
    intro r hr
    refine ⟨by decide +kernel, fun it hit => ?_⟩
    exact fin 2 (by decide) (by decide) a w ha hw nw r hr it hit
/-! ### an answer -/
theorem fm_congr' {f g : Ro → Option Addr} : ∀ {rs : List Ro}, (∀ x ∈ rs, f x = g x) → rs.filterMap f = rs.filterMap g
  | [], _ => rfl
  | x :: rs, h => by rw [List.filterMap_cons, List.filterMap_cons, h x List.mem_cons_self, fm_congr' fun y hy => h y (List.mem_cons_of_mem _ hy)]
theorem mem_addN {o y : Str} {ns : List Str} : y ∈ addN o ns ↔ y ∈ ns ∨ y = o := by
  unfold addN
  split
  · rename_i h
    exact ⟨.inl, fun z => z.elim id fun e => by rw [e]; exact h⟩
  · rw [List.mem_append, List.mem_singleton]
theorem addN_perm {o : Str} {ls ns : List Str} (p : ls.Perm ns) : (addN o ls).Perm (addN o ns) := by
  unfold addN
  by_cases h : o ∈ ns
  · rw [if_pos h, if_pos (p.mem_iff.mpr h)]; exact p
  · rw [if_neg h, if_neg fun z => h (p.mem_iff.mp z)]; exact p.append_right _
def rhit (os : List Str) (o k : Str) (t : Int) (x : Str) (r : Ro) : Ro := if r.e.k = k ∧ o ∈ os ∧ r.e.t = t ∧ r.e.x = x then { r with e := { r.e with ns := addN o r.e.ns }, ln := addN o r.ln } else r
section
variable {os : List Str} {o k x : Str} {t : Int} {r : Ro}
theorem rhit_e : (rhit os o k t x r).e = hit os o k t x r.e := by
  unfold rhit hit
  split <;> rfl
theorem rhit_s : (rhit os o k t x r).e.k = r.e.k ∧ (rhit os o k t x r).e.t = r.e.t ∧ (rhit os o k t x r).e.x = r.e.x ∧ (rhit os o k t x r).e.n = r.e.n ∧ (rhit os o k t x r).e.a = r.e.a ∧ (rhit os o k t x r).e.d = r.e.d ∧ (rhit os o k t x r).ra = r.ra ∧ (rhit os o k t x r).nv = r.nv := by
  unfold rhit
  split <;> exact ⟨rfl, rfl, rfl, rfl, rfl, rfl, rfl, rfl⟩
theorem rhit_ln {y : Str} (h : y ∈ r.ln) : y ∈ (rhit os o k t x r).ln := by
  unfold rhit
  split
  · exact mem_addN.mpr (.inl h)
  · exact h
theorem rhit_none (h : r.e.k ≠ k) : rhit os o k t x r = r := by unfold rhit; rw [if_neg fun z => h z.1]
theorem rhit_p (p : r.ln.Perm r.e.ns) : (rhit os o k t x r).ln.Perm (rhit os o k t x r).e.ns := by
  unfold rhit
  split
  · exact addN_perm p
  · exact p
theorem es_hit (rs : List Ro) : esOf (rs.map (rhit os o k t x)) = (esOf rs).map (hit os o k t x) := by
  unfold esOf
  rw [List.map_map, List.map_map]
  exact List.map_congr_left fun r _ => rhit_e
theorem lf_hit (rs : List Ro) : lf (rs.map (rhit os o k t x)) = lf rs := by
  unfold lf
  rw [List.map_map, List.filterMap_map]
  congr 1
  · exact List.map_congr_left fun r _ => rhit_s.2.2.2.2.2.2.1
  · exact fm_congr' fun r _ => rhit_s.2.2.2.2.2.2.2
end
end Wneversaid_k41_words_said

namespace Wneversaid_k41_words_said
open PySem PySem.Spec PyProof.Rows L2 N3
theorem sf_hit {os : List Str} {o k x : Str} {t : Int} (I : Se) (rs : List Ro) : sfp I (esOf (rs.map (rhit os o k t x))) = sfp I (esOf rs) := by
  have e1 : (esOf (rs.map (rhit os o k t x))).map Sa.a = (esOf rs).map Sa.a := by
    unfold esOf
    simp only [List.map_map]
    exact List.map_congr_left fun r _ => (rhit_s (r := r)).2.2.2.2.1
  have e2 : (esOf (rs.map (rhit os o k t x))).map Sa.d = (esOf rs).map Sa.d := by
    unfold esOf
    simp only [List.map_map]
    exact List.map_congr_left fun r _ => (rhit_s (r := r)).2.2.2.2.2.1
  unfold sfp
  rw [e1, e2]
theorem f2_0 {a b : PV} : atI [a, b] 0 = some a := rfl
theorem f2_1 {a b : PV} : atI [a, b] 1 = some b := rfl
theorem LO.hit {C S : Addr} {T : LI} {j : Nat} {h h' : PH} (L : LO C S T j h) {o k x : Str} {t : Int} (H : SO C S T.I ((esOf T.rs).map (hit T.I.others o k t x)) h') (it : h' T.it = h T.it) (rw_ : h' T.rw = h T.rw) (el : ∀ r ∈ T.rs, h' r.ra = h r.ra)
    (en : ∀ r ∈ T.rs, ∀ b, r.nv = some b → h' b = some (.lst ((rhit T.I.others o k t x r).ln.map PV.str))) : LO C S { T with rs := T.rs.map (rhit T.I.others o k t x) } j h' := by
  have hm : ∀ {y}, y ∈ T.rs.map (rhit T.I.others o k t x) → ∃ r ∈ T.rs, rhit T.I.others o k t x r = y := fun {y} hy => List.mem_map.mp hy
  have sE := sf_hit (o := o) (k := k) (x := x) (t := t) (os := T.I.others) T.I T.rs
  refine ⟨by rw [es_hit]; exact H, it.trans L.it, ?_, fun y hy => ?_, fun y hy b hb => ?_, fun y hy hn o' ho => ?_, fun y hy => ?_, fun y hy o' ho => ?_, by rw [lf_hit]; exact L.nd, fun z hz => by rw [sE]; rw [lf_hit] at hz; exact L.xs z hz, ⟨fun y hy => ?_, fun y hy => ?_, fun y hy => ?_, fun y hy => ?_, by rw [List.length_map]; exact L.eb.ln⟩, L.ok, L.l0, L.l1⟩
  · rw [rw_, L.rw]
    have e1 : (T.rs.map (rhit T.I.others o k t x)).map rk = T.rs.map rk := by
      rw [List.map_map]; exact List.map_congr_left fun r _ => by show rk (rhit _ _ _ _ _ r) = rk r; unfold rk; rw [rhit_s.1]
    have e2 : (T.rs.map (rhit T.I.others o k t x)).map rv = T.rs.map rv := by
      rw [List.map_map]; exact List.map_congr_left fun r _ => by show rv (rhit _ _ _ _ _ r) = rv r; unfold rv; rw [rhit_s.2.2.2.2.2.2.1]
    rw [e1, e2]
  · obtain ⟨r, hr, rfl⟩ := hm hy
    obtain ⟨h1, h2, h3, h4, h5, h6, h7, h8⟩ := rhit_s (os := T.I.others) (o := o) (k := k) (x := x) (t := t) (r := r)
    rw [h7, el r hr, L.el r hr]
    have nm : nmV (rhit T.I.others o k t x r) = nmV r := by
      unfold nmV
      rw [h8]
      cases hv : r.nv with
      | some b => rfl
      | none =>
        have : (rhit T.I.others o k t x r).ln = r.ln := by
          unfold rhit
          split
          · rename_i c
            show addN o r.ln = r.ln
            unfold addN
            rw [if_pos (L.ef r hr hv o c.2.1)]
          · rfl
        simp only [this]
    unfold rwo
    rw [h2, h3, h4, nm]
  · obtain ⟨r, hr, rfl⟩ := hm hy
    rw [rhit_s.2.2.2.2.2.2.2] at hb
    exact en r hr b hb
  · obtain ⟨r, hr, rfl⟩ := hm hy
    rw [rhit_s.2.2.2.2.2.2.2] at hn
    exact rhit_ln (L.ef r hr hn o' ho)
  · obtain ⟨r, hr, rfl⟩ := hm hy
    exact rhit_p (L.pn r hr)
  · obtain ⟨r, hr, rfl⟩ := hm hy
    unfold rhit at ho
    split at ho
    · rename_i c
      rcases mem_addN.mp ho with z | z
      · exact L.so r hr o' z
      · rw [z]; exact c.2.1
    · exact L.so r hr o' ho
  · obtain ⟨r, hr, rfl⟩ := hm hy
    rw [rhit_s.1]; exact L.eb.k r hr
  · obtain ⟨r, hr, rfl⟩ := hm hy
    rw [rhit_s.2.2.1]; exact L.eb.x r hr
  · obtain ⟨r, hr, rfl⟩ := hm hy
    rw [rhit_s.2.1]; exact L.eb.t0 r hr
  · obtain ⟨r, hr, rfl⟩ := hm hy
    rw [rhit_s.2.1]; exact L.eb.t1 r hr
theorem fp_hit {T : LI} {o k x : Str} {t : Int} : ∀ y, y ∈ fp { T with rs := T.rs.map (rhit T.I.others o k t x) } ↔ y ∈ fp T := by
  have sE := sf_hit (o := o) (k := k) (x := x) (t := t) (os := T.I.others) T.I T.rs
  intro y
  unfold fp
  show y ∈ T.it :: T.rw :: (lf (T.rs.map (rhit T.I.others o k t x)) ++ sfp T.I (esOf (T.rs.map (rhit T.I.others o k t x)))) ↔ _
  rw [lf_hit, sE]
theorem pick_dt {D : Dk} {n : Nat} {h : PH} {Q : PK} {xs : List PV} (d : DO D n h) (g : Gd h) (hn : n < 900000000) (h1 : xs ≠ []) (h2 : xs.length ≤ 100000)
    (k : ∀ v ∈ xs, ∀ h', DO D (n + 1) h' → Gd h' → (∀ x, x ≠ D.d → x ≠ D.l → h' x = h x) → Q v h') : spPick [.ref D.d, .tup xs] h Q :=
  pick_tup (D := { D with h0 := h }) d.at hn h1 h2 fun v hv h' a => k v hv h' (by have := DO.of a; exact this) (at_gd a g) fun x n1 n2 => a.rd n1 n2
theorem eq_pair {t t' : Int} {x x' : Str} {h : PH} {Q : PK} (q : Q (.bl (decide (t' = t ∧ x' = x))) h) : N3.rEq (.tup [.int t', .str x']) (.tup [.int t, .str x]) h Q := by
  refine ⟨rfl, rfl, by simp [vw, toD, toDs, PyData.depth, PyData.depthAll], ?_⟩
  have e : PyData.eqv (toD (vw h (.tup [.int t', .str x']))) (toD (vw h (.tup [.int t, .str x]))) = decide (t' = t ∧ x' = x) := by
    show (PyData.eqv (.int t') (.int t) && (PyData.eqv (.str x') (.str x) && true)) = _
    rw [eqv_int, eqv_sd, Bool.and_true, Bool.decide_and]
  rw [e]; exact q
theorem ans_no : ("answered" : Str) ∉ sfn := by decide +kernel
theorem lk_out {α : Type} {K : α → Key} {f : α → PV} {k : Key} : ∀ {l : List α}, k ∉ l.map K → lk (l.map K) (l.map f) k = none
  | [], _ => rfl
  | x :: l, h => by
    rw [List.map_cons, List.mem_cons, not_or] at h
    exact (if_neg fun e => h.1 e.symm).trans (lk_out h.2)
/-- a row of this name, or none -/
theorem row_at {T : LI} {k : Str} (nd : (T.rs.map rk).Nodup) : (∃ ds r rr, T.rs = ds ++ r :: rr ∧ r.e.k = k ∧ ∀ f : Ro → PV, lk (T.rs.map rk) (T.rs.map f) (.inr k) = some (f r)) ∨ ((∀ r ∈ T.rs, r.e.k ≠ k) ∧ ∀ f : Ro → PV, lk (T.rs.map rk) (T.rs.map f) (.inr k) = none) := by
  rcases Classical.em (∃ r ∈ T.rs, r.e.k = k) with ⟨r, hr, e⟩ | hn
  · obtain ⟨ds, rr, er⟩ := List.append_of_mem hr
    refine .inl ⟨ds, r, rr, er, e, fun f => ?_⟩
    rw [er] at nd ⊢
    rw [← e]
    exact lk_mid (K := rk) (nd_mid nd).1
  · refine .inr ⟨fun r hr e => hn ⟨r, hr, e⟩, fun f => ?_⟩
    refine lk_out (K := rk) fun hx => ?_
    obtain ⟨r, hr, e⟩ := List.mem_map.mp hx
    unfold rk at e
    injection e with e
    exact hn ⟨r, hr, e⟩
def spLAns (C S : Addr) : SpP := fun ps h Q => ∃ (D : Dk) (n : Nat) (T : LI) (j : Nat) (k : Str), ps = [.ref D.d, .ref T.it, .str k] ∧ DO D n h ∧ Gd h ∧ n < 600000000 ∧ LO C S T j h ∧ j ≤ 60 ∧ D.d ∉ fp T ∧ D.l ∉ fp T ∧
  ∀ rs' h', LO C S { T with rs := rs' } j h' → (∀ y, y ∈ fp { T with rs := rs' } ↔ y ∈ fp T) → DO D (n + 2) h' → Gd h' → (∀ x, x ∉ fp T → x ≠ D.d → x ≠ D.l → h' x = h x) → Q .non h'
theorem pure_law_answers {C S : Addr} : ∀ qs h Q, qs.length = 3 → spLAns C S qs h Q → m_law_answers C spPick spDraw (spAns C S) (ends Q) (sp0 10 qs) h := by
  rintro _ h Q - ⟨D, n, T, j, k, rfl, d, g, hn, L, hj, dd, dl, q⟩
  unfold m_law_answers
  obtain ⟨a1, a2, a3, a4⟩ := L.apart
  have on := L.ok.n
  have lw : ∀ x : Str, x ∈ ws5 → x.length ≤ 20 := fun x hx => by
    have e : x.length = (cl x).length := by rw [← S_length, S_cl]
    rw [e]; exact (tx_w hx).n
  refine seq_step fun P hP => ?_
  simp only [mAsg, mGet2, mB, mVar, mC, mLst, mCons, mNil, gt, N3.sp0, N3.rIx, seqL, dctL, L.it, kOf, lk_ro, L.rw, Option.isSome_some, true_and]
  /- behind the first line, whatever it found -/
  have body : ∀ (t : Int) (x : Str) (nv : PV) (w : Int), 0 ≤ t → t ≤ 100 → x ∈ ws5 → ((∃ ds r rr, T.rs = ds ++ r :: rr ∧ r.e.k = k ∧ t = r.e.t ∧ x = r.e.x ∧ nv = nmV r ∧ ∀ f : Ro → PV, lk (T.rs.map rk) (T.rs.map f) (.inr k) = some (f r)) ∨ ((∀ r ∈ T.rs, r.e.k ≠ k) ∧ ∀ f : Ro → PV, lk (T.rs.map rk) (T.rs.map f) (.inr k) = none)) →
      P [some (.ref D.d), some (.ref T.it), some (.str k), some (.int t), some (.str x), some nv, some (.int w), none, none, none] h := by
    intro t x nv w t0 t1 hx hrow
    subst hP
    refine seq_step fun P hP => ?_
    simp only [mPar, mCons, mNil, mBlt, mB, mTup, mVar, mC, gt, N3.st]
    refine draw_do d g (by omega) (by decide) (by decide) fun bent h1 b0 b1 d1 g1 o1 => ?_
    have L1 := L.mono fun x hx => o1 x (fun z => dd (z ▸ hx)) (fun z => dl (z ▸ hx))
    simp only [N3.rIx, seqL, dctL, L1.it, kOf, lk_ot, N3.rAdd]
    refine ⟨by rw [List.length_map]; show _ + 1 ≤ 16777216; omega, ?_⟩
    refine pick_dt d1 g1 (by omega) (by simp) (by rw [List.length_append, List.length_map]; show _ + 1 ≤ 100000; omega) fun v hv h2 d2 g2 o2 => ?_
    obtain ⟨o, rfl⟩ : ∃ o : Str, v = .str o := by
      rcases List.mem_append.mp hv with z | z
      · obtain ⟨o, -, e⟩ := List.mem_map.mp z
        exact ⟨o, e.symm⟩
      · rw [List.mem_singleton] at z; exact ⟨_, z⟩
    have L2 := L1.mono fun x hx => o2 x (fun z => dd (z ▸ hx)) (fun z => dl (z ▸ hx))
    have o12 : ∀ y, y ≠ D.d → y ≠ D.l → h2 y = h y := fun y y1 y2 => (o2 y y1 y2).trans (o1 y y1 y2)
    clear o1 o2 L1 d1 g1
    /- the last two lines -/
    have last : ∀ (t' : Int) (x' : Str), (bent = 7 → t' = t ∧ x' = x) → mSeq (mIfS (mTest (mB N3.rEq (mVar 7) (mC (.int 7)))) (mDrop (mMeth C "answered" (spAns C S) pat_Sayer_answered_0 (mB N3.rIx (mVar 1) (mC (.str "sayer"))) mNil (mCons (mVar 4) (mCons (mVar 3) (mCons (mVar 2) (mCons (mVar 8) (mNil))))))) (mDrop (mMeth C "answered" (spAns C S) pat_Sayer_answered_1 (mB N3.rIx (mVar 1) (mC (.str "sayer"))) (mCons (mVar 8) (mCons (mVar 2) (mCons (mB N3.rIx (mVar 9) (mC (.int 0))) (mCons (mB N3.rIx (mVar 9) (mC (.int 1))) (mNil))))) (mNil))))
        (mIfS (mAndT (mTest (mB (rInD false) (mVar 2) (mB N3.rIx (mVar 1) (mC (.str "rows"))))) (mAndT (mTest (mB N3.rEq (mVar 9) (mTup (mCons (mVar 3) (mCons (mVar 4) (mNil)))))) (mAndT (mTest (mB (rInP false) (mVar 8) (mB N3.rIx (mVar 1) (mC (.str "others"))))) (mTest (mB (rInP true) (mVar 8) (mVar 5)))))) (mDrop (mAppend (mVar 5) (mCons (mVar 8) (mNil)))) (mNx)) (ends Q)
        [some (.ref D.d), some (.ref T.it), some (.str k), some (.int t), some (.str x), some nv, some (.int w), some (.int bent), some (.str o), some (.tup [.int t', .str x'])] h2 := by
      intro t' x' hb
      refine seq_step fun P hP => ?_
      have l60 : ∀ e ∈ esOf T.rs, e.ns.length < 60 := fun e he => by
        obtain ⟨r, hr, rfl⟩ := List.mem_map.mp he
        have := L.lenN hr
        rw [(L.pn r hr).length_eq] at this
        omega
      have call : ∀ (R : PK), (∀ h3, SO C S T.I ((esOf T.rs).map (hit T.I.others o k t' x')) h3 → Gd h3 → (∀ y, y ∉ (esOf T.rs).map Sa.d → h3 y = h2 y) → R .non h3) → spAns C S [.ref T.I.sa, .str o, .str k, .int t', .str x'] h2 R := fun R hR => ⟨T.I, _, o, k, t', x', rfl, L2.H, g2, l60, hR⟩
      have fin : ∀ h3, SO C S T.I ((esOf T.rs).map (hit T.I.others o k t' x')) h3 → Gd h3 → (∀ y, y ∉ (esOf T.rs).map Sa.d → h3 y = h2 y) → P [some (.ref D.d), some (.ref T.it), some (.str k), some (.int t), some (.str x), some nv, some (.int w), some (.int bent), some (.str o), some (.tup [.int t', .str x'])] h3 := by
        intro h3 H3 g3 o3
        have dN : ∀ y ∈ T.it :: T.rw :: lf T.rs, h3 y = h2 y := fun y hy => o3 y fun z => L.xs y hy (mem_sfp_d z)
        have it3 := (dN _ List.mem_cons_self).trans L2.it
        have rw3 := (dN _ (List.mem_cons_of_mem _ List.mem_cons_self)).trans L2.rw
        have d3 : DO D (n + 2) h3 := d2.keep (o3 _ fun z => dd (fp_sf (mem_sfp_d z))) (o3 _ fun z => dl (fp_sf (mem_sfp_d z)))
        have done : ∀ h4, SO C S T.I ((esOf T.rs).map (hit T.I.others o k t' x')) h4 → Gd h4 → (∀ y, y ∉ lf T.rs → h4 y = h3 y) → (∀ r ∈ T.rs, h4 r.ra = h3 r.ra) → (∀ r ∈ T.rs, ∀ b, r.nv = some b → h4 b = some (.lst ((rhit T.I.others o k t' x' r).ln.map PV.str))) → Q .non h4 := by
          intro h4 H4 g4 o4 e4 n4
          have nl : ∀ {y}, (y = T.it ∨ y = T.rw) → y ∉ lf T.rs := fun {y} hy z => hy.elim (fun e => a2 (e ▸ z)) fun e => a3 (e ▸ z)
          refine q _ h4 (L2.hit H4 ((o4 _ (nl (.inl rfl))).trans (dN _ List.mem_cons_self)) ((o4 _ (nl (.inr rfl))).trans (dN _ (List.mem_cons_of_mem _ List.mem_cons_self))) (fun r hr => (e4 r hr).trans (dN _ (List.mem_cons_of_mem _ (List.mem_cons_of_mem _ (mem_ra hr))))) n4) fp_hit (d3.keep (o4 _ fun z => dd (fp_lf z)) (o4 _ fun z => dl (fp_lf z))) g4 fun y hy y1 y2 => ?_
          exact (o4 y fun z => hy (fp_lf z)).trans ((o3 y fun z => hy (fp_sf (mem_sfp_d z))).trans (o12 y y1 y2))
        have same : (∀ r ∈ T.rs, (rhit T.I.others o k t' x' r).ln = r.ln) → Q .non h3 := fun hs => done h3 H3 g3 (fun _ _ => rfl) (fun _ _ => rfl) fun r hr b hb => by
          rw [hs r hr]; exact (dN _ (List.mem_cons_of_mem _ (List.mem_cons_of_mem _ (mem_nv hr hb)))).trans (L2.en r hr b hb)
        subst hP
        simp only [mIfS, mAndT, mTest, mB, mVar, mC, mTup, mCons, mNil, gt, N3.rIx, seqL, dctL, it3, kOf, lk_ro, rInD, rw3]
        rcases hrow with ⟨ds, r, rr, er, ek, et, ex, env, elk⟩ | ⟨hno, elk⟩
        · rw [elk]
          have hr : r ∈ T.rs := by rw [er]; simp
          have oth : ∀ y ∈ T.rs, y.e.k = k → y = r := fun y hy hk => by
            have nd := nd_k L.nk
            rw [er] at nd hy
            have m := nd_anyS (K := fun r : Ro => r.e.k) nd
            rcases List.mem_append.mp hy with z | z
            · exact (m.1 (by show r.e.k ∈ _; rw [ek, ← hk]; exact List.mem_map_of_mem (f := fun r : Ro => r.e.k) z)).elim
            · rcases List.mem_cons.mp z with z | z
              · exact z
              · exact (m.2 (by show r.e.k ∈ _; rw [ek, ← hk]; exact List.mem_map_of_mem (f := fun r : Ro => r.e.k) z)).elim
          simp only [Option.isSome_some, bne_self_eq_false, Bool.true_bne, Bool.not_false, if_true]
          refine eq_pair (ite2 (fun c => ?_) (fun c => ?_))
          · have c : t' = t ∧ x' = x := of_decide_eq_true c
            simp only [N3.rIx, seqL, dctL, it3, kOf, lk_ot]
            refine in_strs (ite2 (fun c2 => ?_) (fun c2 => ?_))
            · have c2 : o ∈ T.I.others := of_decide_eq_true c2
              have en3 : ∀ b, r.nv = some b → h3 b = some (.lst (r.ln.map PV.str)) := fun b hb => (dN _ (List.mem_cons_of_mem _ (List.mem_cons_of_mem _ (mem_nv hr hb)))).trans (L2.en r hr b hb)
              rw [env]
              refine not_in en3 (ite2 (fun c3 => ?_) (fun c3 => ?_))
              · have c3 : o ∉ r.ln := by simpa using c3
                cases hv : r.nv with
                | none => exact (c3 (L.ef r hr hv o c2)).elim
                | some b =>
                  have eb : nmV r = .ref b := by unfold nmV; rw [hv]
                  rw [eb]
                  simp only [mDrop, mAppend, mVar, gt, mCons, mNil, en3 b hv]
                  have l4 := L.lenN hr
                  refine ⟨⟨_, _, rfl, en3 b hv⟩, by rw [List.length_map]; show _ < 16777216; omega, ?_⟩
                  have bl := mem_nv hr hv
                  have bs : b ∉ sfp T.I (esOf T.rs) := L.xs b (List.mem_cons_of_mem _ (List.mem_cons_of_mem _ bl))
                  have nd2 := List.nodup_append.mp a4
                  have ear : r.ln.map PV.str ++ [PV.str o] = (r.ln ++ [o]).map PV.str := by rw [List.map_append]; rfl
                  rw [ear]
                  have hit1 : (rhit T.I.others o k t' x' r).ln = r.ln ++ [o] := by
                    unfold rhit
                    rw [if_pos ⟨ek, c2, by rw [c.1, et], by rw [c.2, ex]⟩]
                    show addN o r.ln = _
                    unfold addN
                    rw [if_neg c3]
                  have hsf : ∀ y ∈ sfp T.I ((esOf T.rs).map (hit T.I.others o k t' x')), y ∈ sfp T.I (esOf T.rs) := fun y hy => by
                    rw [← es_hit, sf_hit] at hy
                    exact hy
                  refine done _ (H3.mono fun y hy => up_ne fun z => bs (z ▸ hsf y hy)) (g3.up (nds_map fun _ _ => rfl) (fun _ _ e => by cases e)) (fun y hy => up_ne fun z => hy (z ▸ bl)) (fun y hy => up_ne fun z => nd2.2.2 _ (List.mem_map_of_mem hy) _ (List.mem_filterMap.mpr ⟨r, hr, hv⟩) z) fun y hy b' hb' => ?_
                  by_cases hyr : y.e.k = k
                  · have := oth y hy hyr
                    subst this
                    rw [hv] at hb'
                    cases hb'
                    rw [up_same, hit1]
                  · have nb : b' ≠ b := fun z => hyr (by
                      subst z
                      have e := nd2.2.1
                      rw [er, List.filterMap_append, List.filterMap_cons, hv] at e
                      have e1 := List.nodup_append.mp e
                      have e2 := List.nodup_cons.mp e1.2.1
                      rw [er] at hy
                      rcases List.mem_append.mp hy with z | z
                      · exact (e1.2.2 _ (List.mem_filterMap.mpr ⟨y, z, hb'⟩) _ List.mem_cons_self rfl).elim
                      · rcases List.mem_cons.mp z with z | z
                        · rw [z]; exact ek
                        · exact (e2.1 (List.mem_filterMap.mpr ⟨y, z, hb'⟩)).elim)
                    rw [up_ne nb, rhit_none hyr]
                    exact (dN _ (List.mem_cons_of_mem _ (List.mem_cons_of_mem _ (mem_nv hy hb')))).trans (L2.en y hy b' hb')
              · have c3 : o ∈ r.ln := by simpa using c3
                simp only [mNx]
                refine same fun y hy => ?_
                unfold rhit
                split
                · rename_i c4
                  have := oth y hy c4.1
                  subst this
                  show addN o y.ln = y.ln
                  unfold addN
                  rw [if_pos c3]
                · rfl
            · have c2 : o ∉ T.I.others := of_decide_eq_false (by simpa using c2)
              simp only [Bool.false_eq_true, if_false, mNx]
              refine same fun y hy => ?_
              unfold rhit
              rw [if_neg fun z => c2 z.2.1]
          · have c : ¬ (t' = t ∧ x' = x) := of_decide_eq_false (by simpa using c)
            simp only [Bool.false_eq_true, if_false, mNx]
            refine same fun y hy => ?_
            unfold rhit
            split
            · rename_i c4
              have := oth y hy c4.1
              subst this
              exact (c ⟨by rw [et, c4.2.2.1], by rw [ex, c4.2.2.2]⟩).elim
            · rfl
        · rw [elk]
          simp only [Option.isSome_none, bne_self_eq_false, Bool.false_eq_true, if_false, mNx]
          refine same fun y hy => ?_
          rw [rhit_none (hno y hy)]
      simp only [mIfS, mTest, mB, mVar, mC, gt, N3.rEq, vw, toD, flat, eqv_int, true_and]
      refine ⟨by simp [PyData.depth], ite2 (fun c => ?_) (fun c => ?_)⟩
      · have c : bent = 7 := by simpa using c
        obtain ⟨rfl, rfl⟩ := hb c
        simp only [mDrop, mMeth, mB, mVar, mC, mCons, mNil, gt, N3.rIx, seqL, dctL, L2.it, kOf, lk_sa, L2.H.o]
        refine ⟨trivial, ans_no, call _ fin⟩
      · simp only [mDrop, mMeth, mB, mVar, mC, mCons, mNil, gt, N3.rIx, seqL, dctL, L2.it, kOf, lk_sa, L2.H.o]
        refine ⟨trivial, ans_no, ?_⟩
        simp only [f2_0, f2_1]
        exact call _ fin
    subst hP
    refine seq_step fun P hP => ?_
    simp only [mAsg, mB, mBlt, mLst, mTup, mCons, mNil, mVar, mC, gt, gN, N3.st, rMax2, rMin2, N3.rSub, N3.rII0, N3.rAdd]
    refine ⟨by have := lw x hx; show _ + 1 ≤ 16777216; omega, ?_⟩
    have i0 : (0 : Int) ≤ (if 3 < bent then 3 else bent) := by split <;> omega
    have i1 : (if 3 < bent then (3 : Int) else bent) < 4 := by split <;> omega
    refine ix_lst i0 i1 fun v hv => ?_
    obtain ⟨t', x', rfl⟩ : ∃ t' x', v = .tup [.int t', .str x'] := by
      simp only [List.mem_cons, List.not_mem_nil, or_false] at hv
      rcases hv with rfl | rfl | rfl | rfl <;> exact ⟨_, _, rfl⟩
    subst hP
    refine seq_step fun P hP => ?_
    simp only [mIfS, mTest, mB, mVar, mC, gt, N3.rGt, N3.rCmp]
    refine ite2 (fun c => ?_) (fun c => ?_)
    · simp only [mAsg, mTup, mCons, mNil, mVar, gt, gN, N3.st]
      subst hP
      exact last t x fun _ => ⟨rfl, rfl⟩
    · simp only [mNx]
      subst hP
      exact last t' x' fun e => absurd (show decide (3 < bent) = true by rw [e]; rfl) (by simpa using c)
  rcases row_at L.nk (k := k) with ⟨ds, r, rr, er, ek, elk⟩ | ⟨hno, elk⟩
  · have hr : r ∈ T.rs := by rw [er]; simp
    have t0 := L.eb.t0 r hr
    have t1 := L.eb.t1 r hr
    rw [elk]
    simp only [Option.getD_some, rv, gL, gsCons, gsNil, gN, N3.st, seqL, L.el r hr, rwo]
    exact ⟨rfl, trivial, body r.e.t r.e.x (nmV r) r.e.n (by omega) (by omega) (L.eb.x r hr) (.inl ⟨ds, r, rr, er, ek, rfl, rfl, rfl, elk⟩)⟩
  · rw [elk]
    simp only [Option.getD_none, gL, gsCons, gsNil, gN, N3.st, seqL]
    exact ⟨rfl, trivial, body 1 "stands" (.lst []) 0 (by decide) (by decide) (by decide +kernel) (.inr ⟨hno, elk⟩)⟩
end Wneversaid_k41_words_said

namespace Wneversaid_k41_words_said
open PySem PySem.Spec PyProof.Rows L2 N3
/-! ### a word is said: the law's row -/
theorem rs_set {rs : List Ro} {n : Ro} {es' : List Sa} (nd : (rs.map rk).Nodup) (se : SetE (esOf rs) n.e es') : ∃ ds m rr, rs = ds ++ m ++ rr ∧ m.length ≤ 1 ∧ es' = esOf (ds ++ n :: rr) ∧ rk n ∉ (ds ++ rr).map rk ∧ pk (rs.map rk) (rk n) = (ds ++ n :: rr).map rk ∧ pvs (rs.map rk) (rs.map rv) (rk n) (rv n) = (ds ++ n :: rr).map rv := by
  rcases se with ⟨hn, rfl⟩ | ⟨ds, e, r, er, ek, rfl⟩
  · have hn2 : rk n ∉ rs.map rk := fun z => hn (by
      obtain ⟨y, hy, e⟩ := List.mem_map.mp z
      unfold esOf
      rw [List.map_map]
      exact List.mem_map.mpr ⟨y, hy, e⟩)
    refine ⟨rs, [], [], by simp, by simp, by unfold esOf; rw [List.map_append]; rfl, by simpa using hn2, ?_, ?_⟩
    · rw [pk_new hn2, List.map_append]; rfl
    · rw [pvs_new hn2, List.map_append]; rfl
  · unfold esOf at er
    obtain ⟨l1, l2, rfl, e1, e2⟩ := List.map_eq_append_iff.mp er
    cases l2 with
    | nil => cases e2
    | cons y l2 =>
      obtain ⟨rfl, rfl⟩ := List.cons.inj e2
      have ky : rk n = rk y := by unfold rk; rw [← ek]
      obtain ⟨m1, m2, -⟩ := nd_mid nd
      refine ⟨l1, [y], l2, by simp, by simp, by rw [← e1]; unfold esOf; rw [List.map_append]; rfl, ?_, ?_, ?_⟩
      · rw [ky, List.map_append]
        exact fun z => (List.mem_append.mp z).elim m1 m2
      · rw [ky, pk_mid, List.map_append, List.map_append, List.map_cons, List.map_cons, ky]
      · rw [ky, pvs_mid nd, List.map_append, List.map_cons]
theorem LO.said {C S : Addr} {T : LI} {j : Nat} {h h3 : PH} (L : LO C S T j h) {k x : Str} (hk : k ∈ ks5) (hx : x ∈ ws5) {t : Int} {a d b1 b2 : Addr} {es' : List Sa} (se : SetE (esOf T.rs) ⟨k, t, x, [], 0, a, d⟩ es') (H3 : SO C S T.I es' h3) (g3 : Gd h3) (o3 : ∀ y, h y ≠ none → y ≠ T.I.w → h3 y = h y) (ha : h a = none) (hd : h d = none)
    (t0 : 1 ≤ t) (t1 : t ≤ ((j + 1 : Nat) : Int)) (hb1 : h3 b1 = none) (hb2 : h3 b2 = none) (b12 : b1 ≠ b2) :
    ∃ rs', LO C S { T with rs := rs' } (j + 1) (N3.up (N3.up (N3.up h3 b1 (.lst [])) b2 (.lst [.int t, .str x, .ref b1, .int 0])) T.rw (.dct (pk (T.rs.map rk) (.inr k)) (pvs (T.rs.map rk) (T.rs.map rv) (.inr k) (.ref b2)))) ∧
      Gd (N3.up (N3.up (N3.up h3 b1 (.lst [])) b2 (.lst [.int t, .str x, .ref b1, .int 0])) T.rw (.dct (pk (T.rs.map rk) (.inr k)) (pvs (T.rs.map rk) (T.rs.map rv) (.inr k) (.ref b2)))) ∧ (∀ y ∈ fp { T with rs := rs' }, y ∈ fp T ∨ h y = none) := by
  obtain ⟨a1, a2, a3, a4⟩ := L.apart
  obtain ⟨ds, m, rr, er, ml, ee, nk, ep, ev⟩ := rs_set (n := ⟨⟨k, t, x, [], 0, a, d⟩, b2, some b1, []⟩) L.nk se
  have ep : pk (T.rs.map rk) (.inr k) = _ := ep
  have ev : pvs (T.rs.map rk) (T.rs.map rv) (.inr k) (.ref b2) = _ := ev
  rw [ep, ev]
  generalize hn : (⟨⟨k, t, x, [], 0, a, d⟩, b2, some b1, []⟩ : Ro) = n at ee nk ep ev
  have nra : n.ra = b2 := by rw [← hn]
  have nnv : n.nv = some b1 := by rw [← hn]
  have nln : n.ln = [] := by rw [← hn]
  have nns : n.e.ns = [] := by rw [← hn]
  have nea : n.e.a = a := by rw [← hn]
  have ned : n.e.d = d := by rw [← hn]
  have nwo : rwo n = .lst [.int t, .str x, .ref b1, .int 0] := by rw [← hn]; rfl
  subst ee
  have sub : (ds ++ rr).Sublist T.rs := by
    rw [er, List.append_assoc]
    exact (List.Sublist.refl ds).append (List.sublist_append_right m rr)
  have mm : ∀ {y}, y ∈ ds ++ n :: rr → y = n ∨ y ∈ T.rs := fun {y} hy => by
    rcases List.mem_cons.mp (List.perm_middle.mem_iff.mp hy) with z | z
    · exact .inl z
    · exact .inr (sub.mem z)
  have live3 : ∀ y, h y ≠ none → h3 y ≠ none := fun y hy => by
    by_cases c : y = T.I.w
    · rw [c, H3.w]; simp
    · rw [o3 y hy c]; exact hy
  have old : ∀ y, h y ≠ none → y ≠ b1 ∧ y ≠ b2 ∧ y ≠ a ∧ y ≠ d := fun y hy => ⟨fun z => live3 y hy (z ▸ hb1), fun z => live3 y hy (z ▸ hb2), fun z => hy (z ▸ ha), fun z => hy (z ▸ hd)⟩
  have wS : T.I.w ∈ sfp T.I (esOf T.rs) := List.mem_cons_of_mem _ List.mem_cons_self
  have law3 : ∀ y ∈ T.it :: T.rw :: lf T.rs, h3 y = h y := fun y hy => o3 y (L.live (by
    unfold fp
    rcases List.mem_cons.mp hy with z | z
    · exact z ▸ List.mem_cons_self
    · rcases List.mem_cons.mp z with z | z
      · exact z ▸ List.mem_cons_of_mem _ List.mem_cons_self
      · exact List.mem_cons_of_mem _ (List.mem_cons_of_mem _ (List.mem_append_left _ z)))) fun z => L.xs y hy (z ▸ wS)
  have lawL : ∀ y ∈ T.it :: T.rw :: lf T.rs, h y ≠ none := fun y hy => L.live (by
    unfold fp
    rcases List.mem_cons.mp hy with z | z
    · exact z ▸ List.mem_cons_self
    · rcases List.mem_cons.mp z with z | z
      · exact z ▸ List.mem_cons_of_mem _ List.mem_cons_self
      · exact List.mem_cons_of_mem _ (List.mem_cons_of_mem _ (List.mem_append_left _ z)))
  have rwL : h T.rw ≠ none := lawL _ (List.mem_cons_of_mem _ List.mem_cons_self)
  have sS : ∀ y ∈ sfp T.I (esOf (ds ++ n :: rr)), y ∈ sfp T.I (esOf T.rs) ∨ y = a ∨ y = d := fun y hy => by
    simp only [sfp, List.mem_cons, List.mem_append] at hy
    rcases hy with z | z | z | z
    · exact .inl (z ▸ List.mem_cons_self)
    · exact .inl (z ▸ List.mem_cons_of_mem _ List.mem_cons_self)
    · obtain ⟨e, he, rfl⟩ := List.mem_map.mp z
      obtain ⟨r, hr, rfl⟩ := List.mem_map.mp he
      rcases mm hr with rfl | hr
      · exact .inr (.inl nea)
      · exact .inl (mem_sfp_a (List.mem_map_of_mem (List.mem_map_of_mem hr)))
    · obtain ⟨e, he, rfl⟩ := List.mem_map.mp z
      obtain ⟨r, hr, rfl⟩ := List.mem_map.mp he
      rcases mm hr with rfl | hr
      · exact .inr (.inr ned)
      · exact .inl (mem_sfp_d (List.mem_map_of_mem (List.mem_map_of_mem hr)))
  have pu : ∀ y, y ≠ b1 → y ≠ b2 → y ≠ T.rw → N3.up (N3.up (N3.up h3 b1 (.lst [])) b2 (.lst [.int t, .str x, .ref b1, .int 0])) T.rw (.dct ((ds ++ n :: rr).map rk) ((ds ++ n :: rr).map rv)) y = h3 y := fun y y1 y2 y3 => by rw [up_ne y3, up_ne y2, up_ne y1]
  have rwb := old T.rw rwL
  have lp : (lf (ds ++ n :: rr)).Perm (b2 :: b1 :: lf (ds ++ rr)) := by
    have p : (ds ++ n :: rr).Perm (n :: (ds ++ rr)) := List.perm_middle
    have e1 : lf (n :: (ds ++ rr)) = b2 :: ((ds ++ rr).map Ro.ra ++ b1 :: (ds ++ rr).filterMap Ro.nv) := by
      unfold lf
      rw [List.map_cons, List.filterMap_cons, nnv, nra]; rfl
    refine ((p.map Ro.ra).append (p.filterMap Ro.nv)).trans ?_
    show (lf (n :: (ds ++ rr))).Perm _
    rw [e1]
    exact (List.perm_middle).cons _
  have ls : (lf (ds ++ rr)).Sublist (lf T.rs) := (sub.map _).append (sub.filterMap _)
  have inL : ∀ y ∈ T.it :: T.rw :: lf (ds ++ n :: rr), y = b1 ∨ y = b2 ∨ y ∈ T.it :: T.rw :: lf T.rs := fun y hy => by
    rcases List.mem_cons.mp hy with z | z
    · exact .inr (.inr (z ▸ List.mem_cons_self))
    · rcases List.mem_cons.mp z with z | z
      · exact .inr (.inr (z ▸ List.mem_cons_of_mem _ List.mem_cons_self))
      · rcases List.mem_cons.mp (lp.mem_iff.mp z) with z | z
        · exact .inr (.inl z)
        · rcases List.mem_cons.mp z with z | z
          · exact .inl z
          · exact .inr (.inr (List.mem_cons_of_mem _ (List.mem_cons_of_mem _ (ls.mem z))))
  refine ⟨ds ++ n :: rr, ⟨H3.mono fun y hy => pu y ?_ ?_ ?_, ?_, up_same, fun y hy => ?_, fun y hy b hb => ?_, fun y hy hv o ho => ?_, fun y hy => ?_, fun y hy o ho => ?_, ?_, fun y hy z => ?_, ⟨fun y hy => ?_, fun y hy => ?_, fun y hy => ?_, fun y hy => ?_, ?_⟩, L.ok, L.l0, L.l1⟩, ?_, fun y hy => ?_⟩
  · exact fun z => H3.live hy (z ▸ hb1)
  · exact fun z => H3.live hy (z ▸ hb2)
  · rintro rfl
    rcases sS _ hy with z | z | z
    · exact L.xs _ (List.mem_cons_of_mem _ List.mem_cons_self) z
    · exact rwb.2.2.1 z
    · exact rwb.2.2.2 z
  · have ib := old T.it (lawL _ List.mem_cons_self)
    exact (pu _ ib.1 ib.2.1 a1).trans ((law3 _ List.mem_cons_self).trans L.it)
  · rcases mm hy with rfl | hr
    · rw [nra, up_ne rwb.2.1.symm, up_same, nwo]
    · have m1 : y.ra ∈ T.it :: T.rw :: lf T.rs := List.mem_cons_of_mem _ (List.mem_cons_of_mem _ (mem_ra hr))
      have yb := old y.ra (lawL _ m1)
      exact (pu _ yb.1 yb.2.1 fun z => a3 (by rw [← z]; exact mem_ra hr)).trans ((law3 _ m1).trans (L.el y hr))
  · rcases mm hy with rfl | hr
    · rw [nnv] at hb
      cases hb
      rw [nln, up_ne rwb.1.symm, up_ne b12, up_same]; rfl
    · have m1 : b ∈ T.it :: T.rw :: lf T.rs := List.mem_cons_of_mem _ (List.mem_cons_of_mem _ (mem_nv hr hb))
      have yb := old b (lawL _ m1)
      exact (pu _ yb.1 yb.2.1 fun z => a3 (by rw [← z]; exact mem_nv hr hb)).trans ((law3 _ m1).trans (L.en y hr b hb))
  · rcases mm hy with rfl | hr
    · rw [nnv] at hv; cases hv
    · exact L.ef y hr hv o ho
  · rcases mm hy with rfl | hr
    · rw [nln, nns]
    · exact L.pn y hr
  · rcases mm hy with rfl | hr
    · rw [nns] at ho; cases ho
    · exact L.so y hr o ho
  · have p : (T.it :: T.rw :: lf (ds ++ n :: rr)).Perm (T.it :: T.rw :: b2 :: b1 :: lf (ds ++ rr)) := (lp.cons _).cons _
    have nb : ∀ b, (b = b1 ∨ b = b2) → b ∉ T.it :: T.rw :: lf T.rs := fun b hb z => by
      have := old b (lawL b z)
      exact hb.elim this.1 this.2.1
    have nd := ((ls.cons_cons T.rw).cons_cons T.it).nodup L.nd
    simp only [List.nodup_cons, List.mem_cons, not_or] at nd
    have n1 := nb b1 (.inl rfl)
    have n2 := nb b2 (.inr rfl)
    simp only [List.mem_cons, not_or] at n1 n2
    refine p.nodup_iff.mpr ?_
    simp only [List.nodup_cons, List.mem_cons, not_or]
    exact ⟨⟨nd.1.1, fun z => n2.1 z.symm, fun z => n1.1 z.symm, nd.1.2⟩, ⟨fun z => n2.2.1 z.symm, fun z => n1.2.1 z.symm, nd.2.1⟩, ⟨fun z => b12 z.symm, fun z => n2.2.2 (ls.mem z)⟩, fun z => n1.2.2 (ls.mem z), nd.2.2⟩
  · rcases inL y hy with e | e | e
    · exact H3.live z (e ▸ hb1)
    · exact H3.live z (e ▸ hb2)
    · have yb := old y (lawL _ e)
      rcases sS y z with z | z | z
      · exact L.xs y e z
      · exact yb.2.2.1 z
      · exact yb.2.2.2 z
  · rcases mm hy with rfl | hr
    · rw [← hn]; exact hk
    · exact L.eb.k y hr
  · rcases mm hy with rfl | hr
    · rw [← hn]; exact hx
    · exact L.eb.x y hr
  · rcases mm hy with rfl | hr
    · rw [← hn]; exact t0
    · exact L.eb.t0 y hr
  · rcases mm hy with rfl | hr
    · rw [← hn]; exact t1
    · have := L.eb.t1 y hr; omega
  · have h1 := sub.length_le
    have h2 := L.eb.ln
    rw [List.length_append] at h1
    show (ds ++ n :: rr).length ≤ j + 1
    rw [List.length_append, List.length_cons]; omega
  · exact ((g3.up (o := .lst []) rfl (fun _ _ e => by cases e)).up rfl (fun _ _ e => by cases e)).up (nds_map fun _ _ => rfl) (fun _ _ e => by cases e)
  · have : y ∈ T.it :: T.rw :: lf (ds ++ n :: rr) ∨ y ∈ sfp T.I (esOf (ds ++ n :: rr)) := by
      have hy : y ∈ T.it :: T.rw :: (lf (ds ++ n :: rr) ++ sfp T.I (esOf (ds ++ n :: rr))) := hy
      simp only [List.mem_cons, List.mem_append] at hy ⊢
      rcases hy with z | z | z | z
      · exact .inl (.inl z)
      · exact .inl (.inr (.inl z))
      · exact .inl (.inr (.inr z))
      · exact .inr z
    have dead : ∀ b, h3 b = none → h b = none := fun b hb => Classical.byContradiction fun z => live3 b z hb
    rcases this with z | z
    · rcases inL y z with e | e | e
      · exact .inr (e ▸ dead _ hb1)
      · exact .inr (e ▸ dead _ hb2)
      · refine .inl ?_
        simp only [List.mem_cons] at e
        rcases e with e | e | e
        · exact e ▸ fp_it
        · exact e ▸ fp_rw
        · exact fp_lf e
    · rcases sS y z with e | e | e
      · exact .inl (fp_sf e)
      · exact .inr (e ▸ ha)
      · exact .inr (e ▸ hd)
end Wneversaid_k41_words_said

namespace Wneversaid_k41_words_said
open PySem PySem.Spec PyProof.Rows L2 N3
/-! ### a deed -/
theorem nodup_perm : ∀ {a b : List Str}, a.Nodup → b.Nodup → (∀ x, x ∈ a ↔ x ∈ b) → a.Perm b
  | [], b, _, _, h => by
    cases b with
    | nil => exact .nil
    | cons y b => exact absurd ((h y).mpr List.mem_cons_self) (by simp)
  | x :: a, b, ha, hb, h => by
    have hx : x ∈ b := (h x).mp List.mem_cons_self
    have na := List.nodup_cons.mp ha
    refine ((nodup_perm na.2 (hb.erase x) fun y => ?_).cons x).trans (List.perm_cons_erase hx).symm
    rw [List.Nodup.mem_erase_iff hb]
    refine ⟨fun hy => ⟨fun z => na.1 (z ▸ hy), (h y).mp (List.mem_cons_of_mem _ hy)⟩, fun hy => ?_⟩
    rcases List.mem_cons.mp ((h y).mpr hy.2) with z | z
    · exact (hy.1 z).elim
    · exact z
def spKeys : SpP := fun ps h Q => ps = [] ∧ Q (.lst (ks5.map PV.str)) h
theorem pure_law_keys : ∀ qs h Q, qs.length = 0 → spKeys qs h Q → m_law_keys (ends Q) (sp0 0 qs) h := by
  rintro _ h Q - ⟨rfl, q⟩
  unfold m_law_keys
  simp only [N3.mDput, N3.mB, N3.mU, N3.mVar, N3.mC, N3.sp0, N3.gt, N3.st, N3.rIx, N3.seqL, N3.dctL, N3.kOf, N3.rAdd, N3.mAsg, N3.gN, N3.mIfS, N3.mTest, N3.mPop, N3.mAppend, N3.mDrop, N3.mRet, N3.mRetN, N3.mNx, N3.mBrk, N3.mCnt, N3.mLst, N3.mLstM, N3.mCons, N3.mNil, N3.mTup, N3.mBlt, N3.mKw, N3.cat2, N3.cat2r, N3.gS, N3.gL, N3.mSlM, N3.rSlM, N3.mM1, N3.mSl, N3.mRev, N3.mStep, N3.mRevM, N3.mPart, N3.mNoPart, N3.rII, N3.rII0, N3.rIB, N3.rCmp, N3.rLt, N3.rLe, N3.rGt, N3.rGe, N3.mIsI, N3.tn, N3.isI, N3.mDisp, N3.mDct0, N3.mDct0M, N3.mPar3, N3.mAug, N3.rIAdd, N3.mExtend, N3.mInsert, N3.mPopAt, N3.rMin2, N3.rMax2, N3.rIntT, N3.rSplit, N3.rSplitM, N3.rAddM, N3.gPut, N3.mFmt, N3.mJs, N3.mJoin, N3.rDictP, N3.mRepM, N3.rListA, N3.rSortA, N3.mLc2, N3.lcI, N3.lcO, N3.rAllB, N3.rAnyB, N3.rStrI, N3.rIntO, N3.vwL, N3.rMul, N3.rMulT, N3.rNeg, N3.rSub, N3.rDiv, N3.rMod, N3.rPow, N3.mPar, N3.mAndT, N3.mOrT, N3.mNotT, N3.mAnd, N3.mOr, N3.mOrV, N3.mAndV, N3.trv, N3.mNot, N3.mIf, N3.mChn, N3.mKeep, N3.mRep, N3.mDispM, N3.mPs, N3.ends, N3.rLen, N3.rListOf, N3.rListOfM, N3.rTupOf, N3.rSumI, N3.listed, N3.rSl, N3.rRev, N3.rEq, N3.rNe, N3.rIsN, N3.rNotN, N3.isNon, N3.vw, N3.mYes, N3.gT, N3.gsCons, N3.gsNil, N3.mFor, N3.mSeqs, N3.mLc, N3.mLcM, N3.mRng1, N3.mRng2, N3.mEnum, N3.mEnumA, N3.mZip, N3.wp, N3.rJoin, N3.rSS, N3.rIdxS, N3.rRepr, N3.flat, N3.flats, N3.toD, N3.toDs, List.length_cons, List.length_nil, List.append_eq, List.cons_append, List.nil_append, List.map_cons, List.map_nil, if_true, if_false, Bool.false_eq_true, decide_eq_true_eq, Option.some.injEq, true_and, and_true, Bool.not_true, Bool.not_false, reduceCtorEq, Bool.and_self, Bool.and_true, Bool.true_and, ite_true, ite_false]
  exact q
def spWords : SpP := fun ps h Q => ps = [] ∧ Q (.lst (ws5.map PV.str)) h
theorem pure_law_words : ∀ qs h Q, qs.length = 0 → spWords qs h Q → m_law_words (ends Q) (sp0 0 qs) h := by
  rintro _ h Q - ⟨rfl, q⟩
  unfold m_law_words
  simp only [N3.mDput, N3.mB, N3.mU, N3.mVar, N3.mC, N3.sp0, N3.gt, N3.st, N3.rIx, N3.seqL, N3.dctL, N3.kOf, N3.rAdd, N3.mAsg, N3.gN, N3.mIfS, N3.mTest, N3.mPop, N3.mAppend, N3.mDrop, N3.mRet, N3.mRetN, N3.mNx, N3.mBrk, N3.mCnt, N3.mLst, N3.mLstM, N3.mCons, N3.mNil, N3.mTup, N3.mBlt, N3.mKw, N3.cat2, N3.cat2r, N3.gS, N3.gL, N3.mSlM, N3.rSlM, N3.mM1, N3.mSl, N3.mRev, N3.mStep, N3.mRevM, N3.mPart, N3.mNoPart, N3.rII, N3.rII0, N3.rIB, N3.rCmp, N3.rLt, N3.rLe, N3.rGt, N3.rGe, N3.mIsI, N3.tn, N3.isI, N3.mDisp, N3.mDct0, N3.mDct0M, N3.mPar3, N3.mAug, N3.rIAdd, N3.mExtend, N3.mInsert, N3.mPopAt, N3.rMin2, N3.rMax2, N3.rIntT, N3.rSplit, N3.rSplitM, N3.rAddM, N3.gPut, N3.mFmt, N3.mJs, N3.mJoin, N3.rDictP, N3.mRepM, N3.rListA, N3.rSortA, N3.mLc2, N3.lcI, N3.lcO, N3.rAllB, N3.rAnyB, N3.rStrI, N3.rIntO, N3.vwL, N3.rMul, N3.rMulT, N3.rNeg, N3.rSub, N3.rDiv, N3.rMod, N3.rPow, N3.mPar, N3.mAndT, N3.mOrT, N3.mNotT, N3.mAnd, N3.mOr, N3.mOrV, N3.mAndV, N3.trv, N3.mNot, N3.mIf, N3.mChn, N3.mKeep, N3.mRep, N3.mDispM, N3.mPs, N3.ends, N3.rLen, N3.rListOf, N3.rListOfM, N3.rTupOf, N3.rSumI, N3.listed, N3.rSl, N3.rRev, N3.rEq, N3.rNe, N3.rIsN, N3.rNotN, N3.isNon, N3.vw, N3.mYes, N3.gT, N3.gsCons, N3.gsNil, N3.mFor, N3.mSeqs, N3.mLc, N3.mLcM, N3.mRng1, N3.mRng2, N3.mEnum, N3.mEnumA, N3.mZip, N3.wp, N3.rJoin, N3.rSS, N3.rIdxS, N3.rRepr, N3.flat, N3.flats, N3.toD, N3.toDs, List.length_cons, List.length_nil, List.append_eq, List.cons_append, List.nil_append, List.map_cons, List.map_nil, if_true, if_false, Bool.false_eq_true, decide_eq_true_eq, Option.some.injEq, true_and, and_true, Bool.not_true, Bool.not_false, reduceCtorEq, Bool.and_self, Bool.and_true, Bool.true_and, ite_true, ite_false]
  exact q
section
variable {C S : Addr} {T : LI} {j : Nat} {h h' : PH}
theorem LO.setb (L : LO C S T j h) (b : Int) : LO C S { T with b := b } j (N3.up h T.it (.dct itk [.ref T.I.sa, .tup (T.I.others.map PV.str), .int T.I.late, .ref T.rw, .int b])) := by
  obtain ⟨a1, a2, a3, a4⟩ := L.apart
  exact ⟨L.H.mono fun x hx => up_ne fun z => L.xs _ List.mem_cons_self (z ▸ hx), up_same, (up_ne a1.symm).trans L.rw, fun r hr => (up_ne fun z => a2 (by rw [← z]; exact mem_ra hr)).trans (L.el r hr), fun r hr b hb => (up_ne fun z => a2 (by rw [← z]; exact mem_nv hr hb)).trans (L.en r hr b hb), L.ef, L.pn, L.so, L.nd, L.xs, L.eb, L.ok, L.l0, L.l1⟩
/-- one row, heard by all -/
theorem LO.all (L : LO C S T j h) {ds rr : List Ro} {r r1 : Ro} (er : T.rs = ds ++ r :: rr) (s : r1.e.k = r.e.k ∧ r1.e.t = r.e.t ∧ r1.e.x = r.e.x ∧ r1.e.a = r.e.a ∧ r1.e.d = r.e.d ∧ r1.ra = r.ra) (nv : ∀ b, r1.nv = some b → r.nv = some b) (H : SO C S T.I (esOf (ds ++ r1 :: rr)) h')
    (it : h' T.it = h T.it) (rw_ : h' T.rw = h T.rw) (e1 : h' r.ra = some (rwo r1)) (eo : ∀ y ∈ T.rs, y.ra ≠ r.ra → h' y.ra = h y.ra) (n1 : ∀ b, r1.nv = some b → h' b = some (.lst (r1.ln.map PV.str))) (no : ∀ y ∈ T.rs, ∀ b, y.nv = some b → h' b = h b)
    (f1 : r1.nv = none → ∀ o ∈ T.I.others, o ∈ r1.ln) (p1 : r1.ln.Perm r1.e.ns) (s1 : ∀ o ∈ r1.e.ns, o ∈ T.I.others) : LO C S { T with rs := ds ++ r1 :: rr } j h' ∧ ∀ y ∈ fp { T with rs := ds ++ r1 :: rr }, y ∈ fp T := by
  obtain ⟨a1, a2, a3, a4⟩ := L.apart
  obtain ⟨s1', s2, s3, s4, s5, s6⟩ := s
  have mr : r ∈ T.rs := by rw [er]; simp
  have mo : ∀ {y}, y ∈ ds ++ rr → y ∈ T.rs := fun {y} hy => by
    rw [er]
    rcases List.mem_append.mp hy with z | z
    · exact List.mem_append_left _ z
    · exact List.mem_append_right _ (List.mem_cons_of_mem _ z)
  have mm : ∀ {y}, y ∈ ds ++ r1 :: rr → y = r1 ∨ y ∈ ds ++ rr := fun {y} hy => List.mem_cons.mp (List.perm_middle.mem_iff.mp hy)
  have ne : ∀ y ∈ ds ++ rr, y.ra ≠ r.ra := fun y hy => by
    have nd := (List.nodup_append.mp a4).1
    rw [er] at nd
    have m := nd_anyS nd
    rcases List.mem_append.mp hy with z | z
    · exact fun e => m.1 (by rw [← e]; exact List.mem_map_of_mem z)
    · exact fun e => m.2 (by rw [← e]; exact List.mem_map_of_mem z)
  have mapE : ∀ {β : Type} (f : Ro → β), f r1 = f r → (ds ++ r1 :: rr).map f = T.rs.map f := fun {β} f hf => by
    rw [er, List.map_append, List.map_append, List.map_cons, List.map_cons, hf]
  have sE : sfp T.I (esOf (ds ++ r1 :: rr)) = sfp T.I (esOf T.rs) := by
    have q1 : (esOf (ds ++ r1 :: rr)).map Sa.a = (esOf T.rs).map Sa.a := by
      unfold esOf; rw [List.map_map, List.map_map]; exact mapE _ s4
    have q2 : (esOf (ds ++ r1 :: rr)).map Sa.d = (esOf T.rs).map Sa.d := by
      unfold esOf; rw [List.map_map, List.map_map]; exact mapE _ s5
    unfold sfp; rw [q1, q2]
  have ls : (lf (ds ++ r1 :: rr)).Sublist (lf T.rs) := by
    unfold lf
    rw [mapE Ro.ra s6]
    refine (List.Sublist.refl _).append ?_
    rw [er, List.filterMap_append, List.filterMap_append, List.filterMap_cons, List.filterMap_cons]
    refine (List.Sublist.refl _).append ?_
    cases hv : r1.nv with
    | none =>
      cases r.nv with
      | none => exact List.Sublist.refl _
      | some b => exact (List.Sublist.refl _).cons _
    | some b =>
      rw [nv b hv]
      exact List.Sublist.refl _
  refine ⟨⟨H, it.trans L.it, ?_, fun y hy => ?_, fun y hy b hb => ?_, fun y hy hv o ho => ?_, fun y hy => ?_, fun y hy o ho => ?_, ((ls.cons_cons _).cons_cons _).nodup L.nd, fun y hy => by rw [sE]; exact L.xs y (((ls.cons_cons _).cons_cons _).mem hy), ⟨fun y hy => ?_, fun y hy => ?_, fun y hy => ?_, fun y hy => ?_, ?_⟩, L.ok, L.l0, L.l1⟩, fun y hy => ?_⟩
  · rw [rw_, L.rw]
    have q1 : (ds ++ r1 :: rr).map rk = T.rs.map rk := mapE rk (by unfold rk; rw [s1'])
    have q2 : (ds ++ r1 :: rr).map rv = T.rs.map rv := mapE rv (by unfold rv; rw [s6])
    show _ = some (PO.dct ((ds ++ r1 :: rr).map rk) ((ds ++ r1 :: rr).map rv))
    rw [q1, q2]
  · rcases mm hy with rfl | hy
    · rw [s6]; exact e1
    · exact (eo y (mo hy) (ne y hy)).trans (L.el y (mo hy))
  · rcases mm hy with rfl | hy
    · exact n1 b hb
    · exact (no y (mo hy) b hb).trans (L.en y (mo hy) b hb)
  · rcases mm hy with rfl | hy
    · exact f1 hv o ho
    · exact L.ef y (mo hy) hv o ho
  · rcases mm hy with rfl | hy
    · exact p1
    · exact L.pn y (mo hy)
  · rcases mm hy with rfl | hy
    · exact s1 o ho
    · exact L.so y (mo hy) o ho
  · rcases mm hy with rfl | hy
    · rw [s1']; exact L.eb.k r mr
    · exact L.eb.k y (mo hy)
  · rcases mm hy with rfl | hy
    · rw [s3]; exact L.eb.x r mr
    · exact L.eb.x y (mo hy)
  · rcases mm hy with rfl | hy
    · rw [s2]; exact L.eb.t0 r mr
    · exact L.eb.t0 y (mo hy)
  · rcases mm hy with rfl | hy
    · rw [s2]; exact L.eb.t1 r mr
    · exact L.eb.t1 y (mo hy)
  · have := L.eb.ln
    rw [er] at this
    show (ds ++ r1 :: rr).length ≤ j
    simpa using this
  · have hy : y ∈ T.it :: T.rw :: (lf (ds ++ r1 :: rr) ++ sfp T.I (esOf (ds ++ r1 :: rr))) := hy
    rw [sE] at hy
    unfold fp
    simp only [List.mem_cons, List.mem_append] at hy ⊢
    exact hy.imp id fun z => z.imp id fun z => z.imp (fun z => ls.mem z) id
end
def rzero (r : Ro) : Ro := { r with e := zeroS r.e }
theorem zero_same (x y : Ro) (h : (some (rzero x)) = some y) : y.e.k = x.e.k ∧ y.e.t = x.e.t ∧ y.e.x = x.e.x ∧ y.e.ns = x.e.ns ∧ y.e.a = x.e.a ∧ y.e.d = x.e.d ∧ y.ra = x.ra ∧ y.nv = x.nv ∧ y.ln = x.ln := by
  cases h; exact ⟨rfl, rfl, rfl, rfl, rfl, rfl, rfl, rfl, rfl⟩
theorem fm_zero (rs : List Ro) : rs.filterMap (fun r => some (rzero r)) = rs.map rzero := by
  induction rs with
  | nil => rfl
  | cons x rs ih => rw [List.filterMap_cons, List.map_cons, ih]
theorem say_no : ("say" : Str) ∉ sfn := by decide +kernel
theorem again_no : ("again" : Str) ∉ sfn := by decide +kernel
def spLDeed (C S : Addr) : SpP := fun ps h Q => ∃ (D : Dk) (n : Nat) (T : LI) (j : Nat), ps = [.ref D.d, .ref T.it] ∧ DO D n h ∧ Gd h ∧ n < 500000000 ∧ LO C S T j h ∧ j ≤ 50 ∧ 0 ≤ T.b ∧ T.b ≤ 12 * (j : Int) ∧ D.d ∉ fp T ∧ D.l ∉ fp T ∧
  ∀ T' h', T'.it = T.it → 0 ≤ T'.b → T'.b ≤ 12 * ((j + 1 : Nat) : Int) → LO C S T' (j + 1) h' → DO D (n + 10) h' → Gd h' → (∀ x ∈ fp T', x ∈ fp T ∨ h x = none) → (∀ x, h x ≠ none → x ≠ D.d → x ≠ D.l → x ∉ fp T → h' x = h x) → Q (.bl true) h'
end Wneversaid_k41_words_said

namespace Wneversaid_k41_words_said
open PySem PySem.Spec PyProof.Rows L2 N3
theorem nen_nil {os : List Str} {h : PH} {Q : PK} (q : Q (.bl (!os.isEmpty)) h) : N3.rNe (.tup (os.map PV.str)) (.tup []) h Q := by
  refine ⟨flats_strs os, rfl, ?_, ?_⟩
  · show PyData.depthAll (toDs (os.map PV.str)) + 1 ≤ 64
    rw [depth0_strs]; decide
  · have e : PyData.eqv (toD (vw h (.tup (os.map PV.str)))) (toD (vw h (.tup []))) = os.isEmpty := by
      cases os <;> rfl
    rw [e]; exact q
theorem if_and {t u : MT} {A B : PH → Prop} {τ : PSt} {h : PH} (b c : Bool) (h1 : ∀ Q : Bool → PH → Prop, Q b h → t τ h Q) (h2 : b = true → ∀ Q : Bool → PH → Prop, Q c h → u τ h Q) (h3 : b = true → c = true → A h) (h4 : ¬ (b = true ∧ c = true) → B h) : mAndT t u τ h (fun c h1 => if c = true then A h1 else B h1) := by
  unfold mAndT
  refine h1 _ ?_
  cases b with
  | false => exact h4 fun z => by cases z.1
  | true =>
    refine h2 rfl _ ?_
    cases c with
    | false => exact h4 fun z => by cases z.2
    | true => exact h3 rfl rfl
theorem pure_law_deed {C S : Addr} : ∀ qs h Q, qs.length = 2 → spLDeed C S qs h Q → m_law_deed C spPick spKeys spDraw spWords (spLAns C S) (spLBeat C S) (spSeen C S) (spSay C S) (spAns C S) (spSAgain C S) (ends Q) (sp0 9 qs) h := by
  rintro _ h Q - ⟨D, n, T, j, rfl, d, g, hn, L, hj, b0, b1, dd, dl, q⟩
  unfold m_law_deed
  obtain ⟨a1, a2, a3, a4⟩ := L.apart
  have on := L.ok.n
  have ll := L.eb.ln
  refine seq_step fun P hP => ?_
  simp only [mPar3, mCons, mBlt, mB, mVar, mC, mNil, gt, N3.sp0, N3.st]
  refine draw_do d g (by omega) (by decide) (by decide) fun way k1 w0 w1 d1 g1 o1 => ?_
  refine ⟨rfl, ?_⟩
  refine pick_do d1 g1 (by omega) (by simp) (by decide) fun v hv k2 d2 g2 o2 => ?_
  obtain ⟨k, hk, rfl⟩ := List.mem_map.mp hv
  have o : ∀ x, x ≠ D.d → x ≠ D.l → k2 x = h x := fun x n1 n2 => (o2 x n1 n2).trans (o1 x n1 n2)
  have L2 : LO C S T j k2 := L.mono fun x hx => o x (fun z => dd (z ▸ hx)) (fun z => dl (z ▸ hx))
  have fin2 : ∀ T' h', T'.it = T.it → 0 ≤ T'.b → T'.b ≤ 12 * ((j + 1 : Nat) : Int) → LO C S T' (j + 1) h' → DO D (n + 10) h' → Gd h' → (∀ x ∈ fp T', x ∈ fp T ∨ k2 x = none) → (∀ x, k2 x ≠ none → x ≠ D.d → x ≠ D.l → x ∉ fp T → h' x = k2 x) → Q (.bl true) h' := by
    intro T' h' e1 e2 e3 e4 e5 e6 e7 e8
    refine q T' h' e1 e2 e3 e4 e5 e6 (fun x hx => (e7 x hx).imp id fun z => ?_) fun x x0 x1 x2 x3 => (e8 x (by rw [o x x1 x2]; exact x0) x1 x2 x3).trans (o x x1 x2)
    obtain ⟨a, b⟩ := d2.ne z
    rw [← o x a b]; exact z
  clear o1 o2 d1 g1 L
  simp only [N3.rIx, seqL, dctL, L2.it, kOf, lk_ro]
  subst hP
  refine seq_step fun P hP => ?_
  have ret : ∀ v5 v6 v7 v8 h', Q (.bl true) h' → P [some (.ref D.d), some (.ref T.it), some (.int way), some (.str k), some (.ref T.rw), v5, v6, v7, v8] h' := fun v5 v6 v7 v8 h' z => by
    subst hP
    simp only [mRet, mC]
    exact z
  clear hP
  simp only [mIfS, mTest, mB, mVar, mC, gt, N3.rLt, N3.rCmp]
  refine ite2 (fun c => ?_) (fun c => ?_)
  · /- said -/
    refine seq_step fun P2 hP2 => ?_
    simp only [mAsg, mBlt, mB, mGet2, mLst, mCons, mNil, mVar, mC, gt, gN, N3.st]
    refine ⟨rfl, ?_⟩
    simp only [dctL, L2.rw, kOf, Option.isSome_some, true_and]
    have row : ∃ (t : Int) (x : Str), 1 ≤ t ∧ t ≤ ((j + 1 : Nat) : Int) ∧ x ∈ ws5 ∧ (∀ R : PK, R (.str x) k2 → N3.rIx ((lk (T.rs.map rk) (T.rs.map rv) (.inr k)).getD (.lst [.int 0, .str "1"])) (.int 1) k2 R) ∧ (∀ (h5 : PH) (R : PK), (∀ y ∈ lf T.rs, h5 y = k2 y) → R (.int (t - 1)) h5 → N3.rIx ((lk (T.rs.map rk) (T.rs.map rv) (.inr k)).getD (.lst [.int 0])) (.int 0) h5 R) ∧
        (∀ (h3 : PH), LO C S T j h3 → Gd h3 → ∀ (y : Str) (R : PK), SetP C S T.I (esOf T.rs) h3 k t y [] (R .non) → spSay C S [.ref T.I.sa, .str k, .str y] h3 R) := by
      rcases row_at L2.nk (k := k) with ⟨ds, r, rr, er, ek, elk⟩ | ⟨hno, elk⟩
      · have hr : r ∈ T.rs := by rw [er]; simp
        have t0 := L2.eb.t0 r hr
        have t1 := L2.eb.t1 r hr
        refine ⟨r.e.t + 1, r.e.x, by omega, by omega, L2.eb.x r hr, fun R z => ?_, fun h5 R h5e z => ?_, fun h3 L3 g3 y R z => ?_⟩
        · rw [elk]
          simp only [Option.getD_some, rv, N3.rIx, seqL, L2.el r hr, rwo, f4_1]
          exact z
        · rw [elk]
          simp only [Option.getD_some, rv, N3.rIx, seqL, (h5e _ (mem_ra hr)).trans (L2.el r hr), rwo, f4_0]
          rw [Int.add_sub_cancel] at z
          exact z
        · exact ⟨T.I, _, k, y, rfl, L3.H, g3, by unfold esOf; rw [List.length_map]; omega, .inr ⟨esOf ds, r.e, esOf rr, by rw [er]; unfold esOf; rw [List.map_append]; rfl, ek, z⟩⟩
      · refine ⟨1, "1", by omega, by omega, by decide +kernel, fun R z => ?_, fun h5 R h5e z => ?_, fun h3 L3 g3 y R z => ?_⟩
        · rw [elk]; exact z
        · rw [elk]; exact z
        · refine ⟨T.I, _, k, y, rfl, L3.H, g3, by unfold esOf; rw [List.length_map]; omega, .inl ⟨fun hx => ?_, z⟩⟩
          unfold esOf at hx
          rw [List.map_map] at hx
          obtain ⟨r, hr, e⟩ := List.mem_map.mp hx
          have e : (Sum.inr r.e.k : Key) = Sum.inr k := e
          exact hno r hr (Sum.inr.inj e)
    obtain ⟨t, x, t0, t1, hx, rx, rt, say⟩ := row
    refine rx _ ?_
    simp only [N3.rAdd, seqL]
    refine ⟨by show 5 + 1 ≤ 16777216; decide, ?_⟩
    refine pick_do d2 g2 (by omega) (by simp) (by show 5 + 1 ≤ 100000; decide) fun v hv2 k3 d3 g3 o3 => ?_
    obtain ⟨y, hy, rfl⟩ : ∃ y : Str, y ∈ ws5 ∧ v = .str y := by
      rcases List.mem_append.mp hv2 with z | z
      · obtain ⟨y, hy, e⟩ := List.mem_map.mp z
        exact ⟨y, hy, e.symm⟩
      · rw [List.mem_singleton] at z; exact ⟨x, hx, z⟩
    have L3 : LO C S T j k3 := L2.mono fun x hx => o3 x (fun z => dd (z ▸ hx)) (fun z => dl (z ▸ hx))
    subst hP2
    refine seq_step fun P2 hP2 => ?_
    simp only [mDrop, mMeth, mB, mVar, mC, mCons, mNil, gt, N3.rIx, seqL, dctL, L3.it, kOf, lk_sa, L3.H.o]
    refine ⟨trivial, say_no, say k3 L3 g3 y _ fun a dA es' h4 ha hd nda se H4 g4 o4 => ?_⟩
    have wS : T.I.w ∈ sfp T.I (esOf T.rs) := List.mem_cons_of_mem _ List.mem_cons_self
    have law4 : ∀ y ∈ T.it :: T.rw :: lf T.rs, h4 y = k3 y := fun y hy => o4 y (L3.live (by
      unfold fp
      rcases List.mem_cons.mp hy with z | z
      · exact z ▸ List.mem_cons_self
      · rcases List.mem_cons.mp z with z | z
        · exact z ▸ List.mem_cons_of_mem _ List.mem_cons_self
        · exact List.mem_cons_of_mem _ (List.mem_cons_of_mem _ (List.mem_append_left _ z)))) fun z => L3.xs y hy (z ▸ wS)
    have rw4 : h4 T.rw = _ := (law4 _ (List.mem_cons_of_mem _ List.mem_cons_self)).trans L3.rw
    have lk4 : ∀ y ∈ lf T.rs, h4 y = k2 y := fun y hy => (law4 y (List.mem_cons_of_mem _ (List.mem_cons_of_mem _ hy))).trans (o3 y (fun z => dd (z ▸ fp_lf hy)) (fun z => dl (z ▸ fp_lf hy)))
    have d4 : DO D (n + 10) h4 := (d3.mono (by omega)).keep (o4 _ d3.live.1 fun z => dd (z ▸ fp_sf wS)) (o4 _ d3.live.2 fun z => dl (z ▸ fp_sf wS))
    subst hP2
    simp only [mDput, mLstM, mLst, mCons, mNil, mB, mGet2, mVar, mC, gt, dctL, rw4, kOf, Option.isSome_some, true_and]
    refine rt h4 _ lk4 ?_
    simp only [N3.rAdd, Int.sub_add_cancel]
    intro b1' hb1 b2' hb2
    have b12 : b2' ≠ b1' := fun z => by rw [z, up_same] at hb2; cases hb2
    rw [up_ne b12] at hb2
    have w1 : T.rw ≠ b1' := fun z => by rw [← z, rw4] at hb1; cases hb1
    have w2 : T.rw ≠ b2' := fun z => by rw [← z, rw4] at hb2; cases hb2
    simp only [up_ne w2, up_ne w1, rw4, kOf]
    obtain ⟨rs', L5, G5, F5⟩ := L3.said hk hy se H4 g4 o4 ha hd t0 t1 hb1 hb2 b12.symm
    have dn := d4.live
    have live3 : ∀ y, k3 y ≠ none → h4 y ≠ none := fun y hy => by
      by_cases c : y = T.I.w
      · rw [c, H4.w]; simp
      · rw [o4 y hy c]; exact hy
    have o3n : ∀ y, k2 y ≠ none → k3 y ≠ none := fun y hy => by
      by_cases c1 : y = D.d
      · rw [c1]; exact d3.live.1
      · by_cases c2 : y = D.l
        · rw [c2]; exact d3.live.2
        · rw [o3 y c1 c2]; exact hy
    have dk3 : ∀ y, k3 y = none → k2 y = none := fun y hy => Classical.byContradiction fun z => o3n y z hy
    refine ⟨by rw [List.length_map]; show _ < 16777216; omega, ?_⟩
    refine ret _ _ _ _ _ (fin2 { T with rs := rs' } _ rfl b0 (by show T.b ≤ _; omega) L5 (d4.keep ?_ ?_) G5 (fun y hy => (F5 y hy).imp id (dk3 y)) fun y y0 y1 y2 y3 => ?_)
    · rw [up_ne (show D.d ≠ T.rw from fun z => dd (z ▸ fp_rw)), up_ne (show D.d ≠ b2' from fun z => dn.1 (by rw [z]; exact hb2)), up_ne (show D.d ≠ b1' from fun z => dn.1 (by rw [z]; exact hb1))]
    · rw [up_ne (show D.l ≠ T.rw from fun z => dl (z ▸ fp_rw)), up_ne (show D.l ≠ b2' from fun z => dn.2 (by rw [z]; exact hb2)), up_ne (show D.l ≠ b1' from fun z => dn.2 (by rw [z]; exact hb1))]
    · have y4 := live3 y (o3n y y0)
      rw [up_ne (show y ≠ T.rw from fun z => y3 (z ▸ fp_rw)), up_ne (show y ≠ b2' from fun z => y4 (by rw [z]; exact hb2)), up_ne (show y ≠ b1' from fun z => y4 (by rw [z]; exact hb1)), o4 y (o3n y y0) fun z => y3 (z ▸ fp_sf wS)]
      exact o3 y y1 y2
  · refine if_and (decide (way < 5)) (!T.I.others.isEmpty) (fun Q z => ?_) (fun _ Q z => ?_) (fun c2 c3 => ?_) fun c2 => ?_
    · simp only [mTest, mB, mVar, mC, gt, N3.rLt, N3.rCmp]
      exact z
    · simp only [mTest, mB, mVar, mC, mTup, mNil, gt, N3.rIx, seqL, dctL, L2.it, kOf, lk_ot]
      exact nen_nil z
    · /- answers -/
      simp only [mDrop, mBlt, mCons, mNil, mVar, gt]
      refine ⟨D, _, T, j, k, rfl, d2, g2, by omega, L2, by omega, dd, dl, fun rs' h5 L5 F5 d5 g5 o5 => ?_⟩
      exact ret _ _ _ _ _ (fin2 { T with rs := rs' } h5 rfl b0 (by show T.b ≤ _; omega) L5.up (d5.mono (by omega)) g5 (fun y hy => .inl ((F5 y).mp hy)) fun y y0 y1 y2 y3 => o5 y y3 y1 y2)
    · refine if_and (decide (way < 7)) ((lk (T.rs.map rk) (T.rs.map rv) (.inr k)).isSome) (fun Q z => ?_) (fun _ Q z => ?_) (fun c3 c4 => ?_) fun c3 => ?_
      · simp only [mTest, mB, mVar, mC, gt, N3.rLt, N3.rCmp]
        exact z
      · simp only [mTest, mB, mVar, gt, rInD, dctL, L2.rw, kOf, Bool.bne_false]
        exact z
      · /- heard by all -/
        obtain ⟨ds, r, rr, er, ek, elk⟩ : ∃ ds r rr, T.rs = ds ++ r :: rr ∧ r.e.k = k ∧ ∀ f : Ro → PV, lk (T.rs.map rk) (T.rs.map f) (.inr k) = some (f r) := by
          rcases row_at L2.nk (k := k) with z | ⟨hno, elk⟩
          · exact z
          · rw [elk] at c4; cases c4
        have hr : r ∈ T.rs := by rw [er]; simp
        have okk : ∀ y ∈ ds ++ rr, y.e.k ≠ k := fun y hy hk2 => by
          have nd := nd_k L2.nk
          rw [er] at nd
          have m := nd_anyS (K := fun r : Ro => r.e.k) nd
          rcases List.mem_append.mp hy with z | z
          · exact m.1 (by show r.e.k ∈ _; rw [ek, ← hk2]; exact List.mem_map_of_mem (f := fun r : Ro => r.e.k) z)
          · exact m.2 (by show r.e.k ∈ _; rw [ek, ← hk2]; exact List.mem_map_of_mem (f := fun r : Ro => r.e.k) z)
        have dlist : ∀ r1 : Ro, r1.e.d = r.e.d → (esOf (ds ++ r1 :: rr)).map Sa.d = (esOf T.rs).map Sa.d := fun r1 h1 => by
          unfold esOf
          rw [er]
          simp only [List.map_append, List.map_cons, h1]
        have ndl : ∀ y ∈ T.it :: T.rw :: lf T.rs, y ∉ (esOf T.rs).map Sa.d := fun y hy z => L2.xs y hy (mem_sfp_d z)
        have mra : r.ra ∈ T.it :: T.rw :: lf T.rs := List.mem_cons_of_mem _ (List.mem_cons_of_mem _ (mem_ra hr))
        have nit : T.it ≠ r.ra := fun z => a2 (by rw [z]; exact mem_ra hr)
        have nrw : T.rw ≠ r.ra := fun z => a3 (by rw [z]; exact mem_ra hr)
        simp only [mFor, mSeqs, mB, mVar, mC, gt, N3.rIx, seqL, dctL, L2.it, kOf, lk_ot]
        refine forL_of (W := fun ps τ h5 => ∃ (r1 : Ro) (done rest : List Str) (v : Option PV), T.I.others = done ++ rest ∧ ps = rest.map PV.str ∧ (r1.e.k = r.e.k ∧ r1.e.t = r.e.t ∧ r1.e.x = r.e.x ∧ r1.e.a = r.e.a ∧ r1.e.d = r.e.d ∧ r1.ra = r.ra) ∧ (∀ b, r1.nv = some b → r.nv = some b) ∧ SO C S T.I (esOf (ds ++ r1 :: rr)) h5 ∧ h5 r.ra = some (rwo r1) ∧
          (∀ b, r1.nv = some b → h5 b = some (.lst (r1.ln.map PV.str))) ∧ r1.ln.Perm r1.e.ns ∧ (∀ o ∈ r1.e.ns, o ∈ T.I.others) ∧ (∀ o ∈ done, o ∈ r1.ln) ∧ (∀ y, y ≠ r.ra → y ∉ (esOf T.rs).map Sa.d → h5 y = k2 y) ∧ Gd h5 ∧
          τ = [some (.ref D.d), some (.ref T.it), some (.int way), some (.str k), some (.ref T.rw), none, v, none, none]) ?_ ?_ _ _ _ ⟨r, [], T.I.others, none, rfl, rfl, ⟨rfl, rfl, rfl, rfl, rfl, rfl⟩, fun _ h => h, by rw [← er]; exact L2.H, L2.el r hr, L2.en r hr, L2.pn r hr, L2.so r hr, (fun o ho => by cases ho), fun _ _ _ => rfl, g2, rfl⟩
        · rintro p ps τ h5 ⟨r1, done, rest, v, eo, ee, s, nv, H5, E5, N5, P5, S5, D5, O5, g5, rfl⟩
          obtain ⟨o, rest, rfl⟩ : ∃ e r', rest = e :: r' := by
            cases rest with
            | nil => cases ee
            | cons e r => exact ⟨e, r, rfl⟩
          obtain ⟨rfl, rfl⟩ := List.cons.inj ee
          refine ⟨trivial, fun P' hP' => ?_⟩
          obtain ⟨s1, s2, s3, s4, s5, s6⟩ := s
          have oo : o ∈ T.I.others := by rw [eo]; simp
          have it5 : h5 T.it = _ := (O5 _ nit (ndl _ List.mem_cons_self)).trans L2.it
          have rw5 : h5 T.rw = _ := (O5 _ nrw (ndl _ (List.mem_cons_of_mem _ List.mem_cons_self))).trans L2.rw
          have nn5 : r1.e.ns.Nodup := H5.nn r1.e (by unfold esOf; exact List.mem_map_of_mem (by simp))
          have l5 : r1.e.ns.length ≤ 4 := Nat.le_trans (nd_le nn5 S5) on
          have l60 : ∀ e ∈ esOf (ds ++ r1 :: rr), e.ns.length < 60 := fun e he => by
            obtain ⟨y, hy, rfl⟩ := List.mem_map.mp he
            rcases List.mem_cons.mp (List.perm_middle.mem_iff.mp hy) with z | z
            · rw [z]; omega
            · have hy2 : y ∈ T.rs := by
                rw [er]
                rcases List.mem_append.mp z with z | z
                · exact List.mem_append_left _ z
                · exact List.mem_append_right _ (List.mem_cons_of_mem _ z)
              have := L2.lenN hy2
              rw [(L2.pn y hy2).length_eq] at this
              omega
          simp only [gN, N3.st]
          refine seq_step fun P2 hP2 => ?_
          simp only [mDrop, mMeth, mB, mVar, mC, mCons, mNil, gt, N3.rIx, seqL, dctL, it5, kOf, lk_sa, H5.o, rw5, elk, rv, E5, rwo, f4_0, f4_1]
          refine ⟨trivial, ans_no, T.I, _, o, k, r1.e.t, r1.e.x, rfl, H5, g5, l60, fun h6 H6 g6 o6 => ?_⟩
          have he : (esOf (ds ++ r1 :: rr)).map (hit T.I.others o k r1.e.t r1.e.x) = esOf (ds ++ { r1 with e := { r1.e with ns := addN o r1.e.ns } } :: rr) := by
            have idm : ∀ l : List Ro, (∀ y ∈ l, y ∈ ds ++ rr) → (esOf l).map (hit T.I.others o k r1.e.t r1.e.x) = esOf l := fun l hl => by
              unfold esOf
              rw [List.map_map]
              refine List.map_congr_left fun y hy => ?_
              show hit T.I.others o k r1.e.t r1.e.x y.e = y.e
              unfold hit
              rw [if_neg fun z => okk y (hl y hy) z.1]
            have q1 := idm ds fun y hy => List.mem_append_left _ hy
            have q2 := idm rr fun y hy => List.mem_append_right _ hy
            have q3 : hit T.I.others o k r1.e.t r1.e.x r1.e = { r1.e with ns := addN o r1.e.ns } := by
              unfold hit
              rw [if_pos ⟨by rw [s1, ek], oo, rfl, rfl⟩]
            unfold esOf at q1 q2 ⊢
            simp only [List.map_append, List.map_cons, q1, q2, q3]
          rw [he] at H6
          rw [dlist r1 s5] at o6
          have ra6 : h6 r.ra = some (rwo r1) := (o6 _ (ndl _ mra)).trans E5
          have rw6 := (o6 _ (ndl _ (List.mem_cons_of_mem _ List.mem_cons_self))).trans rw5
          have nb : ∀ b, r1.nv = some b → b ∈ lf T.rs := fun b hb => mem_nv hr (nv b hb)
          have N6 : ∀ b, r1.nv = some b → h6 b = some (.lst (r1.ln.map PV.str)) := fun b hb => (o6 b (ndl b (List.mem_cons_of_mem _ (List.mem_cons_of_mem _ (nb b hb))))).trans (N5 b hb)
          have lnl : r1.ln.length ≤ 4 := by rw [P5.length_eq]; exact l5
          have nn6 : (addN o r1.e.ns).Nodup := H6.nn { r1.e with ns := addN o r1.e.ns } (by unfold esOf; exact List.mem_map.mpr ⟨{ r1 with e := { r1.e with ns := addN o r1.e.ns } }, by simp, rfl⟩)
          have addnm : ∀ R : PK, R (.lst ((r1.ln ++ [o]).map PV.str)) h6 → N3.rAdd (nmV r1) (.lst [.str o]) h6 R := fun R z => by
            rw [List.map_append] at z
            cases hv : r1.nv with
            | none =>
              have e : nmV r1 = .lst (r1.ln.map PV.str) := by unfold nmV; rw [hv]
              rw [e]
              simp only [N3.rAdd, seqL]
              exact ⟨by rw [List.length_map]; show _ + 1 ≤ 16777216; omega, z⟩
            | some b =>
              have e : nmV r1 = .ref b := by unfold nmV; rw [hv]
              rw [e]
              simp only [N3.rAdd, seqL, N6 b hv]
              exact ⟨by rw [List.length_map]; show _ + 1 ≤ 16777216; omega, z⟩
          subst hP2
          simp only [mDput, mBlt, mLst, mCons, mNil, mB, mVar, mC, gt, N3.rIx, seqL, dctL, rw6, kOf, elk, rv, ra6, rwo, f4_2]
          refine addnm _ ?_
          simp only [rSortSet, listed, seqL]
          refine ⟨r1.ln ++ [o], rfl, by rw [List.length_append]; show _ + 1 < 4000; omega, fun bs bnd bmm bl => ?_⟩
          simp only [rw6, kOf, elk, rv, ra6, rwo]
          have zp := List.mergeSort_perm bs (PySem.W.dataLe false PyData.str)
          generalize bs.mergeSort (PySem.W.dataLe false PyData.str) = zs at zp
          have znd : zs.Nodup := zp.nodup_iff.mpr bnd
          have zmm : ∀ y, y ∈ zs ↔ y ∈ r1.ln ∨ y = o := fun y => by
            rw [zp.mem_iff, bmm y, List.mem_append, List.mem_singleton]
          have pm : zs.Perm (addN o r1.e.ns) := nodup_perm znd nn6 fun y => by rw [zmm y, mem_addN, P5.mem_iff]
          have rsf : ∀ y ∈ sfp T.I (esOf (ds ++ { r1 with e := { r1.e with ns := addN o r1.e.ns } } :: rr)), y ≠ r.ra := fun y hy z => by
            have e1 : sfp T.I (esOf (ds ++ { r1 with e := { r1.e with ns := addN o r1.e.ns } } :: rr)) = sfp T.I (esOf T.rs) := by
              unfold sfp esOf
              rw [er]
              simp only [List.map_append, List.map_cons, s4, s5]
            rw [e1] at hy
            exact L2.xs _ mra (z ▸ hy)
          refine hP' _ _ ⟨⟨{ r1.e with ns := addN o r1.e.ns }, r1.ra, none, zs⟩, done ++ [o], rest, some (.str o), by rw [eo, List.append_assoc]; rfl, rfl, ⟨s1, s2, s3, s4, s5, s6⟩, (fun b hb => by cases hb), ?_, ?_, (fun b hb => by cases hb), pm, fun y hy => ?_, fun y hy => ?_, fun y y1 y2 => ?_, g6.up ?_ (fun _ _ e => by cases e), rfl⟩
          · have e1 : esOf (ds ++ ⟨{ r1.e with ns := addN o r1.e.ns }, r1.ra, none, zs⟩ :: rr) = esOf (ds ++ { r1 with e := { r1.e with ns := addN o r1.e.ns } } :: rr) := by
              unfold esOf; simp only [List.map_append, List.map_cons]
            rw [e1]
            exact H6.mono fun y hy => up_ne (rsf y hy)
          · exact up_same
          · rcases mem_addN.mp hy with z | z
            · exact S5 y z
            · rw [z]; exact oo
          · show y ∈ zs
            rcases List.mem_append.mp hy with z | z
            · exact (zmm y).mpr (.inl (D5 y z))
            · rw [List.mem_singleton] at z; exact (zmm y).mpr (.inr z)
          · rw [up_ne y1, o6 y y2]; exact O5 y y1 y2
          · show (true && (true && (nds (zs.map PV.str) && (true && true)))) = true
            rw [nds_map fun _ _ => rfl]; rfl
        · rintro τ h5 ⟨r1, done, rest, v, eo, ee, s, nv, H5, E5, N5, P5, S5, D5, O5, g5, rfl⟩
          refine ⟨trivial, ?_⟩
          cases rest with
          | cons e r => cases ee
          | nil =>
            rw [List.append_nil] at eo
            have nvr : ∀ y ∈ T.rs, ∀ b, y.nv = some b → b ≠ r.ra := fun y hy b hb z => (List.nodup_append.mp a4).2.2 _ (List.mem_map_of_mem hr) _ (List.mem_filterMap.mpr ⟨y, hy, hb⟩) z.symm
            obtain ⟨L5, F5⟩ := L2.all er s nv H5 (O5 _ nit (ndl _ List.mem_cons_self)) (O5 _ nrw (ndl _ (List.mem_cons_of_mem _ List.mem_cons_self))) E5 (fun y hy hne => O5 _ hne (ndl _ (List.mem_cons_of_mem _ (List.mem_cons_of_mem _ (mem_ra hy))))) N5 (fun y hy b hb => O5 b (nvr y hy b hb) (ndl _ (List.mem_cons_of_mem _ (List.mem_cons_of_mem _ (mem_nv hy hb))))) (fun _ o ho => D5 o (eo ▸ ho)) P5 S5
            have far : ∀ y, y ∉ fp T → h5 y = k2 y := fun y hy => O5 y (fun z => hy (by rw [z]; exact fp_lf (mem_ra hr))) fun z => hy (fp_sf (mem_sfp_d z))
            exact ret _ _ _ _ _ (fin2 { T with rs := ds ++ r1 :: rr } h5 rfl b0 (by show T.b ≤ _; omega) L5.up ((d2.mono (by omega)).keep (far _ dd) (far _ dl)) g5 (fun y hy => .inl (F5 y hy)) fun y _ _ _ y3 => far y y3)
      · have beats : ∀ k3, DO D (n + 4) k3 → Gd k3 → LO C S T j k3 → (∀ x, x ≠ D.d → x ≠ D.l → k3 x = k2 x) → mFor (mRng1 (mCons (mBlt rMin2 (mCons (mB N3.rAdd (mC (.int 1)) (mBlt spDraw (mCons (mVar 0) (mCons (mC (.int 12)) (mNil))))) (mCons (mB N3.rSub (mC (.int 150)) (mB N3.rIx (mVar 1) (mC (.str "beats")))) (mNil)))) (mNil))) (gN 8) (mSeq (mDput (mB N3.rAdd (mB N3.rIx (mVar 1) (mC (.str "beats"))) (mC (.int 1))) (mVar 1) (mC (.str "beats")))
            (mSeq (mDrop (mBlt (spLBeat C S) (mCons (mVar 1) (mNil))))
            (mIfS (mNotT (mTest (mBlt (spSeen C S) (mCons (mVar 1) (mNil))))) (mRet (mC (.bl false))) (mNx)))) { (ends Q) with nx := P } [some (.ref D.d), some (.ref T.it), some (.int way), some (.str k), some (.ref T.rw), none, none, none, none] k3 := by
          intro k3 d3 g3 L3 o3
          simp only [mFor, mRng1, mB, mBlt, mCons, mC, mNil, mVar, gt]
          refine draw_do d3 g3 (by omega) (by decide) (by decide) fun r k4 r0 r1 d4 g4 o4 => ?_
          have L4 : LO C S T j k4 := L3.mono fun x hx => o4 x (fun z => dd (z ▸ hx)) (fun z => dl (z ▸ hx))
          simp only [rMin2, N3.rAdd, N3.rSub, N3.rII0, N3.rIx, seqL, dctL, L4.it, kOf, lk_be]
          have cb : ∃ c : Nat, (rng 0 (if 150 - T.b < 1 + r then 150 - T.b else 1 + r).toNat).length = c ∧ c ≤ 12 ∧ -16777216 ≤ (if 150 - T.b < 1 + r then 150 - T.b else 1 + r) ∧ (if 150 - T.b < 1 + r then 150 - T.b else 1 + r) ≤ 16777216 := by
            refine ⟨_, rfl, ?_, ?_, ?_⟩
            · rw [rng_len]; split <;> omega
            · split <;> omega
            · split <;> omega
          obtain ⟨cc, e1, e2, e3, e4⟩ := cb
          refine ⟨⟨e3, e4⟩, ?_⟩
          refine forL_of (W := fun ps τ h4 => ∃ T2 v, T2.it = T.it ∧ LO C S T2 j h4 ∧ DO D (n + 5) h4 ∧ Gd h4 ∧ (∀ x ∈ fp T2, x ∈ fp T) ∧ (∀ x, k4 x ≠ none → x ∉ fp T → h4 x = k4 x) ∧ 0 ≤ T2.b ∧ T2.b + (ps.length : Nat) ≤ T.b + 12 ∧ τ = [some (.ref D.d), some (.ref T.it), some (.int way), some (.str k), some (.ref T.rw), none, none, none, v]) ?_ ?_ _ _ _
            ⟨T, none, rfl, L4, d4, g4, fun _ h => h, fun _ _ _ => rfl, b0, by rw [e1]; omega, rfl⟩
          · rintro p ps τ h4' ⟨T2, v, et, LT, dT, gT', sub, ho, c0, c1, rfl⟩
            refine ⟨trivial, fun P' hP' => ?_⟩
            simp only [gN, N3.st]
            refine seq_step fun P2 hP2 => ?_
            rw [← et]
            simp only [N3.mDput, N3.mB, N3.mU, N3.mVar, N3.mC, N3.sp0, N3.gt, N3.st, N3.rIx, N3.seqL, N3.dctL, N3.kOf, N3.rAdd, N3.mAsg, N3.gN, N3.mIfS, N3.mTest, N3.mPop, N3.mAppend, N3.mDrop, N3.mRet, N3.mRetN, N3.mNx, N3.mBrk, N3.mCnt, N3.mLst, N3.mLstM, N3.mCons, N3.mNil, N3.mTup, N3.mBlt, N3.mKw, N3.cat2, N3.cat2r, N3.gS, N3.gL, N3.mSlM, N3.rSlM, N3.mM1, N3.mSl, N3.mRev, N3.mStep, N3.mRevM, N3.mPart, N3.mNoPart, N3.rII, N3.rII0, N3.rIB, N3.rCmp, N3.rLt, N3.rLe, N3.rGt, N3.rGe, N3.mIsI, N3.tn, N3.isI, N3.mDisp, N3.mDct0, N3.mDct0M, N3.mPar3, N3.mAug, N3.rIAdd, N3.mExtend, N3.mInsert, N3.mPopAt, N3.rMin2, N3.rMax2, N3.rIntT, N3.rSplit, N3.rSplitM, N3.rAddM, N3.gPut, N3.mFmt, N3.mJs, N3.mJoin, N3.rDictP, N3.mRepM, N3.rListA, N3.rSortA, N3.mLc2, N3.lcI, N3.lcO, N3.rAllB, N3.rAnyB, N3.rStrI, N3.rIntO, N3.vwL, N3.rMul, N3.rMulT, N3.rNeg, N3.rSub, N3.rDiv, N3.rMod, N3.rPow, N3.mPar, N3.mAndT, N3.mOrT, N3.mNotT, N3.mAnd, N3.mOr, N3.mOrV, N3.mAndV, N3.trv, N3.mNot, N3.mIf, N3.mChn, N3.mKeep, N3.mRep, N3.mDispM, N3.mPs, N3.ends, N3.rLen, N3.rListOf, N3.rListOfM, N3.rTupOf, N3.rSumI, N3.listed, N3.rSl, N3.rRev, N3.rEq, N3.rNe, N3.rIsN, N3.rNotN, N3.isNon, N3.vw, N3.mYes, N3.gT, N3.gsCons, N3.gsNil, N3.mFor, N3.mSeqs, N3.mLc, N3.mLcM, N3.mRng1, N3.mRng2, N3.mEnum, N3.mEnumA, N3.mZip, N3.wp, N3.rJoin, N3.rSS, N3.rIdxS, N3.rRepr, N3.flat, N3.flats, N3.toD, N3.toDs, List.length_cons, List.length_nil, List.append_eq, List.cons_append, List.nil_append, List.map_cons, List.map_nil, if_true, if_false, Bool.false_eq_true, decide_eq_true_eq, Option.some.injEq, true_and, and_true, Bool.not_true, Bool.not_false, reduceCtorEq, Bool.and_self, Bool.and_true, Bool.true_and, ite_true, ite_false, LT.it, lk_be, pk_be, pvs_be]
            refine ⟨by decide, ?_⟩
            have LB := LT.setb (T2.b + 1)
            have GB : Gd (N3.up h4' T2.it (.dct itk [.ref T2.I.sa, .tup (T2.I.others.map PV.str), .int T2.I.late, .ref T2.rw, .int (T2.b + 1)])) := gT'.up (by
              show (true && (nds (T2.I.others.map PV.str) && (true && (true && (true && true))))) = true
              rw [nds_map fun _ _ => rfl]; rfl) (fun _ _ e => by cases e)
            have itm : T2.it ∈ fp T := sub _ fp_it
            have OB : ∀ x, k4 x ≠ none → x ∉ fp T → N3.up h4' T2.it (.dct itk [.ref T2.I.sa, .tup (T2.I.others.map PV.str), .int T2.I.late, .ref T2.rw, .int (T2.b + 1)]) x = k4 x := fun x x0 hx => by
              rw [up_ne (show x ≠ T2.it from fun z => hx (by rw [z]; exact itm))]; exact ho x x0 hx
            generalize N3.up h4' T2.it (.dct itk [.ref T2.I.sa, .tup (T2.I.others.map PV.str), .int T2.I.late, .ref T2.rw, .int (T2.b + 1)]) = h5' at LB GB OB
            subst hP2
            refine seq_step fun P2 hP2 => ?_
            simp only [mDrop, mBlt, mCons, mVar, mNil, gt]
            refine ⟨{ T2 with b := T2.b + 1 }, j, rfl, LB, GB, by omega, fun h6' L6 G6 O6 => ?_⟩
            subst hP2
            simp only [mIfS, mNotT, mTest, mBlt, mCons, mVar, mNil, gt]
            refine ⟨{ T2 with b := T2.b + 1, rs := rbeat T2.I.others T2.I.late T2.rs }, j, rfl, L6, G6, by omega, fun h7 g7 o7 => ?_⟩
            simp only [Bool.not_true, Bool.false_eq_true, if_false, mNx]
            have L7 := L6.mono fun x hx => o7 x (L6.live hx)
            have s6 : ∀ x ∈ fp { T2 with b := T2.b + 1, rs := rbeat T2.I.others T2.I.late T2.rs }, x ∈ fp T := fun x hx => sub x (fp_thin (T := { T2 with b := T2.b + 1 }) (f := rstep T2.I.others T2.I.late) (fun _ _ => rstep_same) x hx)
            have o6 : ∀ x, k4 x ≠ none → x ∉ fp T → h7 x = k4 x := fun x x0 hx => by
              have q1 := OB x x0 hx
              have q2 := O6 x fun z => hx (sub x z)
              exact (o7 x (by rw [q2, q1]; exact x0)).trans (q2.trans q1)
            refine hP' _ _ ⟨{ T2 with b := T2.b + 1, rs := rbeat T2.I.others T2.I.late T2.rs }, some p, et, L7, d4.keep (o6 _ d4.live.1 dd) (o6 _ d4.live.2 dl), g7, s6, o6, ?_, ?_, ?_⟩
            · show 0 ≤ T2.b + 1; omega
            · show T2.b + 1 + _ ≤ _
              rw [List.length_cons] at c1; omega
            · rw [et]
          · rintro τ h4' ⟨T2, v, et, LT, dT, gT', sub, ho, c0, c1, rfl⟩
            refine ⟨trivial, ?_⟩
            simp only [List.length_nil] at c1
            have k24 : ∀ x, k2 x ≠ none → x ≠ D.d → x ≠ D.l → k4 x = k2 x := fun x x0 x1 x2 => (o4 x x1 x2).trans (o3 x x1 x2)
            exact ret _ _ _ _ _ (fin2 T2 h4' et c0 (by omega) LT.up (dT.mono (by omega)) gT' (fun x hx => .inl (sub x hx)) fun x x0 x1 x2 x3 => (ho x (by rw [k24 x x0 x1 x2]; exact x0) x3).trans (k24 x x0 x1 x2))
        unfold mAndT
        simp only [mTest, mB, mVar, mC, gt, N3.rEq, vw, toD, flat, eqv_int, true_and]
        refine ⟨by simp [PyData.depth], ite2 (fun c4 => ?_) (fun c4 => ?_)⟩
        · simp only [mBlt, mCons, mNil, mVar, mC, gt]
          refine draw_do d2 g2 (by omega) (by decide) (by decide) fun r3 k3 r0 r1 d3 g3 o3 => ?_
          have L3 : LO C S T j k3 := L2.mono fun x hx => o3 x (fun z => dd (z ▸ hx)) (fun z => dl (z ▸ hx))
          simp only [vw, toD, flat, eqv_int, true_and]
          refine ⟨by simp [PyData.depth], ite2 (fun c5 => ?_) (fun c5 => ?_)⟩
          · refine seq_step fun P2 hP2 => ?_
            simp only [mDrop, mMeth, mB, mVar, mC, mNil, gt, N3.rIx, seqL, dctL, L3.it, kOf, lk_sa, L3.H.o]
            refine ⟨trivial, again_no, T.I, _, rfl, L3.H, g3, fun k4 H4 g4 o4 => ?_⟩
            have law4 : ∀ y ∈ T.it :: T.rw :: lf T.rs, k4 y = k3 y := fun y hy => o4 y fun z => L3.xs y hy (mem_sfp_a z)
            have it4 := law4 _ List.mem_cons_self
            have rw4 : k4 T.rw = _ := (law4 _ (List.mem_cons_of_mem _ List.mem_cons_self)).trans L3.rw
            have E4 : ∀ r ∈ T.rs, k4 r.ra = some (rwo r) := fun r hr => (law4 _ (List.mem_cons_of_mem _ (List.mem_cons_of_mem _ (mem_ra hr)))).trans (L3.el r hr)
            have d4 : DO D (n + 10) k4 := (d3.mono (by omega)).keep (o4 _ fun z => dd (fp_sf (mem_sfp_a z))) (o4 _ fun z => dl (fp_sf (mem_sfp_a z)))
            subst hP2
            refine ⟨T.rw, _, _, rw4, ?_⟩
            simp only [mFor, mKeysI, mVar, gt, up_same, kp_rk]
            refine ⟨by rw [List.length_map]; show _ ≤ 16777216; omega, ?_⟩
            refine forL_of (W := fun ps τ h5 => ∃ ds r v, T.rs = ds ++ r ∧ ps = r.map (fun r => PV.str r.e.k) ∧ h5 T.rw = some (.lck (T.rs.map rk) (T.rs.map rv)) ∧ (∀ e ∈ ds, h5 e.ra = some (rwo (rzero e))) ∧ (∀ e ∈ r, h5 e.ra = some (rwo e)) ∧
              (∀ x, x ≠ T.rw → x ∉ T.rs.map Ro.ra → h5 x = k4 x) ∧ ndH h5 ∧ lk1 T.rw h5 ∧ τ = [some (.ref D.d), some (.ref T.it), some (.int way), some (.str k), some (.ref T.rw), none, none, v, none] ∧ (v = none ∨ ∃ y, v = some (.str y))) ?_ ?_ _ _ _ ⟨[], T.rs, none, rfl, rfl, up_same, (fun e he => by simp at he), (fun e he => ?_), (fun x x1 _ => up_ne x1), g4.lck.1, g4.lck.2, rfl, .inl rfl⟩
            · rintro p ps τ h5 ⟨ds, r, v, er, ee, hr, hd, hrr, ho, nh, l1, rfl, -⟩
              obtain ⟨e, r, rfl⟩ : ∃ e r', r = e :: r' := by
                cases r with
                | nil => cases ee
                | cons e r => exact ⟨e, r, rfl⟩
              obtain ⟨rfl, rfl⟩ := List.cons.inj ee
              refine ⟨hr, fun P' hP' => ?_⟩
              have he : e ∈ T.rs := by rw [er]; simp
              have el : lk (T.rs.map rk) (T.rs.map rv) (Sum.inr e.e.k) = some (rv e) := by
                have nd := L3.nk
                rw [er] at nd ⊢
                exact lk_mid (K := rk) (nd_mid nd).1
              have ea := hrr e List.mem_cons_self
              have na := (List.nodup_append.mp a4).1
              rw [er] at na
              obtain ⟨m1, m2⟩ := nd_anyS na
              have ew : e.ra ≠ T.rw := fun z => a3 (by rw [← z]; exact mem_ra he)
              simp only [N3.mDput, N3.mB, N3.mU, N3.mVar, N3.mC, N3.sp0, N3.gt, N3.st, N3.rIx, N3.seqL, N3.dctL, N3.kOf, N3.rAdd, N3.mAsg, N3.gN, N3.mIfS, N3.mTest, N3.mPop, N3.mAppend, N3.mDrop, N3.mRet, N3.mRetN, N3.mNx, N3.mBrk, N3.mCnt, N3.mLst, N3.mLstM, N3.mCons, N3.mNil, N3.mTup, N3.mBlt, N3.mKw, N3.cat2, N3.cat2r, N3.gS, N3.gL, N3.mSlM, N3.rSlM, N3.mM1, N3.mSl, N3.mRev, N3.mStep, N3.mRevM, N3.mPart, N3.mNoPart, N3.rII, N3.rII0, N3.rIB, N3.rCmp, N3.rLt, N3.rLe, N3.rGt, N3.rGe, N3.mIsI, N3.tn, N3.isI, N3.mDisp, N3.mDct0, N3.mDct0M, N3.mPar3, N3.mAug, N3.rIAdd, N3.mExtend, N3.mInsert, N3.mPopAt, N3.rMin2, N3.rMax2, N3.rIntT, N3.rSplit, N3.rSplitM, N3.rAddM, N3.gPut, N3.mFmt, N3.mJs, N3.mJoin, N3.rDictP, N3.mRepM, N3.rListA, N3.rSortA, N3.mLc2, N3.lcI, N3.lcO, N3.rAllB, N3.rAnyB, N3.rStrI, N3.rIntO, N3.vwL, N3.rMul, N3.rMulT, N3.rNeg, N3.rSub, N3.rDiv, N3.rMod, N3.rPow, N3.mPar, N3.mAndT, N3.mOrT, N3.mNotT, N3.mAnd, N3.mOr, N3.mOrV, N3.mAndV, N3.trv, N3.mNot, N3.mIf, N3.mChn, N3.mKeep, N3.mRep, N3.mDispM, N3.mPs, N3.ends, N3.rLen, N3.rListOf, N3.rListOfM, N3.rTupOf, N3.rSumI, N3.listed, N3.rSl, N3.rRev, N3.rEq, N3.rNe, N3.rIsN, N3.rNotN, N3.isNon, N3.vw, N3.mYes, N3.gT, N3.gsCons, N3.gsNil, N3.mFor, N3.mSeqs, N3.mLc, N3.mLcM, N3.mRng1, N3.mRng2, N3.mEnum, N3.mEnumA, N3.mZip, N3.wp, N3.rJoin, N3.rSS, N3.rIdxS, N3.rRepr, N3.flat, N3.flats, N3.toD, N3.toDs, List.length_cons, List.length_nil, List.append_eq, List.cons_append, List.nil_append, List.map_cons, List.map_nil, if_true, if_false, Bool.false_eq_true, decide_eq_true_eq, Option.some.injEq, true_and, and_true, Bool.not_true, Bool.not_false, reduceCtorEq, Bool.and_self, Bool.and_true, Bool.true_and, ite_true, ite_false, hr, el, rv, ea, rwo]
              refine hP' _ _ ⟨ds ++ [e], r, _, by rw [er, List.append_assoc]; rfl, rfl, by rw [up_ne ew.symm]; exact hr, fun x hx => ?_, fun x hx => ?_, fun x x1 x2 => ?_, fun b u hb => ?_, fun b ks vs hb => ?_, rfl, .inr ⟨_, rfl⟩⟩
              · rcases List.mem_append.mp hx with hx | hx
                · rw [up_ne (show x.ra ≠ e.ra from fun z => m1 (by rw [← z]; exact List.mem_map_of_mem hx))]; exact hd x hx
                · rw [List.mem_singleton] at hx; subst hx
                  exact up_same
              · rw [up_ne (show x.ra ≠ e.ra from fun z => m2 (by rw [← z]; exact List.mem_map_of_mem hx))]; exact hrr x (List.mem_cons_of_mem _ hx)
              · rw [up_ne (show x ≠ e.ra from fun z => x2 (by rw [z]; exact List.mem_map_of_mem he))]; exact ho x x1 x2
              · by_cases hc : b = e.ra
                · rw [hc, up_same] at hb; cases hb
                  show (true && (true && (nd (nmV e) && (true && true)))) = true
                  rw [nd_nmV]; rfl
                · rw [up_ne hc] at hb; exact nh b u hb
              · by_cases hc : b = e.ra
                · rw [hc, up_same] at hb; cases hb
                · rw [up_ne hc] at hb; exact l1 b _ _ hb
            · rintro τ h5 ⟨ds, r, v, er, ee, hr, hd, hrr, ho, nh, l1, rfl, hv⟩
              cases r with
              | cons e r => cases ee
              | nil =>
                rw [List.append_nil] at er
                refine ⟨hr, ⟨hr, ?_, nh, l1⟩, ?_⟩
                · rcases hv with rfl | ⟨y, rfl⟩ <;> rfl
                · have fz := fm_zero T.rs
                  have raE : (T.rs.map rzero).map Ro.ra = T.rs.map Ro.ra := by rw [List.map_map]; rfl
                  have nraS : ∀ y ∈ sfp T.I (esOf T.rs), y ≠ T.rw ∧ y ∉ T.rs.map Ro.ra := fun y hy => ⟨fun z => L3.xs _ (List.mem_cons_of_mem _ List.mem_cons_self) (z ▸ hy), fun z => L3.xs y (List.mem_cons_of_mem _ (List.mem_cons_of_mem _ (List.mem_append_left _ z))) hy⟩
                  have E5 : ∀ y, y ≠ T.rw → y ∉ T.rs.map Ro.ra → N3.up h5 T.rw (.dct (T.rs.map rk) (T.rs.map rv)) y = k4 y := fun y y1 y2 => (up_ne y1).trans (ho y y1 y2)
                  have LZ := LO.thin (h' := N3.up h5 T.rw (.dct (T.rs.map rk) (T.rs.map rv))) L3 (f := fun r => some (rzero r)) zero_same (by
                      have e1 : esOf (T.rs.filterMap fun r => some (rzero r)) = (esOf T.rs).map zeroS := by
                        rw [fz]; unfold esOf; rw [List.map_map, List.map_map]; rfl
                      rw [e1]
                      refine H4.mono fun y hy => ?_
                      have hy2 : y ∈ sfp T.I (esOf T.rs) := by
                        rw [← e1] at hy
                        exact sf_thin zero_same y hy
                      exact E5 y (nraS y hy2).1 (nraS y hy2).2) ((E5 _ a1 fun z => a2 (List.mem_append_left _ z)).trans it4) (by
                      rw [fz, up_same, List.map_map, List.map_map]; rfl) (fun y hy => by
                      rw [fz] at hy
                      obtain ⟨e, he, rfl⟩ := List.mem_map.mp hy
                      exact (up_ne (show e.ra ≠ T.rw from fun z => a3 (by rw [← z]; exact mem_ra he))).trans (hd e (er ▸ he))) (fun x hx b hb => by
                      have m := mem_nv hx hb
                      exact (E5 b (fun z => a3 (z ▸ m)) fun z => (List.nodup_append.mp a4).2.2 _ z _ (List.mem_filterMap.mpr ⟨x, hx, hb⟩) rfl).trans (law4 _ (List.mem_cons_of_mem _ (List.mem_cons_of_mem _ m))))
                  have fpz := fp_thin (T := T) zero_same
                  have ddw : D.d ≠ T.rw ∧ D.l ≠ T.rw := ⟨fun z => dd (z ▸ fp_rw), fun z => dl (z ▸ fp_rw)⟩
                  have ddr : D.d ∉ T.rs.map Ro.ra ∧ D.l ∉ T.rs.map Ro.ra := ⟨fun z => dd (fp_lf (List.mem_append_left _ z)), fun z => dl (fp_lf (List.mem_append_left _ z))⟩
                  refine ret _ _ _ _ _ (fin2 { T with rs := T.rs.filterMap fun r => some (rzero r) } _ rfl b0 (by show T.b ≤ _; omega) LZ.up (d4.keep (E5 _ ddw.1 ddr.1) (E5 _ ddw.2 ddr.2)) ⟨fun b u hb => ?_, fun b ks vs hb => ?_⟩ (fun y hy => .inl (fpz y hy)) fun y y0 y1 y2 y3 => ?_)
                  · by_cases hc : b = T.rw
                    · rw [hc, up_same] at hb; cases hb
                      exact nds_map (f := rv) fun _ _ => rfl
                    · rw [up_ne hc] at hb; exact nh b u hb
                  · by_cases hc : b = T.rw
                    · rw [hc, up_same] at hb; cases hb
                    · rw [up_ne hc] at hb; exact hc (l1 b _ _ hb)
                  · exact (E5 y (fun z => y3 (z ▸ fp_rw)) fun z => y3 (fp_lf (List.mem_append_left _ z))).trans ((o4 y fun z => y3 (fp_sf (mem_sfp_a z))).trans (o3 y y1 y2))
            · exact (up_ne (show e.ra ≠ T.rw from fun z => a3 (by rw [← z]; exact mem_ra he))).trans (E4 e he)
          · exact beats k3 (d3.mono (by omega)) g3 L3 o3
        · simp only [Bool.false_eq_true, if_false]
          exact beats k2 (d2.mono (by omega)) g2 L2 fun _ _ _ => rfl
end Wneversaid_k41_words_said

namespace Wneversaid_k41_words_said
open PySem PySem.Spec PyProof.Rows L2 N3
/-! ### the law -/
noncomputable def tg (x : PV × PV) : PV := .tup [x.1, x.2, .str (toD (.tup [x.1, x.2])).shown]
structure GS (C S : Addr) (D : Dk) (T U : LI) (tl : Addr) (ts : List (PV × PV)) (n j : Nat) (h : PH) : Prop where
  d : DO D n h
  g : Gd h
  l1 : LO C S T j h
  l2 : LO C S U j h
  t : h tl = some (.lst (ts.map tg))
  tn : ts.length ≤ j
  x : ∀ x ∈ fp T, x ∉ fp U
  d1 : D.d ∉ fp T ∧ D.l ∉ fp T ∧ tl ∉ fp T
  d2 : D.d ∉ fp U ∧ D.l ∉ fp U ∧ tl ∉ fp U
  td : tl ≠ D.d ∧ tl ≠ D.l
  b1 : 0 ≤ T.b ∧ T.b ≤ 12 * (j : Int)
  b2 : 0 ≤ U.b ∧ U.b ≤ 12 * (j : Int)
  ok : ∀ r ∈ ts, TH 4 480253 (.tup [r.1, r.2]) ∧ nd r.1 = true ∧ nd r.2 = true
section
variable {C S : Addr} {D : Dk} {T U : LI} {tl : Addr} {ts : List (PV × PV)} {n j : Nat} {h h' : PH}
theorem GS.sym (G : GS C S D T U tl ts n j h) : GS C S D U T tl ts n j h := ⟨G.d, G.g, G.l2, G.l1, G.t, G.tn, fun x hx z => G.x x z hx, G.d2, G.d1, G.td, G.b2, G.b1, G.ok⟩
/-- what was there is as it was -/
theorem GS.keep (G : GS C S D T U tl ts n j h) (g : Gd h') (o : ∀ y, h y ≠ none → h' y = h y) : GS C S D T U tl ts n j h' :=
  ⟨G.d.keep (o _ G.d.live.1) (o _ G.d.live.2), g, G.l1.mono fun x hx => o x (G.l1.live hx), G.l2.mono fun x hx => o x (G.l2.live hx), (o _ (by rw [G.t]; simp)).trans G.t, G.tn, G.x, G.d1, G.d2, G.td, G.b1, G.b2, G.ok⟩
theorem draw_gs {Q : PK} {many : Int} (G : GS C S D T U tl ts n j h) (hn : n < 400000000) (h1 : 1 ≤ many) (h2 : many < 1000) (k : ∀ r h', 0 ≤ r → r < many → GS C S D T U tl ts (n + 1) j h' → Q (.int r) h') : spDraw [.ref D.d, .int many] h Q :=
  draw_do G.d G.g (by omega) h1 (by omega) fun r h' r0 r1 d' g' o => k r h' r0 r1
    ⟨d', g', G.l1.mono fun x hx => o x (fun z => G.d1.1 (z ▸ hx)) (fun z => G.d1.2.1 (z ▸ hx)), G.l2.mono fun x hx => o x (fun z => G.d2.1 (z ▸ hx)) (fun z => G.d2.2.1 (z ▸ hx)), (o _ G.td.1 G.td.2).trans G.t, G.tn, G.x, G.d1, G.d2, G.td, G.b1, G.b2, G.ok⟩
theorem deed_gs {Q : PK} (G : GS C S D T U tl ts n j h) (hn : n < 400000000) (hj : j ≤ 50) {x : Addr} (ex : T.it = x) (k : ∀ T' h', T'.it = x → GS C S D T' U tl ts (n + 10) (j + 1) h' → Q (.bl true) h') : spLDeed C S [.ref D.d, .ref x] h Q := by
  subst ex
  refine ⟨D, n, T, j, rfl, G.d, G.g, by omega, G.l1, hj, G.b1.1, G.b1.2, G.d1.1, G.d1.2.1, fun T' h' e1 e2 e3 e4 e5 e6 e7 e8 => k T' h' e1 ?_⟩
  have tn : h tl ≠ none := by rw [G.t]; simp
  have dn := G.d.live
  refine ⟨e5, e6, e4, (G.l2.mono fun x hx => e8 x (G.l2.live hx) (fun z => G.d2.1 (z ▸ hx)) (fun z => G.d2.2.1 (z ▸ hx)) fun z => G.x x z hx).up, (e8 _ tn G.td.1 G.td.2 G.d1.2.2).trans G.t, by have := G.tn; omega, fun x hx hu => ?_, ⟨fun z => ?_, fun z => ?_, fun z => ?_⟩, G.d2, G.td, ⟨e2, e3⟩, ?_, G.ok⟩
  · rcases e7 x hx with z | z
    · exact G.x x z hu
    · exact G.l2.live hu z
  · exact (e7 _ z).elim G.d1.1 dn.1
  · exact (e7 _ z).elim G.d1.2.1 dn.2
  · exact (e7 _ z).elim G.d1.2.2 tn
  · have := G.b2; omega
theorem seen_gs {Q : PK} (G : GS C S D T U tl ts n j h) (hj : j ≤ 60) {x : Addr} (ex : T.it = x) (q : ∀ h', GS C S D T U tl ts n j h' → Q (.bl true) h') : spSeen C S [.ref x] h Q := ⟨T, j, by rw [ex], G.l1, G.g, hj, fun h' g' o => q h' (G.keep g' o)⟩
theorem nds_of : ∀ {l : List PV}, (∀ p ∈ l, nd p = true) → nds l = true
  | [], _ => rfl
  | p :: l, h => by
    show (nd p && nds l) = true
    rw [h p List.mem_cons_self, nds_of fun x hx => h x (List.mem_cons_of_mem _ hx)]; rfl
theorem nd_srtR (es : List Sa) : nd (.tup (srtR es)) = true := nds_of fun p hp => by
  obtain ⟨e, he, rfl⟩ := List.mem_map.mp ((List.mergeSort_perm _ _).mem_iff.mp hp)
  exact nd_row e
theorem nd_sdue (os : List Str) (es : List Sa) : nd (.tup ((dues os es).mergeSort (PySem.W.dataLe false toD))) = true := nds_of fun p hp => by
  obtain ⟨e, he, o, ho, rfl⟩ := dues_mem ((List.mergeSort_perm _ _).mem_iff.mp hp)
  rfl
theorem told_gs (G : GS C S D T U tl ts n j h) {r : PV × PV} (hl : ts.length + 1 ≤ j) (ok : TH 4 480253 (.tup [r.1, r.2]) ∧ nd r.1 = true ∧ nd r.2 = true) : GS C S D T U tl (ts ++ [r]) n j (N3.up h tl (.lst (ts.map tg ++ [tg r]))) := by
  have okk : ∀ x ∈ ts ++ [r], TH 4 480253 (.tup [x.1, x.2]) ∧ nd x.1 = true ∧ nd x.2 = true := fun x hx => by
    rcases List.mem_append.mp hx with hx | hx
    · exact G.ok x hx
    · rw [List.mem_singleton] at hx; subst hx; exact ok
  have em : ts.map tg ++ [tg r] = (ts ++ [r]).map tg := by rw [List.map_append]; rfl
  rw [em]
  refine ⟨G.d.keep (up_ne G.td.1.symm) (up_ne G.td.2.symm), G.g.up ?_ (fun _ _ e => by cases e), G.l1.mono fun x hx => up_ne fun z => G.d1.2.2 (z ▸ hx), G.l2.mono fun x hx => up_ne fun z => G.d2.2.2 (z ▸ hx), up_same, by rw [List.length_append]; exact hl, G.x, G.d1, G.d2, G.td, G.b1, G.b2, okk⟩
  refine nds_map (f := tg) fun x hx => ?_
  show (nd x.1 && (nd x.2 && (true && true))) = true
  rw [(okk x hx).2.1, (okk x hx).2.2]; rfl
end
theorem th_pair {p q : PV} (hp : TH 3 240123 p) (hq : TH 3 240123 q) : TH 4 480253 (.tup [p, q]) := by
  refine (TH.tup (n := 3) (z := 240123) fun x hx => ?_).mono (by decide) (by show 2 * (240123 + 2) + 3 ≤ 480253; decide)
  simp only [List.mem_cons, List.not_mem_nil, or_false] at hx
  rcases hx with rfl | rfl <;> assumption
theorem ne_one {x : Str} {h : PH} {Q : PK} (q : Q (.bl false) h) : N3.rNe (.str x) (.str x) h Q := by
  refine ⟨rfl, rfl, by simp [vw, toD, PyData.depth], ?_⟩
  rw [show PyData.eqv (toD (vw h (.str x))) (toD (vw h (.str x))) = true from eqv_str x]
  exact q
theorem pure_law {C S : Addr} : ∀ qs h Q, qs.length = 1 → spLaw 63 qs h Q → m_law C spDeck (spLBegun C S) spDraw (spSeen C S) (spLDeed C S) (spDue C S) (spSRem C S) (ends Q) (sp0 9 qs) h := by
  rintro _ h Q - ⟨ns, rfl, hn, -, rfl, k⟩
  unfold m_law
  refine seq_step fun P hP => ?_
  simp only [mAsg, mBlt, mCons, mNil, mVar, gt, gN, N3.st, N3.sp0]
  refine ⟨ns, rfl, hn, fun D h1 e0 a0 => ?_⟩
  have g0 : Gd D.h0 := by rw [e0]; exact ⟨fun b o e => (by cases e), fun b ks vs e => (by cases e)⟩
  have g1 := at_gd a0 g0
  have d1 := DO.of a0
  subst hP
  refine seq_step fun P hP => ?_
  simp only [mPar, mLst, mCons, mBlt, mVar, mNil, gt]
  refine ⟨D, 0, rfl, d1, g1, by decide, fun T1 h2 b1 L1 d2 g2 f1 o1 => ?_⟩
  refine ⟨D, _, rfl, d2, g2, by decide, fun T2 h3 b2 L2 d3 g3 f2 o2 => ?_⟩
  simp only [N3.mDput, N3.mB, N3.mU, N3.mVar, N3.mC, N3.sp0, N3.gt, N3.st, N3.rIx, N3.seqL, N3.dctL, N3.kOf, N3.rAdd, N3.mAsg, N3.gN, N3.mIfS, N3.mTest, N3.mPop, N3.mAppend, N3.mDrop, N3.mRet, N3.mRetN, N3.mNx, N3.mBrk, N3.mCnt, N3.mLst, N3.mLstM, N3.mCons, N3.mNil, N3.mTup, N3.mBlt, N3.mKw, N3.cat2, N3.cat2r, N3.gS, N3.gL, N3.mSlM, N3.rSlM, N3.mM1, N3.mSl, N3.mRev, N3.mStep, N3.mRevM, N3.mPart, N3.mNoPart, N3.rII, N3.rII0, N3.rIB, N3.rCmp, N3.rLt, N3.rLe, N3.rGt, N3.rGe, N3.mIsI, N3.tn, N3.isI, N3.mDisp, N3.mDct0, N3.mDct0M, N3.mPar3, N3.mAug, N3.rIAdd, N3.mExtend, N3.mInsert, N3.mPopAt, N3.rMin2, N3.rMax2, N3.rIntT, N3.rSplit, N3.rSplitM, N3.rAddM, N3.gPut, N3.mFmt, N3.mJs, N3.mJoin, N3.rDictP, N3.mRepM, N3.rListA, N3.rSortA, N3.mLc2, N3.lcI, N3.lcO, N3.rAllB, N3.rAnyB, N3.rStrI, N3.rIntO, N3.vwL, N3.rMul, N3.rMulT, N3.rNeg, N3.rSub, N3.rDiv, N3.rMod, N3.rPow, N3.mPar, N3.mAndT, N3.mOrT, N3.mNotT, N3.mAnd, N3.mOr, N3.mOrV, N3.mAndV, N3.trv, N3.mNot, N3.mIf, N3.mChn, N3.mKeep, N3.mRep, N3.mDispM, N3.mPs, N3.ends, N3.rLen, N3.rListOf, N3.rListOfM, N3.rTupOf, N3.rSumI, N3.listed, N3.rSl, N3.rRev, N3.rEq, N3.rNe, N3.rIsN, N3.rNotN, N3.isNon, N3.vw, N3.mYes, N3.gT, N3.gsCons, N3.gsNil, N3.mFor, N3.mSeqs, N3.mLc, N3.mLcM, N3.mRng1, N3.mRng2, N3.mEnum, N3.mEnumA, N3.mZip, N3.wp, N3.rJoin, N3.rSS, N3.rIdxS, N3.rRepr, N3.flat, N3.flats, N3.toD, N3.toDs, List.length_cons, List.length_nil, List.append_eq, List.cons_append, List.nil_append, List.map_cons, List.map_nil, if_true, if_false, Bool.false_eq_true, decide_eq_true_eq, Option.some.injEq, true_and, and_true, Bool.not_true, Bool.not_false, reduceCtorEq, Bool.and_self, Bool.and_true, Bool.true_and, ite_true, ite_false]
  intro tl htl
  have dn := d1.live
  have dn2 := d2.live
  have x1 : D.d ∉ fp T1 ∧ D.l ∉ fp T1 := ⟨fun z => dn.1 (f1 _ z), fun z => dn.2 (f1 _ z)⟩
  have x2 : D.d ∉ fp T2 ∧ D.l ∉ fp T2 := ⟨fun z => dn2.1 (f2 _ z), fun z => dn2.2 (f2 _ z)⟩
  have L1' : LO C S T1 0 h3 := L1.mono fun x hx => o2 x (L1.live hx) (fun z => x1.1 (z ▸ hx)) (fun z => x1.2 (z ▸ hx))
  have td := d3.ne htl
  have n1 : tl ∉ fp T1 := fun z => L1'.live z htl
  have n2 : tl ∉ fp T2 := fun z => L2.live z htl
  have G0 : GS C S D T1 T2 tl [] 20 0 (N3.up h3 tl (.lst [])) := ⟨d3.keep (up_ne td.1.symm) (up_ne td.2.symm), g3.up rfl (fun _ _ e => by cases e), L1'.mono fun x hx => up_ne fun z => n1 (z ▸ hx), L2.mono fun x hx => up_ne fun z => n2 (z ▸ hx), up_same, Nat.le_refl _,
    fun x hx hu => L1.live hx (f2 x hu), ⟨x1.1, x1.2, n1⟩, ⟨x2.1, x2.2, n2⟩, td, by rw [b1]; exact ⟨by decide, by decide⟩, by rw [b2]; exact ⟨by decide, by decide⟩, fun r hr => by simp at hr⟩
  subst hP
  refine seq_step fun P hP => ?_
  simp only [mFor, mRng1, mB, mBlt, mCons, mC, mNil, mVar, gt, N3.st]
  refine draw_gs G0 (by decide) (by decide) (by decide) fun r h4 r0 r1 G1 => ?_
  simp only [N3.rAdd]
  refine ⟨⟨by omega, by omega⟩, ?_⟩
  refine forL_of (W := fun ps τ h5 => ∃ U1 U2 ts n j v4 v5, U1.it = T1.it ∧ U2.it = T2.it ∧ GS C S D U1 U2 tl ts n j h5 ∧ j + ps.length ≤ 40 ∧ n ≤ 20 * j + 30 ∧ τ = [some (.lst (ns.map PV.int)), some (.ref D.d), some (.lst [.ref T1.it, .ref T2.it]), some (.ref tl), v4, v5, none, none, none]) ?_ ?_ _ _ _
    ⟨T1, T2, [], 21, 0, none, none, rfl, rfl, G1, by rw [rng_len]; omega, by omega, rfl⟩
  · rintro p ps τ h5 ⟨U1, U2, ts, n, j, v4, v5, i1, i2, G, hj, hn2, rfl⟩
    rw [List.length_cons] at hj
    refine ⟨trivial, fun P' hP' => ?_⟩
    simp only [gN, N3.st]
    refine seq_step fun P2 hP2 => ?_
    simp only [mAsg, mB, mBlt, mCons, mNil, mC, mVar, gt]
    refine draw_gs G (by omega) (by decide) (by decide) fun r5 h6 z0 z1 G6 => ?_
    refine ix_lst z0 z1 fun v hv => ?_
    have last : ∀ (V W : LI) x h7, V.it = x → GS C S D V W tl ts (n + 11) (j + 1) h7 → (∀ ts' h8, GS C S D V W tl ts' (n + 11) (j + 1) h8 → P' [some (.lst (ns.map PV.int)), some (.ref D.d), some (.lst [.ref T1.it, .ref T2.it]), some (.ref tl), some p, some (.ref x), none, none, none] h8) →
        mDrop (mAppend (mVar 3) (mCons (mTup (mCons (mMeth C "remembered" (spSRem C S) pat_Sayer_remembered_0 (mB N3.rIx (mVar 5) (mC (.str "sayer"))) mNil (mNil)) (mCons (mMeth C "due" (spDue C S) pat_Sayer_due_0 (mB N3.rIx (mVar 5) (mC (.str "sayer"))) mNil (mNil)) (mCons (mBlt rRepr (mCons (mTup (mCons (mMeth C "remembered" (spSRem C S) pat_Sayer_remembered_0 (mB N3.rIx (mVar 5) (mC (.str "sayer"))) mNil (mNil)) (mCons (mMeth C "due" (spDue C S) pat_Sayer_due_0 (mB N3.rIx (mVar 5) (mC (.str "sayer"))) mNil (mNil)) (mNil)))) (mNil))) (mNil))))) (mNil)))
          { (ends Q) with nx := P', ct := P', bk := P } [some (.lst (ns.map PV.int)), some (.ref D.d), some (.lst [.ref T1.it, .ref T2.it]), some (.ref tl), some p, some (.ref x), none, none, none] h7 := by
      rintro V W x h7 rfl G7 fin
      have on := G7.l1.ok.n
      simp only [mDrop, mAppend, mTup, mMeth, mBlt, mCons, mNil, mVar, mB, mC, gt]
      refine ⟨⟨_, _, rfl, G7.t⟩, ?_⟩
      simp only [N3.rIx, seqL, dctL, G7.l1.it, kOf, lk_sa, G7.l1.H.o]
      refine ⟨trivial, rem_no, V.I, _, rfl, G7.l1.H, G7.g, fun h8 g8 o8 => ?_⟩
      have G8 := G7.keep g8 o8
      simp only [N3.rIx, seqL, dctL, G8.l1.it, kOf, lk_sa, G8.l1.H.o]
      refine ⟨trivial, due_no, V.I, _, rfl, G8.l1.H, G8.g, by omega, fun h9 g9 o9 => ?_⟩
      have G9 := G8.keep g9 o9
      simp only [N3.rIx, seqL, dctL, G9.l1.it, kOf, lk_sa, G9.l1.H.o]
      refine ⟨trivial, rem_no, V.I, _, rfl, G9.l1.H, G9.g, fun h10 g10 o10 => ?_⟩
      have GA := G9.keep g10 o10
      simp only [N3.rIx, seqL, dctL, GA.l1.it, kOf, lk_sa, GA.l1.H.o]
      refine ⟨trivial, due_no, V.I, _, rfl, GA.l1.H, GA.g, by omega, fun h11 g11 o11 => ?_⟩
      have GB := GA.keep g11 o11
      have th := th_pair (th_rows GB.l1 (by omega)) (th_dues GB.l1 (by omega))
      refine TH.repr (p := .tup [_, _]) th (by decide) (by decide) ?_
      rw [GB.t]
      simp only []
      refine ⟨by rw [List.length_map]; have := GB.tn; show _ < 16777216; omega, ?_⟩
      exact fin (ts ++ [(.tup (srtR (esOf V.rs)), .tup ((dues V.I.others (esOf V.rs)).mergeSort (PySem.W.dataLe false toD)))]) _ (told_gs GB (by have := G.tn; omega) ⟨th, nd_srtR _, nd_sdue _ _⟩)
    simp only [List.mem_cons, List.not_mem_nil, or_false] at hv
    subst hP2
    rcases hv with rfl | rfl
    · refine seq_step fun P2 hP2 => ?_
      simp only [mIfS, mOrT, mNotT, mTest, mBlt, mCons, mNil, mVar, mB, mC, gt, gN, N3.st]
      refine deed_gs G6 (by omega) (by omega) i1 fun V h7 iV G7 => ?_
      simp only [Bool.not_true, Bool.false_eq_true, if_false, N3.rIx, seqL, f2_0, f2_1]
      refine seen_gs G7 (by omega) iV fun h8 G8 => ?_
      simp only [Bool.not_true, Bool.false_eq_true, if_false]
      refine seen_gs G8.sym (by omega) i2 fun h9 G9 => ?_
      simp only [Bool.not_true, Bool.false_eq_true, if_false, mNx]
      subst hP2
      exact last V U2 _ h9 iV G9.sym fun ts' h8 G8 => hP' _ _ ⟨V, U2, ts', n + 11, j + 1, _, _, iV, i2, G8, by omega, by omega, rfl⟩
    · refine seq_step fun P2 hP2 => ?_
      simp only [mIfS, mOrT, mNotT, mTest, mBlt, mCons, mNil, mVar, mB, mC, gt, gN, N3.st]
      refine deed_gs G6.sym (by omega) (by omega) i2 fun V h7 iV G7 => ?_
      simp only [Bool.not_true, Bool.false_eq_true, if_false, N3.rIx, seqL, f2_0, f2_1]
      refine seen_gs G7.sym (by omega) i1 fun h8 G8 => ?_
      simp only [Bool.not_true, Bool.false_eq_true, if_false]
      refine seen_gs G8.sym (by omega) iV fun h9 G9 => ?_
      simp only [Bool.not_true, Bool.false_eq_true, if_false, mNx]
      subst hP2
      exact last V U1 _ h9 iV G9 fun ts' h8 G8 => hP' _ _ ⟨U1, V, ts', n + 11, j + 1, _, _, i1, iV, G8.sym, by omega, by omega, rfl⟩
  · rintro τ h5 ⟨U1, U2, ts, n, j, v4, v5, i1, i2, G, hj, hn2, rfl⟩
    refine ⟨trivial, ?_⟩
    subst hP
    simp only [mRet, mB, mLc, mSeqs, mVar, gt, mLst, mNil]
    simp only [seqL, G.t]
    refine lcL_of (W := fun ps acc h' => h' = h5 ∧ acc = [] ∧ ∀ p ∈ ps, ∃ r ∈ ts, p = tg r) ?_ ?_ _ _ _ ⟨rfl, rfl, fun p hp => by
      obtain ⟨r, hr, rfl⟩ := List.mem_map.mp hp
      exact ⟨r, hr, rfl⟩⟩
    · rintro p ps acc h6 ⟨rfl, rfl, hp⟩
      refine ⟨G.t, fun P' hP' => ?_⟩
      obtain ⟨r, hr, rfl⟩ := hp p List.mem_cons_self
      simp only [tg, gT, gsCons, gsNil, gN, N3.st, N3.wp, mTest, mB, mBlt, mTup, mCons, mNil, mVar, gt]
      refine ⟨rfl, trivial, ?_⟩
      refine TH.repr (p := .tup [_, _]) (G.ok r hr).1 (by decide) (by decide) (ne_one ?_)
      simp only [Bool.false_eq_true, if_false]
      exact hP' _ _ ⟨rfl, rfl, fun q hq => hp q (List.mem_cons_of_mem _ hq)⟩
    · rintro acc h6 ⟨rfl, rfl, hp⟩
      refine ⟨G.t, rfl, rfl, by simp [vw, toD, toDs, PyData.depth, PyData.depthAll], ?_⟩
      exact k _
theorem pure_law_deck : ∀ qs h Q, qs.length = 1 → spDeck qs h Q → m_law_deck (ends Q) (sp0 4 qs) h := pure_deck
theorem pure_law_draw : ∀ qs h Q, qs.length = 2 → spDraw qs h Q → m_law_draw (ends Q) (sp0 4 qs) h := pure_draw
theorem pure_law_pick : ∀ qs h Q, qs.length = 2 → spPick qs h Q → m_law_pick spDraw (ends Q) (sp0 2 qs) h := pure_pick
end Wneversaid_k41_words_said

open PySem PySem.W PyProof.Rows
set_option maxRecDepth 100000 in
set_option maxHeartbeats 0 in
theorem PySem.Challenge.cw_neversaid_k41_words_said_holds : PySem.Challenge.rw_neversaid_k41_words_said.Holds := by
  w_on; o_law; k_head; (case hw => w_witness2)
  k_fill
  refine N3.walk_g (l := PySem.Challenge.rw_neversaid_k41_words_said) (k := 5) (x := "_law_script") rfl (by decide) rfl ⟨rfl, by decide, by decide⟩ (fun w h Y => PySem.W.kIn_of Y) ?F
  case F =>
    intro w mg fa h KX G hmg
    refine' Wneversaid_k41_words_said.all_mk KX G hmg ?A_Said ?A_Sayer ?a_Said_init ?i_Said_init ?l_Said_init ?c_Said_init ?k_Said_init ?a_Sayer_init ?i_Sayer_init ?l_Sayer_init ?c_Sayer_init ?k_Sayer_init ?d_Sayer_init_late ?a_Sayer_len ?i_Sayer_len ?l_Sayer_len ?c_Sayer_len ?k_Sayer_len ?a_Sayer_due ?i_Sayer_due ?l_Sayer_due ?c_Sayer_due ?k_Sayer_due ?a_Sayer_answered ?i_Sayer_answered ?l_Sayer_answered ?c_Sayer_answered ?k_Sayer_answered ?a_Sayer_beat ?i_Sayer_beat ?l_Sayer_beat ?c_Sayer_beat ?k_Sayer_beat ?a_Sayer_again ?i_Sayer_again ?l_Sayer_again ?c_Sayer_again ?k_Sayer_again ?a_Sayer_remembered ?i_Sayer_remembered ?l_Sayer_remembered ?c_Sayer_remembered ?k_Sayer_remembered ?a_law_deck ?l_law_deck ?c_law_deck ?k_law_deck ?a_law_draw ?l_law_draw ?c_law_draw ?k_law_draw ?a_law_keys ?l_law_keys ?c_law_keys ?k_law_keys ?a_law_words ?l_law_words ?c_law_words ?k_law_words ?a_law_pick ?l_law_pick ?c_law_pick ?k_law_pick ?a_law_names ?l_law_names ?c_law_names ?k_law_names ?a_law_beat ?l_law_beat ?c_law_beat ?k_law_beat ?a_Sayer_say ?i_Sayer_say ?l_Sayer_say ?c_Sayer_say ?k_Sayer_say ?a_law_begun ?l_law_begun ?c_law_begun ?k_law_begun ?a_law_seen ?l_law_seen ?c_law_seen ?k_law_seen ?a_law_answers ?l_law_answers ?c_law_answers ?k_law_answers ?a_law_deed ?l_law_deed ?c_law_deed ?k_law_deed ?a_law ?l_law ?c_law ?k_law ?pg_Said ?hd_Said ?po_Said ?sa_Said ?mk_Said ?kc_Said ?pg_Sayer ?hd_Sayer ?po_Sayer ?sa_Sayer ?mk_Sayer ?kc_Sayer ?n_Said_turn_here ?n_Said_word_here ?n_Said_names_heard ?n_Said_wait_here ?n_Sayer_others_told ?n_Sayer_late_beats ?n_Sayer_words_said ?z_len ?z_tuple ?z_sorted ?z_list ?z_range ?z_repr ?z_max ?z_min ?z_set Wneversaid_k41_words_said.pure_Said_init Wneversaid_k41_words_said.pure_Sayer_init Wneversaid_k41_words_said.pure_Sayer_len Wneversaid_k41_words_said.pure_Sayer_due Wneversaid_k41_words_said.pure_Sayer_answered Wneversaid_k41_words_said.pure_Sayer_beat Wneversaid_k41_words_said.pure_Sayer_again Wneversaid_k41_words_said.pure_Sayer_remembered Wneversaid_k41_words_said.pure_law_deck Wneversaid_k41_words_said.pure_law_draw Wneversaid_k41_words_said.pure_law_keys Wneversaid_k41_words_said.pure_law_words Wneversaid_k41_words_said.pure_law_pick Wneversaid_k41_words_said.pure_law_names Wneversaid_k41_words_said.pure_law_beat Wneversaid_k41_words_said.pure_Sayer_say Wneversaid_k41_words_said.pure_law_begun Wneversaid_k41_words_said.pure_law_seen Wneversaid_k41_words_said.pure_law_answers Wneversaid_k41_words_said.pure_law_deed Wneversaid_k41_words_said.pure_law
    (case A_Said => k_is)
    (case A_Sayer => k_is)
    (case a_Said_init => k_is)
    (case i_Said_init => k_is)
    (case l_Said_init => k_is)
    (case c_Said_init => k_is)
    (case k_Said_init => k_is)
    (case a_Sayer_init => k_is)
    (case i_Sayer_init => k_is)
    (case l_Sayer_init => k_is)
    (case c_Sayer_init => k_is)
    (case k_Sayer_init => k_is)
    (case d_Sayer_init_late => k_is)
    (case a_Sayer_len => k_is)
    (case i_Sayer_len => k_is)
    (case l_Sayer_len => k_is)
    (case c_Sayer_len => k_is)
    (case k_Sayer_len => k_is)
    (case a_Sayer_due => k_is)
    (case i_Sayer_due => k_is)
    (case l_Sayer_due => k_is)
    (case c_Sayer_due => k_is)
    (case k_Sayer_due => k_is)
    (case a_Sayer_answered => k_is)
    (case i_Sayer_answered => k_is)
    (case l_Sayer_answered => k_is)
    (case c_Sayer_answered => k_is)
    (case k_Sayer_answered => k_is)
    (case a_Sayer_beat => k_is)
    (case i_Sayer_beat => k_is)
    (case l_Sayer_beat => k_is)
    (case c_Sayer_beat => k_is)
    (case k_Sayer_beat => k_is)
    (case a_Sayer_again => k_is)
    (case i_Sayer_again => k_is)
    (case l_Sayer_again => k_is)
    (case c_Sayer_again => k_is)
    (case k_Sayer_again => k_is)
    (case a_Sayer_remembered => k_is)
    (case i_Sayer_remembered => k_is)
    (case l_Sayer_remembered => k_is)
    (case c_Sayer_remembered => k_is)
    (case k_Sayer_remembered => k_is)
    (case a_law_deck => k_is)
    (case l_law_deck => k_is)
    (case c_law_deck => k_is)
    (case k_law_deck => k_is)
    (case a_law_draw => k_is)
    (case l_law_draw => k_is)
    (case c_law_draw => k_is)
    (case k_law_draw => k_is)
    (case a_law_keys => k_is)
    (case l_law_keys => k_is)
    (case c_law_keys => k_is)
    (case k_law_keys => k_is)
    (case a_law_words => k_is)
    (case l_law_words => k_is)
    (case c_law_words => k_is)
    (case k_law_words => k_is)
    (case a_law_pick => k_is)
    (case l_law_pick => k_is)
    (case c_law_pick => k_is)
    (case k_law_pick => k_is)
    (case a_law_names => k_is)
    (case l_law_names => k_is)
    (case c_law_names => k_is)
    (case k_law_names => k_is)
    (case a_law_beat => k_is)
    (case l_law_beat => k_is)
    (case c_law_beat => k_is)
    (case k_law_beat => k_is)
    (case a_Sayer_say => k_is)
    (case i_Sayer_say => k_is)
    (case l_Sayer_say => k_is)
    (case c_Sayer_say => k_is)
    (case k_Sayer_say => k_is)
    (case a_law_begun => k_is)
    (case l_law_begun => k_is)
    (case c_law_begun => k_is)
    (case k_law_begun => k_is)
    (case a_law_seen => k_is)
    (case l_law_seen => k_is)
    (case c_law_seen => k_is)
    (case k_law_seen => k_is)
    (case a_law_answers => k_is)
    (case l_law_answers => k_is)
    (case c_law_answers => k_is)
    (case k_law_answers => k_is)
    (case a_law_deed => k_is)
    (case l_law_deed => k_is)
    (case c_law_deed => k_is)
    (case k_law_deed => k_is)
    (case a_law => k_is)
    (case l_law => k_is)
    (case c_law => k_is)
    (case k_law => k_is)
    (case pg_Said => k_is)
    (case hd_Said => k_is)
    (case po_Said => k_is)
    (case sa_Said => k_is)
    (case mk_Said => k_is)
    (case kc_Said => k_is)
    (case pg_Sayer => k_is)
    (case hd_Sayer => k_is)
    (case po_Sayer => k_is)
    (case sa_Sayer => k_is)
    (case mk_Sayer => k_is)
    (case kc_Sayer => k_is)
    (case n_Said_turn_here => k_is)
    (case n_Said_word_here => k_is)
    (case n_Said_names_heard => k_is)
    (case n_Said_wait_here => k_is)
    (case n_Sayer_others_told => k_is)
    (case n_Sayer_late_beats => k_is)
    (case n_Sayer_words_said => k_is)
    (case z_len => k_is)
    (case z_tuple => k_is)
    (case z_sorted => k_is)
    (case z_list => k_is)
    (case z_range => k_is)
    (case z_repr => k_is)
    (case z_max => k_is)
    (case z_min => k_is)
    (case z_set => k_is)

