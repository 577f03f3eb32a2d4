import PyProof.Rows.All
import Wide.All
import OpenK.AllK
import Wide.FinOn
import HandS.ForMost
import HandS.TupAny
import HandS.Small
import HandS.TupMul
import HandS.Style
import HandS.Steps
import HandS.StrMore
import HandS.Codes
import HandS.EndBits
import HandS.Zip
import HandS.Dict
import HandS.IsInst
import HandS.More
import KE.SortData
import HandS.FStr
import PyProof.ListStr
import KE.KUnpackStar
import HandS.NoneIn
import KE.GoesEnum
import KE.GoesMore
import HandS.Flow
import HandS.Set
import HandS.SetFor
import HandS.SetTxt0
import KE.KStrBytes
import PySem.Challenge.RW_neversaid_k25_runs
set_option Elab.async false
set_option linter.all false
set_option maxRecDepth 100000
set_option maxHeartbeats 4000000
/-! Own layer over the hand layer: values with tuples, kept lists, kept dicts as plain data; a store of what may change. -/
namespace N3
open PySem PySem.Spec PyProof.Rows L2

/-- a value: tup, lst, dct are data that no one changes any more; ref is an object that may change -/
inductive PV where
  | non | bl (b : Bool) | int (i : Int) | str (x : Str) | tup (xs : List PV) | lst (xs : List PV) | dct (ks : List Key) (vs : List PV) | ref (a : Addr) | ty (n : String)

/-- an object that may change -/
inductive PO where
  | lst (xs : List PV)
  | dct (ks : List Key) (vs : List PV)
  | ins (C : Addr) (ns : List Str) (vs : List PV)
  | lck (ks : List Key) (vs : List PV)

abbrev PH := Addr → Option PO
abbrev PSt := List (Option PV)
def up (h : PH) (a : Addr) (o : PO) : PH := fun b => if b = a then some o else h b
theorem up_same {h : PH} {a : Addr} {o : PO} : up h a o a = some o := if_pos rfl
theorem up_ne {h : PH} {a b : Addr} {o : PO} (e : b ≠ a) : up h a o b = h b := if_neg e
theorem up_up {h : PH} {a : Addr} {o u : PO} : up (up h a o) a u = up h a u := by
  funext b; unfold up; by_cases e : b = a
  · rw [if_pos e, if_pos e]
  · rw [if_neg e, if_neg e, if_neg e]
theorem up_swap {h : PH} {a b : Addr} {o u : PO} (e : a ≠ b) : up (up h a o) b u = up (up h b u) a o := by
  funext c; unfold up
  by_cases h1 : c = a
  · subst h1; rw [if_neg e, if_pos rfl, if_pos rfl]
  · by_cases h2 : c = b
    · rw [if_pos h2, if_neg h1, if_pos h2]
    · rw [if_neg h2, if_neg h1, if_neg h1, if_neg h2]
def gt : PSt → Nat → Option PV
  | [], _ => none
  | x :: _, 0 => x
  | _ :: r, n + 1 => gt r n
def st : PSt → Nat → Option PV → PSt
  | [], _, _ => []
  | _ :: r, 0, v => v :: r
  | x :: r, n + 1, v => x :: st r n v
theorem gt_eq : ∀ (σ : PSt) (i : Nat), gt σ i = (σ[i]?).join
  | [], _ => by simp [gt]
  | _ :: _, 0 => by simp [gt]
  | _ :: r, n + 1 => by simp [gt, gt_eq r n]
theorem st_eq : ∀ (σ : PSt) (i : Nat) (v : Option PV), st σ i v = σ.set i v
  | [], _, _ => rfl
  | _ :: _, 0, _ => rfl
  | x :: r, n + 1, v => by simp [st, st_eq r n v]

/-! ### what stands for what -/
/-- a list that no one changes -/
def FrL (K : PySem.W.Frag) (H : Hp) (a : Addr) (xs : List V) : Prop :=
  (∃ o, H a = some (.frz o (.lst xs))) ∨
    ∃ (o : Obj) (its : Array Value) (n : Nat), K.lookup a = some o ∧ o.cls = .type "list" ∧ o.dict = none ∧ o.data = .seq its n ∧ its.size ≤ sizeLine ∧ Vals xs its.toList
theorem FrL.sq {K : PySem.W.Frag} {H : Hp} {a : Addr} {xs : List V} (h : FrL K H a xs) : SqL K H a xs := by
  rcases h with ⟨o, h⟩ | h
  · exact .inl (.inr ⟨o, h⟩)
  · exact .inr h
def FrD (H : Hp) (a : Addr) (kvs : List (Key × V)) : Prop := ∃ o, H a = some (.frz o (.dK kvs))
mutual
def Rel (K : PySem.W.Frag) (H : Hp) : PV → V → Prop
  | .non, v => v = .non
  | .bl b, v => v = .bl b
  | .int i, v => v = .int i
  | .str x, v => v = .str x
  | .tup ps, v => ∃ a xs, v = .ref a ∧ SqT K H a xs ∧ Rels K H ps xs
  | .lst ps, v => ∃ a xs, v = .ref a ∧ FrL K H a xs ∧ Rels K H ps xs
  | .dct ks vs, v => ∃ a kvs, v = .ref a ∧ FrD H a kvs ∧ ks = kvs.map (·.1) ∧ Rels K H vs (kvs.map (·.2))
  | .ref a, v => v = .ref a
  | .ty n, v => v = .ty n
def Rels (K : PySem.W.Frag) (H : Hp) : List PV → List V → Prop
  | [], xs => xs = []
  | p :: ps, xs => ∃ v vs, xs = v :: vs ∧ Rel K H p v ∧ Rels K H ps vs
end
/-- what stays from one abstract heap to a later one -/
structure Mono (H H' : Hp) : Prop where
  t : ∀ b xs, H b = some (.tup xs) → H' b = some (.tup xs)
  f : ∀ b o u, H b = some (.frz o u) → H' b = some (.frz o u)
theorem Mono.refl (H : Hp) : Mono H H := ⟨fun _ _ h => h, fun _ _ _ h => h⟩
theorem Mono.trans {H H1 H2 : Hp} (a : Mono H H1) (b : Mono H1 H2) : Mono H H2 :=
  ⟨fun c xs h => b.t c xs (a.t c xs h), fun c o u h => b.f c o u (a.f c o u h)⟩
theorem Mono.new {H : Hp} {a : Addr} {o : HO} (h : H a = none) : Mono H (upd H a o) :=
  ⟨fun b xs e => by rw [upd_ne (ne_of_none e h)]; exact e, fun b u w e => by rw [upd_ne (ne_of_none e h)]; exact e⟩
theorem Mono.wr {H : Hp} {a : Addr} {o u : HO} (h : H a = some u) (n1 : ∀ xs, u ≠ .tup xs) (n2 : ∀ o w, u ≠ .frz o w) : Mono H (upd H a o) :=
  ⟨fun b xs e => by rw [upd_ne (ne_of e h (n1 xs).symm)]; exact e, fun b o' w e => by rw [upd_ne (ne_of e h (n2 o' w).symm)]; exact e⟩
theorem Mono.lst {H : Hp} {a : Addr} {o : HO} {xs : List V} (h : H a = some (.lst xs)) : Mono H (upd H a o) := .wr h (fun _ e => nomatch e) (fun _ _ e => nomatch e)
theorem Mono.dK {H : Hp} {a : Addr} {o : HO} {kvs : List (Key × V)} (h : H a = some (.dK kvs)) : Mono H (upd H a o) := .wr h (fun _ e => nomatch e) (fun _ _ e => nomatch e)
theorem Mono.ins {H : Hp} {a C dx : Addr} {o : HO} {fs : List (Str × V)} (h : H a = some (.ins C dx fs)) : Mono H (upd H a o) := .wr h (fun _ e => nomatch e) (fun _ _ e => nomatch e)
section
variable {K : PySem.W.Frag} {H H' : Hp}
theorem Mono.rd {a : Addr} {u : HO} (m : Mono H H') (hu : ∃ xs, u = .tup xs) (h : Rd H a u) : Rd H' a u := by
  obtain ⟨xs, rfl⟩ := hu
  rcases h with h | ⟨o, h⟩
  · exact .inl (m.t _ _ h)
  · exact .inr ⟨o, m.f _ _ _ h⟩
theorem Mono.sqT {a : Addr} {xs : List V} (m : Mono H H') (h : SqT K H a xs) : SqT K H' a xs := by
  rcases h with h | h
  · exact .inl (m.rd ⟨_, rfl⟩ h)
  · exact .inr h
theorem Mono.frL {a : Addr} {xs : List V} (m : Mono H H') (h : FrL K H a xs) : FrL K H' a xs := by
  rcases h with ⟨o, h⟩ | h
  · exact .inl ⟨o, m.f _ _ _ h⟩
  · exact .inr h
mutual
theorem Rel.mono (m : Mono H H') : ∀ (p : PV) (v : V), Rel K H p v → Rel K H' p v
  | .non, _, h => by simpa only [Rel] using h
  | .bl _, _, h => by simpa only [Rel] using h
  | .int _, _, h => by simpa only [Rel] using h
  | .str _, _, h => by simpa only [Rel] using h
  | .tup ps, v, h => by
    simp only [Rel] at h ⊢
    obtain ⟨a, xs, e, h1, h2⟩ := h
    exact ⟨a, xs, e, m.sqT h1, Rels.mono m ps xs h2⟩
  | .lst ps, v, h => by
    simp only [Rel] at h ⊢
    obtain ⟨a, xs, e, h1, h2⟩ := h
    exact ⟨a, xs, e, m.frL h1, Rels.mono m ps xs h2⟩
  | .dct ks vs, v, h => by
    simp only [Rel] at h ⊢
    obtain ⟨a, kvs, e, ⟨o, h1⟩, h2, h3⟩ := h
    exact ⟨a, kvs, e, ⟨o, m.f _ _ _ h1⟩, h2, Rels.mono m vs _ h3⟩
  | .ref _, _, h => by simpa only [Rel] using h
  | .ty _, _, h => by simpa only [Rel] using h
theorem Rels.mono (m : Mono H H') : ∀ (ps : List PV) (xs : List V), Rels K H ps xs → Rels K H' ps xs
  | [], _, h => by simpa only [Rels] using h
  | p :: ps, xs, h => by
    simp only [Rels] at h ⊢
    obtain ⟨v, vs, e, h1, h2⟩ := h
    exact ⟨v, vs, e, Rel.mono m p v h1, Rels.mono m ps vs h2⟩
end
theorem Rels.nil_iff {xs : List V} : Rels K H [] xs ↔ xs = [] := by simp only [Rels]
theorem Rels.nil : Rels K H [] [] := by simp only [Rels]
theorem Rels.cons {p : PV} {ps : List PV} {v : V} {vs : List V} (h : Rel K H p v) (t : Rels K H ps vs) : Rels K H (p :: ps) (v :: vs) := by
  simp only [Rels]; exact ⟨v, vs, rfl, h, t⟩
theorem Rels.uncons {p : PV} {ps : List PV} {xs : List V} (h : Rels K H (p :: ps) xs) : ∃ v vs, xs = v :: vs ∧ Rel K H p v ∧ Rels K H ps vs := by
  simpa only [Rels] using h
theorem Rels.length : ∀ {ps : List PV} {xs : List V}, Rels K H ps xs → ps.length = xs.length
  | [], _, h => by rw [Rels.nil_iff] at h; subst h; rfl
  | p :: ps, _, h => by
    obtain ⟨v, vs, rfl, _, t⟩ := h.uncons
    rw [List.length_cons, List.length_cons, t.length]
theorem Rels.append : ∀ {ps qs : List PV} {xs ys : List V}, Rels K H ps xs → Rels K H qs ys → Rels K H (ps ++ qs) (xs ++ ys)
  | [], _, _, _, h, g => by rw [Rels.nil_iff] at h; subst h; exact g
  | p :: ps, _, _, _, h, g => by
    obtain ⟨v, vs, rfl, h1, t⟩ := h.uncons
    exact .cons h1 (Rels.append t g)
theorem Rels.get : ∀ {ps : List PV} {xs : List V} {i : Nat} {p : PV}, Rels K H ps xs → ps[i]? = some p → ∃ v, xs[i]? = some v ∧ Rel K H p v
  | [], _, _, _, _, e => by simp at e
  | p :: ps, _, 0, q, h, e => by
    obtain ⟨v, vs, rfl, h1, t⟩ := h.uncons
    simp at e; subst e
    exact ⟨v, rfl, h1⟩
  | p :: ps, _, i + 1, q, h, e => by
    obtain ⟨v, vs, rfl, h1, t⟩ := h.uncons
    obtain ⟨w, e1, r⟩ := Rels.get (i := i) (p := q) t (by simpa using e)
    exact ⟨w, by simpa using e1, r⟩
theorem Rels.get' : ∀ {ps : List PV} {xs : List V} {i : Nat} {v : V}, Rels K H ps xs → xs[i]? = some v → ∃ p, ps[i]? = some p ∧ Rel K H p v := fun {ps xs i v} h e => by
  have hi : i < ps.length := by rw [h.length]; exact (List.getElem?_eq_some_iff.mp e).1
  obtain ⟨w, e1, r⟩ := h.get (List.getElem?_eq_getElem hi)
  rw [e] at e1; cases e1
  exact ⟨_, List.getElem?_eq_getElem hi, r⟩
theorem Rels.of_get : ∀ {ps : List PV} {xs : List V}, ps.length = xs.length → (∀ (i : Nat) (p : PV) (v : V), ps[i]? = some p → xs[i]? = some v → Rel K H p v) → Rels K H ps xs
  | [], [], _, _ => .nil
  | p :: ps, x :: xs, hl, h => .cons (h 0 p x rfl rfl) (Rels.of_get (by simpa using hl) fun i q v e1 e2 => h (i + 1) q v (by simpa using e1) (by simpa using e2))
  | [], _ :: _, hl, _ => by simp at hl
  | _ :: _, [], hl, _ => by simp at hl
theorem Rels.set {p : PV} {v : V} (r : Rel K H p v) : ∀ {ps : List PV} {xs : List V} (i : Nat), Rels K H ps xs → Rels K H (ps.set i p) (xs.set i v)
  | [], _, _, h => by rw [Rels.nil_iff] at h; subst h; exact .nil
  | q :: ps, _, 0, h => by obtain ⟨v, vs, rfl, h1, t⟩ := h.uncons; exact .cons r t
  | q :: ps, _, i + 1, h => by obtain ⟨v, vs, rfl, h1, t⟩ := h.uncons; exact .cons h1 (Rels.set r i t)
theorem Rels.take : ∀ {ps : List PV} {xs : List V} (n : Nat), Rels K H ps xs → Rels K H (ps.take n) (xs.take n)
  | _, _, 0, _ => by simp only [List.take_zero]; exact .nil
  | [], _, n + 1, h => by rw [Rels.nil_iff] at h; subst h; exact .nil
  | q :: ps, _, n + 1, h => by obtain ⟨v, vs, rfl, h1, t⟩ := h.uncons; exact .cons h1 (Rels.take n t)
theorem Rels.drop : ∀ {ps : List PV} {xs : List V} (n : Nat), Rels K H ps xs → Rels K H (ps.drop n) (xs.drop n)
  | _, _, 0, h => h
  | [], _, n + 1, h => by rw [Rels.nil_iff] at h; subst h; exact .nil
  | q :: ps, _, n + 1, h => by obtain ⟨v, vs, rfl, h1, t⟩ := h.uncons; exact Rels.drop n t
theorem Rels.reverse : ∀ {ps : List PV} {xs : List V}, Rels K H ps xs → Rels K H ps.reverse xs.reverse
  | [], _, h => by rw [Rels.nil_iff] at h; subst h; exact .nil
  | q :: ps, _, h => by
    obtain ⟨v, vs, rfl, h1, t⟩ := h.uncons
    rw [List.reverse_cons, List.reverse_cons]
    exact (Rels.reverse t).append (.cons h1 .nil)
theorem Rels.one {p : PV} {xs : List V} (h : Rels K H [p] xs) : ∃ v, xs = [v] ∧ Rel K H p v := by
  obtain ⟨v, vs, rfl, h1, t⟩ := h.uncons
  rw [Rels.nil_iff] at t; subst t
  exact ⟨v, rfl, h1⟩
theorem Rels.two {p q : PV} {xs : List V} (h : Rels K H [p, q] xs) : ∃ v w, xs = [v, w] ∧ Rel K H p v ∧ Rel K H q w := by
  obtain ⟨v, vs, rfl, h1, t⟩ := h.uncons
  obtain ⟨w, rfl, h2⟩ := t.one
  exact ⟨v, w, rfl, h1, h2⟩
theorem Rels.len0 {xs : List V} (h : Rels K H [] xs) : xs = [] := Rels.nil_iff.mp h
end

/-- an object of the store -/
def RelO (K : PySem.W.Frag) (H : Hp) : PO → HO → Prop
  | .lst ps, o => ∃ xs, o = .lst xs ∧ Rels K H ps xs
  | .dct ks vs, o => ∃ kvs, o = .dK kvs ∧ ks = kvs.map (·.1) ∧ Rels K H vs (kvs.map (·.2))
  | .ins C ns vs, o => ∃ dx fs, o = .ins C dx fs ∧ ns = fs.map (·.1) ∧ Rels K H vs (fs.map (·.2))
  | .lck ks vs, o => ∃ ob kvs, o = .frz ob (.dK kvs) ∧ ks = kvs.map (·.1) ∧ Rels K H vs (kvs.map (·.2))
def Sim (K : PySem.W.Frag) (H : Hp) (h : PH) : Prop := ∀ a o, h a = some o → ∃ u, H a = some u ∧ RelO K H o u
def SimS (K : PySem.W.Frag) (H : Hp) (σ : L2.St) (τ : PSt) : Prop := σ.length = τ.length ∧ ∀ i p, gt τ i = some p → ∃ v, σ[i]? = some (some v) ∧ Rel K H p v
section
variable {K : PySem.W.Frag} {H H' : Hp} {h : PH} {σ : L2.St} {τ : PSt} {a : Addr}
theorem RelO.mono (m : Mono H H') : ∀ {o : PO} {u : HO}, RelO K H o u → RelO K H' o u
  | .lst ps, _, ⟨xs, e, r⟩ => ⟨xs, e, r.mono m⟩
  | .dct ks vs, _, ⟨kvs, e, r, q⟩ => ⟨kvs, e, r, q.mono m⟩
  | .ins C ns vs, _, ⟨dx, fs, e, n, r⟩ => ⟨dx, fs, e, n, r.mono m⟩
  | .lck ks vs, _, ⟨ob, kvs, e, n, r⟩ => ⟨ob, kvs, e, n, r.mono m⟩
theorem SimS.mono (m : Mono H H') (s : SimS K H σ τ) : SimS K H' σ τ := ⟨s.1, fun i p e => let ⟨v, e1, r⟩ := s.2 i p e; ⟨v, e1, r.mono m⟩⟩
theorem SimS.get {i : Nat} {p : PV} (s : SimS K H σ τ) (e : gt τ i = some p) : ∃ v, σ[i]? = some (some v) ∧ Rel K H p v := s.2 i p e
theorem SimS.set {i : Nat} {p : PV} {v : V} (s : SimS K H σ τ) (r : Rel K H p v) : SimS K H (σ.set i (some v)) (st τ i (some p)) := by
  refine ⟨by rw [st_eq, List.length_set, List.length_set]; exact s.1, fun j q e => ?_⟩
  rw [st_eq, gt_eq] at e
  by_cases hj : i = j
  · subst hj
    by_cases hi : i < τ.length
    · rw [List.getElem?_set_self hi] at e
      simp at e
      subst e
      exact ⟨v, by rw [List.getElem?_set_self (by rw [s.1]; exact hi)], r⟩
    · rw [List.getElem?_eq_none (by simpa using hi)] at e
      simp at e
  · rw [List.getElem?_set_ne hj] at e ⊢
    exact s.2 j q (by rw [gt_eq]; exact e)
/-- the store may know less than there is -/
theorem Sim.less {h' : PH} (s : Sim K H h) (e : ∀ a o, h' a = some o → h a = some o) : Sim K H h' := fun a o q => s a o (e a o q)
theorem Sim.fresh (s : Sim K H h) (e : H a = none) : h a = none := by
  cases q : h a with
  | none => rfl
  | some o =>
    obtain ⟨u, e1, _⟩ := s a o q
    rw [e] at e1; cases e1
theorem Sim.new {o : HO} (s : Sim K H h) (e : H a = none) : Sim K (upd H a o) h := fun b p q => by
  obtain ⟨u, e1, r⟩ := s b p q
  exact ⟨u, by rw [upd_ne (ne_of_none e1 e)]; exact e1, r.mono (Mono.new e)⟩
/-- an object of the store is what it was, or a new one -/
theorem Sim.put {o : PO} {u : HO} (s : Sim K H h) (m : Mono H (upd H a u)) (r : RelO K (upd H a u) o u) : Sim K (upd H a u) (up h a o) := fun b p q => by
  by_cases hb : b = a
  · subst hb
    rw [up_same] at q; cases q
    exact ⟨u, upd_same, r⟩
  · rw [up_ne hb] at q
    obtain ⟨w, e1, r1⟩ := s b p q
    exact ⟨w, by rw [upd_ne hb]; exact e1, r1.mono m⟩
/-- .. forgotten where it changes kind -/
theorem Sim.drop {u : HO} (s : Sim K H h) (m : Mono H (upd H a u)) (e : h a = none) : Sim K (upd H a u) h := fun b p q => by
  by_cases hb : b = a
  · subst hb
    rw [e] at q; cases q
  · obtain ⟨w, e1, r1⟩ := s b p q
    exact ⟨w, by rw [upd_ne hb]; exact e1, r1.mono m⟩
end

/-- from one state to a later one: what is not of the store stays as it is and comes to no store -/
structure Go (H : Hp) (h : PH) (H1 : Hp) (h1 : PH) : Prop where
  mono : Mono H H1
  frame : ∀ b u, H b = some u → h b = none → H1 b = some u
  dom : ∀ b u, H b = some u → h b = none → h1 b = none
  live : ∀ b, H1 b = none → H b = none
section
variable {H H1 H2 : Hp} {h h1 h2 : PH} {a : Addr} {u : HO} {o : PO}
theorem live_upd (b : Addr) (e : upd H a u b = none) : H b = none := by
  unfold upd at e; split at e
  · cases e
  · exact e
theorem Go.refl : Go H h H h := ⟨Mono.refl H, fun _ _ e _ => e, fun _ _ _ e => e, fun _ e => e⟩
theorem Go.trans (g : Go H h H1 h1) (g' : Go H1 h1 H2 h2) : Go H h H2 h2 :=
  ⟨g.mono.trans g'.mono, fun b w e n => g'.frame b w (g.frame b w e n) (g.dom b w e n), fun b w e n => g'.dom b w (g.frame b w e n) (g.dom b w e n), fun b e => g.live b (g'.live b e)⟩
/-- a new object that is not of the store; one of the store -/
theorem Go.new (e : H a = none) : Go H h (upd H a u) h := ⟨Mono.new e, fun b w q _ => by rw [upd_ne (ne_of_none q e)]; exact q, fun _ _ _ n => n, live_upd⟩
theorem Go.add (e : H a = none) : Go H h (upd H a u) (up h a o) := ⟨Mono.new e, fun b w q _ => by rw [upd_ne (ne_of_none q e)]; exact q, fun b w q n => by rw [up_ne (ne_of_none q e)]; exact n, live_upd⟩
/-- .. that was new: it is written -/
theorem Go.renew (g : Go H h H1 h1) (e : H a = none) (m : Mono H1 (upd H1 a u)) : Go H h (upd H1 a u) h1 :=
  ⟨g.mono.trans m, fun b w q n => by rw [upd_ne (ne_of_none q e)]; exact g.frame b w q n, g.dom, fun b z => g.live b (live_upd b z)⟩
theorem Go.own (g : Go H h H1 h1) (e : H a = none) : Go H h H1 (up h1 a o) :=
  ⟨g.mono, g.frame, fun b w q n => by rw [up_ne (ne_of_none q e)]; exact g.dom b w q n, g.live⟩
/-- an object of the store is written; forgotten -/
theorem ne_own {b : Addr} {o : PO} (e : h a = some o) (n : h b = none) : b ≠ a := fun z => by rw [z, e] at n; cases n
theorem Go.wr {o' : PO} (e : h a = some o') (m : Mono H (upd H a u)) : Go H h (upd H a u) (up h a o) :=
  ⟨m, fun b w q n => by rw [upd_ne (ne_own e n)]; exact q, fun b w q n => by rw [up_ne (ne_own e n)]; exact n, live_upd⟩
def lose (h : PH) (a : Addr) : PH := fun b => if b = a then none else h b
theorem lose_same : lose h a a = none := if_pos rfl
theorem lose_ne {b : Addr} (e : b ≠ a) : lose h a b = h b := if_neg e
theorem Go.lose {o' : PO} (e : h a = some o') (m : Mono H (upd H a u)) : Go H h (upd H a u) (lose h a) :=
  ⟨m, fun b w q n => by rw [upd_ne (ne_own e n)]; exact q, fun b w q n => by rw [lose_ne (ne_own e n)]; exact n, live_upd⟩
end

/-! ### what is said of an expression, a test, arguments, a statement -/
abbrev PK := PV → PH → Prop
abbrev ME := PSt → PH → PK → Prop
abbrev MT := PSt → PH → (Bool → PH → Prop) → Prop
abbrev MA := PSt → PH → (List PV → PH → Prop) → Prop
structure PEnds where
  nx : PSt → PH → Prop
  rt : PK
  bk : PSt → PH → Prop
  ct : PSt → PH → Prop
abbrev MS := PEnds → PSt → PH → Prop
def LQ (K : PySem.W.Frag) (H : Hp) (h : PH) (Q' : PK) (Q : VK) : Prop := ∀ p h1 v H1, Q' p h1 → Go H h H1 h1 → Rel K H1 p v → Sim K H1 h1 → Q v H1
def LB (K : PySem.W.Frag) (H : Hp) (h : PH) (Q' : Bool → PH → Prop) (Q : Bool → Hp → Prop) : Prop := ∀ b h1 H1, Q' b h1 → Go H h H1 h1 → Sim K H1 h1 → Q b H1
def LN (K : PySem.W.Frag) (H : Hp) (h : PH) (Q' : PSt → PH → Prop) (Q : L2.St → Hp → Prop) : Prop := ∀ τ h1 σ H1, Q' τ h1 → Go H h H1 h1 → SimS K H1 σ τ → Sim K H1 h1 → Q σ H1
structure LD (K : PySem.W.Frag) (H : Hp) (h : PH) (D' : PEnds) (D : Ends) : Prop where
  nx : LN K H h D'.nx D.nx
  rt : LQ K H h D'.rt D.rt
  bk : LN K H h D'.bk D.bk
  ct : LN K H h D'.ct D.ct
section
variable {K : PySem.W.Frag} {H H' : Hp} {h h' : PH}
theorem LQ.mono {Q' : PK} {Q : VK} (l : LQ K H h Q' Q) (m : Go H h H' h') : LQ K H' h' Q' Q := fun p h1 v H1 q m1 r s => l p h1 v H1 q (m.trans m1) r s
theorem LB.mono {Q' : Bool → PH → Prop} {Q : Bool → Hp → Prop} (l : LB K H h Q' Q) (m : Go H h H' h') : LB K H' h' Q' Q := fun p h1 H1 q m1 s => l p h1 H1 q (m.trans m1) s
theorem LN.mono {Q' : PSt → PH → Prop} {Q : L2.St → Hp → Prop} (l : LN K H h Q' Q) (m : Go H h H' h') : LN K H' h' Q' Q := fun p h1 v H1 q m1 r s => l p h1 v H1 q (m.trans m1) r s
theorem LD.mono {D' : PEnds} {D : Ends} (l : LD K H h D' D) (m : Go H h H' h') : LD K H' h' D' D := ⟨l.nx.mono m, l.rt.mono m, l.bk.mono m, l.ct.mono m⟩
end
def upE (K : PySem.W.Frag) (m : ME) : TE := fun σ H Q => ∃ τ h Q', SimS K H σ τ ∧ Sim K H h ∧ m τ h Q' ∧ LQ K H h Q' Q
def upT (K : PySem.W.Frag) (m : MT) : TT := fun σ H Q => ∃ τ h Q', SimS K H σ τ ∧ Sim K H h ∧ m τ h Q' ∧ LB K H h Q' Q
def upS (K : PySem.W.Frag) (m : MS) : TS := fun D σ H => ∃ τ h D', SimS K H σ τ ∧ Sim K H h ∧ m D' τ h ∧ LD K H h D' D
abbrev LE (X : Cx) (e : Expr) (m : ME) : Prop := PE X e (upE X.K m)
abbrev LT (X : Cx) (e : Expr) (m : MT) : Prop := PT X e (upT X.K m)
abbrev LW (X : Cx) (e : Expr) (m : MT) : Prop := PW X e (upT X.K m)
abbrev LS (X : Cx) (s : Stmt) (m : MS) : Prop := PS X s (upS X.K m)
abbrev LSs (X : Cx) (s : List Stmt) (m : MS) : Prop := PSs X s (upS X.K m)

section
variable {X : Cx} {e : Expr} {es : List Expr} {s : Stmt} {ss : List Stmt}
theorem PE.weak {t u : TE} (h : PE X e t) (w : ∀ σ H Q, u σ H Q → t σ H Q) : PE X e u := ⟨fun pins s σ H Q I q => h.run pins s σ H Q I (w σ H Q q)⟩
theorem PT.weak {t u : TT} (h : PT X e t) (w : ∀ σ H Q, u σ H Q → t σ H Q) : PT X e u := ⟨fun pins s σ H Q I q => h.run pins s σ H Q I (w σ H Q q)⟩
theorem PW.weak {t u : TT} (h : PW X e t) (w : ∀ σ H Q, u σ H Q → t σ H Q) : PW X e u := ⟨fun wh pins s σ H Q I q => h.run wh pins s σ H Q I (w σ H Q q)⟩
theorem PA.weak {t u : TA} (h : PA X es t) (w : ∀ σ H Q, u σ H Q → t σ H Q) : PA X es u := ⟨fun pos pins s σ H Q I q => h.run pos pins s σ H Q I (w σ H Q q)⟩
theorem PS.weak {t u : TS} (h : PS X s t) (w : ∀ D σ H, u D σ H → t D σ H) : PS X s u := ⟨fun pins s σ H D I q => h.run pins s σ H D I (w D σ H q)⟩
theorem PSs.weak {t u : TS} (h : PSs X ss t) (w : ∀ D σ H, u D σ H → t D σ H) : PSs X ss u := ⟨fun pins s σ H D I q => h.run pins s σ H D I (w D σ H q)⟩
end

/-! ### keeping: an object that was just made is not changed any more -/
def Keepable : HO → Prop
  | .lst _ => True
  | .dK _ => True
  | _ => False
theorem Inv.keep {X : Cx} {pins : List (Addr × Obj)} {σ : L2.St} {H : Hp} {s : Shared} {a : Addr} {u : HO} (I : Inv X pins σ H s) (h : H a = some u) (k : Keepable u) : ∃ o, Inv X pins σ (upd H a (.frz o u)) s := by
  have ha := I.hok a u h
  have hob : ∃ o, s.heap.get? a = some o := by
    cases u with
    | lst xs => obtain ⟨_, _, _, _, e⟩ := ha; exact ⟨_, e⟩
    | dK kvs => obtain ⟨_, _, _, _, o, _, _, e, _⟩ := ha; exact ⟨o, e⟩
    | _ => exact k.elim
  obtain ⟨o, e⟩ := hob
  have nt : ∀ xs, u ≠ .tup xs := fun xs z => by subst z; exact k
  have nf : ∀ o w, u ≠ .frz o w := fun o w z => by subst z; exact k
  have no : ∀ x, u ≠ .own x := fun x z => by subst z; exact k
  have nb : ∀ p, u ≠ .tbl p := fun x z => by subst z; exact k
  refine ⟨o, ?_⟩
  have un : Un X.fs [] H (upd H a (.frz o u)) s.heap s.heap := by
    refine ⟨fun b ob q _ _ _ => q, fun b ob q _ _ _ => ⟨ob.slots, q⟩, fun b ob q n _ => ?_, fun b ob q _ => ⟨ob, q⟩, fun b xs q => ?_, fun b ob w q => ?_, fun b ps q => ⟨#[], ?_⟩⟩
    · rw [upd_ne (ne_of_none h n).symm]; exact n
    · rw [upd_ne (ne_of q h (nt xs).symm)]; exact q
    · rw [upd_ne (ne_of q h (nf ob w).symm)]; exact q
    · rw [upd_ne (ne_of q h (nb ps).symm), q]; simp
  have hok : HOk X.prog X.w (upd H a (.frz o u)) s.heap := fun b w q => by
    by_cases hb : b = a
    · subst hb
      rw [upd_same] at q; cases q
      refine ⟨e, ?_⟩
      cases u with
      | lst xs => exact ha
      | dK kvs => exact ha
      | _ => exact k.elim
    · rw [upd_ne hb] at q
      refine (I.hok b w q).stay (fun c v _ r => r) (fun c r => ?_) fun c xs r => ?_
      · rw [upd_ne (ne_of r h (no b).symm)]; exact r
      · rw [upd_ne (ne_of r h (nt xs).symm)]; exact r
  exact I.un (h' := s.heap) (t' := s.toks) un hok
/-- as it is, or kept -/
def kQ (Q : VK) : VK := fun v H1 => Q v H1 ∨ ∃ a u, v = .ref a ∧ H1 a = some u ∧ Keepable u ∧ ∀ o, Q v (upd H1 a (.frz o u))
theorem PE.kp {X : Cx} {e : Expr} {t : TE} (h : PE X e t) : PE X e (fun σ H Q => t σ H (kQ Q)) := by
  refine ⟨fun pins s σ H Q I q => ?_⟩
  refine thn (h.run pins s σ H _ I q) fun u s1 ⟨v, H1, I1, r, q1⟩ => ?_
  rcases q1 with q1 | ⟨a, w, e1, e2, k, q1⟩
  · exact ⟨v, H1, I1, r, q1⟩
  · obtain ⟨o, I2⟩ := Inv.keep I1 e2 k
    exact ⟨v, _, I2, r, q1 o⟩
section
variable {K : PySem.W.Frag} {H : Hp} {h : PH} {Q' : PK} {Q : VK} {a : Addr}
/-- a new list, kept -/
theorem keep_l {ps : List PV} {xs : List V} (l : LQ K H h Q' Q) (s : Sim K H h) (r : Rels K H ps xs) (q : Q' (.lst ps) h) (e : H a = none) : kQ Q (.ref a) (upd H a (.lst xs)) := by
  refine .inr ⟨a, _, rfl, upd_same, trivial, fun o => ?_⟩
  rw [upd_upd]
  have m : Mono H (upd H a (.frz o (.lst xs))) := Mono.new e
  refine l _ _ _ _ q (.new e) ?_ (s.new e)
  simp only [Rel]
  exact ⟨a, xs, rfl, .inl ⟨o, upd_same⟩, r.mono m⟩
/-- .. one that may change -/
theorem make_l {ps : List PV} {xs : List V} (l : LQ K H h Q' Q) (s : Sim K H h) (r : Rels K H ps xs) (q : ∀ a, h a = none → Q' (.ref a) (up h a (.lst ps))) (e : H a = none) : kQ Q (.ref a) (upd H a (.lst xs)) := by
  refine .inl ?_
  have m : Mono H (upd H a (.lst xs)) := Mono.new e
  refine l _ _ _ _ (q a (s.fresh e)) (.add e) ?_ (s.put m ⟨xs, rfl, r.mono m⟩)
  simp only [Rel]
/-- a new dict, kept; one that may change -/
theorem keep_d {ks : List Key} {vs : List PV} {kvs : List (Key × V)} (l : LQ K H h Q' Q) (s : Sim K H h) (r1 : ks = kvs.map (·.1)) (r2 : Rels K H vs (kvs.map (·.2))) (q : Q' (.dct ks vs) h) (e : H a = none) : kQ Q (.ref a) (upd H a (.dK kvs)) := by
  refine .inr ⟨a, _, rfl, upd_same, trivial, fun o => ?_⟩
  rw [upd_upd]
  have m : Mono H (upd H a (.frz o (.dK kvs))) := Mono.new e
  refine l _ _ _ _ q (.new e) ?_ (s.new e)
  simp only [Rel]
  exact ⟨a, kvs, rfl, ⟨o, upd_same⟩, r1, r2.mono m⟩
theorem make_d {ks : List Key} {vs : List PV} {kvs : List (Key × V)} (l : LQ K H h Q' Q) (s : Sim K H h) (r1 : ks = kvs.map (·.1)) (r2 : Rels K H vs (kvs.map (·.2))) (q : ∀ a, h a = none → Q' (.ref a) (up h a (.dct ks vs))) (e : H a = none) : kQ Q (.ref a) (upd H a (.dK kvs)) := by
  refine .inl ?_
  have m : Mono H (upd H a (.dK kvs)) := Mono.new e
  refine l _ _ _ _ (q a (s.fresh e)) (.add e) ?_ (s.put m ⟨kvs, rfl, r1, r2.mono m⟩)
  simp only [Rel]
/-- a new tuple -/
theorem make_t {ps : List PV} {xs : List V} (l : LQ K H h Q' Q) (s : Sim K H h) (r : Rels K H ps xs) (q : Q' (.tup ps) h) (e : H a = none) : Q (.ref a) (upd H a (.tup xs)) := by
  have m : Mono H (upd H a (.tup xs)) := Mono.new e
  refine l _ _ _ _ q (.new e) ?_ (s.new e)
  simp only [Rel]
  exact ⟨a, xs, rfl, .inl (.inl upd_same), r.mono m⟩
end
/-- what an operation on values asks, at this level and at the other one -/
abbrev PR1 := PV → PH → PK → Prop
abbrev PR2 := PV → PV → PH → PK → Prop
abbrev PRA := List PV → PH → PK → Prop
def Lf1 (K : PySem.W.Frag) (r : V → Hp → VK → Prop) (r' : PR1) : Prop := ∀ x H p h Q' Q, Rel K H p x → Sim K H h → r' p h Q' → LQ K H h Q' Q → r x H Q
def Lf2 (K : PySem.W.Frag) (r : R2) (r' : PR2) : Prop := ∀ x y H p q h Q' Q, Rel K H p x → Rel K H q y → Sim K H h → r' p q h Q' → LQ K H h Q' Q → r x y H Q
def LfA (K : PySem.W.Frag) (r : List V → Hp → VK → Prop) (r' : PRA) : Prop := ∀ xs H ps h Q' Q, Rels K H ps xs → Sim K H h → r' ps h Q' → LQ K H h Q' Q → r xs H Q
/-- .. of one that may make a list -/
def Kf1 (K : PySem.W.Frag) (r : V → Hp → VK → Prop) (r' : PR1) : Prop := ∀ x H p h Q' Q, Rel K H p x → Sim K H h → r' p h Q' → LQ K H h Q' Q → r x H (kQ Q)
def Kf2 (K : PySem.W.Frag) (r : R2) (r' : PR2) : Prop := ∀ x y H p q h Q' Q, Rel K H p x → Rel K H q y → Sim K H h → r' p q h Q' → LQ K H h Q' Q → r x y H (kQ Q)
def KfA (K : PySem.W.Frag) (r : List V → Hp → VK → Prop) (r' : PRA) : Prop := ∀ xs H ps h Q' Q, Rels K H ps xs → Sim K H h → r' ps h Q' → LQ K H h Q' Q → r xs H (kQ Q)
theorem LQ.kq {K : PySem.W.Frag} {H : Hp} {h : PH} {Q' : PK} {Q : VK} (l : LQ K H h Q' Q) : LQ K H h Q' (kQ Q) := fun p h v H1 q m r s => .inl (l p h v H1 q m r s)

/-! ### expressions -/
def mVar (i : Nat) : ME := fun τ h Q => match gt τ i with | some p => Q p h | none => False
def mC (p : PV) : ME := fun _ h Q => Q p h
/-- a name whose list is kept from here on -/
def mKeep (m : ME) : ME := fun τ h Q => m τ h fun p h1 => match p with
  | .ref a => (match h1 a with
    | some (.lst ps) => Q (.lst ps) (lose h1 a)
    | some (.dct ks vs) => Q (.dct ks vs) (lose h1 a)
    | _ => False)
  | p => Q p h1
section
variable {X : Cx} {pos : Pos}
theorem le_var {i : Nat} {x : Str} (hN : X.N[i]? = some x := by rfl) (hv : Vis X.env.scope x := by first | exact Or.inl rfl | exact Or.inr (Or.inl rfl) | exact Or.inr (Or.inr rfl)) (hd : (x == ("__debug__" : Str)) = false := by decide)
    (hcd : (x == ("__classdict__" : Str)) = false := by decide) : LE X (.Name x pos) (mVar i) :=
  PE.weak (pe_var hN hv hd hcd) fun σ H Q ⟨τ, h, Q', s, sh, q, l⟩ => by
    unfold mVar at q
    cases e : gt τ i with
    | none => rw [e] at q; exact q.elim
    | some p =>
      rw [e] at q
      obtain ⟨v, e1, r⟩ := s.get e
      exact ⟨v, e1, l p h v H q .refl r sh⟩
theorem le_c {e : Expr} {v : V} {p : PV} (h : PE X e (tC v)) (r : ∀ H, Rel X.K H p v) : LE X e (mC p) :=
  PE.weak h fun σ H Q ⟨τ, h, Q', s, sh, q, l⟩ => l p h v H q .refl (r H) sh
theorem le_int {i : Int} {k : Nat} : LE X (.Constant (.int i) k pos) (mC (.int i)) := le_c pe_int fun _ => by simp only [Rel]
theorem le_bl {b : Bool} {k : Nat} : LE X (.Constant (.bool b) k pos) (mC (.bl b)) := le_c pe_bl fun _ => by simp only [Rel]
theorem le_non {k : Nat} : LE X (.Constant .none k pos) (mC .non) := le_c pe_non fun _ => by simp only [Rel]
theorem le_str {x : Str} {k : Nat} : LE X (.Constant (.str x) k pos) (mC (.str x)) := le_c pe_str fun _ => by simp only [Rel]
theorem le_keep {e : Expr} {m : ME} (he : LE X e m) : LE X e (mKeep m) := by
  refine PE.weak (PE.kp he) fun σ H Q ⟨τ, h, Q', s, sh, q, l⟩ => ?_
  refine ⟨τ, h, _, s, sh, q, fun p h1 v H1 q1 m1 r s1 => ?_⟩
  cases p with
  | ref a =>
    simp only at q1
    have ev : v = .ref a := by simpa only [Rel] using r
    subst ev
    cases e1 : h1 a with
    | none => rw [e1] at q1; exact q1.elim
    | some o =>
      rw [e1] at q1
      obtain ⟨u, e2, ro⟩ := s1 a o e1
      cases o with
      | lst ps =>
        obtain ⟨xs, rfl, rx⟩ := ro
        refine .inr ⟨a, _, rfl, e2, trivial, fun ob => ?_⟩
        have mm : Mono H1 (upd H1 a (.frz ob (.lst xs))) := Mono.lst e2
        refine l _ _ _ _ q1 (m1.trans (.lose e1 mm)) ?_ ?_
        · simp only [Rel]; exact ⟨a, xs, rfl, .inl ⟨ob, upd_same⟩, rx.mono mm⟩
        · exact Sim.drop (h := lose h1 a) (s1.less fun b o q => by unfold lose at q; split at q; cases q; exact q) mm lose_same
      | dct ks vs =>
        obtain ⟨kvs, rfl, r1, r2⟩ := ro
        refine .inr ⟨a, _, rfl, e2, trivial, fun ob => ?_⟩
        have mm : Mono H1 (upd H1 a (.frz ob (.dK kvs))) := Mono.dK e2
        refine l _ _ _ _ q1 (m1.trans (.lose e1 mm)) ?_ ?_
        · simp only [Rel]; exact ⟨a, kvs, rfl, ⟨ob, upd_same⟩, r1, r2.mono mm⟩
        · exact Sim.drop (h := lose h1 a) (s1.less fun b o q => by unfold lose at q; split at q; cases q; exact q) mm lose_same
      | ins C ns vs => exact q1.elim
      | lck ks vs => exact q1.elim
  | _ => exact .inl (l _ _ _ _ q1 m1 r s1)

def mB (r : PR2) (a b : ME) : ME := fun τ h Q => a τ h fun p h1 => b τ h1 fun q h2 => r p q h2 Q
def mU (r : PR1) (a : ME) : ME := fun τ h Q => a τ h fun p h1 => r p h1 Q
/-- from two expressions: what the elder rule asks -/
theorem two_up {K : PySem.W.Frag} {r : R2} {r' : PR2} {Z : VK → VK} (hr : ∀ x y H p q h Q' Q, Rel K H p x → Rel K H q y → Sim K H h → r' p q h Q' → LQ K H h Q' Q → r x y H (Z Q)) {a b : ME} {σ : L2.St} {H : Hp} {Q : VK} (h : upE K (mB r' a b) σ H Q) : tOp r (upE K a) (upE K b) σ H (Z Q) := by
  obtain ⟨τ, h, Q', s, sh, q, l⟩ := h
  refine ⟨τ, h, _, s, sh, q, fun p h1 x H1 q1 m1 r1 s1 => ?_⟩
  refine ⟨τ, h1, _, s.mono m1.mono, s1, q1, fun p2 h2 y H2 q2 m2 r2 s2 => ?_⟩
  exact hr x y H2 p p2 h2 Q' Q (r1.mono m2.mono) r2 s2 q2 (l.mono (m1.trans m2))
theorem le_op {op : Operator} {r : R2} {r' : PR2} {a b : Expr} {ma mb : ME} (ho : OpR X (binaryOp op) r) (hr : Kf2 X.K r r') (ha : LE X a ma) (hb : LE X b mb) : LE X (.BinOp a op b pos) (mB r' ma mb) :=
  PE.weak (PE.kp (pe_op ho ha hb)) fun _ _ _ h => two_up (Z := kQ) hr h
theorem le_cmp {op : CmpOp} {r : R2} {r' : PR2} {a b : Expr} {ma mb : ME} (ho : OpR X (compareOp op) r) (hr : Lf2 X.K r r') (ha : LE X a ma) (hb : LE X b mb) (hm : behindInMarks op b = false) : LE X (.Compare a [op] [b] pos) (mB r' ma mb) :=
  PE.weak (pe_cmpR ho ha hb hm) fun _ _ _ h => two_up (Z := fun Q => Q) hr h
theorem le_un {op : UnaryOp} {r : V → Hp → VK → Prop} {r' : PR1} {a : Expr} {ma : ME} (ho : UnR X (unaryOp op) r) (hr : Lf1 X.K r r') (ha : LE X a ma) : LE X (.UnaryOp op a pos) (mU r' ma) := by
  refine PE.weak (pe_un ho ha) fun σ H Q ⟨τ, h, Q', s, sh, q, l⟩ => ?_
  exact ⟨τ, h, _, s, sh, q, fun p h1 x H1 q1 m1 r1 s1 => hr x H1 p h1 Q' Q r1 s1 q1 (l.mono m1)⟩

/-! ### tests -/
def mTest (m : ME) : MT := fun τ h Q => m τ h fun p h1 => match p with | .bl b => Q b h1 | _ => False
theorem LB.test {K : PySem.W.Frag} {H : Hp} {h : PH} {Q' : Bool → PH → Prop} {Q : Bool → Hp → Prop} (l : LB K H h Q' Q) : LQ K H h (fun p h1 => match p with | .bl b => Q' b h1 | _ => False) (fun x H' => ∃ k, x = .bl k ∧ Q k H') := fun p h1 v H1 q1 m1 r s1 => by
  cases p with
  | bl b =>
    have ev : v = .bl b := by simpa only [Rel] using r
    exact ⟨b, ev, l b h1 H1 q1 m1 s1⟩
  | _ => exact q1.elim
theorem lt_val {e : Expr} {m : ME} (he : LE X e m) (hw : ∀ whole, isTrue e X.env whole = (do let v ← whole; standAt e.pos; holding [v] (truthy v)) := by intro _; rfl) : LT X e (mTest m) :=
  PT.weak (pt_val he hw) fun σ H Q ⟨τ, h, Q', s, sh, q, l⟩ => ⟨τ, h, _, s, sh, q, l.test⟩
/-- a comparison as a test -/
theorem lt_cmp {op : CmpOp} {r : R2} {r' : PR2} {a b : Expr} {ma mb : ME} (ho : OpR X (compareOp op) r) (hr : Lf2 X.K r r') (ha : LE X a ma) (hb : LE X b mb) (hm : behindInMarks op b = false) : LT X (.Compare a [op] [b] pos) (mTest (mB r' ma mb)) :=
  PT.weak (pt_cmpR ho ha hb hm) fun σ H Q ⟨τ, h, Q', s, sh, q, l⟩ => two_up (Z := fun Q => Q) hr (Q := fun x H' => ∃ k, x = .bl k ∧ Q k H') ⟨τ, h, _, s, sh, q, l.test⟩
end
end N3

namespace N3
open PySem PySem.Spec PyProof.Rows L2

/-! ### tests, put together -/
def mAndT (t u : MT) : MT := fun τ h Q => t τ h fun b h1 => if b = true then u τ h1 Q else Q false h1
def mOrT (t u : MT) : MT := fun τ h Q => t τ h fun b h1 => if b = true then Q true h1 else u τ h1 Q
def mNotT (t : MT) : MT := fun τ h Q => t τ h fun b h1 => Q (!b) h1
def mAnd (a b : ME) : ME := fun τ h Q => a τ h fun p h1 => match p with | .bl c => (if c = true then b τ h1 Q else Q (.bl false) h1) | _ => False
def mOr (a b : ME) : ME := fun τ h Q => a τ h fun p h1 => match p with | .bl c => (if c = true then Q (.bl true) h1 else b τ h1 Q) | _ => False
def mNot (a : ME) : ME := fun τ h Q => a τ h fun p h1 => match p with | .bl c => Q (.bl (!c)) h1 | _ => False
def mIf (t : MT) (a b : ME) : ME := fun τ h Q => t τ h fun c h1 => if c = true then a τ h1 Q else b τ h1 Q
def mChn (r r' : PR2) (a b c : ME) : ME := fun τ h Q => a τ h fun p h1 => b τ h1 fun q h2 => r p q h2 fun z h3 => match z with
  | .bl k => (if k = true then c τ h3 fun s h4 => r' q s h4 Q else Q (.bl false) h3)
  | _ => False
section
variable {X : Cx} {pos : Pos} {a b c : Expr} {rest : List Expr}
theorem lw_and1 {t : MT} (ha : LT X a t) : LW X (.BoolOp .And [a] pos) t := pw_and1 ha
theorem lw_or1 {t : MT} (ha : LT X a t) : LW X (.BoolOp .Or [a] pos) t := pw_or1 ha
theorem lw_and {t u : MT} (ha : LT X a t) (hb : LW X (.BoolOp .And (b :: rest) pos) u) : LW X (.BoolOp .And (a :: b :: rest) pos) (mAndT t u) := by
  refine PW.weak (pw_and ha hb) fun σ H Q ⟨τ, h, Q', s, sh, q, l⟩ => ?_
  refine ⟨τ, h, _, s, sh, q, fun c h1 H1 q1 m1 s1 => ?_⟩
  cases c with
  | true => exact ⟨τ, h1, Q', s.mono m1.mono, s1, q1, l.mono m1⟩
  | false => exact l _ _ _ q1 m1 s1
theorem lw_or {t u : MT} (ha : LT X a t) (hb : LW X (.BoolOp .Or (b :: rest) pos) u) : LW X (.BoolOp .Or (a :: b :: rest) pos) (mOrT t u) := by
  refine PW.weak (pw_or ha hb) fun σ H Q ⟨τ, h, Q', s, sh, q, l⟩ => ?_
  refine ⟨τ, h, _, s, sh, q, fun c h1 H1 q1 m1 s1 => ?_⟩
  cases c with
  | true => exact l _ _ _ q1 m1 s1
  | false => exact ⟨τ, h1, Q', s.mono m1.mono, s1, q1, l.mono m1⟩
theorem lt_w {e : Expr} {t : MT} (h : LW X e t) : LT X e t := h.pt
theorem lt_not {t : MT} (ha : LT X a t) : LT X (.UnaryOp .Not a pos) (mNotT t) := by
  refine PT.weak (pt_not ha) fun σ H Q ⟨τ, h, Q', s, sh, q, l⟩ => ?_
  exact ⟨τ, h, _, s, sh, q, fun c h1 H1 q1 m1 s1 => l _ _ _ q1 m1 s1⟩
theorem le_one {op} {m : ME} (h : LE X a m) : LE X (.BoolOp op [a] pos) m := pe_one h
theorem le_and {ma mb : ME} (ha : LE X a ma) (hb : LE X (.BoolOp .And (b :: rest) pos) mb) : LE X (.BoolOp .And (a :: b :: rest) pos) (mAnd ma mb) := by
  refine PE.weak (pe_and ha hb) fun σ H Q ⟨τ, h, Q', s, sh, q, l⟩ => ?_
  refine ⟨τ, h, _, s, sh, q, fun p h1 v H1 q1 m1 r s1 => ?_⟩
  cases p with
  | bl c =>
    refine ⟨c, by simpa only [Rel] using r, ?_⟩
    cases c with
    | true => exact ⟨τ, h1, Q', s.mono m1.mono, s1, q1, l.mono m1⟩
    | false => exact l _ _ _ _ q1 m1 (by simp only [Rel]) s1
  | _ => exact q1.elim
theorem le_or {ma mb : ME} (ha : LE X a ma) (hb : LE X (.BoolOp .Or (b :: rest) pos) mb) : LE X (.BoolOp .Or (a :: b :: rest) pos) (mOr ma mb) := by
  refine PE.weak (pe_or ha hb) fun σ H Q ⟨τ, h, Q', s, sh, q, l⟩ => ?_
  refine ⟨τ, h, _, s, sh, q, fun p h1 v H1 q1 m1 r s1 => ?_⟩
  cases p with
  | bl c =>
    refine ⟨c, by simpa only [Rel] using r, ?_⟩
    cases c with
    | true => exact l _ _ _ _ q1 m1 (by simp only [Rel]) s1
    | false => exact ⟨τ, h1, Q', s.mono m1.mono, s1, q1, l.mono m1⟩
  | _ => exact q1.elim
theorem le_not {ma : ME} (ha : LE X a ma) : LE X (.UnaryOp .Not a pos) (mNot ma) := by
  refine PE.weak (pe_not ha) fun σ H Q ⟨τ, h, Q', s, sh, q, l⟩ => ?_
  refine ⟨τ, h, _, s, sh, q, fun p h1 v H1 q1 m1 r s1 => ?_⟩
  cases p with
  | bl c => exact ⟨c, by simpa only [Rel] using r, l _ _ _ _ q1 m1 (by simp only [Rel]) s1⟩
  | _ => exact q1.elim
theorem le_if {t : MT} {ma mb : ME} (hc : LT X c t) (ha : LE X a ma) (hb : LE X b mb) : LE X (.IfExp c a b pos) (mIf t ma mb) := by
  refine PE.weak (pe_ifExp hc ha hb) fun σ H Q ⟨τ, h, Q', s, sh, q, l⟩ => ?_
  refine ⟨τ, h, _, s, sh, q, fun c h1 H1 q1 m1 s1 => ?_⟩
  cases c with
  | true => exact ⟨τ, h1, Q', s.mono m1.mono, s1, q1, l.mono m1⟩
  | false => exact ⟨τ, h1, Q', s.mono m1.mono, s1, q1, l.mono m1⟩
theorem chn_up {K : PySem.W.Frag} {r r' : R2} {s s' : PR2} (hr : Lf2 K r s) (hr' : Lf2 K r' s') {ma mb mc : ME} {σ : L2.St} {H : Hp} {Q : VK} (h : upE K (mChn s s' ma mb mc) σ H Q) :
    upE K ma σ H fun x H1 => upE K mb σ H1 fun y H2 => r x y H2 fun z H3 => ∃ k, z = .bl k ∧ if k = true then upE K mc σ H3 fun w H4 => r' y w H4 Q else Q (.bl false) H3 := by
  obtain ⟨τ, h, Q', ss, sh, q, l⟩ := h
  refine ⟨τ, h, _, ss, sh, q, fun p h1 x H1 q1 m1 r1 s1 => ?_⟩
  refine ⟨τ, h1, _, ss.mono m1.mono, s1, q1, fun p2 h2 y H2 q2 m2 r2 s2 => ?_⟩
  refine hr x y H2 p p2 h2 _ _ (r1.mono m2.mono) r2 s2 q2 fun p3 h3 z H3 q3 m3 r3 s3 => ?_
  cases p3 with
  | bl k =>
    refine ⟨k, by simpa only [Rel] using r3, ?_⟩
    cases k with
    | true =>
      refine ⟨τ, h3, _, ((ss.mono m1.mono).mono m2.mono).mono m3.mono, s3, q3, fun p4 h4 w H4 q4 m4 r4 s4 => ?_⟩
      exact hr' y w H4 p2 p4 h4 Q' Q ((r2.mono m3.mono).mono m4.mono) r4 s4 q4 (l.mono (((m1.trans m2).trans m3).trans m4))
    | false => exact l _ _ _ _ q3 ((m1.trans m2).trans m3) (by simp only [Rel]) s3
  | _ => exact q3.elim
theorem le_chn {op op' : CmpOp} {r r' : R2} {s s' : PR2} {ma mb mc : ME} (ho : OpR X (compareOp op) r) (ho' : OpR X (compareOp op') r') (hr : Lf2 X.K r s) (hr' : Lf2 X.K r' s') (ha : LE X a ma) (hb : LE X b mb) (hc : LE X c mc)
    (hm : lastMarks [op, op'] [b, c] = false := by with_unfolding_all rfl) : LE X (.Compare a [op, op'] [b, c] pos) (mChn s s' ma mb mc) :=
  PE.weak (pe_chain ho ho' ha hb hc hm) fun σ H Q h => chn_up hr hr' h
theorem lt_chn {op op' : CmpOp} {r r' : R2} {s s' : PR2} {ma mb mc : ME} (ho : OpR X (compareOp op) r) (ho' : OpR X (compareOp op') r') (hr : Lf2 X.K r s) (hr' : Lf2 X.K r' s') (ha : LE X a ma) (hb : LE X b mb) (hc : LE X c mc)
    (hm : lastMarks [op, op'] [b, c] = false := by with_unfolding_all rfl) : LT X (.Compare a [op, op'] [b, c] pos) (mTest (mChn s s' ma mb mc)) :=
  PT.weak (pt_chain ho ho' ha hb hc hm) fun σ H Q ⟨τ, h, Q', s, sh, q, l⟩ => chn_up hr hr' (Q := fun (x : V) H' => ∃ k, x = V.bl k ∧ Q k H') ⟨τ, h, _, s, sh, q, l.test⟩
end

/-! ### arguments -/
def LLn (K : PySem.W.Frag) (H : Hp) (h : PH) (n : Nat) (Q' : List PV → PH → Prop) (Q : List V → Hp → Prop) : Prop := ∀ ps h1 vs H1, Q' ps h1 → ps.length = n → Go H h H1 h1 → Rels K H1 ps vs → Sim K H1 h1 → Q vs H1
def upL (K : PySem.W.Frag) (n : Nat) (m : MA) : TA := fun σ H Q => ∃ τ h Q', SimS K H σ τ ∧ Sim K H h ∧ m τ h Q' ∧ LLn K H h n Q' Q
abbrev LAn (X : Cx) (es : List Expr) (n : Nat) (m : MA) : Prop := PA X es (upL X.K n m)
def mNil : MA := fun _ h Q => Q [] h
def mCons (a : ME) (r : MA) : MA := fun τ h Q => a τ h fun p h1 => r τ h1 fun ps h2 => Q (p :: ps) h2
section
variable {X : Cx} {pos : Pos} {e : Expr} {es : List Expr} {n : Nat}
theorem la_nil : LAn X [] 0 mNil := PA.weak pa_nil fun σ H Q ⟨τ, h, Q', s, sh, q, l⟩ => l [] h [] H q rfl .refl .nil sh
theorem la_cons {ma : ME} {mr : MA} (ha : LE X e ma) (hr : LAn X es n mr) (hs : starEach (e :: es) X.env = (false, eval e X.env) :: starEach es X.env := by rfl) : LAn X (e :: es) (n + 1) (mCons ma mr) := by
  refine PA.weak (pa_cons ha hr hs) fun σ H Q ⟨τ, h, Q', s, sh, q, l⟩ => ?_
  refine ⟨τ, h, _, s, sh, q, fun p h1 v H1 q1 m1 r s1 => ?_⟩
  refine ⟨τ, h1, _, s.mono m1.mono, s1, q1, fun ps h2 vs H2 q2 hn m2 r2 s2 => ?_⟩
  exact l _ _ _ _ q2 (by rw [List.length_cons, hn]) (m1.trans m2) (.cons (r.mono m2.mono) r2) s2
def mTup (m : MA) : ME := fun τ h Q => m τ h fun ps h1 => Q (.tup ps) h1
/-- a list, kept; one that may change -/
def mLst (m : MA) : ME := fun τ h Q => m τ h fun ps h1 => Q (.lst ps) h1
def mLstM (m : MA) : ME := fun τ h Q => m τ h fun ps h1 => ∀ a, h1 a = none → Q (.ref a) (up h1 a (.lst ps))
theorem few {n : Nat} (h : n ≤ 1000) : n ≤ sizeLine := Nat.le_trans h (by decide)
theorem le_tup {x1} {m : MA} (h : LAn X es n m) (hn : n ≤ 1000 := by decide) : LE X (.Tuple es x1 pos) (mTup m) := by
  refine PE.weak (pe_tup h) fun σ H Q ⟨τ, h, Q', s, sh, q, l⟩ => ?_
  refine ⟨τ, h, _, s, sh, q, fun ps h1 vs H1 q1 hl m1 r s1 => ⟨?_, fun p e => make_t (l.mono m1) s1 r q1 e⟩⟩
  rw [← r.length, hl]; exact few hn
theorem le_lst {m : MA} (h : LAn X es n m) (hn : n ≤ 1000 := by decide) : LE X (.List es pos) (mLst m) := by
  refine PE.weak (PE.kp (pe_lst h)) fun σ H Q ⟨τ, h, Q', s, sh, q, l⟩ => ?_
  refine ⟨τ, h, _, s, sh, q, fun ps h1 vs H1 q1 hl m1 r s1 => ⟨?_, fun p e => keep_l (l.mono m1) s1 r q1 e⟩⟩
  rw [← r.length, hl]; exact few hn
theorem le_lstM {m : MA} (h : LAn X es n m) (hn : n ≤ 1000 := by decide) : LE X (.List es pos) (mLstM m) := by
  refine PE.weak (PE.kp (pe_lst h)) fun σ H Q ⟨τ, h, Q', s, sh, q, l⟩ => ?_
  refine ⟨τ, h, _, s, sh, q, fun ps h1 vs H1 q1 hl m1 r s1 => ⟨?_, fun p e => make_l (l.mono m1) s1 r q1 e⟩⟩
  rw [← r.length, hl]; exact few hn
/-- a built-in called by its name -/
def mBlt (r : PRA) (m : MA) : ME := fun τ h Q => m τ h fun ps h1 => r ps h1 Q
theorem args_up {K : PySem.W.Frag} {r : List V → Hp → VK → Prop} {r' : PRA} {Z : VK → VK} (hr : ∀ xs H ps h Q' Q, Rels K H ps xs → Sim K H h → r' ps h Q' → LQ K H h Q' Q → r xs H (Z Q)) {m : MA} {σ : L2.St} {H : Hp} {Q : VK}
    (h : upE K (mBlt r' m) σ H Q) : tCB r (upL K n m) σ H (Z Q) := by
  obtain ⟨τ, h, Q', s, sh, q, l⟩ := h
  exact ⟨τ, h, _, s, sh, q, fun ps h1 vs H1 q1 hl m1 r1 s1 => hr vs H1 ps h1 Q' Q r1 s1 q1 (l.mono m1)⟩
theorem le_blt {x : Str} {id : String} {p : Pos} {r : List V → Hp → VK → Prop} {r' : PRA} {m : MA} (hc : CallR X (.builtin id) r) (hr : LfA X.K r r') (hm : X.mg x = none) (ha : LAn X (e :: es) n m) (hg : Gl X x := by rfl) (hv : bootBuiltins x = some (.builtin id) := by decide +kernel)
    (hn : x ≠ "__name__" := by decide) (hdb : (x == ("__debug__" : Str)) = false := by decide)
    (h1 : starEach (e :: es) X.env = (false, eval e X.env) :: starEach es X.env := by rfl) (h2 : (backTo pos (starEach es X.env)).any (·.1) = false := by rfl) : LE X (.Call (.Name x p) (e :: es) [] pos) (mBlt r' m) :=
  PE.weak (pe_callB hc hg hm hv ha hn hdb h1 h2) fun _ _ _ h => args_up (Z := fun Q => Q) hr h
theorem le_bltK {x : Str} {id : String} {p : Pos} {r : List V → Hp → VK → Prop} {r' : PRA} {m : MA} (hc : CallR X (.builtin id) r) (hr : KfA X.K r r') (hm : X.mg x = none) (ha : LAn X (e :: es) n m) (hg : Gl X x := by rfl) (hv : bootBuiltins x = some (.builtin id) := by decide +kernel)
    (hn : x ≠ "__name__" := by decide) (hdb : (x == ("__debug__" : Str)) = false := by decide)
    (h1 : starEach (e :: es) X.env = (false, eval e X.env) :: starEach es X.env := by rfl) (h2 : (backTo pos (starEach es X.env)).any (·.1) = false := by rfl) : LE X (.Call (.Name x p) (e :: es) [] pos) (mBlt r' m) :=
  PE.weak (PE.kp (pe_callB hc hg hm hv ha hn hdb h1 h2)) fun _ _ _ h => args_up (Z := kQ) hr h
theorem le_ty {x : Str} {T : String} {p : Pos} {r : List V → Hp → VK → Prop} {r' : PRA} {m : MA} (hc : CallR X (.type T) r) (hr : LfA X.K r r') (hm : X.mg x = none) (ha : LAn X (e :: es) n m) (hg : Gl X x := by rfl) (hv : bootBuiltins x = some (.type T) := by decide +kernel)
    (hn : x ≠ "__name__" := by decide) (hdb : (x == ("__debug__" : Str)) = false := by decide)
    (h1 : starEach (e :: es) X.env = (false, eval e X.env) :: starEach es X.env := by rfl) (h2 : (backTo pos (starEach es X.env)).any (·.1) = false := by rfl) : LE X (.Call (.Name x p) (e :: es) [] pos) (mBlt r' m) :=
  PE.weak (pe_callTy hc hg hm hv ha hn hdb h1 h2) fun _ _ _ h => args_up (Z := fun Q => Q) hr h
theorem le_tyK {x : Str} {T : String} {p : Pos} {r : List V → Hp → VK → Prop} {r' : PRA} {m : MA} (hc : CallR X (.type T) r) (hr : KfA X.K r r') (hm : X.mg x = none) (ha : LAn X (e :: es) n m) (hg : Gl X x := by rfl) (hv : bootBuiltins x = some (.type T) := by decide +kernel)
    (hn : x ≠ "__name__" := by decide) (hdb : (x == ("__debug__" : Str)) = false := by decide)
    (h1 : starEach (e :: es) X.env = (false, eval e X.env) :: starEach es X.env := by rfl) (h2 : (backTo pos (starEach es X.env)).any (·.1) = false := by rfl) : LE X (.Call (.Name x p) (e :: es) [] pos) (mBlt r' m) :=
  PE.weak (PE.kp (pe_callTy hc hg hm hv ha hn hdb h1 h2)) fun _ _ _ h => args_up (Z := kQ) hr h
end

/-! ### what a def does -/
abbrev SpP := List PV → PH → PK → Prop
def upF (K : PySem.W.Frag) (n : Nat) (sp : SpP) : Sp := fun vs H Q _ => ∃ ps h Q', ps.length = n ∧ Rels K H ps vs ∧ Sim K H h ∧ sp ps h Q' ∧ LQ K H h Q' Q
/-- what a def promises where no text of a list, tuple, dict is just being made (so all the while here) -/
structure FnG (P : Program) (w : World) (K : PySem.W.Frag) (mg : Str → Option Value) (base : Heap) (k : Nat) (f : Addr) (fd : FuncData) (ps : List Str) (sp : SpP) : Prop where
  run : ∀ (A : Around) (outer : List Env) (s : Shared) (H : Hp) (args : Args) (us : List Value) (vs : List V) (Q : VK), Room k A → A.guards = some [] → Env0 P w K mg base A outer s H → BindsTo s fd args (ps.zip us) → Vals vs us →
    upF K ps.length sp vs H Q E0 → codeAny (model P w) A (.call (.ref f) args) (CR CX0 outer P w H s Q E0) s
section
variable {P : Program} {w : World} {K : PySem.W.Frag} {mg : Str → Option Value} {base : Heap} {j k : Nat} {f : Addr} {fd : FuncData} {ps : List Str} {sp sp' : SpP}
theorem FnG.mono (F : FnG P w K mg base j f fd ps sp) (h : j ≤ k) : FnG P w K mg base k f fd ps sp :=
  ⟨fun A outer s H args us vs Q hr => F.run A outer s H args us vs Q (hr.mono h)⟩
theorem FnG.imp (F : FnG P w K mg base k f fd ps sp) (h : ∀ qs h Q, qs.length = ps.length → sp' qs h Q → sp qs h Q) : FnG P w K mg base k f fd ps sp' :=
  ⟨fun A outer s H args us vs Q hr hg he hb r ⟨qs, h1, Q', hl, rr, ss, z, l⟩ => F.run A outer s H args us vs Q hr hg he hb r ⟨qs, h1, Q', hl, rr, ss, h qs h1 Q' hl z, l⟩⟩
/-- nothing is promised -/
theorem FnG.never : FnG P w K mg base k f fd ps (fun _ _ _ => False) := ⟨fun _ _ _ _ _ _ _ _ _ _ _ _ _ ⟨_, _, _, _, _, _, z, _⟩ => z.elim⟩
end
/-- the arguments by place, then those by keywords, in the parameters' order -/
structure KwB (fd : FuncData) (ps ks : List Str) (g : List Value → List Value → List Value) (gV : List V → List V → List V) (gP : List PV → List PV → List PV) (i j : Nat) : Prop where
  to : ∀ (s : Shared) (us ws : List Value), us.length = i → ws.length = j → BindsTo s fd ⟨us, ks.zip ws⟩ (ps.zip (g us ws))
  rel : ∀ {vs : List V} {us : List Value} {zs : List V} {ws : List Value}, us.length = i → ws.length = j → Vals vs us → Vals zs ws → Vals (gV vs zs) (g us ws)
  relP : ∀ {K : PySem.W.Frag} {H : Hp} {ps : List PV} {vs : List V} {qs : List PV} {zs : List V}, ps.length = i → qs.length = j → Rels K H ps vs → Rels K H qs zs → Rels K H (gP ps qs) (gV vs zs)
  len : ∀ {qs zs : List PV}, qs.length = i → zs.length = j → (gP qs zs).length = ps.length
section
variable {X : Cx} {pos : Pos} {e : Expr} {es : List Expr} {n : Nat}
theorem call_g {k : Nat} {f : Addr} {fd : FuncData} {ps : List Str} {sp : SpP} {pins : List (Addr × Obj)} {σ : L2.St} {H : Hp} {s : Shared} {Q : VK} {us xs : List Value} {kw : List (Str × Value)} {vs : List V} (F : FnG X.prog X.w X.K X.mg X.base k f fd ps sp) (hr : Room k X.A) (hG : X.A.guards = some [])
    (I : Inv X pins σ H s) (hb : BindsTo s fd ⟨xs, kw⟩ (ps.zip us)) (r : Vals vs us) (h : upF X.K ps.length sp vs H Q E0) : wpAny (model X.prog X.w) X.A (call (.ref f) xs kw) (EP X pins σ Q) X.xe s :=
  wpAny_call (codeAny_mono (F.run X.A X.stack s H ⟨xs, kw⟩ us vs Q hr hG I.env0 hb r h) fun r s' hq => by
    cases r with
    | error e => exact False.elim hq
    | ok fl =>
      cases fl with
      | ret u => exact I.after hq
      | _ => exact False.elim hq)
/-- a def of the text, called by its name -/
theorem le_call {x : Str} {p : Pos} {k : Nat} {f : Addr} {fd : FuncData} {ps : List Str} {sp : SpP} {m : MA} (F : FnG X.prog X.w X.K X.mg X.base k f fd ps sp) (hr : Room k X.A) (hG : X.A.guards = some []) (hm : X.mg x = some (.ref f)) (hk : PySem.W.keepIn X.K (.ref f) = true) (hb : Binds X.K fd ps [])
    (ha : LAn X (e :: es) n m) (hp : n = ps.length := by rfl) (hg : Gl X x := by rfl) (hdb : (x == ("__debug__" : Str)) = false := by decide)
    (he : starEach (e :: es) X.env = (false, eval e X.env) :: starEach es X.env := by rfl) (hpl : (backTo pos (starEach es X.env)).any (·.1) = false := by rfl) : LE X (.Call (.Name x p) (e :: es) [] pos) (mBlt sp m) := by
  refine ⟨fun pins s σ H Q I ⟨τ, h, Q', ss, sh, q, l⟩ => ?_⟩
  refine wpAny_Call_Name_kw (ld_glob I hg hm ?_ hdb)
  refine PySem.W.callWith_K (h₀ := X.base) I.ok.mod.kin hk (thn (ha.run pos pins s σ H (fun vs H1 => vs.length = ps.length ∧ upF X.K ps.length sp vs H1 Q E0) I
    ⟨τ, h, _, ss, sh, q, fun qs h1 vs H1 q1 hl g1 r1 s1 => ⟨by rw [← r1.length, hl, hp], qs, h1, Q', by rw [hl, hp], r1, s1, q1, l.mono g1⟩⟩) fun us s1 ⟨vs, H1, I1, r, hl, q⟩ => ⟨I1.kIn, ?_⟩) he hpl
  have z := hb s1 us I1.kIn (by rw [List.append_nil, ← r.length, hl])
  rw [List.append_nil] at z
  exact call_g (kw := []) F hr hG I1 z r q
theorem le_call0 {x : Str} {p : Pos} {k : Nat} {f : Addr} {fd : FuncData} {sp : SpP} (F : FnG X.prog X.w X.K X.mg X.base k f fd [] sp) (hr : Room k X.A) (hG : X.A.guards = some []) (hm : X.mg x = some (.ref f)) (hk : PySem.W.keepIn X.K (.ref f) = true) (hb : Binds X.K fd [] [])
    (hg : Gl X x := by rfl) (hdb : (x == ("__debug__" : Str)) = false := by decide) : LE X (.Call (.Name x p) [] [] pos) (mBlt sp mNil) := by
  refine ⟨fun pins s σ H Q I ⟨τ, h, Q', ss, sh, q, l⟩ => ?_⟩
  refine wpAny_Call_Name_kw (ld_glob I hg hm ?_ hdb)
  exact PySem.W.callWith_K0 I.kIn hk (call_g (kw := []) (xs := []) (us := []) F hr hG I (hb s [] I.kIn rfl) .nil ⟨[], h, Q', rfl, .nil, sh, q, l⟩)
/-- keywords' values -/
abbrev LKn (X : Cx) (kws : List Keyword) (n : Nat) (m : MA) : Prop := L2.PK X kws (upL X.K n m)
theorem lk_nil : LKn X [] 0 mNil := ⟨fun pos pins s σ H Q I ⟨τ, h, Q', ss, sh, q, l⟩ => pk_nil.run pos pins s σ H Q I (l [] h [] H q rfl .refl .nil sh)⟩
theorem lk_cons {nm : Option Str} {kpos : Pos} {kws : List Keyword} {ma : ME} {mr : MA} (ha : LE X e ma) (hr : LKn X kws n mr) : LKn X (⟨nm, e, kpos⟩ :: kws) (n + 1) (mCons ma mr) :=
  ⟨fun pos pins s σ H Q I ⟨τ, h, Q', ss, sh, q, l⟩ => (pk_cons ha hr).run pos pins s σ H Q I ⟨τ, h, _, ss, sh, q, fun p h1 v H1 q1 g1 r s1 => ⟨τ, h1, _, ss.mono g1.mono, s1, q1, fun ps h2 vs H2 q2 hn g2 r2 s2 =>
    l _ _ _ _ q2 (by rw [List.length_cons, hn]) (g1.trans g2) (.cons (r.mono g2.mono) r2) s2⟩⟩⟩
def mKw (sp : SpP) (gP : List PV → List PV → List PV) (m mk : MA) : ME := fun τ h Q => m τ h fun ps h1 => mk τ h1 fun qs h2 => sp (gP ps qs) h2 Q
theorem vals_len {vs : List V} {us : List Value} {n : Nat} (r : Vals vs us) (h : vs.length = n) : us.length = n := by rw [← r.length, h]
/-- f(e, .., k = v, ..) -/
theorem le_callK {x : Str} {p : Pos} {k i j : Nat} {f : Addr} {fd : FuncData} {ps ks : List Str} {sp : SpP} {m mk : MA} {kws : List Keyword} {g : List Value → List Value → List Value} {gV : List V → List V → List V} {gP : List PV → List PV → List PV}
    (F : FnG X.prog X.w X.K X.mg X.base k f fd ps sp) (hr : Room k X.A) (hG : X.A.guards = some []) (hm : X.mg x = some (.ref f)) (hk : PySem.W.keepIn X.K (.ref f) = true) (hb : KwB fd ps ks g gV gP i j)
    (ha : LAn X (e :: es) i m) (hkw : LKn X kws j mk) (hg : Gl X x := by rfl) (hall : (backToKw pos (keywordEach kws X.env)).all (·.1.isSome) = true := by rfl) (hks : (backToKw pos (keywordEach kws X.env)).filterMap (·.1) = ks := by rfl)
    (hdb : (x == ("__debug__" : Str)) = false := by decide) (he : starEach (e :: es) X.env = (false, eval e X.env) :: starEach es X.env := by rfl)
    (hpl : ((backTo pos (starEach (e :: es) X.env)).any (·.1) || (backToKw pos (keywordEach kws X.env)).any (·.1.isNone)) = false := by rfl) : LE X (.Call (.Name x p) (e :: es) kws pos) (mKw sp gP m mk) := by
  refine ⟨fun pins s σ H Q I ⟨τ, h, Q', ss, sh, q, l⟩ => ?_⟩
  refine wpAny_Call_Name_kw (ld_glob I hg hm ?_ hdb)
  refine PySem.W.callWith_KW (h₀ := X.base) I.ok.mod.kin hk hall (thn (ha.run pos pins s σ H (fun vs H1 => ∃ qs h1, qs.length = i ∧ vs.length = i ∧ Rels X.K H1 qs vs ∧ SimS X.K H1 σ τ ∧ Sim X.K H1 h1 ∧ LQ X.K H1 h1 Q' Q ∧ mk τ h1 fun zs h2 => sp (gP qs zs) h2 Q') I
    ⟨τ, h, _, ss, sh, q, fun qs h1 vs H1 q1 hl g1 r1 s1 => ⟨qs, h1, hl, by rw [← r1.length, hl], r1, ss.mono g1.mono, s1, l.mono g1, q1⟩⟩) fun us s1 ⟨vs, H1, I1, r, qs, h1, hl, hv, rq, ss1, sh1, l1, q1⟩ => ?_) hpl he
  refine thn (hkw.run pos pins s1 σ H1 (fun zs H2 => zs.length = j ∧ upF X.K ps.length sp (gV vs zs) H2 Q E0) I1
    ⟨τ, h1, _, ss1, sh1, q1, fun zs h2 ws H2 q2 hz g2 r2 s2 => ⟨by rw [← r2.length, hz], gP qs zs, h2, Q', hb.len hl hz, hb.relP hl hz (rq.mono g2.mono) r2, s2, q2, l1.mono g2⟩⟩) fun ws s2 ⟨zs, H2, I2, rz, hz, q2⟩ => ⟨I2.kIn, ?_⟩
  rw [hks]
  exact call_g F hr hG I2 (hb.to s2 us ws (vals_len r hv) (vals_len rz hz)) (hb.rel (vals_len r hv) (vals_len rz hz) r rz) q2
theorem le_callK0 {x : Str} {p : Pos} {k j : Nat} {f : Addr} {fd : FuncData} {ps ks : List Str} {sp : SpP} {mk : MA} {kws : List Keyword} {g : List Value → List Value → List Value} {gV : List V → List V → List V} {gP : List PV → List PV → List PV}
    (F : FnG X.prog X.w X.K X.mg X.base k f fd ps sp) (hr : Room k X.A) (hG : X.A.guards = some []) (hm : X.mg x = some (.ref f)) (hk : PySem.W.keepIn X.K (.ref f) = true) (hb : KwB fd ps ks g gV gP 0 j)
    (hkw : LKn X kws j mk) (hg : Gl X x := by rfl) (hall : (backToKw pos (keywordEach kws X.env)).all (·.1.isSome) = true := by rfl) (hks : (backToKw pos (keywordEach kws X.env)).filterMap (·.1) = ks := by rfl)
    (hdb : (x == ("__debug__" : Str)) = false := by decide) (hpl : ((backTo pos (starEach [] X.env)).any (·.1) || (backToKw pos (keywordEach kws X.env)).any (·.1.isNone)) = false := by rfl) : LE X (.Call (.Name x p) [] kws pos) (mKw sp gP mNil mk) := by
  refine ⟨fun pins s σ H Q I ⟨τ, h, Q', ss, sh, q, l⟩ => ?_⟩
  refine wpAny_Call_Name_kw (ld_glob I hg hm ?_ hdb)
  refine PySem.W.callWith_KW0 (h₀ := X.base) I.ok.mod.kin hk hall (thn (hkw.run pos pins s σ H (fun zs H2 => zs.length = j ∧ upF X.K ps.length sp (gV [] zs) H2 Q E0) I
    ⟨τ, h, _, ss, sh, q, fun zs h2 ws H2 q2 hz g2 r2 s2 => ⟨by rw [← r2.length, hz], gP [] zs, h2, Q', hb.len rfl hz, hb.relP rfl hz .nil r2, s2, q2, l.mono g2⟩⟩) fun ws s2 ⟨zs, H2, I2, rz, hz, q2⟩ => ⟨I2.kIn, ?_⟩) hpl
  rw [hks]
  exact call_g F hr hG I2 (hb.to s2 [] ws rfl (vals_len rz hz)) (hb.rel rfl (vals_len rz hz) .nil rz) q2
end

/-! ### statements -/
def mNx : MS := fun D τ h => D.nx τ h
def mSeq (a b : MS) : MS := fun D τ h => a { D with nx := b D } τ h
def mDrop (e : ME) : MS := fun D τ h => e τ h fun _ h1 => D.nx τ h1
def mRet (e : ME) : MS := fun D τ h => e τ h D.rt
def mRetN : MS := fun D _ h => D.rt .non h
def mIfS (t : MT) (a b : MS) : MS := fun D τ h => t τ h fun c h1 => if c = true then a D τ h1 else b D τ h1
def mBrk : MS := fun D τ h => D.bk τ h
def mCnt : MS := fun D τ h => D.ct τ h
section
variable {X : Cx} {pos : Pos} {s : Stmt} {rest : List Stmt} {e : Expr}
theorem LD.seq {K : PySem.W.Frag} {H : Hp} {h : PH} {D' : PEnds} {D : Ends} (l : LD K H h D' D) (b : MS) : LD K H h { D' with nx := b D' } { D with nx := upS K b D } :=
  ⟨fun τ h1 σ H1 q m s sh => ⟨τ, h1, D', s, sh, q, l.mono m⟩, l.rt, l.bk, l.ct⟩
theorem ls_nil : LSs X [] mNx := PSs.weak pss_nil fun D σ H ⟨τ, h, D', s, sh, q, l⟩ => l.nx τ h σ H q .refl s sh
theorem ls_cons {a b : MS} (h1 : LS X s a) (h2 : LSs X rest b) : LSs X (s :: rest) (mSeq a b) :=
  PSs.weak (pss_cons h1 h2) fun D σ H ⟨τ, h, D', s, sh, q, l⟩ => ⟨τ, h, _, s, sh, q, l.seq b⟩
theorem ls_one {a : MS} (h1 : LS X s a) : LSs X [s] a := pss_one h1
theorem ls_pass : LS X (.Pass pos) mNx := PS.weak ps_pass fun D σ H ⟨τ, h, D', s, sh, q, l⟩ => l.nx τ h σ H q .refl s sh
theorem ls_brk : LS X (.Break pos) mBrk := PS.weak ps_break fun D σ H ⟨τ, h, D', s, sh, q, l⟩ => l.bk τ h σ H q .refl s sh
theorem ls_cnt : LS X (.Continue pos) mCnt := PS.weak ps_continue fun D σ H ⟨τ, h, D', s, sh, q, l⟩ => l.ct τ h σ H q .refl s sh
theorem ls_expr {m : ME} (he : LE X e m) (hs : swapsWith e none pos.line X.env = pure false := by rfl) : LS X (.Expr e pos) (mDrop m) :=
  PS.weak (ps_expr he hs) fun D σ H ⟨τ, h, D', s, sh, q, l⟩ => ⟨τ, h, _, s, sh, q, fun p h1 v H1 q1 m1 r s1 => l.nx τ h1 σ H1 q1 m1 (s.mono m1.mono) s1⟩
theorem ls_ret {m : ME} (he : LE X e m) : LS X (.Return (some e) pos) (mRet m) :=
  PS.weak (ps_ret he) fun D σ H ⟨τ, h, D', s, sh, q, l⟩ => ⟨τ, h, _, s, sh, q, l.rt⟩
theorem ls_retN : LS X (.Return none pos) mRetN := PS.weak ps_retN fun D σ H ⟨τ, h, D', s, sh, q, l⟩ => l.rt _ _ _ _ q .refl (by simp only [Rel]) sh
theorem ls_if {c : Expr} {a b : List Stmt} {t : MT} {ma mb : MS} (hc : LT X c t) (ha : LSs X a ma) (hb : LSs X b mb) : LS X (.If c a b pos) (mIfS t ma mb) := by
  refine PS.weak (ps_if hc ha hb) fun D σ H ⟨τ, h, D', s, sh, q, l⟩ => ?_
  refine ⟨τ, h, _, s, sh, q, fun c h1 H1 q1 m1 s1 => ?_⟩
  cases c with
  | true => exact ⟨τ, h1, D', s.mono m1.mono, s1, q1, l.mono m1⟩
  | false => exact ⟨τ, h1, D', s.mono m1.mono, s1, q1, l.mono m1⟩
end

/-! ### targets -/
abbrev MG := PV → PSt → PH → (PSt → PH → Prop) → Prop
abbrev MGs := List PV → PSt → PH → (PSt → PH → Prop) → Prop
def upG (K : PySem.W.Frag) (vs : List Nat) (g : MG) : TG := fun v σ H Q => ∃ p τ h Q', Rel K H p v ∧ SimS K H σ τ ∧ Sim K H h ∧ g p τ h Q' ∧
  ∀ τ1 h1 σ1 H1, Q' τ1 h1 → Go H h H1 h1 → SimS K H1 σ1 τ1 → Sim K H1 h1 → wipe σ1 vs = wipe σ vs → Q σ1 H1
def upGs (K : PySem.W.Frag) (vs : List Nat) (g : MGs) : TGs := fun us σ H Q => ∃ ps τ h Q', Rels K H ps us ∧ SimS K H σ τ ∧ Sim K H h ∧ g ps τ h Q' ∧
  ∀ τ1 h1 σ1 H1, Q' τ1 h1 → Go H h H1 h1 → SimS K H1 σ1 τ1 → Sim K H1 h1 → wipe σ1 vs = wipe σ vs → Q σ1 H1
abbrev LG (X : Cx) (t : Expr) (vs : List Nat) (g : MG) : Prop := PG X t (upG X.K vs g)
abbrev LGs (X : Cx) (ts : List Expr) (vs : List Nat) (g : MGs) : Prop := PGs X ts (upGs X.K vs g)
def gN (i : Nat) : MG := fun p τ h Q => Q (st τ i (some p)) h
def gsNil : MGs := fun ps τ h Q => ps = [] ∧ Q τ h
def gsCons (g : MG) (r : MGs) : MGs := fun ps τ h Q => match ps with | p :: qs => g p τ h fun τ1 h1 => r qs τ1 h1 Q | [] => False
def gT (n : Nat) (g : MGs) : MG := fun p τ h Q => match p with | .tup ps => ps.length = n ∧ g ps τ h Q | _ => False
theorem wipe_set {σ : L2.St} {i : Nat} {x : Option V} : ∀ {vs : List Nat}, i ∈ vs → wipe (σ.set i x) vs = wipe σ vs
  | v :: vs, hi => by
    unfold wipe
    by_cases e : v = i
    · subst e
      by_cases hm : v ∈ vs
      · rw [wipe_set hm]
      · clear hi
        have : ∀ vs : List Nat, v ∉ vs → wipe (σ.set v x) vs = (wipe σ vs).set v x := by
          intro vs
          induction vs with
          | nil => intro _; rfl
          | cons u us ih =>
            intro hn
            unfold wipe
            rw [ih fun z => hn (List.mem_cons_of_mem _ z), List.set_comm _ _ fun z => hn (by rw [z]; exact List.mem_cons_self)]
        rw [this vs hm, List.set_set]
    · have hm : i ∈ vs := by
        rcases List.mem_cons.mp hi with z | z
        · exact absurd z.symm e
        · exact z
      rw [wipe_set hm]
section
variable {X : Cx} {pos : Pos} {vs : List Nat} {e : Expr} {es : List Expr}
theorem PG.weak {t u : TG} (h : PG X e t) (w : ∀ v σ H Q, u v σ H Q → t v σ H Q) : PG X e u := ⟨fun pins s σ H v uu Q I r q => h.run pins s σ H v uu Q I r (w v σ H Q q)⟩
theorem PGs.weak {t u : TGs} (h : PGs X es t) (w : ∀ v σ H Q, u v σ H Q → t v σ H Q) : PGs X es u := ⟨fun pins s σ H v uu Q I r q => h.run pins s σ H v uu Q I r (w v σ H Q q)⟩
theorem lg_name {i : Nat} {x : Str} (hN : X.N.Nodup) (hi : X.N[i]? = some x := by rfl) (hx : Loc X.env.scope x := by first | exact Or.inl rfl | exact Or.inr rfl) (hv : i ∈ vs := by simp) (hf : X.fn x = true ∨ X.env.scope.names.lookup x = some .local := by first | exact .inl rfl | exact .inr rfl | assumption) : LG X (.Name x pos) vs (gN i) :=
  PG.weak (pg_name hN hi hx hf) fun v σ H Q ⟨p, τ, h, Q', r, s, sh, q, l⟩ => l _ _ _ _ q .refl (s.set r) sh (wipe_set hv)
theorem lgs_nil : LGs X [] vs gsNil := PGs.weak pgs_nil fun us σ H Q ⟨ps, τ, h, Q', r, s, sh, ⟨q1, q2⟩, l⟩ => by
  subst q1
  exact ⟨r.len0, l _ _ _ _ q2 .refl s sh rfl⟩
theorem lgs_cons {g : MG} {r : MGs} (h1 : LG X e vs g) (h2 : LGs X es vs r) (hs : (assignEach (e :: es) X.env).map (·.2) = assign e X.env :: (assignEach es X.env).map (·.2) := by rfl) : LGs X (e :: es) vs (gsCons g r) := by
  refine PGs.weak (pgs_cons h1 h2 hs) fun us σ H Q ⟨ps, τ, h, Q', rr, s, sh, q, l⟩ => ?_
  cases ps with
  | nil => exact q.elim
  | cons p qs =>
    obtain ⟨v, ws, rfl, r1, r2⟩ := rr.uncons
    refine ⟨v, ws, rfl, p, τ, h, _, r1, s, sh, q, fun τ1 h1 σ1 H1 q1 m1 s1 sh1 w1 => ?_⟩
    refine ⟨qs, τ1, h1, _, r2.mono m1.mono, s1, sh1, q1, fun τ2 h2 σ2 H2 q2 m2 s2 sh2 w2 => ?_⟩
    exact l _ _ _ _ q2 (m1.trans m2) s2 sh2 (w2.trans w1)
theorem lg_tup {k : Nat} {g : MGs} {n : Nat} (hc : X.calm = true) (h : LGs X es vs g) (hn : (assignEach es X.env).length = n := by rfl) (hst : (assignEach es X.env).findIdx? (·.1) = none := by rfl) : LG X (.Tuple es k pos) vs (gT n g) := by
  refine PG.weak (pg_tup hc h hn hst) fun v σ H Q ⟨p, τ, h, Q', r, s, sh, q, l⟩ => ?_
  cases p with
  | tup ps =>
    obtain ⟨ql, q⟩ := q
    simp only [Rel] at r
    obtain ⟨a, xs, e1, e2, rx⟩ := r
    exact ⟨a, xs, e1, e2, by rw [← rx.length, ql], ps, τ, h, Q', rx, s, sh, q, l⟩
  | _ => exact q.elim
/-- target = value -/
def mAsg (m : ME) (g : MG) : MS := fun D τ h => m τ h fun p h1 => g p τ h1 D.nx
theorem ls_asg {tg : Expr} {m : ME} {g : MG} (he : LE X e m) (hg : LG X tg vs g) (hs : swapsWithSole [tg] e pos.line X.env = pure false := by rfl) (hw : swappedStores [tg] e X.env = pure none := by rfl)
    (h1 : (assignEach [tg] X.env).map (·.2) = [assign tg X.env] := by rfl) : LS X (.Assign [tg] e pos) (mAsg m g) := by
  refine PS.weak (ps_asg he hg hs hw h1) fun D σ H ⟨τ, h, D', s, sh, q, l⟩ => ?_
  refine ⟨τ, h, _, s, sh, q, fun p h1 v H1 q1 m1 r s1 => ?_⟩
  exact ⟨p, τ, h1, _, r, s.mono m1.mono, s1, q1, fun τ1 h2 σ1 H2 q2 m2 s2 sh2 _ => l.nx _ _ _ _ q2 (m1.trans m2) s2 sh2⟩
theorem ls_set {i : Nat} {x : Str} {m : ME} {pos' : Pos} (hN : X.N.Nodup) (he : LE X e m) (hi : X.N[i]? = some x := by rfl) (hx : Loc X.env.scope x := by first | exact Or.inl rfl | exact Or.inr rfl) (hs : swapsWith e (some (.Name x pos')) pos.line X.env = pure false := by rfl) (hf : X.fn x = true ∨ X.env.scope.names.lookup x = some .local := by first | exact .inl rfl | exact .inr rfl | assumption) :
    LS X (.Assign [.Name x pos'] e pos) (mAsg m (gN i)) := by
  refine PS.weak (ps_set hN hi hx he hs hf) fun D σ H ⟨τ, h, D', s, sh, q, l⟩ => ?_
  exact ⟨τ, h, _, s, sh, q, fun p h1 v H1 q1 m1 r s1 => l.nx _ _ _ _ q1 m1 ((s.mono m1.mono).set r) s1⟩
/-- a, b = x, y with plain local names -/
def mPar (i j : Nat) (m : MA) : MS := fun D τ h => m τ h fun ps h1 => match ps with | [p, q] => D.nx (st (st τ i (some p)) j (some q)) h1 | _ => False
theorem ls_par {i j : Nat} {x y : Str} {a b : Expr} {ta : MA} {px py pt : Pos} {kt k2 pt2} (hc : X.calm = true) (hN : X.N.Nodup) (ha : LAn X [a, b] 2 ta) (hi : X.N[i]? = some x := by rfl) (hj : X.N[j]? = some y := by rfl) (hij : i ≠ j := by decide)
    (hx : X.env.scope.names.lookup x = some .local := by rfl) (hy : X.env.scope.names.lookup y = some .local := by rfl)
    (hw : swappedStores [.Tuple [.Name x px, .Name y py] kt pt] (.Tuple [a, b] k2 pt2) X.env = pure (some [x, y]) := by rfl)
    (hs : swapsWithSole [.Tuple [.Name x px, .Name y py] kt pt] (.Tuple [a, b] k2 pt2) pos.line X.env = pure false := by rfl) :
    LS X (.Assign [.Tuple [.Name x px, .Name y py] kt pt] (.Tuple [a, b] k2 pt2) pos) (mPar i j ta) := by
  refine PS.weak (ps_par hc hN hi hj hij hx hy ha hw hs) fun D σ H ⟨τ, h, D', s, sh, q, l⟩ => ?_
  refine ⟨τ, h, _, s, sh, q, fun ps h1 vs H1 q1 hl m1 r s1 => ?_⟩
  match ps, q1, r with
  | [p, q], q1, r =>
    obtain ⟨v, w, rfl, r1, r2⟩ := r.two
    exact ⟨v, w, rfl, l.nx _ _ _ _ q1 m1 (((s.mono m1.mono).set r1).set r2) s1⟩
  | [], q1, _ => exact q1.elim
  | [_], q1, _ => exact q1.elim
  | _ :: _ :: _ :: _, q1, _ => exact q1.elim
end
end N3

namespace N3
open PySem PySem.Spec PyProof.Rows L2

/-! ### while -/
/-- I: what holds ahead of each turn, by a number that falls -/
def mWhile (t : MT) (b : MS) : MS := fun D τ h => ∃ I : Nat → PSt → PH → Prop, (∃ n, I n τ h) ∧ ∀ n τ h, I n τ h →
  t τ h fun c h1 => if c = true then b { D with nx := fun τ' h' => ∃ m, m < n ∧ I m τ' h', ct := fun τ' h' => ∃ m, m < n ∧ I m τ' h', bk := D.nx } τ h1 else D.nx τ h1
section
variable {X : Cx} {pos : Pos} {e : Expr}
theorem ls_while {c : Expr} {body : List Stmt} {t : MT} {b : MS} (hp : PassesOwn (model X.prog X.w) X.A X.env X.xe) (hc : LT X c t) (hb : LSs X body b) : LS X (.While c body [] pos) (mWhile t b) := by
  refine PS.weak (ps_while hp hc hb) fun D σ0 H0 ⟨τ0, h0, D', s0, sh0, ⟨I, ⟨n0, i0⟩, turn⟩, l⟩ => ?_
  refine ⟨fun n σ H => ∃ τ h, Go H0 h0 H h ∧ SimS X.K H σ τ ∧ Sim X.K H h ∧ I n τ h, ⟨n0, τ0, h0, .refl, s0, sh0, i0⟩, ?_⟩
  rintro n σ H ⟨τ, h, g, s, sh, i⟩
  refine ⟨τ, h, _, s, sh, turn n τ h i, fun c h1 H1 q1 g1 s1 => ?_⟩
  cases c with
  | true =>
    rw [if_pos rfl] at q1 ⊢
    refine ⟨fun σ' H' => ∃ m, m < n ∧ ∃ τ h, Go H0 h0 H' h ∧ SimS X.K H' σ' τ ∧ Sim X.K H' h ∧ I m τ h, fun σ' H' z => z, ?_⟩
    refine ⟨τ, h1, _, s.mono g1.mono, s1, q1, ?_⟩
    have l' := l.mono (g.trans g1)
    have again : LN X.K H1 h1 (fun τ' h' => ∃ m, m < n ∧ I m τ' h') (fun σ' H' => ∃ m, m < n ∧ ∃ τ h, Go H0 h0 H' h ∧ SimS X.K H' σ' τ ∧ Sim X.K H' h ∧ I m τ h) := fun τ2 h2 σ2 H2 ⟨m, hm, i2⟩ g2 s2 sh2 =>
      ⟨m, hm, τ2, h2, (g.trans g1).trans g2, s2, sh2, i2⟩
    exact ⟨again, l'.rt, l'.nx, again⟩
  | false =>
    rw [if_neg Bool.false_ne_true] at q1 ⊢
    exact l.nx τ h1 σ H1 q1 (g.trans g1) (s.mono g1.mono) s1

/-! ### what is gone along -/
/-- the items, and what must stand at each turn -/
abbrev MI := PSt → PH → (List PV → (PH → Prop) → PH → Prop) → Prop
structure Wk (K : PySem.W.Frag) (J : It) (ps : List PV) (gd : PH → Prop) (H1 : Hp) : Prop where
  few : ps.length ≤ sizeLine
  goes : ∀ i H h, i < ps.length → Mono H1 H → Sim K H h → gd h → J.go i H
  stops : ∀ H h, Mono H1 H → Sim K H h → gd h → J.stop ps.length H
  yields : ∀ (i : Nat) H h x H' p, ps[i]? = some p → Mono H1 H → Sim K H h → gd h → J.yld i H x H' → Go H h H' h ∧ Sim K H' h ∧ Rel K H' p x
def upI (K : PySem.W.Frag) (mi : MI) : TI := fun σ H R => ∃ τ h Q', SimS K H σ τ ∧ Sim K H h ∧ mi τ h Q' ∧
  ∀ ps gd h1 H1 J, Q' ps gd h1 → Go H h H1 h1 → Sim K H1 h1 → Wk K J ps gd H1 → R J H1
abbrev LI (X : Cx) (tg iter : Expr) (mi : MI) : Prop := PI X tg iter (upI X.K mi)
theorem PI.weak {tg iter : Expr} {t u : TI} (h : PI X tg iter t) (w : ∀ σ H R, u σ H R → t σ H R) : PI X tg iter u := ⟨fun pins s σ H R I q => h.run pins s σ H R I (w σ H R q)⟩

def forL (gd : PH → Prop) (g : MG) (b : MS) (D : PEnds) : List PV → PSt → PH → Prop
  | [], τ, h => gd h ∧ D.nx τ h
  | p :: ps, τ, h => gd h ∧ g p τ h fun τ1 h1 => b { D with nx := forL gd g b D ps, ct := forL gd g b D ps, bk := D.nx } τ1 h1
def mFor (mi : MI) (g : MG) (b : MS) : MS := fun D τ h => mi τ h fun ps gd h1 => forL gd g b D ps τ h1
theorem ls_for {tg iter : Expr} {body : List Stmt} {mi : MI} {vs : List Nat} {g : MG} {b : MS} (hp : PassesOwn (model X.prog X.w) X.A X.env X.xe) (hc : X.calm = true) (hi : LI X tg iter mi) (hg : LG X tg vs g) (hb : LSs X body b)
    (hs : ∀ x, foldedSetIterable iter X.env x = pure x := by intro _; rfl) : LS X (.For tg iter body [] pos) (mFor mi g b) := by
  refine PS.weak (ps_for hp hc hi hg hb hs) fun D σ0 H0 ⟨τ0, h0, D', s0, sh0, q0, l⟩ => ?_
  refine ⟨τ0, h0, _, s0, sh0, q0, fun ps gd h1 H1 J q1 g1 s1 wk => ?_⟩
  have l1 := l.mono g1
  refine ⟨fun i m σ H => ∃ τ h, i ≤ ps.length ∧ m = ps.length - i ∧ Go H1 h1 H h ∧ SimS X.K H σ τ ∧ Sim X.K H h ∧ forL gd g b D' (ps.drop i) τ h,
    ⟨ps.length, τ0, h1, Nat.zero_le _, rfl, .refl, s0.mono g1.mono, s1, q1⟩, ?_⟩
  rintro i m σ H ⟨τ, h, hi, rfl, gg, s, sh, q⟩
  by_cases hlt : i < ps.length
  · have e : ps.drop i = ps[i] :: ps.drop (i + 1) := List.drop_eq_getElem_cons hlt
    rw [e] at q
    obtain ⟨hgd, q⟩ := q
    refine .inr ⟨wk.goes i H h hlt gg.mono sh hgd, fun σ' H' => ∃ τ h, Go H1 h1 H' h ∧ SimS X.K H' σ' τ ∧ Sim X.K H' h ∧ forL gd g b D' (ps.drop (i + 1)) τ h, fun σ' H' ⟨τ, h, a, b', c, d⟩ => ⟨ps.length - (i + 1), by omega, τ, h, hlt, rfl, a, b', c, d⟩, fun x H' y => ?_⟩
    obtain ⟨g2, sh2, rx⟩ := wk.yields i H h x H' ps[i] (List.getElem?_eq_getElem hlt) gg.mono sh hgd y
    refine ⟨ps[i], τ, h, _, rx, s.mono g2.mono, sh2, q, fun τ3 h3 σ3 H3 q3 g3 s3 sh3 _ => ?_⟩
    refine ⟨τ3, h3, _, s3, sh3, q3, ?_⟩
    have g13 := (gg.trans g2).trans g3
    have l3 := l1.mono g13
    have again : LN X.K H3 h3 (forL gd g b D' (ps.drop (i + 1))) (fun σ' H' => ∃ τ h, Go H1 h1 H' h ∧ SimS X.K H' σ' τ ∧ Sim X.K H' h ∧ forL gd g b D' (ps.drop (i + 1)) τ h) := fun τ4 h4 σ4 H4 q4 g4 s4 sh4 =>
      ⟨τ4, h4, g13.trans g4, s4, sh4, q4⟩
    exact ⟨again, l3.rt, l3.nx, again⟩
  · have e : i = ps.length := by omega
    subst e
    rw [List.drop_length] at q
    exact .inl ⟨wk.stops H h gg.mono sh q.1, l1.nx τ h σ H q.2 gg s sh⟩

/-! ### [e for t in it if ..] -/
def mTs : List MT → MT
  | [] => fun _ h Q => Q true h
  | [t] => t
  | _ => fun _ _ _ => False
def mYes : MT := fun _ h Q => Q true h
abbrev LTs (X : Cx) (ifs : List Expr) (t : MT) : Prop := PTs X ifs (upT X.K t)
theorem lts_nil : LTs X [] mYes := ⟨fun pins s σ H Q I ⟨τ, h, Q', ss, sh, q, l⟩ => pts_nil.run pins s σ H Q I (l _ _ _ q .refl sh)⟩
theorem lts_one {c : Expr} {t : MT} (h : LT X c t) : LTs X [c] t := pts_one h
def lcL (gd : PH → Prop) (τ : PSt) (g : MG) (t : MT) (m : ME) : List PV → List PV → PH → (List PV → PH → Prop) → Prop
  | [], acc, h, Q => gd h ∧ Q acc h
  | p :: ps, acc, h, Q => gd h ∧ g p τ h fun τ1 h1 => t τ1 h1 fun b h2 => if b = true then m τ1 h2 fun v h3 => lcL gd τ g t m ps (acc ++ [v]) h3 Q else lcL gd τ g t m ps acc h2 Q
def wp (τ : PSt) : List Nat → PSt
  | [] => τ
  | v :: vs => st (wp τ vs) v none
theorem SimS.wipe {K : PySem.W.Frag} {H : Hp} {σ : L2.St} {τ : PSt} (s : SimS K H σ τ) : ∀ vs : List Nat, SimS K H (wipe σ vs) (wp τ vs)
  | [] => s
  | v :: vs => by
    have ih := SimS.wipe s vs
    unfold L2.wipe wp
    refine ⟨by rw [List.length_set, st_eq, List.length_set]; exact ih.1, fun i p e => ?_⟩
    rw [st_eq, gt_eq] at e
    by_cases hv : v = i
    · subst hv
      by_cases hl : v < (wp τ vs).length
      · rw [List.getElem?_set_self hl] at e; simp at e
      · rw [List.getElem?_eq_none (by simpa using hl)] at e; simp at e
    · rw [List.getElem?_set_ne hv] at e ⊢
      exact ih.2 i p (by rw [gt_eq]; exact e)
/-- the list kept; one that may change -/
def mLc (mi : MI) (vs : List Nat) (g : MG) (t : MT) (m : ME) : ME := fun τ h Q => mi τ h fun ps gd h1 => lcL gd (wp τ vs) g t m ps [] h1 fun zs h2 => Q (.lst zs) h2
def mLcM (mi : MI) (vs : List Nat) (g : MG) (t : MT) (m : ME) : ME := fun τ h Q => mi τ h fun ps gd h1 => lcL gd (wp τ vs) g t m ps [] h1 fun zs h2 => ∀ a, h2 a = none → Q (.ref a) (up h2 a (.lst zs))
theorem wipe_wipe {σ : L2.St} {vs : List Nat} : wipe (wipe σ vs) vs = wipe σ vs := by
  have key : ∀ us : List Nat, (∀ u ∈ us, u ∈ vs) → wipe (wipe σ us) vs = wipe σ vs := by
    intro us
    induction us with
    | nil => intro _; rfl
    | cons u us ih =>
      intro hs
      show wipe ((wipe σ us).set u none) vs = wipe σ vs
      rw [wipe_set (hs u List.mem_cons_self)]
      exact ih fun w hw => hs w (List.mem_cons_of_mem _ hw)
  exact key vs fun _ h => h
/-- the reading of a comprehension, whatever is done with the list -/
theorem lc_up {K : PySem.W.Frag} {mi : MI} {vs : List Nat} {g : MG} {t : MT} {m : ME} {Y : List PV → PH → Prop} {σ : L2.St} {H0 : Hp} {τ : PSt} {h0 : PH} {Q : VK} (s0 : SimS K H0 σ τ) (sh0 : Sim K H0 h0)
    (q : mi τ h0 fun ps gd h1 => lcL gd (wp τ vs) g t m ps [] h1 Y)
    (fin : ∀ zs h2 xs D H2, Y zs h2 → H0 D = none → H2 D = some (.lst xs) → h2 D = none → Sim K H2 h2 → Rels K H2 zs xs → Go H0 h0 H2 h2 → Q (.ref D) H2) :
    tLc (upI K mi) (upG K vs g) (upT K t) (upE K m) vs σ H0 Q := by
  refine ⟨τ, h0, _, s0, sh0, q, fun ps gd h1 H1 J q1 g1 s1 wk D hD => ?_⟩
  have hD1 : h1 D = none := s1.fresh hD
  have gD : Go H1 h1 (upd H1 D (.lst [])) h1 := .new hD
  refine ⟨fun i n H => ∃ h acc xs, i ≤ ps.length ∧ n = ps.length - i ∧ Go H1 h1 H h ∧ H D = some (.lst xs) ∧ h D = none ∧ Rels K H acc xs ∧ xs.length ≤ i ∧ Sim K H h ∧ lcL gd (wp τ vs) g t m (ps.drop i) acc h Y,
    ⟨ps.length, h1, [], [], Nat.zero_le _, rfl, gD, upd_same, hD1, .nil, Nat.le_refl _, s1.new hD, q1⟩, ?_⟩
  rintro i n H ⟨h, acc, xs, hi, rfl, gg, hx, hd, ra, hl, sh, q⟩
  by_cases hlt : i < ps.length
  · have e : ps.drop i = ps[i] :: ps.drop (i + 1) := List.drop_eq_getElem_cons hlt
    rw [e] at q
    obtain ⟨hgd, q⟩ := q
    refine .inr ⟨wk.goes i H h hlt gg.mono sh hgd, fun H' => ∃ h acc xs, Go H1 h1 H' h ∧ H' D = some (.lst xs) ∧ h D = none ∧ Rels K H' acc xs ∧ xs.length ≤ i + 1 ∧ Sim K H' h ∧ lcL gd (wp τ vs) g t m (ps.drop (i + 1)) acc h Y,
      fun H' ⟨h, acc, xs, a1, a2, a3, a4, a5, a6, a7⟩ => ⟨ps.length - (i + 1), by omega, h, acc, xs, hlt, rfl, a1, a2, a3, a4, a5, a6, a7⟩, fun x H' y => ?_⟩
    obtain ⟨g2, sh2, rx⟩ := wk.yields i H h x H' ps[i] (List.getElem?_eq_getElem hlt) gg.mono sh hgd y
    have gw : Mono H0 H' := (g1.trans (gg.trans g2)).mono
    refine ⟨ps[i], wp τ vs, h, _, rx, (s0.mono gw).wipe vs, sh2, q, fun τ3 h3 σ3 H3 q3 g3 s3 sh3 w3 => ⟨by rw [w3, wipe_wipe], ?_⟩⟩
    refine ⟨τ3, h3, _, s3, sh3, q3, fun b h4 H4 q4 g4 s4 => ?_⟩
    have g24 := (g2.trans g3).trans g4
    have x4 : H4 D = some (.lst xs) := g24.frame D _ hx hd
    have d4 : h4 D = none := g24.dom D _ hx hd
    cases b with
    | true =>
      simp only [if_true] at q4 ⊢
      refine ⟨τ3, h4, _, s3.mono g4.mono, s4, q4, fun v h5 y5 H5 q5 g5 r5 s5 => ?_⟩
      have x5 : H5 D = some (.lst xs) := g5.frame D _ x4 d4
      have d5 : h5 D = none := g5.dom D _ x4 d4
      have few := wk.few
      refine ⟨xs, x5, by omega, h5, acc ++ [v], xs ++ [y5], ?_, upd_same, d5, ?_, by rw [List.length_append]; simp; omega, s5.drop (Mono.lst x5) d5, q5⟩
      · have gA := ((gg.trans g24).trans g5)
        exact gA.renew hD (Mono.lst x5)
      · exact ((ra.mono (g24.trans g5).mono).append (.cons r5 .nil)).mono (Mono.lst x5)
    | false =>
      simp only [Bool.false_eq_true, if_false] at q4 ⊢
      exact ⟨h4, acc, xs, gg.trans g24, x4, d4, ra.mono g24.mono, by omega, s4, q4⟩
  · have e : i = ps.length := by omega
    subst e
    rw [List.drop_length] at q
    have g0 := g1.trans gg
    exact .inl ⟨wk.stops H h gg.mono sh q.1, fin acc h xs D H q.2 (g1.live D hD) hx hd sh ra g0⟩
theorem le_lc {elt tg iter : Expr} {ifs : List Expr} {scope : Scope} {mi : MI} {g : MG} {t : MT} {m : ME} (own : List (Str × Nat)) (hc : X.calm = true) (hN : X.N.Nodup) (hi : LI X tg iter mi) (ok : BlkOk X.N X.env.scope scope own)
    (hg : ∀ (s : Shared) (H : Hp) (C : Addr) (cl : List (Str × Addr)) (fp : List Addr), LG (X.blk s H scope (compEnvC scope cl C X.env) fp) tg (own.map (·.2)) g) (ht : ∀ (s : Shared) (H : Hp) (C : Addr) (cl : List (Str × Addr)) (fp : List Addr), LTs (X.blk s H scope (compEnvC scope cl C X.env) fp) ifs t)
    (he : ∀ (s : Shared) (H : Hp) (C : Addr) (cl : List (Str × Addr)) (fp : List Addr), LE (X.blk s H scope (compEnvC scope cl C X.env) fp) elt m) (hs : ∀ x, foldedSetIterable iter X.env x = pure x := by intro _; rfl) :
    LE X (.ListComp elt [⟨tg, iter, ifs, 0⟩] scope pos) (mLc mi (own.map (·.2)) g t m) :=
  PE.weak (PE.kp (pe_lc hc hN hi ok hg ht he hs)) fun σ H Q ⟨τ, h, Q', s, sh, q, l⟩ => lc_up s sh q fun zs h2 xs D H2 q2 h0 hD hd s2 r2 g2 => .inr ⟨D, _, rfl, hD, trivial, fun o => by
    have mm : Mono H2 (upd H2 D (.frz o (.lst xs))) := Mono.lst hD
    refine l (.lst zs) h2 (.ref D) _ q2 (g2.renew h0 mm) ?_ (s2.drop mm hd)
    simp only [Rel]
    exact ⟨D, xs, rfl, .inl ⟨o, upd_same⟩, r2.mono mm⟩⟩
theorem le_lcM {elt tg iter : Expr} {ifs : List Expr} {scope : Scope} {mi : MI} {g : MG} {t : MT} {m : ME} (own : List (Str × Nat)) (hc : X.calm = true) (hN : X.N.Nodup) (hi : LI X tg iter mi) (ok : BlkOk X.N X.env.scope scope own)
    (hg : ∀ (s : Shared) (H : Hp) (C : Addr) (cl : List (Str × Addr)) (fp : List Addr), LG (X.blk s H scope (compEnvC scope cl C X.env) fp) tg (own.map (·.2)) g) (ht : ∀ (s : Shared) (H : Hp) (C : Addr) (cl : List (Str × Addr)) (fp : List Addr), LTs (X.blk s H scope (compEnvC scope cl C X.env) fp) ifs t)
    (he : ∀ (s : Shared) (H : Hp) (C : Addr) (cl : List (Str × Addr)) (fp : List Addr), LE (X.blk s H scope (compEnvC scope cl C X.env) fp) elt m) (hs : ∀ x, foldedSetIterable iter X.env x = pure x := by intro _; rfl) :
    LE X (.ListComp elt [⟨tg, iter, ifs, 0⟩] scope pos) (mLcM mi (own.map (·.2)) g t m) :=
  PE.weak (pe_lc hc hN hi ok hg ht he hs) fun σ H Q ⟨τ, h, Q', s, sh, q, l⟩ => lc_up s sh q fun zs h2 xs D H2 q2 h0 hD hd s2 r2 g2 => by
    refine l (.ref D) _ (.ref D) H2 (q2 D hd) (g2.own h0) (by simp only [Rel]) fun b p e => ?_
    by_cases hb : b = D
    · subst hb
      rw [up_same] at e; cases e
      exact ⟨_, hD, xs, rfl, r2⟩
    · rw [up_ne hb] at e
      exact s2 b p e
/-- name = [..]: the list may change behind it -/
theorem ls_setLcM {i : Nat} {y : Str} {py : Pos} {elt tg iter : Expr} {ifs : List Expr} {scope : Scope} {spos : Pos} {mi : MI} {g : MG} {t : MT} {m : ME} (own : List (Str × Nat)) (hc : X.calm = true) (hN : X.N.Nodup) (hi : LI X tg iter mi) (ok : BlkOk X.N X.env.scope scope own)
    (hg : ∀ (s : Shared) (H : Hp) (C : Addr) (cl : List (Str × Addr)) (fp : List Addr), LG (X.blk s H scope (compEnvC scope cl C X.env) fp) tg (own.map (·.2)) g) (ht : ∀ (s : Shared) (H : Hp) (C : Addr) (cl : List (Str × Addr)) (fp : List Addr), LTs (X.blk s H scope (compEnvC scope cl C X.env) fp) ifs t)
    (he : ∀ (s : Shared) (H : Hp) (C : Addr) (cl : List (Str × Addr)) (fp : List Addr), LE (X.blk s H scope (compEnvC scope cl C X.env) fp) elt m)
    (hy : X.N[i]? = some y := by rfl) (hyl : X.env.scope.names.lookup y = some .local := by rfl)
    (hsw : swapsWith (.ListComp elt [⟨tg, iter, ifs, 0⟩] scope pos) (some (.Name y py)) spos.line X.env = pure true := by exact sw_true rfl rfl rfl (by decide +kernel)) (hs : ∀ x, foldedSetIterable iter X.env x = pure x := by intro _; rfl) :
    LS X (.Assign [.Name y py] (.ListComp elt [⟨tg, iter, ifs, 0⟩] scope pos) spos) (mAsg (mLcM mi (own.map (·.2)) g t m) (gN i)) :=
  PS.weak (ps_setLc hc hN hy hyl hsw hi ok hg ht he hs) fun D0 σ H ⟨τ, h, D', s, sh, q, l⟩ => lc_up s sh q fun zs h2 xs D H2 q2 h0 hD hd s2 r2 g2 => by
    refine l.nx _ _ _ H2 (q2 D hd) (g2.own h0) ((s.mono g2.mono).set (by simp only [Rel])) fun b p e => ?_
    by_cases hb : b = D
    · subst hb
      rw [up_same] at e; cases e
      exact ⟨_, hD, xs, rfl, r2⟩
    · rw [up_ne hb] at e
      exact s2 b p e
end
end N3

namespace N3
open PySem PySem.Spec PyProof.Rows L2

/-! ### keeping behind a statement -/
def kN (N : L2.St → Hp → Prop) : L2.St → Hp → Prop := fun σ H => N σ H ∨ ∃ a u, H a = some u ∧ Keepable u ∧ ∀ o, N σ (upd H a (.frz o u))
section
variable {X : Cx} {pos : Pos} {s : Stmt}
theorem PS.kp {t : TS} (h : PS X s t) : PS X s (fun D σ H => t { D with nx := kN D.nx } σ H) := by
  refine ⟨fun pins s σ H D I q => ?_⟩
  refine thn (h.run pins s σ H _ I q) fun f s1 q1 => ?_
  cases f with
  | next =>
    obtain ⟨σ1, H1, I1, q2⟩ := q1
    rcases q2 with q2 | ⟨a, u, e, k, q2⟩
    · exact ⟨σ1, H1, I1, q2⟩
    · obtain ⟨o, I2⟩ := Inv.keep I1 e k
      exact ⟨σ1, _, I2, q2 o⟩
  | ret v => exact q1
  | brk => exact q1
  | cont => exact q1
/-- name = [..]: the list is kept -/
theorem ls_setLc {i : Nat} {y : Str} {py : Pos} {elt tg iter : Expr} {ifs : List Expr} {scope : Scope} {spos : Pos} {mi : MI} {g : MG} {t : MT} {m : ME} (own : List (Str × Nat)) (hc : X.calm = true) (hN : X.N.Nodup) (hi : LI X tg iter mi) (ok : BlkOk X.N X.env.scope scope own)
    (hg : ∀ (s : Shared) (H : Hp) (C : Addr) (cl : List (Str × Addr)) (fp : List Addr), LG (X.blk s H scope (compEnvC scope cl C X.env) fp) tg (own.map (·.2)) g) (ht : ∀ (s : Shared) (H : Hp) (C : Addr) (cl : List (Str × Addr)) (fp : List Addr), LTs (X.blk s H scope (compEnvC scope cl C X.env) fp) ifs t)
    (he : ∀ (s : Shared) (H : Hp) (C : Addr) (cl : List (Str × Addr)) (fp : List Addr), LE (X.blk s H scope (compEnvC scope cl C X.env) fp) elt m)
    (hy : X.N[i]? = some y := by rfl) (hyl : X.env.scope.names.lookup y = some .local := by rfl)
    (hsw : swapsWith (.ListComp elt [⟨tg, iter, ifs, 0⟩] scope pos) (some (.Name y py)) spos.line X.env = pure true := by exact sw_true rfl rfl rfl (by decide +kernel)) (hs : ∀ x, foldedSetIterable iter X.env x = pure x := by intro _; rfl) :
    LS X (.Assign [.Name y py] (.ListComp elt [⟨tg, iter, ifs, 0⟩] scope pos) spos) (mAsg (mLc mi (own.map (·.2)) g t m) (gN i)) :=
  PS.weak (PS.kp (ps_setLc hc hN hy hyl hsw hi ok hg ht he hs)) fun D0 σ H ⟨τ, h, D', s, sh, q, l⟩ => lc_up s sh q fun zs h2 xs D H2 q2 h0 hD hd s2 r2 g2 => .inr ⟨D, _, hD, trivial, fun o => by
    have mm : Mono H2 (upd H2 D (.frz o (.lst xs))) := Mono.lst hD
    refine l.nx _ h2 _ _ q2 (g2.renew h0 mm) ((s.mono (g2.mono.trans mm)).set ?_) (s2.drop mm hd)
    simp only [Rel]
    exact ⟨D, xs, rfl, .inl ⟨o, upd_same⟩, r2.mono mm⟩⟩
end

/-! ### a def from its body -/
def sp0 : Nat → List PV → PSt
  | 0, _ => []
  | n + 1, [] => none :: sp0 n []
  | n + 1, p :: ps => some p :: sp0 n ps
theorem sp0_eq : ∀ (n : Nat) (ps : List PV), ps.length ≤ n → sp0 n ps = ps.map some ++ List.replicate (n - ps.length) none
  | 0, [], _ => rfl
  | 0, _ :: _, h => by simp at h
  | n + 1, [], _ => by
    have ih := sp0_eq n [] (Nat.zero_le _)
    simp only [sp0, ih, List.map_nil, List.nil_append, List.length_nil, Nat.sub_zero, List.replicate_succ]
  | n + 1, p :: ps, h => by
    have ih := sp0_eq n ps (by simpa using h)
    simp only [sp0, ih, List.map_cons, List.cons_append, List.length_cons, Nat.add_sub_add_right]
theorem simS_start {K : PySem.W.Frag} {H : Hp} {N : List Str} {vs : List V} {ps : List PV} (r : Rels K H ps vs) (hl : ps.length ≤ N.length) : SimS K H (L2.start N vs) (sp0 N.length ps) := by
  have e := r.length
  rw [sp0_eq _ _ hl]
  unfold L2.start
  refine ⟨by simp [e], fun i p hp => ?_⟩
  rw [gt_eq] at hp
  by_cases hi : i < ps.length
  · rw [List.getElem?_append_left (by simpa using hi)] at hp
    rw [List.getElem?_append_left (by simp; omega)]
    rw [List.getElem?_map, List.getElem?_eq_getElem hi] at hp
    simp at hp
    subst hp
    obtain ⟨v, e1, r1⟩ := r.get (List.getElem?_eq_getElem hi)
    exact ⟨v, by rw [List.getElem?_map, e1]; rfl, r1⟩
  · rw [List.getElem?_append_right (by simp; omega)] at hp
    rw [List.getElem?_replicate] at hp
    split at hp <;> simp at hp
def ends (Q : PK) : PEnds := ⟨fun _ h => Q .non h, Q, fun _ _ => False, fun _ _ => False⟩
section
variable {P : Program} {w : World} {K : PySem.W.Frag} {mg : Str → Option Value} {base : Heap}
/-- THE RULE: from what the body does (m) to what the def does (sp) -/
theorem fn_ok {x qual : Str} {st : Stmt} {f : Addr} {fd : FuncData} {N ps : List Str} {k : Nat} {sp : SpP} {m : MS} (F : Fun K x qual st f fd) (S : FnScope N ps (defScope st))
    (hb : ∀ (cdv : Value) (A : Around) (outer : List Env) (s : Shared) (H : Hp) (E : XK), Room k (A.deeper (envOfC qual (defScope st) s.heap.objs.size f cdv)) → A.guards = some [] →
      LSs (cxOf CX0 P w K mg base N qual (defScope st) f cdv A outer s H E).nox (defBody st) m)
    (hm : ∀ qs h Q, qs.length = ps.length → sp qs h Q → m (ends Q) (sp0 N.length qs) h) : FnG P w K mg base (k + 1) f fd ps sp := by
  obtain ⟨oc, od, kV, doc, pm, an, cdv, ct, osl, rfl, lk, hcd⟩ := F.ex
  have hN : ps.length ≤ N.length := by
    have e := congrArg List.length S.pre
    rw [List.length_take] at e; omega
  refine ⟨fun A outer s H args us vs Q hr hG e0 hbi r ⟨qs, h, Q', hl, rr, sh, q, l⟩ => ?_⟩
  have lv : vs.length = ps.length := by rw [← rr.length, hl]
  have KX : K.In s.heap := e0.mod.kin.keeps fun b o e => (e0.bs b o e).1
  have hkind : ∀ y ∈ ps.zip us, (defScope st).names.lookup y.1 = some .local ∨ ((defScope st).names.lookup y.1 = some .cell ∧ ((cellsFrom (s.heap.objs.size + 1) (defScope st).names []).lookup y.1).isSome = true) := fun ⟨n, v⟩ hy =>
    (S.par n (List.of_mem_zip hy).1).imp id fun z => ⟨z, PySem.W.cellsFrom_some _ _ _ (.inl z)⟩
  refine codeAny_call_function hr.depth (KX _ _ lk) rfl S.co S.gen rfl (PySem.W.codeRec_of KX hcd) (hbi _ _ _ _ (wpAny_newFunctionEnv_cells S.kind hkind fun env he s1 x => ?_))
  subst he
  refine ⟨(e0.mod.nolimit.keeps fun b o e => (e0.bs b o e).1).keeps x.toInCall.keep, codeAny_func ?_⟩
  have I : Inv (cxOf CX0 P w K mg base N qual (defScope st) f cdv A outer s H E0) [] (L2.start N vs) H s1 := inv_start S hr.hd e0 lv r x
  have hrun := (hb cdv A outer s H E0 (hr.deeper _) hG).nox.run [] s1 (L2.start N vs) H { nx := fun _ H' => Q .non H', rt := Q } I
    ⟨sp0 N.length qs, h, ends Q', simS_start rr (by omega), sh, hm qs h Q' hl q, fun τ h1 σ H1 q1 g1 s1 sh1 => l _ _ _ _ q1 g1 (by simp only [Rel]) sh1, l, fun _ _ _ _ z => z.elim, fun _ _ _ _ z => z.elim⟩
  refine wpAny_mono hrun (fun fl s' hs => ?_) fun e s' hs => hs
  have fin : ∀ {σ' : L2.St} {H' : Hp} {v : V} {u : Value}, Inv (cxOf CX0 P w K mg base N qual (defScope st) f cdv A outer s H E0) [] σ' H' s' → RelV v u → Q v H' → CE outer P w H s Q u s' :=
    fun {σ' H' v u} J rv z => ⟨v, H', J.os, J.bare, J.base, J.hok, rv, z⟩
  cases fl with
  | ret u => obtain ⟨v, σ', H', J, rv, z⟩ := hs; exact fin J rv z
  | next => obtain ⟨σ', H', J, z⟩ := hs; exact fin (v := V.non) (u := Value.none) J rfl z
  | brk => obtain ⟨_, _, _, z⟩ := hs; exact False.elim z
  | cont => obtain ⟨_, _, _, z⟩ := hs; exact False.elim z
end

/-! ### numbers -/
abbrev SZ : Nat := 16777216
theorem sz_eq : (sizeLine : Nat) = 16777216 := sizeLine_eq
theorem sz_le {n : Nat} (h : n ≤ SZ) : n ≤ sizeLine := by rw [sz_eq]; exact h
theorem sz_lt {n : Nat} (h : n < SZ) : n < sizeLine := by rw [sz_eq]; exact h
section
variable {K : PySem.W.Frag} {H : Hp} {h : PH} {v : V} {i : Int} {x : Str} {b : Bool} {a : Addr}
theorem rel_int : Rel K H (.int i) v ↔ v = .int i := by simp only [Rel]
theorem rel_str : Rel K H (.str x) v ↔ v = .str x := by simp only [Rel]
theorem rel_bl : Rel K H (.bl b) v ↔ v = .bl b := by simp only [Rel]
theorem rel_non : Rel K H .non v ↔ v = .non := by simp only [Rel]
theorem rel_ref : Rel K H (.ref a) v ↔ v = .ref a := by simp only [Rel]
theorem rel_tup {ps : List PV} : Rel K H (.tup ps) v ↔ ∃ a xs, v = .ref a ∧ SqT K H a xs ∧ Rels K H ps xs := by simp only [Rel]
theorem rel_lst {ps : List PV} : Rel K H (.lst ps) v ↔ ∃ a xs, v = .ref a ∧ FrL K H a xs ∧ Rels K H ps xs := by simp only [Rel]
theorem rel_dct {ks : List Key} {vs : List PV} : Rel K H (.dct ks vs) v ↔ ∃ a kvs, v = .ref a ∧ FrD H a kvs ∧ ks = kvs.map (·.1) ∧ Rels K H vs (kvs.map (·.2)) := by simp only [Rel]
end
/-- the items of a list, kept or not -/
def seqL (h : PH) : PV → Option (List PV)
  | .lst xs => some xs
  | .ref a => match h a with | some (.lst xs) => some xs | _ => none
  | _ => none
theorem seqL_sq {K : PySem.W.Frag} {H : Hp} {h : PH} {p : PV} {v : V} {ps : List PV} (r : Rel K H p v) (s : Sim K H h) (e : seqL h p = some ps) : ∃ a xs, v = .ref a ∧ SqL K H a xs ∧ Rels K H ps xs := by
  cases p with
  | lst qs =>
    simp only [seqL, Option.some.injEq] at e
    subst e
    obtain ⟨a, xs, e1, f, rr⟩ := rel_lst.mp r
    exact ⟨a, xs, e1, f.sq, rr⟩
  | ref a =>
    have ev := rel_ref.mp r
    simp only [seqL] at e
    cases q : h a with
    | none => rw [q] at e; cases e
    | some o =>
      rw [q] at e
      cases o with
      | lst qs =>
        simp only [Option.some.injEq] at e
        subst e
        obtain ⟨u, e2, xs, rfl, rr⟩ := s a _ q
        exact ⟨a, xs, ev, .of e2, rr⟩
      | dct _ _ => cases e
      | ins _ _ _ => cases e
      | lck _ _ => cases e
  | _ => simp [seqL] at e
/-- list + list, whatever lists -/
def rCatL (K : PySem.W.Frag) : R2 := fun x y H Q => ∃ l b xs zs, x = .ref l ∧ y = .ref b ∧ SqL K H l xs ∧ SqL K H b zs ∧ xs.length + zs.length ≤ sizeLine ∧ ∀ p, H p = none → Q (.ref p) (upd H p (.lst (xs ++ zs)))
theorem op_catL {X : Cx} : OpR X (binaryOp .Add) (rCatL X.K) := by
  intro pins s σ H x y v u Q I rx ry h
  obtain ⟨l, b, xs, zs, rfl, rfl, hH, hB, hz, q⟩ := h
  cases rx
  cases ry
  obtain ⟨its, r, ⟨⟨cls, dd, data, sl⟩, n, ho, hc, hd0, hd⟩, _⟩ := I.list hH
  obtain ⟨its2, r2, ⟨⟨cls2, dd2, data2, sl2⟩, n2, ho2, hc2, hd02, hd2⟩, _⟩ := I.list hB
  simp only at hc hd hc2 hd2
  subst hc hd hc2 hd2
  have e : its.toArray ++ its2.toArray = (its ++ its2).toArray := by simp
  have hl := r.length
  have hl2 := r2.length
  refine concat_meets ⟨_, ho, rfl⟩ ⟨_, ho2, rfl⟩ noFill_list_add seq_list_add PySem.F.slot_list_add PySem.F.entry_list_add (PySem.F.args_list_add_2 _ _) (list_addW l b its.toArray its2.toArray n n2 dd dd2 sl sl2 (by simp; omega)) ⟨ho, ho2, ?_⟩
  rw [e]
  exact ⟨.ref _, _, I.lnew (t' := s.toks) (r.append r2) (by rw [List.length_append]; omega), rfl, q _ I.fresh⟩
end N3

namespace N3
open PySem PySem.Spec PyProof.Rows L2

/-! ### texts as lists of signs -/
def cl (x : Str) : List Nat := x.cps.toList
def S (l : List Nat) : Str := ⟨l.toArray⟩
theorem S_cl (x : Str) : S (cl x) = x := by cases x; rfl
theorem cl_S (l : List Nat) : cl (S l) = l := rfl
theorem cl_inj {x y : Str} (h : cl x = cl y) : x = y := by rw [← S_cl x, ← S_cl y, h]
theorem cl_length (x : Str) : x.length = (cl x).length := by show x.cps.size = _; simp [cl]
theorem cl_append (x y : Str) : cl (x ++ y) = cl x ++ cl y := by show (x.cps ++ y.cps).toList = _; simp [cl]
theorem S_length (l : List Nat) : (S l).length = l.length := by rw [cl_length, cl_S]
theorem S_append (l m : List Nat) : S l ++ S m = S (l ++ m) := cl_inj (by rw [cl_append, cl_S, cl_S, cl_S])

/-! ### + - * // % ** -/
def rAdd : PR2 := fun p q h Q => match p, q with
  | .int i, .int j => Q (.int (i + j)) h
  | .str x, .str y => x.length + y.length ≤ SZ ∧ Q (.str (x ++ y)) h
  | .tup xs, .tup ys => xs.length + ys.length ≤ SZ ∧ Q (.tup (xs ++ ys)) h
  | p, q => match seqL h p, seqL h q with
    | some xs, some ys => xs.length + ys.length ≤ SZ ∧ Q (.lst (xs ++ ys)) h
    | _, _ => False
def oAdd (K : PySem.W.Frag) : R2 := fun x y H Q => (((∃ i j, x = .int i ∧ y = .int j ∧ Q (.int (i + j)) H) ∨ (∃ i j, x = .str i ∧ y = .str j ∧ i.length + j.length ≤ sizeLine ∧ Q (.str (i ++ j)) H)) ∨ rCatA K x y H Q) ∨ rCatL K x y H Q
theorem op_addA {X : Cx} : OpR X (binaryOp .Add) (oAdd X.K) := ((op_add.or op_add_str).or op_catA).or op_catL
theorem kf_add {K : PySem.W.Frag} : Kf2 K (oAdd K) rAdd := by
  intro x y H p q h Q' Q rp rq s r l
  have lists : ∀ {xs ys : List PV}, seqL h p = some xs → seqL h q = some ys → xs.length + ys.length ≤ SZ → Q' (.lst (xs ++ ys)) h → oAdd K x y H (kQ Q) := fun {xs ys} e1 e2 hz z => by
    obtain ⟨a, us, ea, ha, ra⟩ := seqL_sq rp s e1
    obtain ⟨b, ws, eb, hb, rb⟩ := seqL_sq rq s e2
    refine .inr ⟨a, b, us, ws, ea, eb, ha, hb, ?_, fun c hc => keep_l l s (ra.append rb) z hc⟩
    rw [← ra.length, ← rb.length]; exact sz_le hz
  unfold rAdd at r
  split at r
  · have e1 := rel_int.mp rp
    have e2 := rel_int.mp rq
    exact .inl (.inl (.inl ⟨_, _, e1, e2, .inl (l _ _ _ _ r .refl (rel_int.mpr rfl) s)⟩))
  · have e1 := rel_str.mp rp
    have e2 := rel_str.mp rq
    exact .inl (.inl (.inr ⟨_, _, e1, e2, sz_le r.1, .inl (l _ _ _ _ r.2 .refl (rel_str.mpr rfl) s)⟩))
  · rename_i ps qs
    obtain ⟨a, xs, e1, h1, r1⟩ := rel_tup.mp rp
    obtain ⟨b, ys, e2, h2, r2⟩ := rel_tup.mp rq
    obtain ⟨hz, r⟩ := r
    refine .inl (.inr ⟨a, b, xs, ys, e1, e2, h1, h2, by rw [← r1.length, ← r2.length]; exact sz_le hz, fun e => .inl ?_, fun e e' => .inl ?_, fun e e' c hc => .inl (make_t l s (r1.append r2) r hc)⟩)
    · subst e
      have e0 := r1.length
      have e3 : ps = [] := List.length_eq_zero_iff.mp (by rw [e0]; rfl)
      rw [e3, List.nil_append] at r
      exact l _ _ _ _ r .refl (rel_tup.mpr ⟨b, ys, rfl, h2, r2⟩) s
    · subst e'
      have e0 := r2.length
      have e3 : qs = [] := List.length_eq_zero_iff.mp (by rw [e0]; rfl)
      rw [e3, List.append_nil] at r
      exact l _ _ _ _ r .refl (rel_tup.mpr ⟨a, xs, rfl, h1, r1⟩) s
  · split at r
    · rename_i e1 e2
      exact lists e1 e2 r.1 r.2
    · exact r.elim
/-- two ints -/
def rII (C : Int → Int → Prop) (g : Int → Int → Int) : PR2 := fun p q h Q => match p, q with
  | .int i, .int j => C i j ∧ Q (.int (g i j)) h
  | _, _ => False
def rII0 (g : Int → Int → Int) : PR2 := fun p q h Q => match p, q with
  | .int i, .int j => Q (.int (g i j)) h
  | _, _ => False
def rIB (g : Int → Int → Bool) : PR2 := fun p q h Q => match p, q with
  | .int i, .int j => Q (.bl (g i j)) h
  | _, _ => False
theorem kf_ii {K : PySem.W.Frag} {C : Int → Int → Prop} {g : Int → Int → Int} : Kf2 K (rI C fun i j => .int (g i j)) (rII C g) := by
  intro x y H p q h Q' Q rp rq s r l
  unfold rII at r
  split at r
  · exact ⟨_, _, rel_int.mp rp, rel_int.mp rq, r.1, .inl (l _ _ _ _ r.2 .refl (rel_int.mpr rfl) s)⟩
  · exact r.elim
theorem kf_ii0 {K : PySem.W.Frag} {g : Int → Int → Int} : Kf2 K (rI0 fun i j => .int (g i j)) (rII0 g) := by
  intro x y H p q h Q' Q rp rq s r l
  unfold rII0 at r
  split at r
  · exact ⟨_, _, rel_int.mp rp, rel_int.mp rq, .inl (l _ _ _ _ r .refl (rel_int.mpr rfl) s)⟩
  · exact r.elim
theorem lf_ib {K : PySem.W.Frag} {g : Int → Int → Bool} : Lf2 K (rI0 fun i j => .bl (g i j)) (rIB g) := by
  intro x y H p q h Q' Q rp rq s r l
  unfold rIB at r
  split at r
  · exact ⟨_, _, rel_int.mp rp, rel_int.mp rq, l _ _ _ _ r .refl (rel_bl.mpr rfl) s⟩
  · exact r.elim
abbrev rSub : PR2 := rII0 fun i j => i - j
/-- a divisor from 1 to 2^30 - 1 -/
abbrev rDiv : PR2 := rII CDiv fun i j => i / j
abbrev rMod : PR2 := rII (fun _ j => 0 < j) fun i j => i % j
abbrev rPow : PR2 := rII CPow fun i j => i ^ j.toNat
/-- * of ints, of a text and an int -/
def rMul : PR2 := fun p q h Q => match p, q with
  | .int i, .int j => CMul i j ∧ Q (.int (i * j)) h
  | .str x, .int n => n < 16777216 ∧ x.length * n.toNat ≤ SZ ∧ -16777216 ≤ n ∧ Q (.str (S (List.replicate n.toNat (cl x)).flatten)) h
  | .tup xs, .int n => 0 ≤ n ∧ n ≤ 1 ∧ Q (.tup (if n = 1 then xs else [])) h
  | _, _ => False
theorem mul_text (x : Str) (n : Int) : Txt.mul x n = S (List.replicate n.toNat (cl x)).flatten := by
  have key : ∀ (m : Nat) (acc : Array Nat), (List.replicate m x.cps).foldl (· ++ ·) acc = (acc.toList ++ (List.replicate m (cl x)).flatten).toArray := by
    intro m
    induction m with
    | zero => intro acc; simp
    | succ m ih => intro acc; rw [List.replicate_succ, List.foldl_cons, ih, List.replicate_succ, List.flatten_cons]; simp [cl]
  unfold Txt.mul
  by_cases h1 : n < 1
  · rw [if_pos h1, show n.toNat = 0 by omega]; rfl
  · rw [if_neg h1]
    by_cases h2 : (n == 1 || x.length == 0) = true
    · rw [if_pos h2]
      rcases (Bool.or_eq_true _ _).mp h2 with h | h
      · have e : n = 1 := by simpa using h
        subst e
        refine cl_inj ?_
        show cl x = (List.replicate 1 (cl x)).flatten
        simp
      · have e : cl x = [] := by
          have z : x.length = 0 := by simpa using h
          rw [cl_length] at z
          exact List.length_eq_zero_iff.mp z
        refine cl_inj ?_
        show cl x = (List.replicate n.toNat (cl x)).flatten
        rw [e]; simp
    · rw [if_neg h2, key]
      refine cl_inj ?_
      show _ = (List.replicate n.toNat (cl x)).flatten
      simp [cl]
def rMulS : R2 := fun x y H Q => ∃ a n, x = .str a ∧ y = .int n ∧ n < 16777216 ∧ a.length * n.toNat ≤ sizeLine ∧ -16777216 ≤ n ∧ Q (.str (S (List.replicate n.toNat (cl a)).flatten)) H
theorem op_mulS {X : Cx} : OpR X (binaryOp .Mult) rMulS := by
  intro pins s σ H x y v u Q I rx ry h
  obtain ⟨a, n, rfl, rfl, h1, h2, h3, q⟩ := h
  obtain ⟨t, rfl⟩ := rx
  obtain ⟨t', rfl⟩ := ry
  refine SB.mul ⟨?_, fun g1 g2 g3 => ?_, fun g1 g2 => ?_⟩ fun tt k => ?_
  · simp; omega
  · have hn : 1 ≤ n := by omega
    have hs := sz_eq
    have ha : a.length * n.toNat ≤ 16777216 := by rw [← hs]; exact h2
    have hb : a.length ≤ 16777216 := Nat.le_trans (Nat.le_mul_of_pos_right _ (by omega)) ha
    have g4 : (a.length : Int) * n ≤ 16777216 := by
      have e : ((a.length * n.toNat : Nat) : Int) = (a.length : Int) * n := by rw [Int.natCast_mul, Int.toNat_of_nonneg (by omega)]
      rw [← e]; omega
    have g5 : (a.length : Int) ≤ (2 ^ 63 - 1) / n := by
      refine (Int.le_ediv_iff_mul_le (by omega)).mpr ?_
      omega
    omega
  · unfold Builtin.Str.tooLong
    first
      | (have hs := sz_eq; simp; omega)
      | (simp [Builtin.Str.tooLong]; omega)
  · rw [mul_text]
    exact ⟨.str _, H, I.tok _, ⟨_, rfl⟩, q⟩
end N3

namespace N3
open PySem PySem.Spec PyProof.Rows L2

/-! ### == and != -/
/-- what is seen of a value: a list that may change is seen as it stands -/
def vw (h : PH) : PV → PV
  | .ref a => match h a with | some (.lst xs) => .lst xs | some (.dct ks vs) => .dct ks vs | _ => .ref a
  | p => p
def keyD : Key → PyData
  | .inl i => .int i
  | .inr x => .str x
mutual
def toD : PV → PyData
  | .bl b => .bool b
  | .int i => .int i
  | .str x => .str x
  | .tup ps => .tuple (toDs ps)
  | .lst ps => .list (toDs ps)
  | .dct ks vs => .dict ((ks.map keyD).zip (toDs vs))
  | _ => .none
def toDs : List PV → List PyData
  | [] => []
  | p :: ps => toD p :: toDs ps
end
mutual
/-- data without dicts and objects -/
def flat : PV → Bool
  | .non => true
  | .bl _ => true
  | .int _ => true
  | .str _ => true
  | .tup ps => flats ps
  | .lst ps => flats ps
  | _ => false
def flats : List PV → Bool
  | [] => true
  | p :: ps => flat p && flats ps
end
section
variable {K : PySem.W.Frag} {H : Hp}
mutual
theorem Rel.dp : ∀ (p : PV) (v : V), flat p = true → Rel K H p v → Dp K H v (toD p)
  | .non, v, _, r => by rw [rel_non.mp r]; exact .non
  | .bl b, v, _, r => by rw [rel_bl.mp r]; exact .bl b
  | .int i, v, _, r => by rw [rel_int.mp r]; exact .int i
  | .str x, v, _, r => by rw [rel_str.mp r]; exact .str x
  | .tup ps, v, f, r => by
    obtain ⟨a, xs, rfl, h, rr⟩ := rel_tup.mp r
    simp only [flat] at f
    simp only [toD]
    exact .tup h (Rels.dp ps xs f rr)
  | .lst ps, v, f, r => by
    obtain ⟨a, xs, rfl, h, rr⟩ := rel_lst.mp r
    simp only [flat] at f
    simp only [toD]
    exact .lst h.sq (Rels.dp ps xs f rr)
  | .dct _ _, _, f, _ => by simp [flat] at f
  | .ref _, _, f, _ => by simp [flat] at f
  | .ty _, _, f, _ => by simp [flat] at f
theorem Rels.dp : ∀ (ps : List PV) (xs : List V), flats ps = true → Rels K H ps xs → DpAll K H xs (toDs ps)
  | [], _, _, r => by rw [r.len0]; simp only [toDs]; exact .nil
  | p :: ps, _, f, r => by
    obtain ⟨v, vs, rfl, r1, r2⟩ := r.uncons
    simp only [flats, Bool.and_eq_true] at f
    simp only [toDs]
    exact .cons (Rel.dp p v f.1 r1) (Rels.dp ps vs f.2 r2)
end
/-- a list, kept or not, as data -/
theorem vw_dp {h : PH} {p : PV} {v : V} (f : flat (vw h p) = true) (r : Rel K H p v) (s : Sim K H h) : Dp K H v (toD (vw h p)) := by
  cases p with
  | ref a =>
    have ev := rel_ref.mp r
    subst ev
    simp only [vw] at f ⊢
    cases e : h a with
    | none => rw [e] at f; simp [flat] at f
    | some o =>
      simp only [e] at f ⊢
      cases o with
      | lst xs =>
        obtain ⟨u, e1, ys, rfl, rr⟩ := s a _ e
        simp only [flat] at f
        simp only [toD]
        exact .lst (SqL.of e1) (Rels.dp xs ys f rr)
      | dct _ _ => simp [flat] at f
      | ins _ _ _ => simp [flat] at f
      | lck _ _ => simp [flat] at f
  | _ => exact Rel.dp _ _ f r
end
mutual
theorem noDict : ∀ p : PV, flat p = true → (toD p).hasDict = false
  | .non, _ => by simp only [toD, PyData.hasDict]
  | .bl _, _ => by simp only [toD, PyData.hasDict]
  | .int _, _ => by simp only [toD, PyData.hasDict]
  | .str _, _ => by simp only [toD, PyData.hasDict]
  | .tup ps, f => by simp only [toD, PyData.hasDict]; exact noDicts ps (by simpa only [flat] using f)
  | .lst ps, f => by simp only [toD, PyData.hasDict]; exact noDicts ps (by simpa only [flat] using f)
  | .dct _ _, f => by simp [flat] at f
  | .ref _, f => by simp [flat] at f
  | .ty _, f => by simp [flat] at f
theorem noDicts : ∀ ps : List PV, flats ps = true → PyData.hasDictAll (toDs ps) = false
  | [], _ => by simp only [toDs, PyData.hasDictAll]
  | p :: ps, f => by
    simp only [flats, Bool.and_eq_true] at f
    simp only [toDs, PyData.hasDictAll, noDict p f.1, noDicts ps f.2, Bool.or_false]
end
mutual
theorem one_reading {h : Heap} : ∀ (d e : PyData) (v : Value) (as bs : List Addr), d.hasDict = false → e.hasDict = false → Reads h v d as → Reads h v e bs → d = e
  | .none, _, _, _, _, _, _, r, q => by cases r; cases q; rfl
  | .bool _, _, _, _, _, _, _, r, q => by cases r; cases q; rfl
  | .int _, _, _, _, _, _, _, r, q => by cases r; cases q; rfl
  | .str _, _, _, _, _, _, _, r, q => by cases r; cases q; rfl
  | .list xs, _, _, _, _, hd, he, r, q => by
    cases r with
    | list h1 h2 h3 h4 =>
      cases q with
      | list k1 k2 k3 k4 =>
        rw [h1] at k1; cases k1
        rw [h3] at k3; cases k3
        rw [one_readings xs _ _ _ _ (by simpa only [PyData.hasDict] using hd) (by simpa only [PyData.hasDict] using he) h4 k4]
      | tuple k1 k2 k3 k4 => rw [h1] at k1; cases k1; rw [h2] at k2; exact absurd (Value.type.inj k2) (by decide)
      | dict k1 k2 k3 k4 k5 => rw [h1] at k1; cases k1; rw [h2] at k2; exact absurd (Value.type.inj k2) (by decide)
  | .tuple xs, _, _, _, _, hd, he, r, q => by
    cases r with
    | tuple h1 h2 h3 h4 =>
      cases q with
      | tuple k1 k2 k3 k4 =>
        rw [h1] at k1; cases k1
        rw [h3] at k3; cases k3
        rw [one_readings xs _ _ _ _ (by simpa only [PyData.hasDict] using hd) (by simpa only [PyData.hasDict] using he) h4 k4]
      | list k1 k2 k3 k4 => rw [h1] at k1; cases k1; rw [h2] at k2; exact absurd (Value.type.inj k2) (by decide)
      | dict k1 k2 k3 k4 k5 => rw [h1] at k1; cases k1; rw [h2] at k2; exact absurd (Value.type.inj k2) (by decide)
  | .dict _, _, _, _, _, hd, _, _, _ => by simp [PyData.hasDict] at hd
theorem one_readings {h : Heap} : ∀ (ds es : List PyData) (vs : List Value) (as bs : List Addr), PyData.hasDictAll ds = false → PyData.hasDictAll es = false → ReadsAll h vs ds as → ReadsAll h vs es bs → ds = es
  | [], _, _, _, _, _, _, r, q => by cases r; cases q; rfl
  | d :: ds, _, _, _, _, hd, he, r, q => by
    cases r with
    | cons r1 r2 =>
      cases q with
      | cons q1 q2 =>
        simp only [PyData.hasDictAll, Bool.or_eq_false_iff] at hd he
        rw [one_reading d _ _ _ _ hd.1 he.1 r1 q1, one_readings ds _ _ _ _ hd.2 he.2 r2 q2]
end
mutual
theorem eqv_self : ∀ d : PyData, d.hasDict = false → PyData.eqv d d = true
  | .none, _ => rfl
  | .bool b, _ => by simp [PyData.eqv]
  | .int i, _ => by simp [PyData.eqv]
  | .str x, _ => by simp [PyData.eqv]
  | .list xs, h => by rw [PyData.eqv]; exact eqvs_self xs (by simpa only [PyData.hasDict] using h)
  | .tuple xs, h => by rw [PyData.eqv]; exact eqvs_self xs (by simpa only [PyData.hasDict] using h)
  | .dict _, h => by simp [PyData.hasDict] at h
theorem eqvs_self : ∀ xs : List PyData, PyData.hasDictAll xs = false → PyData.eqvAll xs xs = true
  | [], _ => rfl
  | x :: xs, h => by
    simp only [PyData.hasDictAll, Bool.or_eq_false_iff] at h
    rw [PyData.eqvAll, eqv_self x h.1, eqvs_self xs h.2]; rfl
end
section
open SeqAt
mutual
theorem eqR : ∀ (d e : PyData) (A : Around) (s : Shared) (v u : Value) (as bs : List Addr), A.units + d.depth < cLine → Reads s.heap v d as → d.hasDict = false → Reads s.heap u e bs → e.hasDict = false → EqAt A s v u (PyData.eqv d e)
  | .none, _, A, s, _, _, _, _, hu, ra, _, rb, hb => by
    cases ra
    cases rb with
    | list k1 k2 k3 k4 => exact EqAt.none_list ⟨_, k1, k2, _, k3⟩ (by omega)
    | tuple k1 k2 k3 k4 => exact EqAt.none_tuple ⟨_, k1, k2, _, k3⟩ (by omega)
    | dict k1 k2 k3 k4 k5 => simp [PyData.hasDict] at hb
    | none => exact EqAt.same Value.none
    | bool y => exact EqAt.none_bool y
    | int y w => exact EqAt.none_int y w
    | str y w => exact EqAt.none_str y w
  | .bool x, _, A, s, _, _, _, _, hu, ra, _, rb, hb => by
    cases ra
    cases rb with
    | list k1 k2 k3 k4 => exact EqAt.bool_list x ⟨_, k1, k2, _, k3⟩ (by omega)
    | tuple k1 k2 k3 k4 => exact EqAt.bool_tuple x ⟨_, k1, k2, _, k3⟩ (by omega)
    | dict k1 k2 k3 k4 k5 => simp [PyData.hasDict] at hb
    | none => exact EqAt.bool_none x
    | bool y => exact EqAt.bool_bool x y
    | int y w => exact EqAt.bool_int x y w
    | str y w => exact EqAt.bool_str x y w
  | .int x, _, A, s, _, _, _, _, hu, ra, _, rb, hb => by
    cases ra
    cases rb with
    | list k1 k2 k3 k4 => exact EqAt.int_list x _ ⟨_, k1, k2, _, k3⟩ (by omega)
    | tuple k1 k2 k3 k4 => exact EqAt.int_tuple x _ ⟨_, k1, k2, _, k3⟩ (by omega)
    | dict k1 k2 k3 k4 k5 => simp [PyData.hasDict] at hb
    | none => exact EqAt.int_none x _
    | bool y => exact EqAt.int_bool x _ y
    | int y w => exact EqAt.int_int x _ y w
    | str y w => exact EqAt.int_str x _ y w
  | .str x, _, A, s, _, _, _, _, hu, ra, _, rb, hb => by
    cases ra
    cases rb with
    | list k1 k2 k3 k4 => exact EqAt.str_list x _ ⟨_, k1, k2, _, k3⟩ (by omega)
    | tuple k1 k2 k3 k4 => exact EqAt.str_tuple x _ ⟨_, k1, k2, _, k3⟩ (by omega)
    | dict k1 k2 k3 k4 k5 => simp [PyData.hasDict] at hb
    | none => exact EqAt.str_none x _
    | bool y => exact EqAt.str_bool x _ y
    | int y w => exact EqAt.str_int x _ y w
    | str y w => exact EqAt.str_str x _ y w
  | .list xs, _, A, s, _, _, _, _, hu, ra, ha, rb, hb => by
    cases ra with
    | @list l o vs n _ a1 h1 h2 h3 h4 =>
      have hl : s.heap.IsList l vs := ⟨_, h1, h2, _, h3⟩
      simp only [PyData.depth] at hu
      simp only [PyData.hasDict] at ha
      cases rb with
      | @list l' o' vs' n' ys b1 k1 k2 k3 k4 =>
        have hl' : s.heap.IsList l' vs' := ⟨_, k1, k2, _, k3⟩
        simp only [PyData.hasDict] at hb
        have n1 : vs.size = xs.length := by simpa using ReadsAll.length _ _ _ h4
        have n2 : vs'.size = ys.length := by simpa using ReadsAll.length _ _ _ k4
        show EqAt A s (.ref l) (.ref l') (PyData.eqvAll xs ys)
        by_cases hll : l = l'
        · subst hll
          rw [h1] at k1; cases k1
          rw [h3] at k3; cases k3
          rw [← one_readings xs ys _ _ _ ha hb h4 k4, eqvs_self xs ha]
          exact EqAt.same _
        · by_cases hsz : vs.size = vs'.size
          · rw [← eqvAll_same_length (by omega : xs.length = ys.length), ← n1]
            refine EqAt.of_refs hll (RcAt.lists hl hl' hsz (by omega) fun j j1 j2 => ?_)
            have := eqRs xs ys A.in1 s vs.toList vs'.toList _ _ (by show A.units + 1 + _ < _; omega) h4 ha k4 hb j (by simpa using j1) (by simpa using j2)
            simpa using this
          · rw [eqvAll_other_length (by omega : xs.length ≠ ys.length)]
            exact EqAt.of_refs hll (RcAt.lists_lengths hl hl' (by simpa using hsz) (by omega))
      | tuple k1 k2 k3 k4 => exact EqAt.list_tuple hl ⟨_, k1, k2, _, k3⟩ (by omega)
      | dict k1 k2 k3 k4 k5 => simp [PyData.hasDict] at hb
      | none => exact EqAt.list_none hl (by omega)
      | bool y => exact EqAt.list_bool y hl (by omega)
      | int y w => exact EqAt.list_int y w hl (by omega)
      | str y w => exact EqAt.list_str y w hl (by omega)
  | .tuple xs, _, A, s, _, _, _, _, hu, ra, ha, rb, hb => by
    cases ra with
    | @tuple l o vs n _ a1 h1 h2 h3 h4 =>
      have hl : s.heap.IsTuple l vs := ⟨_, h1, h2, _, h3⟩
      simp only [PyData.depth] at hu
      simp only [PyData.hasDict] at ha
      cases rb with
      | @tuple l' o' vs' n' ys b1 k1 k2 k3 k4 =>
        have hl' : s.heap.IsTuple l' vs' := ⟨_, k1, k2, _, k3⟩
        simp only [PyData.hasDict] at hb
        have n1 : vs.size = xs.length := by simpa using ReadsAll.length _ _ _ h4
        have n2 : vs'.size = ys.length := by simpa using ReadsAll.length _ _ _ k4
        show EqAt A s (.ref l) (.ref l') (PyData.eqvAll xs ys)
        by_cases hll : l = l'
        · subst hll
          rw [h1] at k1; cases k1
          rw [h3] at k3; cases k3
          rw [← one_readings xs ys _ _ _ ha hb h4 k4, eqvs_self xs ha]
          exact EqAt.same _
        · rw [← eqvAll_eq xs ys, ← n1, ← n2]
          refine EqAt.of_refs hll (RcAt.tuples hl hl' (by omega) fun j j1 j2 => ?_)
          have := eqRs xs ys A.in1 s vs.toList vs'.toList _ _ (by show A.units + 1 + _ < _; omega) h4 ha k4 hb j (by simpa using j1) (by simpa using j2)
          simpa using this
      | list k1 k2 k3 k4 => exact EqAt.tuple_list hl ⟨_, k1, k2, _, k3⟩ (by omega)
      | dict k1 k2 k3 k4 k5 => simp [PyData.hasDict] at hb
      | none => exact EqAt.tuple_none hl (by omega)
      | bool y => exact EqAt.tuple_bool y hl (by omega)
      | int y w => exact EqAt.tuple_int y w hl (by omega)
      | str y w => exact EqAt.tuple_str y w hl (by omega)
  | .dict _, _, _, _, _, _, _, _, _, _, ha, _, _ => by simp [PyData.hasDict] at ha
theorem eqRs : ∀ (xs ys : List PyData) (A : Around) (s : Shared) (vs ws : List Value) (as bs : List Addr), A.units + PyData.depthAll xs < cLine → ReadsAll s.heap vs xs as → PyData.hasDictAll xs = false → ReadsAll s.heap ws ys bs → PyData.hasDictAll ys = false →
    ∀ j (h1 : j < vs.length) (h2 : j < ws.length), EqAt A s vs[j] ws[j] (pairEq xs ys j)
  | [], _, _, _, _, _, _, _, _, ra, _, _, _, j, h1, _ => by cases ra; exact absurd h1 (Nat.not_lt_zero _)
  | _ :: _, [], _, _, _, _, _, _, _, _, _, rb, _, j, _, h2 => by cases rb; exact absurd h2 (Nat.not_lt_zero _)
  | x :: xs, y :: ys, A, s, _, _, _, _, hu, ra, ha, rb, hb, j, h1, h2 => by
    simp only [PyData.hasDictAll, Bool.or_eq_false_iff] at ha hb
    simp only [PyData.depthAll] at hu
    have u1 : A.units + x.depth < cLine := Nat.lt_of_le_of_lt (Nat.add_le_add_left (Nat.le_max_left _ _) _) hu
    have u2 : A.units + PyData.depthAll xs < cLine := Nat.lt_of_le_of_lt (Nat.add_le_add_left (Nat.le_max_right _ _) _) hu
    cases ra with
    | cons r rs =>
      cases rb with
      | cons r' rs' =>
        cases j with
        | zero => exact eqR x y A s _ _ _ _ u1 r ha.1 r' hb.1
        | succ j => exact eqRs xs ys A s _ _ _ _ u2 rs ha.2 rs' hb.2 j (by simpa using h1) (by simpa using h2)
end
end
section
open SeqAt
theorem rcR (d e : PyData) (A : Around) (s : Shared) (v u : Value) (as bs : List Addr) (hu : A.units + d.depth < cLine) (ra : Reads s.heap v d as) (ha : d.hasDict = false) (rb : Reads s.heap u e bs) (hb : e.hasDict = false) : RcAt A s v u (PyData.eqv d e) := by
  cases ra with
  | none =>
    cases rb with
    | none => exact RcAt.none_none
    | bool y => exact RcAt.none_bool y
    | int y w => exact RcAt.none_int y w
    | str y w => exact RcAt.none_str y w
    | list k1 k2 k3 k4 => exact RcAt.none_list ⟨_, k1, k2, _, k3⟩ (by omega)
    | tuple k1 k2 k3 k4 => exact RcAt.none_tuple ⟨_, k1, k2, _, k3⟩ (by omega)
    | dict k1 k2 k3 k4 k5 => simp [PyData.hasDict] at hb
  | bool x =>
    cases rb with
    | none => exact RcAt.bool_none x
    | bool y => exact RcAt.bool_bool x y
    | int y w => exact RcAt.bool_int x y w
    | str y w => exact RcAt.bool_str x y w
    | list k1 k2 k3 k4 => exact RcAt.bool_list x ⟨_, k1, k2, _, k3⟩ (by omega)
    | tuple k1 k2 k3 k4 => exact RcAt.bool_tuple x ⟨_, k1, k2, _, k3⟩ (by omega)
    | dict k1 k2 k3 k4 k5 => simp [PyData.hasDict] at hb
  | int x t =>
    cases rb with
    | none => exact RcAt.int_none x t
    | bool y => exact RcAt.int_bool x t y
    | int y w => exact RcAt.int_int x t y w
    | str y w => exact RcAt.int_str x t y w
    | list k1 k2 k3 k4 => exact RcAt.int_list x t ⟨_, k1, k2, _, k3⟩ (by omega)
    | tuple k1 k2 k3 k4 => exact RcAt.int_tuple x t ⟨_, k1, k2, _, k3⟩ (by omega)
    | dict k1 k2 k3 k4 k5 => simp [PyData.hasDict] at hb
  | str x t =>
    cases rb with
    | none => exact RcAt.str_none x t
    | bool y => exact RcAt.str_bool x t y
    | int y w => exact RcAt.str_int x t y w
    | str y w => exact RcAt.str_str x t y w
    | list k1 k2 k3 k4 => exact RcAt.str_list x t ⟨_, k1, k2, _, k3⟩ (by omega)
    | tuple k1 k2 k3 k4 => exact RcAt.str_tuple x t ⟨_, k1, k2, _, k3⟩ (by omega)
    | dict k1 k2 k3 k4 k5 => simp [PyData.hasDict] at hb
  | @list l o vs n xs a1 h1 h2 h3 h4 =>
    have hl : s.heap.IsList l vs := ⟨_, h1, h2, _, h3⟩
    simp only [PyData.depth] at hu
    simp only [PyData.hasDict] at ha
    cases rb with
    | none => exact RcAt.list_none hl (by omega)
    | bool y => exact RcAt.list_bool y hl (by omega)
    | int y w => exact RcAt.list_int y w hl (by omega)
    | str y w => exact RcAt.list_str y w hl (by omega)
    | tuple k1 k2 k3 k4 => exact RcAt.list_tuple hl ⟨_, k1, k2, _, k3⟩ (by omega)
    | dict k1 k2 k3 k4 k5 => simp [PyData.hasDict] at hb
    | @list l' o' vs' n' ys b1 k1 k2 k3 k4 =>
      have hl' : s.heap.IsList l' vs' := ⟨_, k1, k2, _, k3⟩
      simp only [PyData.hasDict] at hb
      have n1 : vs.size = xs.length := by simpa using ReadsAll.length _ _ _ h4
      have n2 : vs'.size = ys.length := by simpa using ReadsAll.length _ _ _ k4
      have he : ∀ j (j1 : j < vs.size) (j2 : j < vs'.size), EqAt A.in1 s vs[j] vs'[j] (pairEq xs ys j) := fun j j1 j2 => by
        have z := eqRs xs ys A.in1 s vs.toList vs'.toList _ _ (by show A.units + 1 + _ < _; omega) h4 ha k4 hb j (by simpa using j1) (by simpa using j2)
        simpa using z
      show RcAt A s (.ref l) (.ref l') (PyData.eqvAll xs ys)
      by_cases hsz : vs.size = vs'.size
      · rw [← eqvAll_same_length (by omega : xs.length = ys.length), ← n1]
        exact RcAt.lists hl hl' hsz (by omega) he
      · rw [eqvAll_other_length (by omega : xs.length ≠ ys.length)]
        exact RcAt.lists_lengths hl hl' (by simpa using hsz) (by omega)
  | @tuple l o vs n xs a1 h1 h2 h3 h4 =>
    have hl : s.heap.IsTuple l vs := ⟨_, h1, h2, _, h3⟩
    simp only [PyData.depth] at hu
    simp only [PyData.hasDict] at ha
    cases rb with
    | none => exact RcAt.tuple_none hl (by omega)
    | bool y => exact RcAt.tuple_bool y hl (by omega)
    | int y w => exact RcAt.tuple_int y w hl (by omega)
    | str y w => exact RcAt.tuple_str y w hl (by omega)
    | list k1 k2 k3 k4 => exact RcAt.tuple_list hl ⟨_, k1, k2, _, k3⟩ (by omega)
    | dict k1 k2 k3 k4 k5 => simp [PyData.hasDict] at hb
    | @tuple l' o' vs' n' ys b1 k1 k2 k3 k4 =>
      have hl' : s.heap.IsTuple l' vs' := ⟨_, k1, k2, _, k3⟩
      simp only [PyData.hasDict] at hb
      have n1 : vs.size = xs.length := by simpa using ReadsAll.length _ _ _ h4
      have n2 : vs'.size = ys.length := by simpa using ReadsAll.length _ _ _ k4
      have he : ∀ j (j1 : j < vs.size) (j2 : j < vs'.size), EqAt A.in1 s vs[j] vs'[j] (pairEq xs ys j) := fun j j1 j2 => by
        have z := eqRs xs ys A.in1 s vs.toList vs'.toList _ _ (by show A.units + 1 + _ < _; omega) h4 ha k4 hb j (by simpa using j1) (by simpa using j2)
        simpa using z
      show RcAt A s (.ref l) (.ref l') (PyData.eqvAll xs ys)
      rw [← eqvAll_eq xs ys, ← n1, ← n2]
      exact RcAt.tuples hl hl' (by omega) he
  | dict k1 k2 k3 k4 k5 => simp [PyData.hasDict] at ha
theorem neR (d e : PyData) (A : Around) (s : Shared) (v u : Value) (as bs : List Addr) (hu : A.units + d.depth < cLine) (ra : Reads s.heap v d as) (ha : d.hasDict = false) (rb : Reads s.heap u e bs) (hb : e.hasDict = false) : RcNeAt A s v u (!PyData.eqv d e) := by
  cases ra with
  | none =>
    cases rb with
    | none => exact RcNeAt.none_none
    | bool y => exact RcNeAt.none_bool y
    | int y w => exact RcNeAt.none_int y w
    | str y w => exact RcNeAt.none_str y w
    | list k1 k2 k3 k4 => exact RcNeAt.none_list ⟨_, k1, k2, _, k3⟩ (by omega)
    | tuple k1 k2 k3 k4 => exact RcNeAt.none_tuple ⟨_, k1, k2, _, k3⟩ (by omega)
    | dict k1 k2 k3 k4 k5 => simp [PyData.hasDict] at hb
  | bool x =>
    cases rb with
    | none => exact RcNeAt.bool_none x
    | bool y => exact RcNeAt.bool_bool x y
    | int y w => exact RcNeAt.bool_int x y w
    | str y w => exact RcNeAt.bool_str x y w
    | list k1 k2 k3 k4 => exact RcNeAt.bool_list x ⟨_, k1, k2, _, k3⟩ (by omega)
    | tuple k1 k2 k3 k4 => exact RcNeAt.bool_tuple x ⟨_, k1, k2, _, k3⟩ (by omega)
    | dict k1 k2 k3 k4 k5 => simp [PyData.hasDict] at hb
  | int x t =>
    cases rb with
    | none => exact RcNeAt.int_none x t
    | bool y => exact RcNeAt.int_bool x t y
    | int y w => exact RcNeAt.int_int x t y w
    | str y w => exact RcNeAt.int_str x t y w
    | list k1 k2 k3 k4 => exact RcNeAt.int_list x t ⟨_, k1, k2, _, k3⟩ (by omega)
    | tuple k1 k2 k3 k4 => exact RcNeAt.int_tuple x t ⟨_, k1, k2, _, k3⟩ (by omega)
    | dict k1 k2 k3 k4 k5 => simp [PyData.hasDict] at hb
  | str x t =>
    cases rb with
    | none => exact RcNeAt.str_none x t
    | bool y => exact RcNeAt.str_bool x t y
    | int y w => exact RcNeAt.str_int x t y w
    | str y w => exact RcNeAt.str_str x t y w
    | list k1 k2 k3 k4 => exact RcNeAt.str_list x t ⟨_, k1, k2, _, k3⟩ (by omega)
    | tuple k1 k2 k3 k4 => exact RcNeAt.str_tuple x t ⟨_, k1, k2, _, k3⟩ (by omega)
    | dict k1 k2 k3 k4 k5 => simp [PyData.hasDict] at hb
  | @list l o vs n xs a1 h1 h2 h3 h4 =>
    have hl : s.heap.IsList l vs := ⟨_, h1, h2, _, h3⟩
    simp only [PyData.depth] at hu
    simp only [PyData.hasDict] at ha
    cases rb with
    | none => exact RcNeAt.list_none hl (by omega)
    | bool y => exact RcNeAt.list_bool y hl (by omega)
    | int y w => exact RcNeAt.list_int y w hl (by omega)
    | str y w => exact RcNeAt.list_str y w hl (by omega)
    | tuple k1 k2 k3 k4 => exact RcNeAt.list_tuple hl ⟨_, k1, k2, _, k3⟩ (by omega)
    | dict k1 k2 k3 k4 k5 => simp [PyData.hasDict] at hb
    | @list l' o' vs' n' ys b1 k1 k2 k3 k4 =>
      have hl' : s.heap.IsList l' vs' := ⟨_, k1, k2, _, k3⟩
      simp only [PyData.hasDict] at hb
      have n1 : vs.size = xs.length := by simpa using ReadsAll.length _ _ _ h4
      have n2 : vs'.size = ys.length := by simpa using ReadsAll.length _ _ _ k4
      have he : ∀ j (j1 : j < vs.size) (j2 : j < vs'.size), EqAt A.in1 s vs[j] vs'[j] (pairEq xs ys j) := fun j j1 j2 => by
        have z := eqRs xs ys A.in1 s vs.toList vs'.toList _ _ (by show A.units + 1 + _ < _; omega) h4 ha k4 hb j (by simpa using j1) (by simpa using j2)
        simpa using z
      show RcNeAt A s (.ref l) (.ref l') (!PyData.eqvAll xs ys)
      by_cases hsz : vs.size = vs'.size
      · rw [← eqvAll_same_length (by omega : xs.length = ys.length), ← n1]
        exact RcNeAt.lists hl hl' hsz (by omega) he
      · rw [eqvAll_other_length (by omega : xs.length ≠ ys.length)]
        exact RcNeAt.lists_lengths hl hl' (by simpa using hsz) (by omega)
  | @tuple l o vs n xs a1 h1 h2 h3 h4 =>
    have hl : s.heap.IsTuple l vs := ⟨_, h1, h2, _, h3⟩
    simp only [PyData.depth] at hu
    simp only [PyData.hasDict] at ha
    cases rb with
    | none => exact RcNeAt.tuple_none hl (by omega)
    | bool y => exact RcNeAt.tuple_bool y hl (by omega)
    | int y w => exact RcNeAt.tuple_int y w hl (by omega)
    | str y w => exact RcNeAt.tuple_str y w hl (by omega)
    | list k1 k2 k3 k4 => exact RcNeAt.tuple_list hl ⟨_, k1, k2, _, k3⟩ (by omega)
    | dict k1 k2 k3 k4 k5 => simp [PyData.hasDict] at hb
    | @tuple l' o' vs' n' ys b1 k1 k2 k3 k4 =>
      have hl' : s.heap.IsTuple l' vs' := ⟨_, k1, k2, _, k3⟩
      simp only [PyData.hasDict] at hb
      have n1 : vs.size = xs.length := by simpa using ReadsAll.length _ _ _ h4
      have n2 : vs'.size = ys.length := by simpa using ReadsAll.length _ _ _ k4
      have he : ∀ j (j1 : j < vs.size) (j2 : j < vs'.size), EqAt A.in1 s vs[j] vs'[j] (pairEq xs ys j) := fun j j1 j2 => by
        have z := eqRs xs ys A.in1 s vs.toList vs'.toList _ _ (by show A.units + 1 + _ < _; omega) h4 ha k4 hb j (by simpa using j1) (by simpa using j2)
        simpa using z
      show RcNeAt A s (.ref l) (.ref l') (!PyData.eqvAll xs ys)
      rw [← eqvAll_eq xs ys, ← n1, ← n2]
      exact RcNeAt.tuples hl hl' (by omega) he
  | dict k1 k2 k3 k4 k5 => simp [PyData.hasDict] at ha
end

/-- == and != of data -/
def rEq : PR2 := fun p q h Q => flat (vw h p) = true ∧ flat (vw h q) = true ∧ (toD (vw h p)).depth ≤ 64 ∧ Q (.bl (PyData.eqv (toD (vw h p)) (toD (vw h q)))) h
def rNe : PR2 := fun p q h Q => flat (vw h p) = true ∧ flat (vw h q) = true ∧ (toD (vw h p)).depth ≤ 64 ∧ Q (.bl (!PyData.eqv (toD (vw h p)) (toD (vw h q)))) h
def oEq (K : PySem.W.Frag) : R2 := fun x y H Q => ∃ d e, Dp K H x d ∧ Dp K H y e ∧ d.hasDict = false ∧ e.hasDict = false ∧ d.depth ≤ 64 ∧ Q (.bl (PyData.eqv d e)) H
def oNe (K : PySem.W.Frag) : R2 := fun x y H Q => ∃ d e, Dp K H x d ∧ Dp K H y e ∧ d.hasDict = false ∧ e.hasDict = false ∧ d.depth ≤ 64 ∧ Q (.bl (!PyData.eqv d e)) H
theorem op_eqA {X : Cx} (hu : X.A.units + 64 < cLine) : OpR X (compareOp .Eq) (oEq X.K) := by
  intro pins s σ H x y v u Q I rx ry h
  obtain ⟨d, e, hd, he, fd, fe, hz, q⟩ := h
  obtain ⟨as, r1⟩ := Dp.reads I d x v hd rx
  obtain ⟨bs, r2⟩ := Dp.reads I e y u he ry
  exact rcR d e X.A s v u as bs (by omega) r1 fd r2 fe X.prog X.w X.xe _ ⟨.bl _, H, I, rfl, q⟩
theorem op_neA {X : Cx} (hu : X.A.units + 64 < cLine) : OpR X (compareOp .NotEq) (oNe X.K) := by
  intro pins s σ H x y v u Q I rx ry h
  obtain ⟨d, e, hd, he, fd, fe, hz, q⟩ := h
  obtain ⟨as, r1⟩ := Dp.reads I d x v hd rx
  obtain ⟨bs, r2⟩ := Dp.reads I e y u he ry
  exact neR d e X.A s v u as bs (by omega) r1 fd r2 fe X.prog X.w X.xe _ ⟨.bl _, H, I, rfl, q⟩
theorem lf_eq {K : PySem.W.Frag} : Lf2 K (oEq K) rEq := by
  intro x y H p q h Q' Q rp rq s r l
  obtain ⟨f1, f2, hz, r⟩ := r
  exact ⟨_, _, vw_dp f1 rp s, vw_dp f2 rq s, noDict _ f1, noDict _ f2, hz, l _ _ _ _ r .refl (rel_bl.mpr rfl) s⟩
theorem lf_ne {K : PySem.W.Frag} : Lf2 K (oNe K) rNe := by
  intro x y H p q h Q' Q rp rq s r l
  obtain ⟨f1, f2, hz, r⟩ := r
  exact ⟨_, _, vw_dp f1 rp s, vw_dp f2 rq s, noDict _ f1, noDict _ f2, hz, l _ _ _ _ r .refl (rel_bl.mpr rfl) s⟩
end N3

namespace N3
open PySem PySem.Spec PyProof.Rows L2

/-! ### dicts by their keys -/
def lk : List Key → List PV → Key → Option PV
  | k' :: ks, v :: vs, k => if k' = k then some v else lk ks vs k
  | _, _, _ => none
def hasK (ks : List Key) (k : Key) : Bool := ks.any fun k' => decide (k' = k)
def pk (ks : List Key) (k : Key) : List Key := if hasK ks k = true then ks else ks ++ [k]
def pvs (ks : List Key) (vs : List PV) (k : Key) (v : PV) : List PV := if hasK ks k = true then List.zipWith (fun k' x => if k' = k then v else x) ks vs else vs ++ [v]
def kOf : PV → Option Key
  | .int i => some (.inl i)
  | .str x => some (.inr x)
  | _ => none
theorem kOf_rel {K : PySem.W.Frag} {H : Hp} {p : PV} {v : V} {k : Key} (r : Rel K H p v) (e : kOf p = some k) : v = kV k := by
  cases p with
  | int i => simp only [kOf, Option.some.injEq] at e; subst e; exact rel_int.mp r
  | str i => simp only [kOf, Option.some.injEq] at e; subst e; exact rel_str.mp r
  | _ => simp [kOf] at e
theorem lk_val {K : PySem.W.Frag} {H : Hp} : ∀ {kvs : List (Key × V)} {vs : List PV} (k : Key), Rels K H vs (kvs.map (·.2)) →
    (match lk (kvs.map (·.1)) vs k with | some p => ∃ v, valV kvs k = some v ∧ Rel K H p v | none => valV kvs k = none)
  | [], vs, k, r => by cases vs <;> simp [lk, valV]
  | (k', x) :: kvs, [], k, r => by
    have := r.length
    simp at this
  | (k', x) :: kvs, v :: vs, k, r => by
    obtain ⟨w, ws, e, r1, r2⟩ := r.uncons
    simp only [List.map_cons, List.cons.injEq] at e
    obtain ⟨rfl, rfl⟩ := e
    simp only [List.map_cons, lk]
    by_cases h : k' = k
    · rw [if_pos h]; exact ⟨x, valV_pos h, r1⟩
    · rw [if_neg h, valV_neg (p := (k', x)) h]; exact lk_val k r2
theorem put_rel {K : PySem.W.Frag} {H : Hp} {kvs : List (Key × V)} {vs : List PV} {k : Key} {p : PV} {v : V} (r : Rels K H vs (kvs.map (·.2))) (rp : Rel K H p v) :
    pk (kvs.map (·.1)) k = (putK kvs k v).map (·.1) ∧ Rels K H (pvs (kvs.map (·.1)) vs k p) ((putK kvs k v).map (·.2)) := by
  have hm : (kvs.any fun kv => decide (kv.1 = k)) = hasK (kvs.map (·.1)) k := by
    unfold hasK; rw [List.any_map]; rfl
  unfold putK pk pvs
  rw [hm]
  by_cases h : hasK (kvs.map (·.1)) k = true
  · rw [if_pos h, if_pos h, if_pos h]
    refine ⟨?_, ?_⟩
    · rw [List.map_map]
      refine List.map_congr_left fun x _ => ?_
      show x.1 = (if x.1 = k then (x.1, v) else x).1
      split <;> rfl
    · clear h hm
      induction kvs generalizing vs with
      | nil => cases vs with
        | nil => exact .nil
        | cons _ _ => have := r.length; simp at this
      | cons kv kvs ih =>
        cases vs with
        | nil => have := r.length; simp at this
        | cons q vs =>
          obtain ⟨w, ws, e, r1, r2⟩ := r.uncons
          simp only [List.map_cons, List.cons.injEq] at e
          obtain ⟨rfl, rfl⟩ := e
          simp only [List.map_cons, List.zipWith_cons_cons]
          refine .cons ?_ (ih r2)
          by_cases hk : kv.1 = k
          · rw [if_pos hk, if_pos hk]; exact rp
          · rw [if_neg hk, if_neg hk]; exact r1
  · rw [if_neg h, if_neg h, if_neg h]
    refine ⟨by simp, ?_⟩
    rw [List.map_append]
    exact r.append (.cons rp .nil)

/-! ### is None, len, places -/
def isNon : PV → Bool
  | .non => true
  | _ => false
theorem isNon_rel {K : PySem.W.Frag} {H : Hp} {p : PV} {v : V} (r : Rel K H p v) : decide (v = .non) = isNon p := by
  cases p with
  | non => rw [rel_non.mp r]; rfl
  | bl b => rw [rel_bl.mp r]; rfl
  | int b => rw [rel_int.mp r]; rfl
  | str b => rw [rel_str.mp r]; rfl
  | tup ps => obtain ⟨a, xs, rfl, _⟩ := rel_tup.mp r; rfl
  | lst ps => obtain ⟨a, xs, rfl, _⟩ := rel_lst.mp r; rfl
  | dct ks vs => obtain ⟨a, xs, rfl, _⟩ := rel_dct.mp r; rfl
  | ref a => rw [rel_ref.mp r]; rfl
  | ty n => have e : v = .ty n := by simpa only [Rel] using r
            rw [e]; rfl
def rIsN : PR2 := fun p q h Q => match q with | .non => Q (.bl (isNon p)) h | _ => False
def rNotN : PR2 := fun p q h Q => match q with | .non => Q (.bl (!isNon p)) h | _ => False
theorem lf_isN {K : PySem.W.Frag} : Lf2 K (fun x y H Q => y = .non ∧ Q (.bl (decide (x = .non))) H) rIsN := by
  intro x y H p q h Q' Q rp rq s r l
  unfold rIsN at r
  split at r
  · exact ⟨rel_non.mp rq, by rw [isNon_rel rp]; exact l _ _ _ _ r .refl (rel_bl.mpr rfl) s⟩
  · exact r.elim
theorem lf_notN {K : PySem.W.Frag} : Lf2 K (fun x y H Q => y = .non ∧ Q (.bl (!decide (x = .non))) H) rNotN := by
  intro x y H p q h Q' Q rp rq s r l
  unfold rNotN at r
  split at r
  · exact ⟨rel_non.mp rq, by rw [isNon_rel rp]; exact l _ _ _ _ r .refl (rel_bl.mpr rfl) s⟩
  · exact r.elim
def rLen : PRA := fun ps h Q => match ps with
  | [.str x] => x.length ≤ SZ ∧ Q (.int (x.length : Nat)) h
  | [.tup xs] => Q (.int (xs.length : Nat)) h
  | [p] => (match seqL h p with | some xs => Q (.int (xs.length : Nat)) h | none => False)
  | _ => False
theorem lf_len {K : PySem.W.Frag} : LfA K (fun xs H Q => ∃ x n, xs = [x] ∧ LenV K x H n ∧ Q (.int n) H) rLen := by
  intro xs H ps h Q' Q rp s r l
  unfold rLen at r
  split at r
  · obtain ⟨v, rfl, r1⟩ := rp.one
    have e := rel_str.mp r1
    subst e
    exact ⟨_, _, rfl, ⟨sz_le r.1, rfl⟩, l _ _ _ _ r.2 .refl (rel_int.mpr rfl) s⟩
  · obtain ⟨v, rfl, r1⟩ := rp.one
    obtain ⟨a, ys, rfl, hq, rr⟩ := rel_tup.mp r1
    exact ⟨_, _, rfl, .inr ⟨ys, hq, rfl⟩, by rw [← rr.length]; exact l _ _ _ _ r .refl (rel_int.mpr rfl) s⟩
  · obtain ⟨v, rfl, r1⟩ := rp.one
    split at r
    · rename_i e
      obtain ⟨a, ys, rfl, hq, rr⟩ := seqL_sq r1 s e
      exact ⟨_, _, rfl, .inl ⟨ys, hq, rfl⟩, by rw [← rr.length]; exact l _ _ _ _ r .refl (rel_int.mpr rfl) s⟩
    · exact r.elim
  · exact r.elim
theorem atI_rel {K : PySem.W.Frag} {H : Hp} {ps : List PV} {xs : List V} {i : Int} {p : PV} (r : Rels K H ps xs) (e : atI ps i = some p) : ∃ v, atI xs i = some v ∧ Rel K H p v := by
  unfold atI at e ⊢
  rw [← r.length]
  cases h : ixN ps.length i with
  | none => rw [h] at e; cases e
  | some j =>
    rw [h] at e
    exact r.get e
/-- a dict's item -/
def ixD (K : PySem.W.Frag) : R2 := fun x y H Q => ∃ a v, x = .ref a ∧ DGet H a y (some v) ∧ Q v H
theorem ix_dict {X : Cx} (hu : X.A.units + 1 < cLine) : IxR X (ixD X.K) := by
  intro value slice pins s σ H x y v u Q I rx ry h hs
  obtain ⟨a, w, rfl, g, q⟩ := h
  obtain rfl : v = Value.ref a := rx
  exact tail_any (dict_typeIs I g) PySem.F.slot_dict_getitem.lookup (d_getItem hu I g ry fun w' s3 I3 rw' => ⟨w, H, I3, rw', q⟩) hs
/-- the items of a dict, kept or not -/
def dctL (h : PH) : PV → Option (List Key × List PV)
  | .dct ks vs => some (ks, vs)
  | .ref a => match h a with | some (.dct ks vs) => some (ks, vs) | some (.lck ks vs) => some (ks, vs) | _ => none
  | _ => none
theorem dctL_rd {K : PySem.W.Frag} {H : Hp} {h : PH} {p : PV} {v : V} {ks : List Key} {vs : List PV} (r : Rel K H p v) (s : Sim K H h) (e : dctL h p = some (ks, vs)) : ∃ a kvs, v = .ref a ∧ Rd H a (.dK kvs) ∧ ks = kvs.map (·.1) ∧ Rels K H vs (kvs.map (·.2)) := by
  cases p with
  | dct ks' vs' =>
    simp only [dctL, Option.some.injEq, Prod.mk.injEq] at e
    obtain ⟨rfl, rfl⟩ := e
    obtain ⟨a, kvs, e1, ⟨o, f⟩, e2, rr⟩ := rel_dct.mp r
    exact ⟨a, kvs, e1, .inr ⟨o, f⟩, e2, rr⟩
  | ref a =>
    simp only [dctL] at e
    cases q : h a with
    | none => rw [q] at e; cases e
    | some o =>
      rw [q] at e
      cases o with
      | dct ks' vs' =>
        simp only [Option.some.injEq, Prod.mk.injEq] at e
        obtain ⟨rfl, rfl⟩ := e
        obtain ⟨u, e2, kvs, rfl, e3, rr⟩ := s a _ q
        exact ⟨a, kvs, rel_ref.mp r, .inl e2, e3, rr⟩
      | lck ks' vs' =>
        simp only [Option.some.injEq, Prod.mk.injEq] at e
        obtain ⟨rfl, rfl⟩ := e
        obtain ⟨u, e2, ob, kvs, rfl, e3, rr⟩ := s a _ q
        exact ⟨a, kvs, rel_ref.mp r, .inr ⟨ob, e2⟩, e3, rr⟩
      | lst _ => cases e
      | ins _ _ _ => cases e
  | _ => simp [dctL] at e
def rIx : PR2 := fun p q h Q => match p, q with
  | .str x, .int i => x.length ≤ SZ ∧ (match atI (cl x) i with | some c => Q (.str (S [c])) h | none => False)
  | .tup xs, .int i => (match atI xs i with | some v => Q v h | none => False)
  | p, q => (match seqL h p with
    | some xs => (match q with | .int i => (match atI xs i with | some v => Q v h | none => False) | _ => False)
    | none => (match dctL h p with
      | some (ks, vs) => (match kOf q with
        | some k => (match lk ks vs k with | some v => Q v h | none => False)
        | none => False)
      | none => False))
def oIx (K : PySem.W.Frag) : R2 := fun x y H Q => ((rIxL K x y H Q ∨ rIxT K x y H Q) ∨ rIxS x y H Q) ∨ ixD K x y H Q
theorem ix_all {X : Cx} (hu : X.A.units + 1 < cLine) : IxR X (oIx X.K) := ((ix_list.or ix_tup).or ix_str).or (ix_dict hu)
theorem lf_ix {K : PySem.W.Frag} : Lf2 K (oIx K) rIx := by
  intro x y H p q h Q' Q rp rq s r l
  unfold rIx at r
  split at r
  · rename_i z i
    obtain ⟨hz, r⟩ := r
    split at r
    · rename_i c e
      exact .inl (.inr ⟨z, i, c, rel_str.mp rp, rel_int.mp rq, sz_le hz, e, l _ _ _ _ r .refl (rel_str.mpr rfl) s⟩)
    · exact r.elim
  · rename_i xs i
    split at r
    · rename_i v e
      obtain ⟨a, ys, e1, hq, rr⟩ := rel_tup.mp rp
      obtain ⟨w, e2, rw'⟩ := atI_rel rr e
      exact .inl (.inl (.inr ⟨a, ys, i, w, e1, rel_int.mp rq, hq, e2, l _ _ _ _ r .refl rw' s⟩))
    · exact r.elim
  · split at r
    · rename_i xs e
      obtain ⟨a, ys, e1, hq, rr⟩ := seqL_sq rp s e
      cases q with
      | int i =>
        simp only at r
        split at r
        · rename_i v e2
          obtain ⟨w, e3, rw'⟩ := atI_rel rr e2
          exact .inl (.inl (.inl ⟨a, ys, i, w, e1, rel_int.mp rq, hq, e3, l _ _ _ _ r .refl rw' s⟩))
        · exact r.elim
      | _ => exact r.elim
    · split at r
      · rename_i ks vs e
        obtain ⟨a, kvs, e1, rd, rfl, rr⟩ := dctL_rd rp s e
        split at r
        · rename_i k ek
          have hy := kOf_rel rq ek
          have hv := lk_val k rr
          split at r
          · rename_i v ev
            rw [ev] at hv
            obtain ⟨w, e3, rw'⟩ := hv
            subst hy
            exact .inr ⟨a, w, e1, .inl ⟨kvs, k, rd, rfl, e3.symm⟩, l _ _ _ _ r .refl rw' s⟩
          · exact r.elim
        · exact r.elim
      · exact r.elim
section
variable {X : Cx} {pos : Pos} {a b : Expr}
theorem le_ix {ma mb : ME} (hu : X.A.units + 1 < cLine) (ha : LE X a ma) (hb : LE X b mb) (hs : PlainIx b := by exact fun _ _ => rfl) : LE X (.Subscript a b pos) (mB rIx ma mb) :=
  PE.weak (pe_ix (ix_all hu) ha hb hs) fun _ _ _ h => two_up (Z := fun Q => Q) lf_ix h
/-- d[k] = e, xs[i] = e -/
def mDput (mv mo mk : ME) : MS := fun D τ h => mv τ h fun p h1 => mo τ h1 fun d h2 => mk τ h2 fun q h3 => match d with
  | .ref a => (match h3 a with
    | some (.dct ks vs) => (match kOf q with | some k => ks.length < SZ ∧ D.nx τ (up h3 a (.dct (pk ks k) (pvs ks vs k p))) | none => False)
    | some (.lst xs) => (match q with | .int i => (match ixN xs.length i with | some j => D.nx τ (up h3 a (.lst (xs.set j p))) | none => False) | _ => False)
    | _ => False)
  | _ => False
theorem PSet_or {X : Cx} {t u : TSet} (h : PSet X t) (k : PSet X u) : PSet X (fun o i v H Q => t o i v H Q ∨ u o i v H Q) := by
  intro pins s σ H o i v ov iv w Q I ro ri rv q
  rcases q with q | q
  · exact h pins s σ H o i v ov iv w Q I ro ri rv q
  · exact k pins s σ H o i v ov iv w Q I ro ri rv q
theorem ls_dput {o i value : Expr} {pos' : Pos} {mv mo mk : ME} (hu : X.A.units + 1 < cLine) (ho : LE X o mo) (hi : LE X i mk) (hv : LE X value mv) (hs : swapsWithSole [.Subscript o i pos'] value pos.line X.env = pure false := by rfl) (hw : swappedStores [.Subscript o i pos'] value X.env = pure none := by rfl)
    (h1 : (assignEach [.Subscript o i pos'] X.env).map (·.2) = [assign (.Subscript o i pos') X.env] := by rfl)
    (ha : ∀ u, assign (.Subscript o i pos') X.env u = (do let ov ← holding [u] (eval o X.env); let iv ← holding [u, ov] (eval i X.env); standAt pos'; holding [u, ov, iv] (setItem ov iv u); release [u, ov, iv] []) := by intro _; rfl) : LS X (.Assign [.Subscript o i pos'] value pos) (mDput mv mo mk) := by
  refine PS.weak (ps_asg hv (pg_sub ho hi (PSet_or (set_dict hu) set_list) ha) hs hw h1) fun D σ H ⟨τ, h, D', s, sh, q, l⟩ => ?_
  refine ⟨τ, h, _, s, sh, q, fun p h1 v H1 q1 g1 r1 s1 => ?_⟩
  refine ⟨τ, h1, _, s.mono g1.mono, s1, q1, fun d h2 x H2 q2 g2 r2 s2 => ?_⟩
  refine ⟨τ, h2, _, (s.mono g1.mono).mono g2.mono, s2, q2, fun q h3 y H3 q3 g3 r3 s3 => ?_⟩
  cases d with
  | ref a =>
    have hx := rel_ref.mp (r2.mono g3.mono)
    simp only at q3
    split at q3
    · rename_i ks vs e
      split at q3
      · rename_i k ek
        obtain ⟨u, e1, kvs, rfl, rfl, rr⟩ := s3 a _ e
        have hy := kOf_rel r3 ek
        have hl : kvs.length < sizeLine := by
          have z := q3.1
          rw [List.length_map] at z
          exact sz_lt z
        subst hy hx
        have mm : Mono H3 (upd H3 a (.dK (putK kvs k v))) := Mono.dK e1
        obtain ⟨z1, z2⟩ := put_rel (k := k) rr ((r1.mono g2.mono).mono g3.mono)
        refine .inl ⟨a, _, rfl, DPut.k e1 hl, l.nx _ _ _ _ q3.2 (((g1.trans g2).trans g3).trans (.wr e mm)) ((((s.mono g1.mono).mono g2.mono).mono g3.mono).mono mm) (s3.put mm ⟨_, rfl, z1, z2.mono mm⟩)⟩
      · exact q3.elim
    · rename_i xs e
      split at q3
      · rename_i i
        split at q3
        · rename_i j ej
          obtain ⟨u, e1, ys, rfl, rr⟩ := s3 a _ e
          have hy := rel_int.mp r3
          subst hy hx
          have mm : Mono H3 (upd H3 a (.lst (ys.set j v))) := Mono.lst e1
          refine .inr ⟨a, ys, i, j, rfl, rfl, e1, by rw [← rr.length]; exact ej, l.nx _ _ _ _ q3 (((g1.trans g2).trans g3).trans (.wr e mm)) ((((s.mono g1.mono).mono g2.mono).mono g3.mono).mono mm) (s3.put mm ⟨_, rfl, (rr.set ((r1.mono g2.mono).mono g3.mono) j).mono mm⟩)⟩
        · exact q3.elim
      · exact q3.elim
    · exact q3.elim
  | _ => exact q3.elim
end
end N3

namespace N3
open PySem PySem.Spec PyProof.Rows L2

/-! ### * -/
theorem tup_same (l : Addr) (xs : Array Value) (n : Nat) (dd : Option Addr) (sl : Array (Option Value)) (x : Int) (u : Tok) (h0 : (decide (x < -(2 ^ 63)) || decide (x ≥ 2 ^ 63)) = false) (h1 : (xs.isEmpty || x == 1) = true) :
    Meets (Builtin.«tuple.__mul__» ⟨[.ref l, .int x u], []⟩) (fun _ R s => s.heap.get? l = some { cls := .type "tuple", dict := dd, data := .seq xs n, slots := sl } ∧ R (.ok (.ret (Value.ref l))) s) :=
  .of_wp fun prog w A R s h => by
    obtain ⟨hp, g, d, tk, os⟩ := s; obtain ⟨hl, h⟩ := h; have k1 := AutoSeq1.idx_int
    wp_walk using AutoSeq1.wpAny_loadPart' hl
    repeat (first | (refine wpAny_ite_false (decide_eq_false (by rw [h0]; simp)) ?_; wp_walk using AutoSeq1.wpAny_loadPart' hl) | (refine wpAny_ite_true (decide_eq_true h1) ?_; wp_walk using AutoSeq1.wpAny_loadPart' hl))
    exact ⟨_, rfl, h⟩
theorem tup_zero (l : Addr) (xs : Array Value) (n : Nat) (dd : Option Addr) (sl : Array (Option Value)) (x : Int) (u : Tok) (h0 : (decide (x < -(2 ^ 63)) || decide (x ≥ 2 ^ 63)) = false) (h1 : (xs.isEmpty || x == 1) = false) (h2 : (decide (x ≤ 0) || xs.isEmpty) = true) :
    Meets (Builtin.«tuple.__mul__» ⟨[.ref l, .int x u], []⟩) (fun _ R s => s.heap.get? l = some { cls := .type "tuple", dict := dd, data := .seq xs n, slots := sl } ∧
      R (.ok (.ret (Value.ref s.heap.objs.size))) { s with heap := s.heap.push { cls := Value.type "tuple", data := Data.seq #[] }, toks := s.toks }) :=
  .of_wp fun prog w A R s h => by
    obtain ⟨hp, g, d, tk, os⟩ := s; obtain ⟨hl, h⟩ := h; have k1 := AutoSeq1.idx_int
    wp_walk using AutoSeq1.wpAny_loadPart' hl
    repeat (first | (refine wpAny_ite_false (decide_eq_false (by rw [h0]; simp)) ?_; wp_walk using AutoSeq1.wpAny_loadPart' hl) | (refine wpAny_ite_false (decide_eq_false (by rw [h1]; simp)) ?_; wp_walk using AutoSeq1.wpAny_loadPart' hl) | (refine wpAny_ite_true (decide_eq_true h2) ?_; wp_walk using AutoSeq1.wpAny_loadPart' hl))
    exact ⟨_, rfl, h⟩
/-- a tuple once, or not at all -/
def rRep01 (K : PySem.W.Frag) : R2 := fun x y H Q => ∃ l k xs, x = .ref l ∧ y = .int k ∧ SqT K H l xs ∧ 0 ≤ k ∧ k ≤ 1 ∧ ((xs = [] ∨ k = 1) → Q (.ref l) H) ∧ (xs ≠ [] → k = 0 → ∀ p, H p = none → Q (.ref p) (upd H p (.tup [])))
theorem op_rep01 {X : Cx} : OpR X (binaryOp .Mult) (rRep01 X.K) := by
  intro pins s σ H x y v u Q I rx ry h
  obtain ⟨l, k, xs, rfl, rfl, hT, h1, h2, q1, q2⟩ := h
  cases rx
  obtain ⟨t, rfl⟩ := ry
  obtain ⟨its, r, ⟨⟨cls, dd, data, sl⟩, ho, hc, n, hd⟩, hs⟩ := I.tuple hT
  simp only at hc hd
  subst hc; subst hd
  have c0 : (decide (k < -(2 ^ 63)) || decide (k ≥ 2 ^ 63)) = false := by rw [decide_eq_false (by omega), decide_eq_false (by omega)]; rfl
  have go : ∀ {S : PySem.Spec}, Meets (Builtin.«tuple.__mul__» ⟨[.ref l, .int k t], []⟩) S → S X.A (wants (EP X pins σ Q) X.xe) s → wpAny (model X.prog X.w) X.A (binaryOp .Mult (.ref l) (.int k t)) (EP X pins σ Q) X.xe s := fun {S} g z =>
    wpAny_binaryOp_repeat_ref (T := "tuple") (U := "int") (by decide) ⟨_, ho, rfl⟩ (fun s' => typeIs_int s' k t) noFill_tuple_mul PySem.F.fills_int_mul PySem.F.slot_int_rmul repeat_tuple PySem.F.slot_int_index.lookup
      (call_meets PySem.F.slot_int_rmul (typeIs_int s k t) PySem.F.entry_int_rmul (PySem.F.args_int_rmul_2 _ _) (int_rmul_tuple k t l its.toArray n dd sl) ⟨ho, rfl, ⟨_, ho, rfl⟩, call_meets PySem.F.slot_tuple_mul ⟨_, ho, rfl⟩ PySem.F.entry_tuple_mul (PySem.F.args_tuple_mul_2 _ _) g z⟩)
  by_cases hx : xs = [] ∨ k = 1
  · refine go (tup_same l its.toArray n dd sl k t c0 ?_) ⟨ho, ⟨.ref l, H, I, rfl, q1 hx⟩⟩
    rcases hx with hx | hx
    · have : its = [] := r.nil_iff.mpr hx
      subst this; rfl
    · subst hx; rw [show ((1 : Int) == 1) = true from rfl, Bool.or_true]
  · have hx1 : xs ≠ [] := fun e => hx (.inl e)
    have hk : k = 0 := by
      have : k ≠ 1 := fun e => hx (.inr e)
      omega
    have hi : its.toArray.isEmpty = false := by
      cases its with
      | nil => exact absurd (r.nil_iff.mp rfl) hx1
      | cons a b => rfl
    subst hk
    refine go (tup_zero l its.toArray n dd sl 0 t c0 (by rw [hi]; rfl) (by rw [hi]; rfl)) ⟨ho, ?_⟩
    have I2 := I.laid (t' := s.toks) (o := .tup []) (fun c o q => Heap.get?_push_of_some { cls := .type "tuple", data := .seq #[] } q) (Nat.le_refl _) ⟨Nat.zero_le _, [], .nil, IsTup.new s.heap ([] : List Value).toArray⟩
    exact ⟨.ref s.heap.objs.size, _, I2, rfl, q2 hx1 rfl _ (I.hok.fresh (Nat.le_refl _))⟩
def oMul (K : PySem.W.Frag) : R2 := fun x y H Q => (rI CMul (fun i j => .int (i * j)) x y H Q ∨ rMulS x y H Q) ∨ rRep01 K x y H Q
theorem op_mulA {X : Cx} : OpR X (binaryOp .Mult) (oMul X.K) := (op_mul.or op_mulS).or op_rep01
theorem kf_mul {K : PySem.W.Frag} : Kf2 K (oMul K) rMul := by
  intro x y H p q h Q' Q rp rq s r l
  unfold rMul at r
  split at r
  · exact .inl (.inl ⟨_, _, rel_int.mp rp, rel_int.mp rq, r.1, .inl (l _ _ _ _ r.2 .refl (rel_int.mpr rfl) s)⟩)
  · exact .inl (.inr ⟨_, _, rel_str.mp rp, rel_int.mp rq, r.1, sz_le r.2.1, r.2.2.1, .inl (l _ _ _ _ r.2.2.2 .refl (rel_str.mpr rfl) s)⟩)
  · rename_i ps n
    obtain ⟨a, xs, e1, h1, r1⟩ := rel_tup.mp rp
    obtain ⟨n0, n1, r⟩ := r
    refine .inr ⟨a, n, xs, e1, rel_int.mp rq, h1, n0, n1, fun hx => .inl ?_, fun hx hn c hc => .inl ?_⟩
    · by_cases hn : n = 1
      · rw [if_pos hn] at r
        exact l _ _ _ _ r .refl (rel_tup.mpr ⟨a, xs, rfl, h1, r1⟩) s
      · rw [if_neg hn] at r
        have hx' : xs = [] := hx.resolve_right hn
        subst hx'
        exact l _ _ _ _ r .refl (rel_tup.mpr ⟨a, [], rfl, h1, .nil⟩) s
    · rw [if_neg (by omega)] at r
      exact make_t l s .nil r hc
  · exact r.elim
theorem Rels.rep {K : PySem.W.Frag} {H : Hp} {ps : List PV} {xs : List V} (r : Rels K H ps xs) : ∀ k : Nat, Rels K H (List.replicate k ps).flatten (List.replicate k xs).flatten
  | 0 => .nil
  | k + 1 => by rw [List.replicate_succ, List.replicate_succ, List.flatten_cons, List.flatten_cons]; exact r.append (Rels.rep r k)
/-- [..] * e -/
def mRep (m : MA) (mb : ME) : ME := fun τ h Q => m τ h fun ps h1 => mb τ h1 fun q h2 => match q with
  | .int k => (-16777216 ≤ k ∧ k ≤ 16777216 ∧ ps.length * k.toNat ≤ SZ) ∧ Q (.lst (List.replicate k.toNat ps).flatten) h2
  | _ => False
section
variable {X : Cx} {pos p2 : Pos} {es : List Expr} {b : Expr} {n : Nat}
theorem le_rep {m : MA} {mb : ME} (h : LAn X es n m) (hb : LE X b mb) (hn : n ≤ 1000 := by decide) : LE X (.BinOp (.List es p2) .Mult b pos) (mRep m mb) := by
  refine PE.weak (PE.kp (pe_op op_rep (pe_lst h) hb)) fun σ H Q ⟨τ, h, Q', s, sh, q, l⟩ => ?_
  refine ⟨τ, h, _, s, sh, q, fun ps h1 vs H1 q1 hl g1 r1 s1 => ⟨by rw [← r1.length, hl]; exact few hn, fun p hp => ?_⟩⟩
  have hp1 : h1 p = none := s1.fresh hp
  have gD : Go H1 h1 (upd H1 p (.lst vs)) h1 := .new hp
  refine ⟨τ, h1, _, s.mono (g1.trans gD).mono, s1.new hp, q1, fun q h2 y H2 q2 g2 r2 s2 => ?_⟩
  cases q with
  | int k =>
    obtain ⟨⟨k1, k2, hz⟩, q2⟩ := q2
    have ey := rel_int.mp r2
    have hH : H2 p = some (.lst vs) := g2.frame p _ upd_same hp1
    refine ⟨p, k, vs, rfl, ey, hH, by omega, by omega, by rw [← r1.length]; exact sz_le hz, fun c hc => ?_⟩
    have g := (g1.trans gD).trans g2
    exact keep_l (l.mono g) s2 ((r1.mono (gD.trans g2).mono).rep k.toNat) q2 hc
  | _ => exact q2.elim
end

/-! ### slices -/
abbrev MO := PSt → PH → (Option Int → PH → Prop) → Prop
def upO (K : PySem.W.Frag) (m : MO) : TO := fun σ H Q => ∃ τ h Q', SimS K H σ τ ∧ Sim K H h ∧ m τ h Q' ∧ ∀ o h1 H1, Q' o h1 → Go H h H1 h1 → Sim K H1 h1 → Q o H1
abbrev LO (X : Cx) (e : Option Expr) (m : MO) : Prop := L2.PO X e (upO X.K m)
def mNoPart : MO := fun _ h Q => Q none h
def mPart (m : ME) : MO := fun τ h Q => m τ h fun p h1 => match p with | .int i => Q (some i) h1 | _ => False
section
variable {X : Cx} {pos p2 : Pos} {e : Expr}
theorem PO.weak {e : Option Expr} {t u : TO} (h : L2.PO X e t) (w : ∀ σ H Q, u σ H Q → t σ H Q) : L2.PO X e u := ⟨fun pins s σ H Q I q => h.run pins s σ H Q I (w σ H Q q)⟩
theorem lo_none : LO X none mNoPart := PO.weak po_none fun σ H Q ⟨τ, h, Q', s, sh, q, l⟩ => l _ _ _ q .refl sh
theorem lo_some {m : ME} (he : LE X e m) : LO X (some e) (mPart m) := by
  refine PO.weak (po_some he) fun σ H Q ⟨τ, h, Q', s, sh, q, l⟩ => ?_
  refine ⟨τ, h, _, s, sh, q, fun p h1 v H1 q1 g1 r1 s1 => ?_⟩
  cases p with
  | int i => exact ⟨i, rel_int.mp r1, l _ _ _ q1 g1 s1⟩
  | _ => exact q1.elim
end
def cut {α : Type} (xs : List α) (lo hi : Option Int) : List α := (xs.drop (HT.sIx xs.length 0 lo)).take (HT.sIx xs.length xs.length hi - HT.sIx xs.length 0 lo)
theorem cut_length {α : Type} (xs : List α) (lo hi : Option Int) : (cut xs lo hi).length ≤ xs.length := by
  unfold cut; rw [List.length_take, List.length_drop]; omega
theorem Rels.cut {K : PySem.W.Frag} {H : Hp} {ps : List PV} {xs : List V} (r : Rels K H ps xs) (lo hi : Option Int) : Rels K H (cut ps lo hi) (cutV xs lo hi) := by
  unfold N3.cut cutV
  rw [r.length]
  exact (r.drop _).take _
theorem cut_all {α : Type} {xs : List α} {lo hi : Option Int} (h : HT.sIx xs.length 0 lo = 0 ∧ HT.sIx xs.length xs.length hi = xs.length) : cut xs lo hi = xs := by
  unfold cut; rw [h.1, h.2]; simp
theorem cutS_cl (z : Str) (lo hi : Option Int) : cutS z lo hi = S (cut (cl z) lo hi) := by
  unfold cutS cut; rw [cl_length]; rfl
def oSl (K : PySem.W.Frag) : V → Option Int → Option Int → Hp → VK → Prop := fun x lo hi H Q => (rSlL K x lo hi H Q ∨ rSlA K x lo hi H Q) ∨ rSlS x lo hi H Q
theorem sl_all {X : Cx} : SlR X (oSl X.K) := (sl_list.or sl_tupA).or sl_str
def rSl (p : PV) (lo hi : Option Int) (h : PH) (Q : PK) : Prop := match p with
  | .str x => x.length ≤ SZ ∧ Q (.str (S (cut (cl x) lo hi))) h
  | .tup xs => Q (.tup (cut xs lo hi)) h
  | p => match seqL h p with
    | some xs => Q (.lst (cut xs lo hi)) h
    | none => False
theorem kf_sl {K : PySem.W.Frag} {x : V} {H : Hp} {p : PV} {lo hi : Option Int} {h : PH} {Q' : PK} {Q : VK} (rp : Rel K H p x) (s : Sim K H h) (r : rSl p lo hi h Q') (l : LQ K H h Q' Q) : oSl K x lo hi H (kQ Q) := by
  unfold rSl at r
  split at r
  · rename_i z
    refine .inr ⟨z, rel_str.mp rp, sz_le r.1, .inl ?_⟩
    rw [cutS_cl]
    exact l _ _ _ _ r.2 .refl (rel_str.mpr rfl) s
  · obtain ⟨a, ys, rfl, hq, rr⟩ := rel_tup.mp rp
    refine .inl (.inr ⟨a, ys, rfl, hq, fun hw => .inl ?_, fun hw c hc => .inl (make_t l s (rr.cut lo hi) r hc)⟩)
    rw [← rr.length] at hw
    rw [cut_all hw] at r
    exact l _ _ _ _ r .refl (rel_tup.mpr ⟨a, ys, rfl, hq, rr⟩) s
  · split at r
    · rename_i e
      obtain ⟨a, ys, rfl, hq, rr⟩ := seqL_sq rp s e
      exact .inl (.inl ⟨a, ys, rfl, hq, fun c hc => keep_l l s (rr.cut lo hi) r hc⟩)
    · exact r.elim
def mSl (m : ME) (ml mh : MO) : ME := fun τ h Q => m τ h fun p h1 => ml τ h1 fun lo h2 => mh τ h2 fun hi h3 => rSl p lo hi h3 Q
/-- x[::-1] of a text or a list -/
def rRev (p : PV) (h : PH) (Q : PK) : Prop := match p with
  | .str x => x.length ≤ SZ ∧ Q (.str (S (cl x).reverse)) h
  | p => match seqL h p with
    | some xs => Q (.lst xs.reverse) h
    | none => False
def mRev (m : ME) : ME := fun τ h Q => m τ h fun p h1 => rRev p h1 Q
section
variable {X : Cx} {pos p1 p2 p3 : Pos} {e : Expr} {lo hi : Option Expr}
theorem le_sl {m : ME} {ml mh : MO} (he : LE X e m) (hl : LO X lo ml) (hh : LO X hi mh) : LE X (.Subscript e (.Slice lo hi none p2) pos) (mSl m ml mh) := by
  refine PE.weak (PE.kp (pe_slice sl_all he hl hh)) fun σ H Q ⟨τ, h, Q', s, sh, q, l⟩ => ?_
  refine ⟨τ, h, _, s, sh, q, fun p h1 v H1 q1 g1 r1 s1 => ?_⟩
  refine ⟨τ, h1, _, s.mono g1.mono, s1, q1, fun lo h2 H2 q2 g2 s2 => ?_⟩
  refine ⟨τ, h2, _, (s.mono g1.mono).mono g2.mono, s2, q2, fun hi h3 H3 q3 g3 s3 => ?_⟩
  exact kf_sl (r1.mono (g2.trans g3).mono) s3 q3 (l.mono ((g1.trans g2).trans g3))
theorem rev_text (x : Str) : (⟨((Builtin.Str.strSliceIndices none none (-1) x.length).filterMap (x.cps[·]?)).toArray⟩ : Str) = S (cl x).reverse := by
  refine cl_inj ?_
  show (Builtin.Str.strSliceIndices none none (-1) x.length).filterMap (x.cps[·]?) = (cl x).reverse
  rw [picked_rev, PySem.W.krv_range, List.filterMap_reverse]
  have := PySem.W.krv_all x.cps
  rw [show x.length = x.cps.size from rfl, this]; rfl
def tRevA (K : PySem.W.Frag) (te : TE) : TE := fun σ H Q => te σ H fun x H1 => (∃ a xs, x = .ref a ∧ SqL K H1 a xs ∧ ∀ p, H1 p = none → Q (.ref p) (upd H1 p (.lst xs.reverse))) ∨ ∃ z, x = .str z ∧ z.length ≤ sizeLine ∧ Q (.str (S (cl z).reverse)) H1
theorem pe_revA {te : TE} {k : Nat} (he : PE X e te) : PE X (.Subscript e (.Slice none none (some (.UnaryOp .USub (.Constant (.int 1) k p1) p2)) p3) pos) (tRevA X.K te) := by
  refine ⟨fun pins s σ H Q I h => ?_⟩
  refine Subscript_ (thn (he.run pins s σ H _ I h) fun v s1 ⟨x, H1, I1, r1, q1⟩ => ?_)
  have hst : L2.PO X (some (.UnaryOp .USub (.Constant (.int 1) k p1) p2)) (tPart (tUn (rU fun i => .int (-i)) (tC (.int 1)))) := po_some (pe_un un_neg pe_int)
  refine wpAny_Slice (thn (po_none.run pins s1 σ H1 (fun o H2 => o = none ∧ H2 = H1) I1 ⟨rfl, rfl⟩) fun vl s2 ⟨l, H2, I2, pl, el, e2⟩ => ?_)
  subst el e2
  refine thn (po_none.run pins s2 σ H2 (fun o H3 => o = none ∧ H3 = H2) I2 ⟨rfl, rfl⟩) fun vu s3 ⟨u, H3, I3, pu, eu, e3⟩ => ?_
  subst eu e3
  refine thn (hst.run pins s3 σ H3 (fun o H4 => o = some (-1) ∧ H4 = H3) I3 ⟨1, rfl, -1, rfl, rfl, rfl⟩) fun vs s4 ⟨o, H4, I4, ps, eo, e4⟩ => ?_
  subst eo e4
  have I5 : Inv X pins σ H4 { s4 with heap := s4.heap.push { cls := .type "slice", data := .fields #[vl, vu, vs] } } := I4.kept (t' := s4.toks) fun b ob q => Heap.get?_push_of_some _ q
  show wpAny (model X.prog X.w) X.A (subscriptTail e (.Slice none none (some (.UnaryOp .USub (.Constant (.int 1) k p1) p2)) p3) v (.ref s4.heap.objs.size)) (EP X pins σ Q) X.xe { s4 with heap := s4.heap.push { cls := .type "slice", data := .fields #[vl, vu, vs] } }
  rcases q1 with ⟨a, xs, ex, hx, q⟩ | ⟨z, ex, hz, q⟩
  · subst ex
    cases r1
    obtain ⟨its, r, ht, hz⟩ := I5.list hx
    have hlen := r.length
    refine tail_any (ops := [.ref a, .ref s4.heap.objs.size]) ht.isList.typeIs (PySem.slot_list_getitem.lookup) ?_ (by with_unfolding_all rfl)
    refine wpAny_getItem_list_slice ht.isList (Heap.IsSliceOf.new _ vl vu vs) pl pu ps (by decide) ?_ (by rw [List.size_toArray]; omega)
    rw [PySem.W.krv_pick]
    refine ⟨.ref _, _, I5.laid (t' := s4.toks) (o := .lst xs.reverse) (fun b ob q => Heap.get?_push_of_some _ q) (Nat.le_refl _) ?_, rfl, q _ (I5.hok.fresh (Nat.le_refl _))⟩
    exact ⟨by rw [List.length_reverse]; exact hz, _, 0, r.reverse, Heap.get?_push_size _ rfl⟩
  · subst ex
    obtain ⟨t, rfl⟩ := r1
    obtain ⟨l, rfl, el⟩ := IsPart.raw pl
    obtain ⟨u, rfl, eu⟩ := IsPart.raw pu
    obtain ⟨st, rfl, es⟩ := IsPart.raw ps
    refine tail_any (ops := [.str z t, .ref s4.heap.objs.size]) (typeIs_str _ _ _) PySem.F.slot_str_getitem.lookup ?_ (by with_unfolding_all rfl)
    refine wpAny_getItem_str_slice (l := l) (u := u) (st := st) (Heap.IsSliceOf.new _ _ _ _) (by rw [es]; rfl) ?_
    unfold sliceMade slicePicked
    rw [es, el, eu]
    rw [if_neg (by simp)]
    show Made.post (Made.str ⟨((Builtin.Str.strSliceIndices none none (-1) z.length).filterMap (z.cps[·]?)).toArray⟩) _ _
    rw [rev_text]
    refine ⟨?_, .str _, H4, I5.tok _, ⟨_, rfl⟩, q⟩
    rw [S_length, List.length_reverse, ← cl_length]; exact hz
theorem le_rev {m : ME} {k : Nat} (he : LE X e m) : LE X (.Subscript e (.Slice none none (some (.UnaryOp .USub (.Constant (.int 1) k p1) p2)) p3) pos) (mRev m) := by
  refine PE.weak (PE.kp (pe_revA he)) fun σ H Q ⟨τ, h, Q', s, sh, q, l⟩ => ?_
  refine ⟨τ, h, _, s, sh, q, fun p h1 v H1 q1 g1 r1 s1 => ?_⟩
  unfold rRev at q1
  split at q1
  · exact .inr ⟨_, rel_str.mp r1, sz_le q1.1, .inl (l _ _ _ _ q1.2 g1 (rel_str.mpr rfl) s1)⟩
  · split at q1
    · rename_i e
      obtain ⟨a, ys, rfl, hq, rr⟩ := seqL_sq r1 s1 e
      exact .inl ⟨a, ys, rfl, hq, fun c hc => keep_l (l.mono g1) s1 rr.reverse q1 hc⟩
    · exact q1.elim
end
end N3

namespace N3
open PySem PySem.Spec PyProof.Rows L2

/-! ### lists that may change: append, pop -/
def listAt (h : PH) (p : PV) : Prop := ∃ a xs, p = .ref a ∧ h a = some (.lst xs)
theorem ty_list {K : PySem.W.Frag} {H : Hp} {h : PH} {p : PV} {v : V} (r : Rel K H p v) (s : Sim K H h) (e : listAt h p) : tyV K "list" v H := by
  obtain ⟨a, xs, rfl, e⟩ := e
  obtain ⟨u, e1, ys, rfl, rr⟩ := s a _ e
  rw [rel_ref.mp r]
  exact .inl ⟨rfl, ys, .of e1⟩
/-- o.append(e) -/
def mAppend (mo : ME) (m : MA) : ME := fun τ h Q => mo τ h fun p h1 => listAt h1 p ∧ m τ h1 fun ps h2 => match p, ps with
  | .ref a, [q] => (match h2 a with | some (.lst xs) => xs.length < SZ ∧ Q .non (up h2 a (.lst (xs ++ [q]))) | _ => False)
  | _, _ => False
/-- o.pop() -/
def mPop (mo : ME) : ME := fun τ h Q => mo τ h fun p h1 => match p with
  | .ref a => (match h1 a with | some (.lst xs) => (match xs.getLast? with | some y => Q y (up h1 a (.lst xs.dropLast)) | none => False) | _ => False)
  | _ => False
theorem Rels.dropLast {K : PySem.W.Frag} {H : Hp} {ps : List PV} {xs : List V} (r : Rels K H ps xs) : Rels K H ps.dropLast xs.dropLast := by
  rw [List.dropLast_eq_take, List.dropLast_eq_take, r.length]; exact r.take _
section
variable {X : Cx} {o e : Expr} {es : List Expr} {n : Nat} {mo me : ME} {m : MA} {apos cpos pos : Pos}
theorem le_append (ho : LE X o mo) (he : LAn X [e] 1 m) (hbase : attributeBase o "append" X.env (eval o X.env) = eval o X.env := by rfl)
    (hfew : ((backTo cpos (starEach [e] X.env)).all (fun x => !x.1) && (backToKw cpos (keywordEach [] X.env)).all (fun x => x.1.isSome)
      && decide (([e] : List Expr).length + ([] : List Keyword).length + (if ([] : List Keyword).isEmpty then 0 else 1) < 30)) = true := by rfl)
    (hline : (apos.endLine == cpos.line) = true := by rfl) (hs : starEach [e] X.env = (false, eval e X.env) :: starEach [] X.env := by rfl) :
    LE X (.Call (.Attribute o "append" apos) [e] [] cpos) (mAppend mo m) := by
  refine PE.weak (pe_bm PySem.F.plainAttrs_list PySem.F.slot_list_append PySem.F.type_list_append mt_append ho he hbase hfew hline hs rfl) fun σ H Q ⟨τ, h, Q', s, sh, q, l⟩ => ?_
  refine ⟨τ, h, _, s, sh, q, fun p h1 v H1 q1 g1 r1 s1 => ⟨ty_list r1 s1 q1.1, ?_⟩⟩
  refine ⟨τ, h1, _, s.mono g1.mono, s1, q1.2, ?_⟩
  rintro ps h2 vs H2 q2 _ g2 rr s2
  split at q2
  · rename_i a q _
    obtain ⟨y, rfl, ry⟩ := rr.one
    split at q2
    · rename_i xs e2
      obtain ⟨u, e3, ys, rfl, rx⟩ := s2 _ _ e2
      have ea := rel_ref.mp r1
      have mm : Mono H2 (upd H2 a (.lst (ys ++ [y]))) := Mono.lst e3
      refine ⟨a, ys, y, ea, rfl, e3, by rw [← rx.length]; exact sz_lt q2.1, l _ _ _ _ q2.2 ((g1.trans g2).trans (.wr e2 mm)) (rel_non.mpr rfl) (s2.put mm ⟨_, rfl, (rx.append (.cons ry .nil)).mono mm⟩)⟩
    · exact q2.elim
  · exact q2.elim
theorem le_pop (ho : LE X o mo) (hbase : attributeBase o "pop" X.env (eval o X.env) = eval o X.env := by rfl) (hline : (apos.endLine == cpos.line) = true := by rfl) :
    LE X (.Call (.Attribute o "pop" apos) [] [] cpos) (mPop mo) := by
  refine PE.weak (pe_bm0 PySem.F.plainAttrs_list PySem.F.slot_list_pop PySem.F.type_list_pop mt_pop ho hbase hline) fun σ H Q ⟨τ, h, Q', s, sh, q, l⟩ => ?_
  refine ⟨τ, h, _, s, sh, q, fun p h1 v H1 q1 g1 r1 s1 => ?_⟩
  cases p with
  | ref a =>
    simp only at q1
    split at q1
    · rename_i xs e2
      split at q1
      · rename_i y ey
        obtain ⟨u, e3, ys, rfl, rx⟩ := s1 _ _ e2
        have ea := rel_ref.mp r1
        rw [List.getLast?_eq_getElem?] at ey
        obtain ⟨w, ew, rw'⟩ := rx.get ey
        rw [rx.length] at ew
        have mm : Mono H1 (upd H1 a (.lst ys.dropLast)) := Mono.lst e3
        refine ⟨ty_list r1 s1 ⟨a, xs, rfl, e2⟩, a, ys, w, ea, rfl, e3, ew, l _ _ _ _ q1 (g1.trans (.wr e2 mm)) (rw'.mono mm) (s1.put mm ⟨_, rfl, rx.dropLast.mono mm⟩)⟩
      · exact q1.elim
    · exact q1.elim
  | _ => exact q1.elim

/-! ### texts: join, find, count, startswith, endswith, index -/
def mM1 (r : PV → List PV → PH → PK → Prop) (mo : ME) (m : MA) : ME := fun τ h Q => mo τ h fun p h1 => (∃ x, p = .str x) ∧ m τ h1 fun ps h2 => r p ps h2 Q
theorem le_m1 {id : String} {name : Str} {r : V → List V → Hp → VK → Prop} {r' : PV → List PV → PH → PK → Prop} (slot : Slot "str" name id) (hty : typeOf (.builtin id) = pure (.type "method_descriptor")) (rule : MtR X id r)
    (hr : ∀ x xs H p ps h Q' Q, Rel X.K H p x → Rels X.K H ps xs → Sim X.K H h → r' p ps h Q' → LQ X.K H h Q' Q → r x xs H Q) (ho : LE X o mo) (ha : LAn X (e :: es) n m) (hbase : attributeBase o name X.env (eval o X.env) = eval o X.env := by rfl)
    (hfew : ((backTo cpos (starEach (e :: es) X.env)).all (fun x => !x.1) && (backToKw cpos (keywordEach [] X.env)).all (fun x => x.1.isSome)
      && decide ((e :: es).length + ([] : List Keyword).length + (if ([] : List Keyword).isEmpty then 0 else 1) < 30)) = true := by rfl)
    (hline : (apos.endLine == cpos.line) = true := by rfl) (hs : starEach (e :: es) X.env = (false, eval e X.env) :: starEach es X.env := by rfl) (hplain : (backTo cpos (starEach es X.env)).any (·.1) = false := by rfl) :
    LE X (.Call (.Attribute o name apos) (e :: es) [] cpos) (mM1 r' mo m) := by
  refine PE.weak (pe_bm PySem.F.plainAttrs_str slot hty rule ho ha hbase hfew hline hs hplain) fun σ H Q ⟨τ, h, Q', s, sh, q, l⟩ => ?_
  refine ⟨τ, h, _, s, sh, q, fun p h1 v H1 ⟨⟨x, ex⟩, q1⟩ g1 r1 s1 => ⟨by subst ex; rw [rel_str.mp r1]; rfl, ?_⟩⟩
  refine ⟨τ, h1, _, s.mono g1.mono, s1, q1, ?_⟩
  rintro ps h2 vs H2 q2 _ g2 rr s2
  exact hr _ _ _ _ _ _ _ _ (r1.mono g2.mono) rr s2 q2 (l.mono (g1.trans g2))
/-- what a method of a text and a text says -/
def rSS (g : Str → Str → PV) : PV → List PV → PH → PK → Prop := fun p ps h Q => match p, ps with
  | .str x, [.str y] => Q (g x y) h
  | _, _ => False
theorem rSS_up {K : PySem.W.Frag} {g : Str → Str → V} {g' : Str → Str → PV} (hg : ∀ a b H, Rel K H (g' a b) (g a b)) : ∀ x xs H p ps h Q' Q, Rel K H p x → Rels K H ps xs → Sim K H h → rSS g' p ps h Q' → LQ K H h Q' Q →
    ∃ a b, x = .str a ∧ xs = [.str b] ∧ Q (g a b) H := by
  intro x xs H p ps h Q' Q rp rs s r l
  unfold rSS at r
  split at r
  · obtain ⟨v, rfl, r1⟩ := rs.one
    have e1 := rel_str.mp rp
    have e2 := rel_str.mp r1
    subst e1 e2
    exact ⟨_, _, rfl, rfl, l _ _ _ _ r .refl (hg _ _ _) s⟩
  · exact r.elim
theorem le_find (ho : LE X o mo) (ha : LAn X [e] 1 m) (hbase : attributeBase o "find" X.env (eval o X.env) = eval o X.env := by rfl)
    (hfew : ((backTo cpos (starEach [e] X.env)).all (fun x => !x.1) && (backToKw cpos (keywordEach [] X.env)).all (fun x => x.1.isSome)
      && decide (([e] : List Expr).length + ([] : List Keyword).length + (if ([] : List Keyword).isEmpty then 0 else 1) < 30)) = true := by rfl)
    (hline : (apos.endLine == cpos.line) = true := by rfl) (hs : starEach [e] X.env = (false, eval e X.env) :: starEach [] X.env := by rfl) :
    LE X (.Call (.Attribute o "find" apos) [e] [] cpos) (mM1 (rSS fun a b => .int (Txt.find a b)) mo m) :=
  le_m1 PySem.F.slot_str_find PySem.F.type_str_find mt_find (rSS_up fun _ _ _ => rel_int.mpr rfl) ho ha hbase hfew hline hs
theorem le_count (ho : LE X o mo) (ha : LAn X [e] 1 m) (hbase : attributeBase o "count" X.env (eval o X.env) = eval o X.env := by rfl)
    (hfew : ((backTo cpos (starEach [e] X.env)).all (fun x => !x.1) && (backToKw cpos (keywordEach [] X.env)).all (fun x => x.1.isSome)
      && decide (([e] : List Expr).length + ([] : List Keyword).length + (if ([] : List Keyword).isEmpty then 0 else 1) < 30)) = true := by rfl)
    (hline : (apos.endLine == cpos.line) = true := by rfl) (hs : starEach [e] X.env = (false, eval e X.env) :: starEach [] X.env := by rfl) :
    LE X (.Call (.Attribute o "count" apos) [e] [] cpos) (mM1 (rSS fun a b => .int (Txt.count a b)) mo m) :=
  le_m1 PySem.F.slot_str_count PySem.F.type_str_count mt_count (rSS_up fun _ _ _ => rel_int.mpr rfl) ho ha hbase hfew hline hs
/-- sep.join(texts) -/
def rJoin : PV → List PV → PH → PK → Prop := fun p ps h Q => match p, ps with
  | .str x, [.tup ys] => ∃ zs : List (List Nat), ys = zs.map (fun z => .str (S z)) ∧ (zs.map (·.length)).sum + zs.length * x.length ≤ SZ ∧ Q (.str (S (TL.joinL (cl x) zs))) h
  | .str x, [q] => (match seqL h q with
    | some ys => ∃ zs : List (List Nat), ys = zs.map (fun z => .str (S z)) ∧ (zs.map (·.length)).sum + zs.length * x.length ≤ SZ ∧ Q (.str (S (TL.joinL (cl x) zs))) h
    | none => False)
  | _, _ => False
theorem rels_strs {K : PySem.W.Frag} {H : Hp} : ∀ {zs : List (List Nat)} {xs : List V}, Rels K H (zs.map fun z => .str (S z)) xs → xs = (zs.map S).map V.str
  | [], _, r => r.len0
  | z :: zs, _, r => by
    obtain ⟨v, vs, rfl, r1, r2⟩ := r.uncons
    rw [rel_str.mp r1, rels_strs r2]; rfl
theorem rels_ints {K : PySem.W.Frag} {H : Hp} : ∀ {ns : List Int} {xs : List V}, Rels K H (ns.map PV.int) xs → xs = ns.map V.int
  | [], _, r => r.len0
  | z :: zs, _, r => by
    obtain ⟨v, vs, rfl, r1, r2⟩ := r.uncons
    rw [rel_int.mp r1, rels_ints r2]; rfl
theorem rJoin_up {K : PySem.W.Frag} : ∀ x xs H p ps h Q' Q, Rel K H p x → Rels K H ps xs → Sim K H h → rJoin p ps h Q' → LQ K H h Q' Q →
    ∃ a p, ∃ ys : List Str, x = .str a ∧ xs = [.ref p] ∧ (SqL K H p (ys.map V.str) ∨ SqT K H p (ys.map V.str)) ∧ (ys.map (·.length)).sum + ys.length * a.length ≤ 16777216 ∧ Q (.str (Txt.join a ys)) H := by
  intro x xs H p ps h Q' Q rp rs s r l
  have fin : ∀ {a : Str} {zs : List (List Nat)}, (zs.map (·.length)).sum + zs.length * a.length ≤ SZ → Q' (.str (S (TL.joinL (cl a) zs))) h → ((zs.map S).map (·.length)).sum + (zs.map S).length * a.length ≤ 16777216 ∧ Q (.str (Txt.join a (zs.map S))) H := fun {a zs} h1 h2 => by
    refine ⟨?_, ?_⟩
    · rw [List.map_map, List.length_map]
      have e : ((fun x : Str => x.length) ∘ S) = fun z : List Nat => z.length := funext fun z => S_length z
      rw [e]; exact h1
    · have e : Txt.join a (zs.map S) = S (TL.joinL (cl a) zs) := by
        have := SX.join_S (cl a) zs
        rw [show (SX.S (cl a)) = a from S_cl a] at this
        exact this
      rw [e]
      exact l _ _ _ _ h2 .refl (rel_str.mpr rfl) s
  unfold rJoin at r
  split at r
  · rename_i a ys
    obtain ⟨zs, rfl, h1, h2⟩ := r
    obtain ⟨v, rfl, r1⟩ := rs.one
    obtain ⟨b, us, rfl, hq, rr⟩ := rel_tup.mp r1
    rw [rels_strs rr] at hq
    exact ⟨a, b, zs.map S, rel_str.mp rp, rfl, .inr hq, (fin h1 h2).1, (fin h1 h2).2⟩
  · rename_i a q _
    split at r
    · rename_i ys e
      obtain ⟨zs, rfl, h1, h2⟩ := r
      obtain ⟨v, rfl, r1⟩ := rs.one
      obtain ⟨b, us, rfl, hq, rr⟩ := seqL_sq r1 s e
      rw [rels_strs rr] at hq
      exact ⟨a, b, zs.map S, rel_str.mp rp, rfl, .inl hq, (fin h1 h2).1, (fin h1 h2).2⟩
    · exact r.elim
  · exact r.elim
theorem le_join (ho : LE X o mo) (ha : LAn X [e] 1 m) (hbase : attributeBase o "join" X.env (eval o X.env) = eval o X.env := by rfl)
    (hfew : ((backTo cpos (starEach [e] X.env)).all (fun x => !x.1) && (backToKw cpos (keywordEach [] X.env)).all (fun x => x.1.isSome)
      && decide (([e] : List Expr).length + ([] : List Keyword).length + (if ([] : List Keyword).isEmpty then 0 else 1) < 30)) = true := by rfl)
    (hline : (apos.endLine == cpos.line) = true := by rfl) (hs : starEach [e] X.env = (false, eval e X.env) :: starEach [] X.env := by rfl) :
    LE X (.Call (.Attribute o "join" apos) [e] [] cpos) (mM1 rJoin mo m) :=
  le_m1 PySem.F.slot_str_join PySem.F.type_str_join mt_join rJoin_up ho ha hbase hfew hline hs
/-- x.index(y) where y is in x -/
def rIdxS : PV → List PV → PH → PK → Prop := fun p ps h Q => match p, ps with
  | .str x, [.str y] => (match Txt.index0 x y with | some k => Q (.int (k : Nat)) h | none => False)
  | _, _ => False
theorem le_indexS (hc : X.calm = true) (ho : LE X o mo) (ha : LAn X [e] 1 m) (hbase : attributeBase o "index" X.env (eval o X.env) = eval o X.env := by rfl)
    (hfew : ((backTo cpos (starEach [e] X.env)).all (fun x => !x.1) && (backToKw cpos (keywordEach [] X.env)).all (fun x => x.1.isSome)
      && decide (([e] : List Expr).length + ([] : List Keyword).length + (if ([] : List Keyword).isEmpty then 0 else 1) < 30)) = true := by rfl)
    (hline : (apos.endLine == cpos.line) = true := by rfl) (hs : starEach [e] X.env = (false, eval e X.env) :: starEach [] X.env := by rfl) :
    LE X (.Call (.Attribute o "index" apos) [e] [] cpos) (mM1 rIdxS mo m) := by
  refine PE.weak (pe_bmS PySem.F.plainAttrs_str PySem.F.slot_str_index PySem.F.type_str_index (mt_indexX (W := fun _ _ _ _ => False) hc fun u s' ⟨a, B, sI, pins, σ, H, cls, d, e, I, nb, up, sky, na, os, ag, w⟩ => False.elim w) ho ha hbase hfew hline hs rfl) fun σ H Q ⟨τ, h, Q', s, sh, q, l⟩ => ?_
  refine ⟨τ, h, _, s, sh, q, fun p h1 v H1 ⟨⟨x, ex⟩, q1⟩ g1 r1 s1 => ⟨by subst ex; rw [rel_str.mp r1]; rfl, ?_⟩⟩
  refine ⟨τ, h1, _, s.mono g1.mono, s1, q1, ?_⟩
  rintro ps h2 vs H2 q2 _ g2 rr s2
  unfold rIdxS at q2
  split at q2
  · split at q2
    · rename_i k ek
      obtain ⟨v, rfl, r2⟩ := rr.one
      refine ⟨_, _, rel_str.mp r1, by rw [rel_str.mp r2], fun k' e' => ?_, fun e' => ?_⟩
      · rw [ek] at e'; cases e'
        exact l _ _ _ _ q2 (g1.trans g2) (rel_int.mpr rfl) s2
      · rw [ek] at e'; cases e'
    · exact q2.elim
  · exact q2.elim
end
end N3

namespace N3
open PySem PySem.Spec PyProof.Rows L2

/-! ### what is gone along: a list, a tuple, a text -/
def ones (x : Str) : List PV := (cl x).map fun c => .str (S [c])
def gdS (p : PV) (xs : List PV) : PH → Prop := match p with
  | .ref a => fun h => h a = some (.lst xs)
  | _ => fun _ => True
theorem seqL_walk {K : PySem.W.Frag} {H1 : Hp} {h1 : PH} {p : PV} {v : V} {ps : List PV} (r : Rel K H1 p v) (s : Sim K H1 h1) (e : seqL h1 p = some ps) :
    ∃ a xs, v = .ref a ∧ SqL K H1 a xs ∧ Rels K H1 ps xs ∧ ∀ H h, Mono H1 H → Sim K H h → gdS p ps h → ∃ ys, SqL K H a ys ∧ Rels K H ps ys := by
  cases p with
  | lst qs =>
    simp only [seqL, Option.some.injEq] at e
    subst e
    obtain ⟨a, xs, e1, f, rr⟩ := rel_lst.mp r
    exact ⟨a, xs, e1, f.sq, rr, fun H h m _ _ => ⟨xs, (m.frL f).sq, rr.mono m⟩⟩
  | ref a =>
    obtain ⟨b, xs, e1, f, rr⟩ := seqL_sq r s e
    have ev := rel_ref.mp r
    rw [ev] at e1; cases e1
    refine ⟨a, xs, ev, f, rr, fun H h m s' g => ?_⟩
    obtain ⟨u, e2, ys, rfl, rr'⟩ := s' a _ g
    exact ⟨ys, .of e2, rr'⟩
  | _ => simp [seqL] at e
def tSeqs (K : PySem.W.Frag) (tl : TE) : TI := fun σ H R => tl σ H fun x H1 => ((∃ a xs, x = .ref a ∧ SqL K H1 a xs ∧ (xs.length ≤ sizeLine → R (Itl K a) H1)) ∨ ∃ a xs, x = .ref a ∧ SqT K H1 a xs ∧ (xs.length ≤ sizeLine → R (Itt K a) H1)) ∨ ∃ z, x = .str z ∧ R (Its z) H1
theorem pi_seqs {X : Cx} {tg l : Expr} {tl : TE} (hl : PE X l tl) : PI X tg l (tSeqs X.K tl) := by
  refine ⟨fun pins s σ H R I h => ?_⟩
  refine thn (hl.run pins s σ H _ I h) fun v s1 ⟨x, H1, I1, r1, q1⟩ => ?_
  rcases q1 with (⟨a, xs, rfl, hq, q⟩ | ⟨a, xs, rfl, hq, q⟩) | ⟨z, rfl, q⟩
  · cases r1
    obtain ⟨its, rv, p, hz⟩ := I1.list hq
    exact wpAny_pyIter_list p.isList (pi_one (tk := s1.toks) I1 _ (turn_list a _) ⟨_, Heap.get?_push_size _ rfl, rfl, rfl⟩ (q hz))
  · cases r1
    obtain ⟨its, rv, p, hz⟩ := I1.tuple hq
    exact wpAny_pyIter_tuple (show s1.heap.IsTuple a its.toArray from p) (pi_one (tk := s1.toks) I1 _ (turn_tuple a _) ⟨_, Heap.get?_push_size _ rfl, rfl, rfl⟩ (q hz))
  · obtain ⟨t, rfl⟩ := r1
    cases ha : z.cps.all (· < 128)
    · exact wpAny_pyIter_wide ha (pi_one (tk := s1.toks) I1 _ (turn_str _ z t "str_iterator" (.inr rfl)) ⟨_, Heap.get?_push_size _ rfl, rfl, rfl⟩ q)
    · exact wpAny_pyIter_ascii ha (pi_one (tk := s1.toks) I1 _ (turn_str _ z t "str_ascii_iterator" (.inl rfl)) ⟨_, Heap.get?_push_size _ rfl, rfl, rfl⟩ q)
def mSeqs (m : ME) : MI := fun τ h Q => m τ h fun p h1 => match p with
  | .str x => x.length ≤ SZ ∧ Q (ones x) (fun _ => True) h1
  | .tup xs => Q xs (fun _ => True) h1
  | p => match seqL h1 p with
    | some xs => Q xs (gdS p xs) h1
    | none => False
section
variable {X : Cx} {tg e e2 : Expr} {pos p : Pos} {m : ME}
theorem li_seqs (he : LE X e m) : LI X tg e (mSeqs m) := by
  refine PI.weak (pi_seqs he) fun σ H R ⟨τ, h, Q', s, sh, q, l⟩ => ?_
  refine ⟨τ, h, _, s, sh, q, fun p h1 v H1 q1 g1 r1 s1 => ?_⟩
  split at q1
  · rename_i x
    refine .inr ⟨x, rel_str.mp r1, l _ _ _ _ _ q1.2 g1 s1 ⟨?_, fun i H h hi _ _ _ => ?_, fun H h _ _ _ => ?_, fun i H h y H' p hp _ sh' _ hy => ?_⟩⟩
    · unfold ones; rw [List.length_map, ← cl_length]; exact sz_le q1.1
    · unfold ones at hi; rw [List.length_map, ← cl_length] at hi; exact hi
    · show x.cps.size ≤ _
      unfold ones; rw [List.length_map, ← cl_length]; exact Nat.le_refl _
    · obtain ⟨rfl, c, hc, rfl⟩ := hy
      unfold ones at hp
      rw [List.getElem?_map] at hp
      have : (cl x)[i]? = some c := by unfold cl; rw [Array.getElem?_toList]; exact hc
      rw [this] at hp
      simp only [Option.map_some, Option.some.injEq] at hp
      subst hp
      exact ⟨.refl, sh', rel_str.mpr rfl⟩
  · rename_i xs
    obtain ⟨a, ys, rfl, hq, rr⟩ := rel_tup.mp r1
    refine .inl (.inr ⟨a, ys, rfl, hq, fun hz => l _ _ _ _ _ q1 g1 s1 ⟨by rw [rr.length]; exact hz, fun i H h hi m _ _ => ?_, fun H h m _ _ => ⟨ys, m.sqT hq, by rw [rr.length]; exact Nat.le_refl _⟩, fun i H h y H' p hp m sh' _ hy => ?_⟩⟩)
    · rw [rr.length] at hi
      exact ⟨ys, ys[i], m.sqT hq, List.getElem?_eq_getElem hi⟩
    · obtain ⟨rfl, hy⟩ := hy
      have e := hy ys (m.sqT hq)
      obtain ⟨w, e1, r2⟩ := (rr.mono m).get hp
      rw [e] at e1; cases e1
      exact ⟨.refl, sh', r2⟩
  · split at q1
    · rename_i e
      obtain ⟨a, ys, rfl, hq, rr, later⟩ := seqL_walk r1 s1 e
      refine .inl (.inl ⟨a, ys, rfl, hq, fun hz => l _ _ _ _ _ q1 g1 s1 ⟨by rw [rr.length]; exact hz, fun i H h hi m sm g => ?_, fun H h m sm g => ?_, fun i H h y H' p hp m sm g hy => ?_⟩⟩)
      · obtain ⟨us, hu, ru⟩ := later H h m sm g
        rw [ru.length] at hi
        exact ⟨us, us[i], hu, List.getElem?_eq_getElem hi⟩
      · obtain ⟨us, hu, ru⟩ := later H h m sm g
        exact ⟨us, hu, by rw [ru.length]; exact Nat.le_refl _⟩
      · obtain ⟨us, hu, ru⟩ := later H h m sm g
        obtain ⟨rfl, hy⟩ := hy
        have e := hy us hu
        obtain ⟨w, e1, r2⟩ := ru.get hp
        rw [e] at e1; cases e1
        exact ⟨.refl, sm, r2⟩
    · exact q1.elim
/-- range -/
def rng (lo : Int) (n : Nat) : List PV := (List.range n).map fun i => .int (lo + (i : Nat))
theorem rng_wk {K : PySem.W.Frag} {lo : Int} {n : Nat} {H1 : Hp} (hn : n ≤ SZ) : Wk K (Itr lo n) (rng lo n) (fun _ => True) H1 := by
  refine ⟨by unfold rng; rw [List.length_map, List.length_range]; exact sz_le hn, fun i H h hi _ _ _ => ?_, fun H h _ _ _ => ?_, fun i H h y H' p hp _ sh' _ hy => ?_⟩
  · unfold rng at hi; rw [List.length_map, List.length_range] at hi; exact hi
  · show n ≤ _; unfold rng; rw [List.length_map, List.length_range]; exact Nat.le_refl _
  · obtain ⟨rfl, rfl⟩ := hy
    unfold rng at hp
    rw [List.getElem?_map] at hp
    cases e : (List.range n)[i]? with
    | none => rw [e] at hp; cases hp
    | some j =>
      rw [e] at hp
      obtain ⟨hj, ej⟩ := List.getElem?_eq_some_iff.mp e
      rw [List.getElem_range] at ej
      subst ej
      simp only [Option.map_some, Option.some.injEq] at hp
      subst hp
      exact ⟨.refl, sh', rel_int.mpr rfl⟩
def mRng1 (m : MA) : MI := fun τ h Q => m τ h fun ps h1 => match ps with
  | [.int j] => (-16777216 ≤ j ∧ j ≤ 16777216) ∧ Q (rng 0 j.toNat) (fun _ => True) h1
  | _ => False
def mRng2 (m : MA) : MI := fun τ h Q => m τ h fun ps h1 => match ps with
  | [.int i, .int j] => (-16777216 ≤ i ∧ i ≤ 16777216 ∧ -16777216 ≤ j ∧ j ≤ 16777216 ∧ j - i ≤ 16777216) ∧ Q (rng i (j - i).toNat) (fun _ => True) h1
  | _ => False
theorem li_rng1 {m : MA} (hm : X.mg "range" = none) (ha : LAn X [e] 1 m) (hg : Gl X "range" := by rfl) (hs : starEach [e] X.env = [(false, eval e X.env)] := by rfl) : LI X tg (.Call (.Name "range" p) [e] [] pos) (mRng1 m) := by
  refine PI.weak (pi_range1 hg hm ha hs) fun σ H R ⟨τ, h, Q', s, sh, q, l⟩ => ?_
  refine ⟨τ, h, _, s, sh, q, fun ps h1 vs H1 q1 hl g1 r1 s1 => ?_⟩
  split at q1
  · rename_i j
    obtain ⟨v, rfl, r2⟩ := r1.one
    have ev := rel_int.mp r2
    subst ev
    exact ⟨j, rfl, by omega, by omega, l _ _ _ _ _ q1.2 g1 s1 (rng_wk (by show _ ≤ 16777216; omega))⟩
  · exact q1.elim
theorem li_rng2 {m : MA} (hm : X.mg "range" = none) (ha : LAn X [e, e2] 2 m) (hg : Gl X "range" := by rfl) (hs : starEach [e, e2] X.env = [(false, eval e X.env), (false, eval e2 X.env)] := by rfl) (hs2 : starEach [e2] X.env = [(false, eval e2 X.env)] := by rfl) :
    LI X tg (.Call (.Name "range" p) [e, e2] [] pos) (mRng2 m) := by
  refine PI.weak (pi_range2 hg hm ha hs hs2) fun σ H R ⟨τ, h, Q', s, sh, q, l⟩ => ?_
  refine ⟨τ, h, _, s, sh, q, fun ps h1 vs H1 q1 hl g1 r1 s1 => ?_⟩
  split at q1
  · rename_i i j
    obtain ⟨v, w, rfl, r2, r3⟩ := r1.two
    have ev := rel_int.mp r2
    have ew := rel_int.mp r3
    subst ev ew
    exact ⟨i, j, rfl, ⟨by omega, by omega, by omega, by omega⟩, l _ _ _ _ _ q1.2 g1 s1 (rng_wk (by show _ ≤ 16777216; omega))⟩
  · exact q1.elim
/-- enumerate of a list -/
def enm (xs : List PV) : List PV := xs.zipIdx.map fun x => .tup [.int (x.2 : Nat), x.1]
def mEnum (m : MA) : MI := fun τ h Q => m τ h fun ps h1 => match ps with
  | [p] => (match seqL h1 p with | some xs => xs.length ≤ SZ ∧ Q (enm xs) (gdS p xs) h1 | none => False)
  | _ => False
theorem li_enum {m : MA} {elts : List Expr} {kk : Nat} {tpos : Pos} (hm : X.mg "enumerate" = none) (ha : LAn X [e] 1 m) (hg : Gl X "enumerate" := by rfl) (hs : starEach [e] X.env = [(false, eval e X.env)] := by rfl) :
    LI X (.Tuple elts kk tpos) (.Call (.Name "enumerate" p) [e] [] pos) (mEnum m) := by
  refine PI.weak (pi_enum hg hm ha hs) fun σ H R ⟨τ, h, Q', s, sh, q, l⟩ => ?_
  refine ⟨τ, h, _, s, sh, q, fun ps h1 vs H1 q1 hl g1 r1 s1 => ?_⟩
  split at q1
  · rename_i p
    obtain ⟨v, rfl, r2⟩ := r1.one
    split at q1
    · rename_i xs e
      obtain ⟨a, ys, rfl, hq, rr, later⟩ := seqL_walk r2 s1 e
      have hlen : (enm xs).length = xs.length := by unfold enm; simp
      refine ⟨a, ys, rfl, hq, l _ _ _ _ _ q1.2 g1 s1 ⟨by rw [hlen]; exact sz_le q1.1, fun i H h hi m sm g => ?_, fun H h m sm g => ?_, fun i H h y H' p hp m sm g hy => ?_⟩⟩
      · obtain ⟨us, hu, ru⟩ := later H h m sm g
        rw [hlen, ru.length] at hi
        exact ⟨us, us[i], hu, List.getElem?_eq_getElem hi⟩
      · obtain ⟨us, hu, ru⟩ := later H h m sm g
        exact ⟨us, hu, by rw [hlen, ru.length]; exact Nat.le_refl _⟩
      · obtain ⟨us, hu, ru⟩ := later H h m sm g
        obtain ⟨T, x, rfl, hT, rfl, hy⟩ := hy
        have e := hy us hu
        unfold enm at hp
        rw [List.getElem?_map, List.getElem?_zipIdx] at hp
        cases ex : xs[i]? with
        | none => rw [ex] at hp; cases hp
        | some w =>
          rw [ex] at hp
          simp only [Option.map_some, Option.some.injEq, Nat.zero_add] at hp
          subst hp
          obtain ⟨w', e1, r3⟩ := ru.get ex
          rw [e] at e1; cases e1
          have mm : Mono H (upd H T (.tup [.int (i : Nat), x])) := Mono.new hT
          exact ⟨.new hT, sm.new hT, rel_tup.mpr ⟨T, _, rfl, .inl (.inl upd_same), .cons (rel_int.mpr rfl) (.cons (r3.mono mm) .nil)⟩⟩
    · exact q1.elim
  · exact q1.elim
/-- zip of two lists -/
def mZip (m : MA) : MI := fun τ h Q => m τ h fun ps h1 => match ps with
  | [p, q] => (match seqL h1 p, seqL h1 q with | some xs, some ys => xs.length ≤ SZ ∧ Q (List.zipWith (fun x y => .tup [x, y]) xs ys) (fun h => gdS p xs h ∧ gdS q ys h) h1 | _, _ => False)
  | _ => False
theorem li_zip {m : MA} {elts : List Expr} {kk : Nat} {tpos : Pos} (hm : X.mg "zip" = none) (ha : LAn X [e, e2] 2 m) (hg : Gl X "zip" := by rfl)
    (hs : starEach [e, e2] X.env = (false, eval e X.env) :: starEach [e2] X.env := by rfl) (hpl : (backTo pos (starEach [e2] X.env)).any (·.1) = false := by rfl) :
    LI X (.Tuple elts kk tpos) (.Call (.Name "zip" p) [e, e2] [] pos) (mZip m) := by
  refine PI.weak (pi_zip hg hm ha hs hpl) fun σ H R ⟨τ, h, Q', s, sh, q, l⟩ => ?_
  refine ⟨τ, h, _, s, sh, q, fun ps h1 vs H1 q1 hl g1 r1 s1 => ?_⟩
  split at q1
  · rename_i p p'
    obtain ⟨v, v', rfl, r2, r3⟩ := r1.two
    split at q1
    · rename_i xs ys e e'
      obtain ⟨a, us, rfl, hq, rr, later⟩ := seqL_walk r2 s1 e
      obtain ⟨b, ws, rfl, hq', rr', later'⟩ := seqL_walk r3 s1 e'
      have hlen : (List.zipWith (fun x y => PV.tup [x, y]) xs ys).length = min xs.length ys.length := List.length_zipWith
      refine ⟨a, b, us, ws, rfl, hq, hq', l _ _ _ _ _ q1.2 g1 s1 ⟨by rw [hlen]; exact sz_le (by omega), fun i H h hi m sm g => ?_, fun H h m sm g => ?_, fun i H h y H' p hp m sm g hy => ?_⟩⟩
      · obtain ⟨us1, hu, ru⟩ := later H h m sm g.1
        obtain ⟨ws1, hw, rw1⟩ := later' H h m sm g.2
        rw [hlen, ru.length, rw1.length] at hi
        exact ⟨us1, ws1, us1[i]'(by omega), ws1[i]'(by omega), hu, hw, List.getElem?_eq_getElem (by omega), List.getElem?_eq_getElem (by omega)⟩
      · obtain ⟨us1, hu, ru⟩ := later H h m sm g.1
        obtain ⟨ws1, hw, rw1⟩ := later' H h m sm g.2
        exact ⟨us1, ws1, hu, hw, by rw [hlen, ru.length, rw1.length]; omega⟩
      · obtain ⟨us1, hu, ru⟩ := later H h m sm g.1
        obtain ⟨ws1, hw, rw1⟩ := later' H h m sm g.2
        obtain ⟨T, x, y, rfl, hT, rfl, hx, hy⟩ := hy
        have ex := hx us1 hu
        have ey := hy ws1 hw
        rw [List.getElem?_zipWith] at hp
        obtain ⟨x', ex', rx⟩ := ru.get' ex
        obtain ⟨y', ey', ry⟩ := rw1.get' ey
        rw [ex', ey'] at hp
        simp only [Option.some.injEq] at hp
        subst hp
        have mm : Mono H (upd H T (.tup [x, y])) := Mono.new hT
        exact ⟨.new hT, sm.new hT, rel_tup.mpr ⟨T, _, rfl, .inl (.inl upd_same), .cons (rx.mono mm) (.cons (ry.mono mm) .nil)⟩⟩
    · exact q1.elim
  · exact q1.elim
end
end N3

namespace N3
open PySem PySem.Spec PyProof.Rows L2

/-! ### names of the module that hold an int or a text -/
section
variable {X : Cx} {pos : Pos}
theorem le_glI {x : Str} {i : Int} {t : Tok} (hm : X.mg x = some (.int i t)) (hg : Gl X x := by rfl) (hd : (x == ("__debug__" : Str)) = false := by decide) : LE X (.Name x pos) (mC (.int i)) :=
  le_c (pe_glob (v := .int i) hg hm ⟨t, rfl⟩ hd) fun _ => rel_int.mpr rfl
theorem le_glS {x : Str} {z : Str} {t : Tok} (hm : X.mg x = some (.str z t)) (hg : Gl X x := by rfl) (hd : (x == ("__debug__" : Str)) = false := by decide) : LE X (.Name x pos) (mC (.str z)) :=
  le_c (pe_glob (v := .str z) hg hm ⟨t, rfl⟩ hd) fun _ => rel_str.mpr rfl
end

/-! ### repr of data, dicts too -/
mutual
/-- data that can be read off the heap, no dict of it the modules' own -/
inductive RD (h : Heap) : Value → PyData → Prop
  | none : RD h .none .none
  | bool (b : Bool) : RD h (.bool b) (.bool b)
  | int (i : Int) (t : Tok) : RD h (.int i t) (.int i)
  | str (x : Str) (t : Tok) : RD h (.str x t) (.str x)
  | list {a : Addr} {o : Obj} {vs : Array Value} {n : Nat} {xs : List PyData} : h.get? a = some o → o.cls = .type "list" → o.data = .seq vs n → RDs h vs.toList xs → RD h (.ref a) (.list xs)
  | tuple {a : Addr} {o : Obj} {vs : Array Value} {n : Nat} {xs : List PyData} : h.get? a = some o → o.cls = .type "tuple" → o.data = .seq vs n → RDs h vs.toList xs → RD h (.ref a) (.tuple xs)
  | dict {a : Addr} {o : Obj} {es : Array DictEntry} {n : Nat} {kvs : List (PyData × PyData)} : (a == sysModules) = false → h.get? a = some o → o.cls = .type "dict" → o.data = .dict es n →
      RDs h (es.toList.map (·.key)) (kvs.map (·.1)) → RDs h (es.toList.map (·.val)) (kvs.map (·.2)) → RD h (.ref a) (.dict kvs)
inductive RDs (h : Heap) : List Value → List PyData → Prop
  | nil : RDs h [] []
  | cons {v : Value} {vs : List Value} {d : PyData} {ds : List PyData} : RD h v d → RDs h vs ds → RDs h (v :: vs) (d :: ds)
end
section
variable {prog : Program} {w : World} {h0 : Heap}
mutual
theorem RD.reads : ∀ {v : Value} {d : PyData}, RD h0 v d → ∃ as, Reads h0 v d as
  | _, _, .none => ⟨_, .none⟩
  | _, _, .bool b => ⟨_, .bool b⟩
  | _, _, .int i t => ⟨_, .int i t⟩
  | _, _, .str x t => ⟨_, .str x t⟩
  | _, _, .list h1 h2 h3 h4 => let ⟨_, r⟩ := RDs.reads h4; ⟨_, .list h1 h2 h3 r⟩
  | _, _, .tuple h1 h2 h3 h4 => let ⟨_, r⟩ := RDs.reads h4; ⟨_, .tuple h1 h2 h3 r⟩
  | _, _, .dict _ h1 h2 h3 h4 h5 => let ⟨_, r⟩ := RDs.reads h4; let ⟨_, q⟩ := RDs.reads h5; ⟨_, .dict h1 h2 h3 r q⟩
theorem RDs.reads : ∀ {vs : List Value} {ds : List PyData}, RDs h0 vs ds → ∃ as, ReadsAll h0 vs ds as
  | _, _, .nil => ⟨_, .nil⟩
  | _, _, .cons h1 h2 => let ⟨_, r⟩ := RD.reads h1; let ⟨_, q⟩ := RDs.reads h2; ⟨_, .cons r q⟩
end
mutual
theorem RD.shows : ∀ {v : Value} {d : PyData}, RD h0 v d → d.showable = true → d.shown.length ≤ sizeLine → ∃ bs, ReadAtMost h0 d.depth bs ∧ ReprK prog w bs h0 d.depth v d.shown
  | _, _, .none, _, _ => ⟨[], (fun _ z => nomatch z), by simp only [PyData.shown]; exact .of_is ReprIs.none _ _ _⟩
  | _, _, .bool b, _, _ => ⟨[], (fun _ z => nomatch z), by simp only [PyData.shown]; exact .of_is (ReprIs.bool b) _ _ _⟩
  | _, _, .int i t, hs, _ => ⟨[], (fun _ z => nomatch z), by simp only [PyData.shown]; exact .of_is (ReprIs.int t (by simpa [PyData.showable] using hs)) _ _ _⟩
  | _, _, .str x t, _, hz => ⟨[], (fun _ z => nomatch z), by simp only [PyData.shown]; exact .of_is (ReprIs.str x t (by simpa only [PyData.shown] using hz)) _ _ _⟩
  | _, _, .list (a := a) (vs := ws) (xs := ds) g1 g2 g3 g4, hs, hz => by
    have room : (listText (PyData.shownAll ds)).length ≤ sizeLine := by simpa only [PyData.shown] using hz
    obtain ⟨bs, hb, hk⟩ := RDs.shows g4 (by simpa [PyData.showable] using hs) fun t ht => Nat.le_trans (listText_mem_le ht) room
    obtain ⟨_, r⟩ := RD.reads (.list g1 g2 g3 g4)
    have out : a ∉ bs := not_mem_of_deeper r (by simp only [PyData.depth]; omega) hb
    refine ⟨a :: bs, ReadAtMost.cons r (by simp only [PyData.depth]; omega) hb, ?_⟩
    simp only [PyData.depth, PyData.shown]
    obtain ⟨l⟩ := ws
    cases l with
    | nil =>
      cases (show RDs h0 [] ds from g4)
      simp only [PyData.shownAll, listText_nil]
      exact ReprK.listEmpty g1 g2 g3
    | cons x l => exact ReprK.list g1 g2 g3 out (by simpa using hk.length_eq) fun i y e => hk.item i y (by simpa using e)
  | _, _, .tuple (a := a) (xs := ds) g1 g2 g3 g4, hs, hz => by
    have room : (tupleText (PyData.shownAll ds)).length ≤ sizeLine := by simpa only [PyData.shown] using hz
    obtain ⟨bs, hb, hk⟩ := RDs.shows g4 (by simpa [PyData.showable] using hs) fun t ht => Nat.le_trans (tupleText_mem_le ht) room
    obtain ⟨_, r⟩ := RD.reads (.tuple g1 g2 g3 g4)
    have out : a ∉ bs := not_mem_of_deeper r (by simp only [PyData.depth]; omega) hb
    refine ⟨a :: bs, ReadAtMost.cons r (by simp only [PyData.depth]; omega) hb, ?_⟩
    simp only [PyData.depth, PyData.shown]
    exact ReprK.tuple g1 g2 g3 out hk
  | _, _, .dict (a := a) (es := es) (kvs := kvs) g0 g1 g2 g3 g4 g5, hs, hz => by
    have room : (dictText (PyData.shownKv kvs)).length ≤ sizeLine := by simpa only [PyData.shown] using hz
    obtain ⟨s1, s2⟩ := PyData.showableKv_split kvs (by simpa [PyData.showable] using hs)
    obtain ⟨b1, hb1, k1⟩ := RDs.shows g4 s1 fun t ht => let ⟨p, hp, hl⟩ := PyData.shownKv_key_le kvs t ht; Nat.le_trans hl (Nat.le_trans (dictText_mem_le hp) room)
    obtain ⟨b2, hb2, k2⟩ := RDs.shows g5 s2 fun t ht => let ⟨p, hp, hl⟩ := PyData.shownKv_val_le kvs t ht; Nat.le_trans hl (Nat.le_trans (dictText_mem_le hp) room)
    obtain ⟨_, r⟩ := RD.reads (.dict g0 g1 g2 g3 g4 g5)
    have hb : ReadAtMost h0 (PyData.depthKv kvs) (b1 ++ b2) := (hb1.mono (PyData.depthAll_keys_le kvs)).append (hb2.mono (PyData.depthAll_vals_le kvs))
    have out : a ∉ b1 ++ b2 := not_mem_of_deeper r (by simp only [PyData.depth]; omega) hb
    refine ⟨a :: (b1 ++ b2), ReadAtMost.cons r (by simp only [PyData.depth]; omega) hb, ?_⟩
    simp only [PyData.depth, PyData.shown, PyData.shownKv_eq]
    exact ReprK.dict g1 g2 g3 g0 out (ReprEntriesK.of_two es.toList _ _ (k1.more_le (fun b z => List.mem_append_left _ z) (PyData.depthAll_keys_le kvs)) (k2.more_le (fun b z => List.mem_append_right _ z) (PyData.depthAll_vals_le kvs)))
theorem RDs.shows : ∀ {vs : List Value} {ds : List PyData}, RDs h0 vs ds → PyData.showableAll ds = true → (∀ t ∈ PyData.shownAll ds, t.length ≤ sizeLine) → ∃ bs, ReadAtMost h0 (PyData.depthAll ds) bs ∧ ReprAllK prog w bs h0 (PyData.depthAll ds) vs (PyData.shownAll ds)
  | _, _, .nil, _, _ => ⟨[], (fun _ z => nomatch z), by simp only [PyData.shownAll]; exact .nil⟩
  | _, _, .cons (d := d) (ds := ds) g1 g2, hs, hz => by
    have s12 : d.showable = true ∧ PyData.showableAll ds = true := by simpa [PyData.showableAll] using hs
    obtain ⟨b1, hb1, k1⟩ := RD.shows g1 s12.1 (hz _ (by simp only [PyData.shownAll]; exact List.mem_cons_self))
    obtain ⟨b2, hb2, k2⟩ := RDs.shows g2 s12.2 fun t ht => hz t (by simp only [PyData.shownAll]; exact List.mem_cons_of_mem _ ht)
    refine ⟨b1 ++ b2, ?_, ?_⟩
    · simp only [PyData.depthAll]
      exact (hb1.mono (Nat.le_max_left _ _)).append (hb2.mono (Nat.le_max_right _ _))
    · simp only [PyData.depthAll, PyData.shownAll]
      exact .cons ((k1.more fun b z => List.mem_append_left _ z).level_le (Nat.le_max_left _ _)) (k2.more_le (fun b z => List.mem_append_right _ z) (Nat.le_max_right _ _))
end
end
mutual
/-- data, dicts too -/
def okR : PV → Bool
  | .non => true
  | .bl _ => true
  | .int _ => true
  | .str _ => true
  | .tup ps => okRs ps
  | .lst ps => okRs ps
  | .dct ks vs => decide (ks.length = vs.length) && okRs vs
  | _ => false
def okRs : List PV → Bool
  | [] => true
  | p :: ps => okR p && okRs ps
end
section
variable {X : Cx} {pins : List (Addr × Obj)} {σ : L2.St} {H : Hp} {s : Shared}
/-- a dict's keys and values, read off -/
theorem dict_rd {P : Program} {w : World} {h : Heap} {es : List DictEntry} {ws : List (Key × Value)} (hp : Pairs (mixKind P w) es ws) : ∀ {kvs : List (Key × V)}, KV kvs ws →
    RDs h (es.map (·.key)) (kvs.map fun kv => keyD kv.1) ∧ Vals (kvs.map (·.2)) (es.map (·.val)) := by
  induction hp with
  | nil =>
    intro kvs r
    unfold KV at r
    cases r
    exact ⟨.nil, .nil⟩
  | @cons e w' es ws h1 h2 t ih =>
    intro kvs r
    unfold KV at r
    cases r with
    | @cons kv _ kvs _ r1 r2 =>
      obtain ⟨i1, i2⟩ := ih r2
      have q1 : RD h e.key (keyD kv.1) := by
        rw [r1.1]
        rcases keyIs_shape h1 with ⟨i, t', e1, e2⟩ | ⟨x, t', e1, e2⟩
        · rw [e1, e2]; exact .int i t'
        · rw [e1, e2]; exact .str x t'
      have q2 : L2.RelV kv.2 e.val := by rw [h2]; exact r1.2
      exact ⟨.cons q1 i1, .cons q2 i2⟩
theorem zip_fst {α β : Type} : ∀ {xs : List α} {ys : List β}, xs.length = ys.length → (xs.zip ys).map (·.1) = xs
  | [], [], _ => rfl
  | x :: xs, y :: ys, h => by simp only [List.zip_cons_cons, List.map_cons, zip_fst (xs := xs) (ys := ys) (by simpa using h)]
  | [], _ :: _, h => by simp at h
  | _ :: _, [], h => by simp at h
theorem zip_snd {α β : Type} : ∀ {xs : List α} {ys : List β}, xs.length = ys.length → (xs.zip ys).map (·.2) = ys
  | [], [], _ => rfl
  | x :: xs, y :: ys, h => by simp only [List.zip_cons_cons, List.map_cons, zip_snd (xs := xs) (ys := ys) (by simpa using h)]
  | [], _ :: _, h => by simp at h
  | _ :: _, [], h => by simp at h
theorem toDs_length : ∀ ps : List PV, (toDs ps).length = ps.length
  | [] => by simp only [toDs, List.length_nil]
  | p :: ps => by simp only [toDs, List.length_cons, toDs_length ps]
mutual
theorem Rel.rd (I : Inv X pins σ H s) : ∀ (p : PV) (v : V) (u : Value), okR p = true → Rel X.K H p v → RelV v u → RD s.heap u (toD p)
  | .non, _, _, _, r, rv => by rw [rel_non.mp r] at rv; cases rv; exact .none
  | .bl b, _, _, _, r, rv => by rw [rel_bl.mp r] at rv; cases rv; exact .bool b
  | .int i, _, _, _, r, rv => by rw [rel_int.mp r] at rv; obtain ⟨t, rfl⟩ := rv; exact .int i t
  | .str x, _, _, _, r, rv => by rw [rel_str.mp r] at rv; obtain ⟨t, rfl⟩ := rv; exact .str x t
  | .tup ps, _, _, f, r, rv => by
    obtain ⟨a, xs, rfl, hq, rr⟩ := rel_tup.mp r
    cases rv
    simp only [okR] at f
    simp only [toD]
    obtain ⟨its, rx, ⟨o, e, c, n, d⟩, _⟩ := I.tuple hq
    exact .tuple e c d (Rels.rd I ps xs its f rr rx)
  | .lst ps, _, _, f, r, rv => by
    obtain ⟨a, xs, rfl, hq, rr⟩ := rel_lst.mp r
    cases rv
    simp only [okR] at f
    simp only [toD]
    obtain ⟨its, rx, ⟨o, n, e, c, _, d⟩, _⟩ := I.list hq.sq
    exact .list e c d (Rels.rd I ps xs its f rr rx)
  | .dct ks vs, _, _, f, r, rv => by
    obtain ⟨a, kvs, rfl, ⟨o, hq⟩, ek, rr⟩ := rel_dct.mp r
    cases rv
    simp only [okR, Bool.and_eq_true, decide_eq_true_eq] at f
    simp only [toD]
    obtain ⟨hs, hgd, hx, es, ep, ws, hdt, hsz, kv, o', es', e', _, d', _, pr, _⟩ := I.frzK hq
    rw [hgd] at e'; cases e'
    rw [hdt] at d'; injection d' with d1 _; subst d1
    obtain ⟨q1, q2⟩ := dict_rd (h := s.heap) pr kv
    have len : (ks.map keyD).length = (toDs vs).length := by rw [List.length_map, toDs_length, f.1]
    refine .dict hs hgd hx.1 hdt ?_ ?_
    · rw [zip_fst len, ek, List.map_map]; exact q1
    · rw [zip_snd len]; exact Rels.rd I vs _ _ f.2 rr q2
  | .ref _, _, _, f, _, _ => by simp [okR] at f
  | .ty _, _, _, f, _, _ => by simp [okR] at f
theorem Rels.rd (I : Inv X pins σ H s) : ∀ (ps : List PV) (vs : List V) (us : List Value), okRs ps = true → Rels X.K H ps vs → Vals vs us → RDs s.heap us (toDs ps)
  | [], _, _, _, r, rv => by rw [r.len0] at rv; cases rv; simp only [toDs]; exact .nil
  | p :: ps, _, _, f, r, rv => by
    obtain ⟨v, vs, rfl, r1, r2⟩ := r.uncons
    cases rv with
    | cons q1 q2 =>
      simp only [okRs, Bool.and_eq_true] at f
      simp only [toDs]
      exact .cons (Rel.rd I p v _ f.1 r1 q1) (Rels.rd I ps vs _ f.2 r2 q2)
end
end
/-- what repr asks of a value that stands so in the heap -/
def oRepr (K : PySem.W.Frag) : List V → Hp → VK → Prop := fun xs H Q => ∃ (x : V) (d : PyData), xs = [x] ∧ d.showable = true ∧ d.depth ≤ 64 ∧ d.shown.length ≤ sizeLine ∧ Q (.str d.shown) H ∧
  ((∃ p, okR p = true ∧ Rel K H p x ∧ d = toD p) ∨ (∃ a ys ps, x = .ref a ∧ H a = some (.lst ys) ∧ okRs ps = true ∧ Rels K H ps ys ∧ d = .list (toDs ps)))
theorem repr_rd {prog : Program} {w : World} {A : Around} {E : Value → Shared → Prop} {s : Shared} {Q : Value → Shared → Prop} {u : Value} {d : PyData} (r : RD s.heap u d) (hs : d.showable = true) (hG : A.guards = some []) (hu : A.units + (d.depth + 1) < cLine) (hl : d.shown.length ≤ sizeLine)
    (hQ : ∀ h' t tk, (∀ b o, s.heap.get? b = some o → h'.get? b = some o) → Q (.str d.shown t) { s with heap := h', toks := tk }) : wpAny (model prog w) A (call (.builtin "repr") [u]) Q E s := by
  cases r with
  | none => exact P.repr_of_none (by have := hQ s.heap s.toks (s.toks + 1) fun _ _ e => e; simpa only [PyData.shown] using this)
  | bool b => exact P.repr_of_bool (by have := hQ s.heap s.toks (s.toks + 1) fun _ _ e => e; simpa only [PyData.shown] using this)
  | int i t => exact P.repr_of_int (by simpa [PyData.showable] using hs) (by have := hQ s.heap s.toks (s.toks + 1) fun _ _ e => e; simpa only [PyData.shown] using this)
  | str y t => exact P.repr_of_str (hsz := by simpa only [PyData.shown] using hl) (by have := hQ s.heap s.toks (s.toks + 1) fun _ _ e => e; simpa only [PyData.shown] using this)
  | @list a o ws n ds g1 g2 g3 g4 =>
    obtain ⟨_, r⟩ := RD.reads (.list g1 g2 g3 g4)
    have room : (listText (PyData.shownAll ds)).length ≤ sizeLine := by simpa only [PyData.shown] using hl
    obtain ⟨bs, hb, hk⟩ := RDs.shows (prog := prog) (w := w) g4 (by simpa [PyData.showable] using hs) fun t ht => Nat.le_trans (listText_mem_le ht) room
    have out : a ∉ bs := not_mem_of_deeper r (by simp only [PyData.depth]; omega) hb
    simp only [PyData.depth] at hu
    simp only [PyData.shown] at hQ
    refine call_repr_slot (by omega) ⟨o, g1, g2⟩ F.slot_list_repr.toG ?_
    obtain ⟨l⟩ := ws
    cases l with
    | nil =>
      cases (show RDs s.heap [] ds from g4)
      simp only [PyData.shownAll, listText_nil] at hQ
      exact call_list_repr_empty ⟨o, g1, g2⟩ g1 g3 ⟨_, _, rfl, hQ s.heap _ _ fun _ _ e => e⟩
    | cons x l =>
      exact call_list_reprK g1 g2 g3 out (by simpa using hk.length_eq) (fun i y e => hk.item i y (by simpa using e)) hG (fun b _ => Clear.nil b) (by show A.units + 1 + _ < cLine; omega) (fun _ _ e => e) (fun h' t tk hk' => ⟨_, _, rfl, hQ h' t tk hk'⟩) room
  | @tuple a o ws n ds g1 g2 g3 g4 =>
    obtain ⟨_, r⟩ := RD.reads (.tuple g1 g2 g3 g4)
    have room : (tupleText (PyData.shownAll ds)).length ≤ sizeLine := by simpa only [PyData.shown] using hl
    obtain ⟨bs, hb, hk⟩ := RDs.shows (prog := prog) (w := w) g4 (by simpa [PyData.showable] using hs) fun t ht => Nat.le_trans (tupleText_mem_le ht) room
    have out : a ∉ bs := not_mem_of_deeper r (by simp only [PyData.depth]; omega) hb
    simp only [PyData.depth] at hu
    simp only [PyData.shown] at hQ
    exact call_repr_slot (by omega) ⟨o, g1, g2⟩ F.slot_tuple_repr (call_tuple_reprK g1 g2 g3 out hk hG (fun b _ => Clear.nil b) (by show A.units + 1 + _ < cLine; omega) (fun _ _ e => e) (fun h' t tk hk' => ⟨_, _, rfl, hQ h' t tk hk'⟩) room)
  | @dict a o es n kvs g0 g1 g2 g3 g4 g5 =>
    obtain ⟨_, r⟩ := RD.reads (.dict g0 g1 g2 g3 g4 g5)
    have room : (dictText (PyData.shownKv kvs)).length ≤ sizeLine := by simpa only [PyData.shown] using hl
    obtain ⟨s1, s2⟩ := PyData.showableKv_split kvs (by simpa [PyData.showable] using hs)
    obtain ⟨b1, hb1, k1⟩ := RDs.shows (prog := prog) (w := w) g4 s1 fun t ht => let ⟨p, hp, hl⟩ := PyData.shownKv_key_le kvs t ht; Nat.le_trans hl (Nat.le_trans (dictText_mem_le hp) room)
    obtain ⟨b2, hb2, k2⟩ := RDs.shows (prog := prog) (w := w) g5 s2 fun t ht => let ⟨p, hp, hl⟩ := PyData.shownKv_val_le kvs t ht; Nat.le_trans hl (Nat.le_trans (dictText_mem_le hp) room)
    have hb : ReadAtMost s.heap (PyData.depthKv kvs) (b1 ++ b2) := (hb1.mono (PyData.depthAll_keys_le kvs)).append (hb2.mono (PyData.depthAll_vals_le kvs))
    have out : a ∉ b1 ++ b2 := not_mem_of_deeper r (by simp only [PyData.depth]; omega) hb
    simp only [PyData.depth] at hu
    simp only [PyData.shown, PyData.shownKv_eq] at hQ
    exact call_repr_slot (by omega) ⟨o, g1, g2⟩ F.slot_dict_repr (call_dict_reprK g1 g2 g3 g0 out (ReprEntriesK.of_two es.toList _ _ (k1.more_le (fun b z => List.mem_append_left _ z) (PyData.depthAll_keys_le kvs)) (k2.more_le (fun b z => List.mem_append_right _ z) (PyData.depthAll_vals_le kvs))) hG (fun b _ => Clear.nil b)
      (by show A.units + 1 + _ < cLine; omega) (fun _ _ e => e) (fun h' t tk hk' => ⟨_, _, rfl, hQ h' t tk hk'⟩) (by rw [← PyData.shownKv_eq]; exact room))
theorem call_reprA {X : Cx} (hG : X.A.guards = some []) (hu : X.A.units + 66 < cLine) : CallR X (.builtin "repr") (oRepr X.K) := by
  intro pins s σ H xs us Q I rx h
  obtain ⟨x, d, rfl, hs, hz, hl, q, h⟩ := h
  obtain ⟨u, rfl, ru⟩ := vals1 rx
  have rd : RD s.heap u d := by
    rcases h with ⟨p, ok, r, rfl⟩ | ⟨a, ys, ps, rfl, ha, ok, rr, rfl⟩
    · exact Rel.rd I p x u ok r ru
    · cases ru
      obtain ⟨its, rx, ⟨o, n, e, c, _, dd⟩, _⟩ := I.list (.of ha)
      exact .list e c dd (Rels.rd I ps ys its ok rr rx)
  exact repr_rd rd hs hG (by omega) hl fun h' t tk hk => ⟨.str _, H, I.kept hk, ⟨_, rfl⟩, q⟩
/-- a list that may change, as it stands -/
def vwL (h : PH) : PV → PV
  | .ref a => match h a with | some (.lst xs) => .lst xs | _ => .ref a
  | p => p
def rRepr : PRA := fun ps h Q => match ps with
  | [p] => (okR (vwL h p) = true ∧ (toD (vwL h p)).showable = true ∧ (toD (vwL h p)).depth ≤ 64 ∧ (toD (vwL h p)).shown.length ≤ SZ) ∧ Q (.str (toD (vwL h p)).shown) h
  | _ => False
theorem lf_repr {K : PySem.W.Frag} : LfA K (oRepr K) rRepr := by
  intro xs H ps h Q' Q rp s r l
  unfold rRepr at r
  split at r
  · rename_i p
    obtain ⟨v, rfl, r1⟩ := rp.one
    obtain ⟨⟨f, hs, hz, hl⟩, r⟩ := r
    refine ⟨v, _, rfl, hs, hz, sz_le hl, l _ _ _ _ r .refl (rel_str.mpr rfl) s, ?_⟩
    cases p with
    | ref a =>
      simp only [vwL] at f ⊢
      cases e : h a with
      | none => rw [e] at f; simp [okR] at f
      | some o =>
        cases o with
        | lst ys =>
          obtain ⟨u, e1, zs, rfl, rr⟩ := s a _ e
          simp only [e, okR] at f
          exact .inr ⟨a, zs, ys, rel_ref.mp r1, e1, f, rr, by simp only [toD]⟩
        | dct _ _ => simp [e, okR] at f
        | ins _ _ _ => simp [e, okR] at f
        | lck _ _ => simp [e, okR] at f
    | _ => exact .inl ⟨_, f, r1, rfl⟩
  · exact r.elim

/-! ### list(..), tuple(..), sum, int, str -/
def listed (h : PH) : PV → Option (List PV)
  | .tup xs => some xs
  | p => seqL h p
theorem listed_sq {K : PySem.W.Frag} {H : Hp} {h : PH} {p : PV} {v : V} {ps : List PV} (r : Rel K H p v) (s : Sim K H h) (e : listed h p = some ps) : ∃ a xs, v = .ref a ∧ (SqL K H a xs ∨ SqT K H a xs) ∧ Rels K H ps xs := by
  cases p with
  | tup qs =>
    simp only [listed, Option.some.injEq] at e
    subst e
    obtain ⟨a, xs, e1, f, rr⟩ := rel_tup.mp r
    exact ⟨a, xs, e1, .inr f, rr⟩
  | _ =>
    obtain ⟨a, xs, e1, f, rr⟩ := seqL_sq r s e
    exact ⟨a, xs, e1, .inl f, rr⟩
def rListOf : PRA := fun ps h Q => match ps with
  | [p] => (match listed h p with | some xs => Q (.lst xs) h | none => False)
  | _ => False
/-- .. one that may change -/
def rListOfM : PRA := fun ps h Q => match ps with
  | [p] => (match listed h p with | some xs => ∀ a, h a = none → Q (.ref a) (up h a (.lst xs)) | none => False)
  | _ => False
def oListOf (K : PySem.W.Frag) : List V → Hp → VK → Prop := fun xs H Q => ∃ p ys, xs = [.ref p] ∧ (SqL K H p ys ∨ SqT K H p ys) ∧ ∀ l, H l = none → Q (.ref l) (upd H l (.lst ys))
theorem kf_listOf {K : PySem.W.Frag} : KfA K (oListOf K) rListOf := by
  intro xs H ps h Q' Q rp s r l
  unfold rListOf at r
  split at r
  · split at r
    · rename_i e
      obtain ⟨v, rfl, r1⟩ := rp.one
      obtain ⟨a, ys, rfl, hq, rr⟩ := listed_sq r1 s e
      exact ⟨a, ys, rfl, hq, fun c hc => keep_l l s rr r hc⟩
    · exact r.elim
  · exact r.elim
theorem kf_listOfM {K : PySem.W.Frag} : KfA K (oListOf K) rListOfM := by
  intro xs H ps h Q' Q rp s r l
  unfold rListOfM at r
  split at r
  · split at r
    · rename_i e
      obtain ⟨v, rfl, r1⟩ := rp.one
      obtain ⟨a, ys, rfl, hq, rr⟩ := listed_sq r1 s e
      exact ⟨a, ys, rfl, hq, fun c hc => make_l l s rr r hc⟩
    · exact r.elim
  · exact r.elim
def rTupOf : PRA := fun ps h Q => match ps with
  | [p] => (match listed h p with | some xs => Q (.tup xs) h | none => False)
  | _ => False
def oTupOf (K : PySem.W.Frag) : List V → Hp → VK → Prop := fun xs H Q => ∃ p ys, xs = [.ref p] ∧ ((SqL K H p ys ∧ ∀ l, H l = none → Q (.ref l) (upd H l (.tup ys))) ∨ (SqT K H p ys ∧ Q (.ref p) H))
theorem lf_tupOf {K : PySem.W.Frag} : LfA K (oTupOf K) rTupOf := by
  intro xs H ps h Q' Q rp s r l
  unfold rTupOf at r
  split at r
  · rename_i p
    obtain ⟨v, rfl, r1⟩ := rp.one
    cases p with
    | tup qs =>
      obtain ⟨a, ys, rfl, hq, rr⟩ := rel_tup.mp r1
      exact ⟨a, ys, rfl, .inr ⟨hq, l _ _ _ _ r .refl (rel_tup.mpr ⟨a, ys, rfl, hq, rr⟩) s⟩⟩
    | _ =>
      simp only [listed] at r
      split at r
      · rename_i e
        obtain ⟨a, ys, rfl, hq, rr⟩ := seqL_sq r1 s e
        exact ⟨a, ys, rfl, .inl ⟨hq, fun c hc => make_t l s rr r hc⟩⟩
      · exact r.elim
  · exact r.elim
def rSumI : PRA := fun ps h Q => match ps with
  | [p] => (match seqL h p with | some xs => ∃ ns : List Int, xs = ns.map PV.int ∧ Q (.int ns.sum) h | none => False)
  | _ => False
theorem lf_sum {K : PySem.W.Frag} : LfA K (rSum K) rSumI := by
  intro xs H ps h Q' Q rp s r l
  unfold rSumI at r
  split at r
  · split at r
    · rename_i e
      obtain ⟨v, rfl, r1⟩ := rp.one
      obtain ⟨a, ys, rfl, hq, rr⟩ := seqL_sq r1 s e
      obtain ⟨ns, rfl, r⟩ := r
      rw [rels_ints rr] at hq
      exact ⟨a, ns, rfl, hq, l _ _ _ _ r .refl (rel_int.mpr rfl) s⟩
    · exact r.elim
  · exact r.elim
section
variable {X : Cx} {pos p : Pos} {e : Expr} {m : MA}
theorem le_len (hm : X.mg "len" = none) (ha : LAn X [e] 1 m) (hg : Gl X "len" := by rfl) (h1 : starEach [e] X.env = (false, eval e X.env) :: starEach [] X.env := by rfl) : LE X (.Call (.Name "len" p) [e] [] pos) (mBlt rLen m) :=
  le_blt call_len lf_len hm ha hg (h1 := h1) (h2 := rfl)
theorem le_repr (hG : X.A.guards = some []) (hu : X.A.units + 66 < cLine) (hm : X.mg "repr" = none) (ha : LAn X [e] 1 m) (hg : Gl X "repr" := by rfl) (h1 : starEach [e] X.env = (false, eval e X.env) :: starEach [] X.env := by rfl) :
    LE X (.Call (.Name "repr" p) [e] [] pos) (mBlt rRepr m) := le_blt (call_reprA hG hu) lf_repr hm ha hg (h1 := h1) (h2 := rfl)
theorem le_sum (hc : X.calm = true) (hm : X.mg "sum" = none) (ha : LAn X [e] 1 m) (hg : Gl X "sum" := by rfl) (h1 : starEach [e] X.env = (false, eval e X.env) :: starEach [] X.env := by rfl) :
    LE X (.Call (.Name "sum" p) [e] [] pos) (mBlt rSumI m) := le_blt (cr_sum hc) lf_sum hm ha hg (h1 := h1) (h2 := rfl)
theorem le_list (hm : X.mg "list" = none) (ha : LAn X [e] 1 m) (hg : Gl X "list" := by rfl) (h1 : starEach [e] X.env = (false, eval e X.env) :: starEach [] X.env := by rfl) :
    LE X (.Call (.Name "list" p) [e] [] pos) (mBlt rListOf m) := le_tyK call_list_of kf_listOf hm ha hg (h1 := h1) (h2 := rfl)
theorem le_listM (hm : X.mg "list" = none) (ha : LAn X [e] 1 m) (hg : Gl X "list" := by rfl) (h1 : starEach [e] X.env = (false, eval e X.env) :: starEach [] X.env := by rfl) :
    LE X (.Call (.Name "list" p) [e] [] pos) (mBlt rListOfM m) := le_tyK call_list_of kf_listOfM hm ha hg (h1 := h1) (h2 := rfl)
theorem le_tuple (hm : X.mg "tuple" = none) (ha : LAn X [e] 1 m) (hg : Gl X "tuple" := by rfl) (h1 : starEach [e] X.env = (false, eval e X.env) :: starEach [] X.env := by rfl) :
    LE X (.Call (.Name "tuple" p) [e] [] pos) (mBlt rTupOf m) := le_ty call_tuple_of lf_tupOf hm ha hg (h1 := h1) (h2 := rfl)
end

/-! ### x[::-1], a list that may change -/
def mRevM (m : ME) : ME := fun τ h Q => m τ h fun p h1 => match seqL h1 p with
    | some xs => ∀ a, h1 a = none → Q (.ref a) (up h1 a (.lst xs.reverse))
    | none => False
section
variable {X : Cx} {pos p1 p2 p3 : Pos} {e : Expr}
theorem le_revM {m : ME} {k : Nat} (he : LE X e m) : LE X (.Subscript e (.Slice none none (some (.UnaryOp .USub (.Constant (.int 1) k p1) p2)) p3) pos) (mRevM m) := by
  refine PE.weak (PE.kp (pe_revA he)) fun σ H Q ⟨τ, h, Q', s, sh, q, l⟩ => ?_
  refine ⟨τ, h, _, s, sh, q, fun p h1 v H1 q1 g1 r1 s1 => ?_⟩
  split at q1
  · rename_i e
    obtain ⟨a, ys, rfl, hq, rr⟩ := seqL_sq r1 s1 e
    exact .inl ⟨a, ys, rfl, hq, fun c hc => make_l (l.mono g1) s1 rr.reverse q1 hc⟩
  · exact q1.elim
end

/-! ### {k: v, ..}, keys ints and texts, one dict that may change -/
abbrev MPs := PSt → PH → (List (Key × PV) → PH → Prop) → Prop
def mPs : List (ME × ME) → MPs
  | [], _, h, Q => Q [] h
  | (mk, mv) :: r, τ, h, Q => mk τ h fun q h1 => mv τ h1 fun p h2 => match kOf q with | some k => mPs r τ h2 fun kvs h3 => Q ((k, p) :: kvs) h3 | none => False
def mDispM (l : List (ME × ME)) : ME := fun τ h Q => mPs l τ h fun kvs h1 => (kvs.map (·.1)).Nodup ∧ ∀ a, h1 a = none → Q (.ref a) (up h1 a (.dct (kvs.map (·.1)) (kvs.map (·.2))))
theorem merge_nd : ∀ (more acc : List (Key × V)), ((acc ++ more).map (·.1)).Nodup → mergeK acc more = acc ++ more
  | [], acc, _ => by show acc = acc ++ []; rw [List.append_nil]
  | p :: r, acc, h => by
    have e : putK acc p.1 p.2 = acc ++ [p] := by
      refine putK_new _ ?_
      have hn : p.1 ∉ acc.map (·.1) := by
        rw [List.map_append, List.map_cons] at h
        exact fun z => (List.nodup_append.mp h).2.2 _ z _ List.mem_cons_self rfl
      clear h
      induction acc with
      | nil => rfl
      | cons q acc ih =>
        rw [List.map_cons, List.mem_cons, not_or] at hn
        rw [valV_neg (fun z => hn.1 z.symm)]
        exact ih hn.2
    show mergeK (putK acc p.1 p.2) r = _
    rw [e, merge_nd r (acc ++ [p]) (by rw [List.append_assoc]; exact h), List.append_assoc]; rfl
def RelP (K : PySem.W.Frag) (H : Hp) : List (Key × PV) → List (V × V) → Prop
  | [], ps => ps = []
  | x :: xs, ps => ∃ v vs, ps = (kV x.1, v) :: vs ∧ Rel K H x.2 v ∧ RelP K H xs vs
theorem RelP.mono {K : PySem.W.Frag} {H H' : Hp} (m : Mono H H') : ∀ {xs : List (Key × PV)} {ps : List (V × V)}, RelP K H xs ps → RelP K H' xs ps
  | [], _, h => h
  | x :: xs, _, ⟨v, vs, e, h1, h2⟩ => ⟨v, vs, e, h1.mono m, RelP.mono m h2⟩
theorem RelP.pairs {K : PySem.W.Frag} {H : Hp} : ∀ {xs : List (Key × PV)} {ps : List (V × V)}, RelP K H xs ps → ∃ kvs : List (Key × V), ps = kvs.map (fun kv => (kV kv.1, kv.2)) ∧ xs.map (·.1) = kvs.map (·.1) ∧ Rels K H (xs.map (·.2)) (kvs.map (·.2))
  | [], _, h => ⟨[], h, rfl, .nil⟩
  | x :: xs, _, ⟨v, vs, e, h1, h2⟩ => by
    obtain ⟨kvs, e1, e2, r⟩ := RelP.pairs h2
    refine ⟨(x.1, v) :: kvs, by rw [e, e1]; rfl, by rw [List.map_cons, List.map_cons, e2], ?_⟩
    rw [List.map_cons, List.map_cons]
    exact .cons h1 r
def PsUp (K : PySem.W.Frag) (n : Nat) (trs : List (TE × TE)) (l : List (ME × ME)) : Prop := ∀ (σ : L2.St) (H : Hp) (τ : PSt) (h : PH) (Q' : List (Key × PV) → PH → Prop) (Q : List (V × V) → Hp → Prop), SimS K H σ τ → Sim K H h → mPs l τ h Q' →
  (∀ xs h1 ps H1, Q' xs h1 → xs.length = n → Go H h H1 h1 → RelP K H1 xs ps → Sim K H1 h1 → Q ps H1) → tPairs trs σ H Q
/-- the pairs of a display -/
structure LPs (X : Cx) (pos : Pos) (keys : List (Option Expr)) (values : List Expr) (n : Nat) (l : List (ME × ME)) : Prop where
  ex : ∃ trs, PPs X pos keys values trs ∧ PsUp X.K n trs l
section
variable {X : Cx} {pos : Pos} {k v : Expr} {ks : List (Option Expr)} {vs : List Expr} {n : Nat} {l : List (ME × ME)} {mk mv : ME}
theorem lps_nil : LPs X pos [] [] 0 [] := ⟨[], pps_nil, fun σ H τ h Q' Q s sh q l => l [] h [] H q rfl .refl rfl sh⟩
theorem lps_cons (hk : LE X k mk) (hv : LE X v mv) (hr : LPs X pos ks vs n l) : LPs X pos (some k :: ks) (v :: vs) (n + 1) ((mk, mv) :: l) := by
  obtain ⟨trs, h1, h2⟩ := hr.ex
  refine ⟨_, pps_cons hk hv h1, fun σ H τ h Q' Q s sh q l => ?_⟩
  refine ⟨τ, h, _, s, sh, q, fun q1 ha x H1 qa g1 r1 s1 => ?_⟩
  refine ⟨τ, ha, _, s.mono g1.mono, s1, qa, fun p hb y H2 qb g2 r2 s2 => ?_⟩
  split at qb
  · rename_i k ek
    refine h2 σ H2 τ hb _ _ ((s.mono g1.mono).mono g2.mono) s2 qb fun xs hc ps H3 qc hn g3 rp s3 => ?_
    have ex := kOf_rel r1 ek
    subst ex
    exact l _ _ _ _ qc (by rw [List.length_cons, hn]) ((g1.trans g2).trans g3) ⟨y, ps, rfl, r2.mono g3.mono, rp⟩ s3
  · exact qb.elim
theorem le_dispM (h : LPs X pos ks vs n l) (hn : n ≤ 15 := by decide) (hall : ks.all (·.isSome) = true := by rfl) (hl : ks.length = vs.length := by rfl) (h0 : ks ≠ [] := by simp) (h15 : ks.length ≤ 15 := by decide) : LE X (.Dict ks vs pos) (mDispM l) := by
  obtain ⟨trs, h1, h2⟩ := h.ex
  refine PE.weak (pe_disp h1 hall hl h0 h15) fun σ H Q ⟨τ, h, Q', s, sh, q, lq⟩ => ?_
  intro p hp
  have hp0 : h p = none := sh.fresh hp
  have g0 : Go H h (upd H p (.dK [])) h := .new hp
  refine h2 σ _ τ h _ _ (s.mono g0.mono) (sh.new hp) q fun xs h1 ps H1 q1 hl1 g1 rp s1 => ?_
  obtain ⟨nd, q1⟩ := q1
  have hH : H1 p = some (.dK []) := g1.frame p _ upd_same hp0
  have hd : h1 p = none := g1.dom p _ upd_same hp0
  obtain ⟨kvs, e1, e2, rr⟩ := rp.pairs
  have el : kvs.length = xs.length := by
    have := congrArg List.length e2
    rw [List.length_map, List.length_map] at this
    exact this.symm
  refine ⟨hH, kvs, e1, by rw [el, hl1]; exact hn, ?_⟩
  have em : mergeK [] kvs = kvs := by
    have := merge_nd kvs [] (by rw [List.nil_append, ← e2]; exact nd)
    rwa [List.nil_append] at this
  rw [em]
  have mm : Mono H1 (upd H1 p (.dK kvs)) := Mono.dK hH
  refine lq _ _ _ _ (q1 p hd) ?_ (rel_ref.mpr rfl) (s1.put mm ⟨kvs, rfl, e2, rr.mono mm⟩)
  have gr : Go H h (upd H1 p (.dK kvs)) h1 := (g0.trans g1).renew hp mm
  have : upd H1 p (.dK kvs) p = some (.dK kvs) := upd_same
  exact gr.own hp
end
end N3

namespace N3
open PySem PySem.Spec PyProof.Rows L2

/-! ### the law's own call -/
/-- what a law is handed: a list of at most n whole numbers; what it must say -/
def spLaw (n : Nat) : SpP := fun ps h Q => ∃ ns : List Int, ps = [.lst (ns.map PV.int)] ∧ ns.length ≤ n ∧ (∀ z ∈ ns, Builtin.Int.intBits z ≤ 1048576) ∧ h = (fun _ => none) ∧ ∀ h', Q (.bl true) h'
theorem rels_of_ints {K : PySem.W.Frag} {H : Hp} : ∀ ns : List Int, Rels K H (ns.map PV.int) (ns.map V.int)
  | [] => .nil
  | n :: ns => .cons (rel_int.mpr rfl) (rels_of_ints ns)
theorem call_of_law {P : Program} {w : World} {K : PySem.W.Frag} {mg mb : Str → Option Value} {k n : Nat} {fa a : Addr} {fd : FuncData} {x : Str} {s1 : Shared} {vs : List Value} {ns : List Int}
    (KX : K.In s1.heap) (hns : s1.heap.Ns mainGlobals mg) (hb : s1.heap.Ns builtinsNs mb) (hbb : ∀ x : Str, x ≠ "__name__" → mb x = bootBuiltins x) (hlim : s1.heap.NoLimit) (hg : s1.gens = #[])
    (ha : s1.heap.get? a = some { cls := .type "list", data := .seq vs.toArray }) (hi : IntsAre vs ns) (hl : ns.length ≤ n) (hn : n ≤ sizeLine) (hbits : ∀ z ∈ ns, Builtin.Int.intBits z ≤ 1048576) (hr : Room k callerA)
    (F : ∀ base : Heap, K.In base → base.Ns mainGlobals mg → FnG P w K mg base k fa fd [x] (spLaw n)) (hbind : ∀ (s : Shared) (u : Value), BindsTo s fd ⟨[u], []⟩ [(x, u)]) :
    codeAny (model P w) callerA (.call (.ref fa) ⟨[.ref a], []⟩) (fun r s' => r = .ok (.ret (.bool true)) ∧ OldK s1.heap s'.heap ∧ s'.os = s1.os ∧ AllBare s'.gens) s1 := by
  have rv := vals_ints hi
  have lenV := hi.length
  have lz : ns.length ≤ sizeLine := Nat.le_trans hl hn
  have main : ∀ H : Hp, (∀ b u, H b = some u → b = a ∧ ∃ o xs, u = .frz o (.lst xs)) → FrL K H a (ns.map V.int) → HOk P w H s1.heap → (H a ≠ none → K.lookup a = none) →
      codeAny (model P w) callerA (.call (.ref fa) ⟨[.ref a], []⟩) (fun r s' => r = .ok (.ret (.bool true)) ∧ OldK s1.heap s'.heap ∧ s'.os = s1.os ∧ AllBare s'.gens) s1 := by
    intro H only fr hok hK
    have off : ∀ {b : Addr}, b ≠ a → H b = none := fun {b} hb => by
      cases q : H b with
      | none => rfl
      | some u => exact absurd (only b u q).1 hb
    have ne_dict : ∀ {b : Addr} {o : Obj} {es : Array DictEntry} {ep : Nat}, s1.heap.get? b = some o → o.data = .dict es ep → b ≠ a := fun {b o es ep} e d z => by
      subst z
      rw [ha] at e; cases e
      cases (show Data.seq vs.toArray _ = Data.dict es ep from d)
    have nsB : ∀ {b : Addr} {m : Str → Option Value}, s1.heap.Ns b m → (hidT s1.heap H).Ns b m := fun {b m} ⟨o, es, ep, e, d, r⟩ => ⟨o, es, ep, hidT_get e (off (ne_dict e d)), d, r⟩
    have kB : K.In (hidT s1.heap H) := fun b o e => by
      refine hidT_get (KX b o e) ?_
      by_cases hb : b = a
      · subst hb
        cases q : H b with
        | none => rfl
        | some u => rw [hK (by rw [q]; exact fun z => nomatch z)] at e; cases e
      · exact off hb
    obtain ⟨mc, lim1, lim2⟩ := hlim
    have e0 : Env0 P w K mg (hidT s1.heap H) callerA [] s1 H :=
      ⟨rfl, ⟨kB, nsB hns, ⟨mb, nsB hb, hbb⟩, ⟨mc, nsB lim1, lim2⟩⟩, fun b o e => of_hidT e, Nat.le_of_eq (hidT_size _ _), trivial, fun b z => (List.not_mem_nil (show b ∈ ([] : List Addr) from z)).elim, hok, .of_eq hg⟩
    have up0 : upF K 1 (spLaw n) [.ref a] H (fun v _ => v = .bl true) E0 := by
      refine ⟨[.lst (ns.map PV.int)], fun _ => none, fun p _ => p = .bl true, rfl, .cons (rel_lst.mpr ⟨a, _, rfl, fr, rels_of_ints ns⟩) .nil, ?_, ⟨ns, rfl, hl, hbits, rfl, fun _ => rfl⟩, ?_⟩
      · intro b o z
        cases z
      · intro p h1 v H1 q _ r _
        have q' : p = .bl true := q
        subst q'
        exact rel_bl.mp r
    have go := (F _ kB (nsB hns)).run callerA [] s1 H ⟨[.ref a], []⟩ [.ref a] [.ref a] (fun v _ => v = .bl true) hr rfl e0 (hbind s1 (.ref a)) (.cons rfl .nil) up0
    refine codeAny_mono go fun r s' h => ?_
    cases r with
    | error e => exact False.elim h
    | ok fl =>
      cases fl with
      | next => exact False.elim h
      | brk => exact False.elim h
      | cont => exact False.elim h
      | ret u =>
        obtain ⟨v, H', os, bare, un, hok', r', q⟩ := h
        have q' : v = .bl true := q
        subst q'
        have eu : u = Value.bool true := r'
        subst eu
        refine ⟨rfl, OldK.of_keep fun b o e => ?_, os, bare⟩
        cases q : H b with
        | none => exact un.keep b o e q (fun z => List.not_mem_nil (show b ∈ ([] : List Addr) from z)) List.not_mem_nil
        | some u =>
          obtain ⟨_, ob, xs, rfl⟩ := only b u q
          have e1 := (hok b _ q).1
          have e2 := (hok' b _ (un.frzs b ob _ q)).1
          rw [e] at e1; cases e1
          exact e2
  cases hk : K.lookup a with
  | some o =>
    have e := KX a o hk
    rw [ha] at e; cases e
    exact main (fun _ => none) (fun b u z => nomatch z) (.inr ⟨_, vs.toArray, _, hk, rfl, rfl, rfl, by rw [List.size_toArray, lenV]; exact lz, by simpa using rv⟩) (fun b u z => nomatch z) fun z => absurd rfl z
  | none =>
    refine main (fun b => if b = a then some (.frz { cls := .type "list", data := .seq vs.toArray } (.lst (ns.map V.int))) else none) (fun b u z => ?_) (.inl ⟨_, if_pos rfl⟩) (fun b u z => ?_) fun _ => hk
    · by_cases hb : b = a
      · exact ⟨hb, _, _, (Option.some.inj ((if_pos hb).symm.trans z)).symm⟩
      · cases (if_neg hb).symm.trans z
    · by_cases hb : b = a
      · subst hb
        cases (if_pos rfl).symm.trans z
        exact ⟨ha, by rw [List.length_map]; exact lz, vs, _, rv, ha⟩
      · cases (if_neg hb).symm.trans z
theorem walk_g {l : PySem.W.OpenLaw} {n k : Nat} {q : Program} {loose : List Str} {XP : (Str → Option Value) → Heap → Prop} {YP : World → Heap → Prop} {d : DefRec} {K : Params → PySem.W.Frag} {x : Str}
    (hn : l.most = some n) (hn2 : n ≤ sizeLine) (hdf : d.params.defaults = []) (hr : Room k callerA) (hY : ∀ (w : World) (h : Heap), YP w h → (K w.params).In h)
    (F : ∀ (w : World) (mg : Str → Option Value) (fa : Addr) (h : Heap), (K w.params).In h → h.Ns mainGlobals mg → mg d.name = some (.ref fa) →
      ∃ fd : FuncData, (∀ (s : Shared) (u : Value), BindsTo s fd ⟨[u], []⟩ [(x, u)]) ∧ ∀ base : Heap, (K w.params).In base → base.Ns mainGlobals mg → FnG l.prog w (K w.params) mg base k fa fd [x] (spLaw n)) :
    PySem.W.WalkO q loose XP YP l.row.toRowW d [] (fun f vs => PySem.call f vs) := by
  refine Att.attach_callB hn hdf fun w s0 s1 mg mb fa o pm cd doc a vs ns G Y ho hd hcd hmg hobj hints hlen hbits hg => ?_
  have KX := hY w _ Y
  obtain ⟨fd, hb, hF⟩ := F w mg fa _ KX G.T.g hmg
  exact call_of_law KX G.T.g G.T.b G.T.builtins G.T.nolimit hg hobj hints hlen hn2 hbits hr hF hb
end N3
namespace N3
open PySem PySem.Spec PyProof.Rows L2

/-! ### a def of the text by its name: its object, how it takes what it is given, what it does -/
structure Fn (P : Program) (w : World) (K : PySem.W.Frag) (mg : Str → Option Value) (base : Heap) (k : Nat) (x : Str) (st : Stmt) (ps : List Str) (sp : SpP) : Prop where
  ex : ∃ (f : Addr) (fd : FuncData), mg x = some (.ref f) ∧ Fun K x x st f fd ∧ Binds K fd ps [] ∧ FnG P w K mg base k f fd ps sp
/-- an int's negative -/
def rNeg : PR1 := fun p h Q => match p with | .int i => Q (.int (-i)) h | _ => False
theorem lf_neg {K : PySem.W.Frag} : Lf1 K (rU fun i => .int (-i)) rNeg := by
  intro x H p h Q' Q rp s r l
  cases p with
  | int i => exact ⟨i, rel_int.mp rp, l _ _ _ _ r .refl (rel_int.mpr rfl) s⟩
  | _ => exact r.elim
section
variable {X : Cx} {pos p : Pos} {e : Expr} {es : List Expr} {n j k : Nat} {x : Str} {st : Stmt} {ps : List Str} {sp : SpP}
theorem le_fn {m : MA} (c : Fn X.prog X.w X.K X.mg X.base j x st ps sp) (hr : Room k X.A) (hj : j ≤ k) (hG : X.A.guards = some []) (ha : LAn X (e :: es) n m) (hp : n = ps.length := by rfl) (hg : Gl X x := by rfl) (hdb : (x == ("__debug__" : Str)) = false := by decide)
    (he : starEach (e :: es) X.env = (false, eval e X.env) :: starEach es X.env := by rfl) (hpl : (backTo pos (starEach es X.env)).any (·.1) = false := by rfl) : LE X (.Call (.Name x p) (e :: es) [] pos) (mBlt sp m) := by
  obtain ⟨f, fd, hm, F, hb, G⟩ := c.ex
  exact le_call G (hr.mono hj) hG hm F.kp hb ha hp hg hdb he hpl
theorem le_fn0 (c : Fn X.prog X.w X.K X.mg X.base j x st [] sp) (hr : Room k X.A) (hj : j ≤ k) (hG : X.A.guards = some []) (hg : Gl X x := by rfl) (hdb : (x == ("__debug__" : Str)) = false := by decide) : LE X (.Call (.Name x p) [] [] pos) (mBlt sp mNil) := by
  obtain ⟨f, fd, hm, F, hb, G⟩ := c.ex
  exact le_call0 G (hr.mono hj) hG hm F.kp hb hg hdb
/-- the keywords stand behind the arguments by place, in the parameters' order -/
def cat2 {α : Type} (xs ys : List α) : List α := xs ++ ys
theorem vals_cat {vs zs : List V} {us ws : List Value} (h1 : Vals vs us) (h2 : Vals zs ws) : Vals (cat2 vs zs) (cat2 us ws) := h1.append h2
theorem kwb_of {K : PySem.W.Frag} {f : Addr} {fd : FuncData} {ks : List Str} {i m : Nat} (F : Fun K x x st f fd) (hl : i + m = ps.length)
    (h : ∀ (kV doc pm : Value) (an : Option Addr) (cdv ct : Value) (us ws : List Value), us.length = i → ws.length = m → bindArgs (PySem.W.fnOf x x (defArgs st) (defBody st) (defScope st) .none kV doc pm an cdv ct) ⟨us, ks.zip ws⟩ = pure (ps.zip (cat2 us ws))) :
    KwB fd ps ks cat2 cat2 cat2 i m := by
  obtain ⟨oc, od, kV, doc, pm, an, cdv, ct, osl, rfl, lk, hcd⟩ := F.ex
  exact ⟨fun s us ws h1 h2 => .of_eq (h kV doc pm an cdv ct us ws h1 h2), fun _ _ r1 r2 => vals_cat r1 r2, fun _ _ r1 r2 => r1.append r2, fun {qs zs} h1 h2 => by unfold cat2; rw [List.length_append, h1, h2, hl]⟩
theorem le_fnK {i m' : Nat} {ks : List Str} {kws : List Keyword} {m mk : MA} (c : Fn X.prog X.w X.K X.mg X.base j x st ps sp) (hr : Room k X.A) (hj : j ≤ k) (hG : X.A.guards = some []) (hl : i + m' = ps.length)
    (h : ∀ (kV doc pm : Value) (an : Option Addr) (cdv ct : Value) (us ws : List Value), us.length = i → ws.length = m' → bindArgs (PySem.W.fnOf x x (defArgs st) (defBody st) (defScope st) .none kV doc pm an cdv ct) ⟨us, ks.zip ws⟩ = pure (ps.zip (cat2 us ws)))
    (ha : LAn X (e :: es) i m) (hkw : LKn X kws m' mk) (hg : Gl X x := by rfl) (hall : (backToKw pos (keywordEach kws X.env)).all (·.1.isSome) = true := by rfl) (hks : (backToKw pos (keywordEach kws X.env)).filterMap (·.1) = ks := by rfl)
    (hdb : (x == ("__debug__" : Str)) = false := by decide) (he : starEach (e :: es) X.env = (false, eval e X.env) :: starEach es X.env := by rfl)
    (hpl : ((backTo pos (starEach (e :: es) X.env)).any (·.1) || (backToKw pos (keywordEach kws X.env)).any (·.1.isNone)) = false := by rfl) : LE X (.Call (.Name x p) (e :: es) kws pos) (mKw sp cat2 m mk) := by
  obtain ⟨f, fd, hm, F, hb, G⟩ := c.ex
  exact le_callK G (hr.mono hj) hG hm F.kp (kwb_of F hl h) ha hkw hg hall hks hdb he hpl
theorem le_fnK0 {m' : Nat} {ks : List Str} {kws : List Keyword} {mk : MA} (c : Fn X.prog X.w X.K X.mg X.base j x st ps sp) (hr : Room k X.A) (hj : j ≤ k) (hG : X.A.guards = some []) (hl : 0 + m' = ps.length)
    (h : ∀ (kV doc pm : Value) (an : Option Addr) (cdv ct : Value) (us ws : List Value), us.length = 0 → ws.length = m' → bindArgs (PySem.W.fnOf x x (defArgs st) (defBody st) (defScope st) .none kV doc pm an cdv ct) ⟨us, ks.zip ws⟩ = pure (ps.zip (cat2 us ws)))
    (hkw : LKn X kws m' mk) (hg : Gl X x := by rfl) (hall : (backToKw pos (keywordEach kws X.env)).all (·.1.isSome) = true := by rfl) (hks : (backToKw pos (keywordEach kws X.env)).filterMap (·.1) = ks := by rfl)
    (hdb : (x == ("__debug__" : Str)) = false := by decide) (hpl : ((backTo pos (starEach [] X.env)).any (·.1) || (backToKw pos (keywordEach kws X.env)).any (·.1.isNone)) = false := by rfl) : LE X (.Call (.Name x p) [] kws pos) (mKw sp cat2 mNil mk) := by
  obtain ⟨f, fd, hm, F, hb, G⟩ := c.ex
  exact le_callK0 G (hr.mono hj) hG hm F.kp (kwb_of F hl h) hkw hg hall hks hdb hpl
theorem hu66 (hr : Room k X.A) : X.A.units + 66 < cLine := by have := hr.un; omega
theorem hu65 (hr : Room k X.A) : X.A.units + 65 < cLine := by have := hr.un; omega
theorem hu64 (hr : Room k X.A) : X.A.units + 64 < cLine := by have := hr.un; omega
theorem hu1 (hr : Room k X.A) : X.A.units + 1 < cLine := by have := hr.un; omega
end
end N3

namespace N3
open PySem PySem.Spec PyProof.Rows L2

/-! ### isinstance of the built-in types -/
inductive Tn where
  | non | bl | int | str | tup | lst | dct
def Tn.name : Tn → String
  | .non => "NoneType" | .bl => "bool" | .int => "int" | .str => "str" | .tup => "tuple" | .lst => "list" | .dct => "dict"
def isI : Tn → Tn → Bool
  | .non, .non => true | .bl, .bl => true | .bl, .int => true | .int, .int => true | .str, .str => true | .tup, .tup => true | .lst, .lst => true | .dct, .dct => true
  | _, _ => false
theorem isI_kit : ∀ a b : Tn, kitB a.name b.name = some (isI a b)
  | .non, b => by cases b <;> decide +kernel
  | .bl, b => by cases b <;> decide +kernel
  | .int, b => by cases b <;> decide +kernel
  | .str, b => by cases b <;> decide +kernel
  | .tup, b => by cases b <;> decide +kernel
  | .lst, b => by cases b <;> decide +kernel
  | .dct, b => by cases b <;> decide +kernel
def tn (h : PH) : PV → Option Tn
  | .non => some .non
  | .bl _ => some .bl
  | .int _ => some .int
  | .str _ => some .str
  | .tup _ => some .tup
  | .lst _ => some .lst
  | .dct _ _ => some .dct
  | .ref a => match h a with | some (.lst _) => some .lst | some (.dct _ _) => some .dct | _ => none
  | .ty _ => none
theorem tn_ty {K : PySem.W.Frag} {H : Hp} {h : PH} {p : PV} {v : V} {t : Tn} (r : Rel K H p v) (s : Sim K H h) (e : tn h p = some t) : TyX K H v (.type t.name) := by
  cases p with
  | non => cases e; rw [rel_non.mp r]; exact .base .non
  | bl b => cases e; rw [rel_bl.mp r]; exact .base (.bl b)
  | int b => cases e; rw [rel_int.mp r]; exact .base (.int b)
  | str b => cases e; rw [rel_str.mp r]; exact .base (.str b)
  | tup ps =>
    cases e
    obtain ⟨a, xs, rfl, hq, _⟩ := rel_tup.mp r
    rcases hq with (hq | ⟨o, hq⟩) | ⟨o, its, n, hk, hc, _⟩
    · exact .base (.tup hq)
    · exact .fTuple hq
    · exact .kTuple hk hc
  | lst ps =>
    cases e
    obtain ⟨a, xs, rfl, hq, _⟩ := rel_lst.mp r
    rcases hq with ⟨o, hq⟩ | ⟨o, its, n, hk, hc, _⟩
    · exact .base (.frz hq)
    · exact .kList hk hc
  | dct ks vs =>
    cases e
    obtain ⟨a, kvs, rfl, ⟨o, hq⟩, _⟩ := rel_dct.mp r
    exact .fDict hq
  | ref a =>
    simp only [tn] at e
    have ev := rel_ref.mp r
    subst ev
    split at e
    · rename_i xs eh
      cases e
      obtain ⟨u, e1, ys, rfl, _⟩ := s a _ eh
      exact .base (.lst e1)
    · rename_i ks vs eh
      cases e
      obtain ⟨u, e1, kvs, rfl, _⟩ := s a _ eh
      exact .base (.dK e1)
    · cases e
  | ty n => cases e
def rIsT (n : Tn) : PRA := fun ps h Q => match ps with
  | [p, .ty m] => m = n.name ∧ (match tn h p with | some t => Q (.bl (isI t n)) h | none => False)
  | _ => False
def mIsI (n : Tn) (m : ME) : ME := fun τ h Q => m τ h fun p h1 => match tn h1 p with | some t => Q (.bl (isI t n)) h1 | none => False
section
variable {X : Cx} {pos p p2 : Pos} {e : Expr} {m : ME}
theorem le_isi (n : Tn) {x : Str} (hm : X.mg "isinstance" = none) (hx : X.mg x = none) (he : LE X e m) (hb : bootBuiltins x = some (.type n.name) := by decide +kernel) (hg : Gl X "isinstance" := by rfl) (hgx : Gl X x := by rfl) (hn : x ≠ "__name__" := by decide) (hd : (x == ("__debug__" : Str)) = false := by decide)
    (h1 : starEach [e, .Name x p2] X.env = (false, eval e X.env) :: starEach [.Name x p2] X.env := by rfl) (h2 : starEach [.Name x p2] X.env = (false, eval (.Name x p2) X.env) :: starEach [] X.env := by rfl)
    (h3 : (backTo pos (starEach [.Name x p2] X.env)).any (·.1) = false := by rfl) : LE X (.Call (.Name "isinstance" p) [e, .Name x p2] [] pos) (mIsI n m) := by
  have ht : LE X (.Name x p2) (mC (.ty n.name)) := le_c (pe_bltn (v := .ty n.name) hgx hx hb rfl hn hd) fun _ => by simp only [Rel]
  have key := le_blt (r' := rIsT n) (pos := pos) (p := p) (call_isi (X := X)) (by
    intro xs H ps h Q' Q rp s r l
    unfold rIsT at r
    split at r
    · rename_i q m
      obtain ⟨rfl, r⟩ := r
      obtain ⟨v, w, rfl, r1, r2⟩ := rp.two
      have ew : w = .ty n.name := by simpa only [Rel] using r2
      subst ew
      split at r
      · rename_i t et
        exact ⟨v, _, _, _, isI t n, rfl, .ty _, tn_ty r1 s et, kit_ty (isI_kit t n), l _ _ _ _ r .refl (rel_bl.mpr rfl) s⟩
      · exact r.elim
    · exact r.elim) hm (la_cons he (la_cons ht la_nil h2) h1) hg (h1 := h1) (h2 := h3)
  have same : mBlt (rIsT n) (mCons m (mCons (mC (.ty n.name)) mNil)) = mIsI n m := by
    funext τ h Q
    show (m τ h fun p h1 => rIsT n [p, .ty n.name] h1 Q) = m τ h fun p h1 => _
    congr 1
    funext p h1
    show (n.name = n.name ∧ _) = _
    simp
  rwa [same] at key
end

/-! ### all, any of truths; str of an int -/
def rAllB : PRA := fun ps h Q => match ps with
  | [p] => (match seqL h p with | some xs => ∃ bs : List Bool, xs = bs.map PV.bl ∧ Q (.bl (bs.all id)) h | none => False)
  | _ => False
def rAnyB : PRA := fun ps h Q => match ps with
  | [p] => (match seqL h p with | some xs => ∃ bs : List Bool, xs = bs.map PV.bl ∧ Q (.bl (bs.any id)) h | none => False)
  | _ => False
theorem rels_bls {K : PySem.W.Frag} {H : Hp} : ∀ {ns : List Bool} {xs : List V}, Rels K H (ns.map PV.bl) xs → xs = ns.map V.bl
  | [], _, r => r.len0
  | z :: zs, _, r => by
    obtain ⟨v, vs, rfl, r1, r2⟩ := r.uncons
    rw [rel_bl.mp r1, rels_bls r2]; rfl
theorem lf_all {K : PySem.W.Frag} : LfA K (rAll K) rAllB := by
  intro xs H ps h Q' Q rp s r l
  unfold rAllB at r
  split at r
  · split at r
    · rename_i e
      obtain ⟨v, rfl, r1⟩ := rp.one
      obtain ⟨a, ys, rfl, hq, rr⟩ := seqL_sq r1 s e
      obtain ⟨bs, rfl, r⟩ := r
      rw [rels_bls rr] at hq
      exact ⟨a, bs, rfl, hq, l _ _ _ _ r .refl (rel_bl.mpr rfl) s⟩
    · exact r.elim
  · exact r.elim
theorem lf_any {K : PySem.W.Frag} : LfA K (rAny K) rAnyB := by
  intro xs H ps h Q' Q rp s r l
  unfold rAnyB at r
  split at r
  · split at r
    · rename_i e
      obtain ⟨v, rfl, r1⟩ := rp.one
      obtain ⟨a, ys, rfl, hq, rr⟩ := seqL_sq r1 s e
      obtain ⟨bs, rfl, r⟩ := r
      rw [rels_bls rr] at hq
      exact ⟨a, bs, rfl, hq, l _ _ _ _ r .refl (rel_bl.mpr rfl) s⟩
    · exact r.elim
  · exact r.elim
def rStrI : PRA := fun ps h Q => match ps with
  | [.int i] => i.natAbs.log2 < 1920 ∧ Q (.str (toString i)) h
  | _ => False
theorem lf_strI {K : PySem.W.Frag} : LfA K (fun xs H Q => ∃ i, xs = [.int i] ∧ i.natAbs.log2 < 1920 ∧ Q (.str (toString i)) H) rStrI := by
  intro xs H ps h Q' Q rp s r l
  unfold rStrI at r
  split at r
  · obtain ⟨v, rfl, r1⟩ := rp.one
    have e := rel_int.mp r1
    subst e
    exact ⟨_, rfl, r.1, l _ _ _ _ r.2 .refl (rel_str.mpr rfl) s⟩
  · exact r.elim
def rIntO : PRA := fun ps h Q => match ps with
  | [.int i] => Q (.int i) h
  | [.bl b] => Q (.int (if b = true then 1 else 0)) h
  | _ => False
theorem lf_intO {K : PySem.W.Frag} : LfA K (fun xs H Q => (∃ i, xs = [.int i] ∧ Q (.int i) H) ∨ ∃ k, xs = [.bl k] ∧ Q (.int (if k then 1 else 0)) H) rIntO := by
  intro xs H ps h Q' Q rp s r l
  unfold rIntO at r
  split at r
  · obtain ⟨v, rfl, r1⟩ := rp.one
    rw [rel_int.mp r1]
    exact .inl ⟨_, rfl, l _ _ _ _ r .refl (rel_int.mpr rfl) s⟩
  · obtain ⟨v, rfl, r1⟩ := rp.one
    rw [rel_bl.mp r1]
    exact .inr ⟨_, rfl, l _ _ _ _ r .refl (rel_int.mpr rfl) s⟩
  · exact r.elim
section
variable {X : Cx} {pos p : Pos} {e : Expr} {m : MA}
theorem le_all (hc : X.calm = true) (hm : X.mg "all" = none) (ha : LAn X [e] 1 m) (hg : Gl X "all" := by rfl) (h1 : starEach [e] X.env = (false, eval e X.env) :: starEach [] X.env := by rfl) :
    LE X (.Call (.Name "all" p) [e] [] pos) (mBlt rAllB m) := le_blt (cr_all hc) lf_all hm ha hg (h1 := h1) (h2 := rfl)
theorem le_any (hc : X.calm = true) (hm : X.mg "any" = none) (ha : LAn X [e] 1 m) (hg : Gl X "any" := by rfl) (h1 : starEach [e] X.env = (false, eval e X.env) :: starEach [] X.env := by rfl) :
    LE X (.Call (.Name "any" p) [e] [] pos) (mBlt rAnyB m) := le_blt (cr_any hc) lf_any hm ha hg (h1 := h1) (h2 := rfl)
theorem le_strI (hm : X.mg "str" = none) (ha : LAn X [e] 1 m) (hg : Gl X "str" := by rfl) (h1 : starEach [e] X.env = (false, eval e X.env) :: starEach [] X.env := by rfl) :
    LE X (.Call (.Name "str" p) [e] [] pos) (mBlt rStrI m) := le_ty call_str_int lf_strI hm ha hg (h1 := h1) (h2 := rfl)
theorem le_intO (hm : X.mg "int" = none) (ha : LAn X [e] 1 m) (hg : Gl X "int" := by rfl) (h1 : starEach [e] X.env = (false, eval e X.env) :: starEach [] X.env := by rfl) :
    LE X (.Call (.Name "int" p) [e] [] pos) (mBlt rIntO m) := le_ty call_int1 lf_intO hm ha hg (h1 := h1) (h2 := rfl)
end

/-! ### < and its kin of ints and texts -/
def rCmp (f : Int → Int → Bool) (g : List Nat → List Nat → Bool) : PR2 := fun p q h Q => match p, q with
  | .int i, .int j => Q (.bl (f i j)) h
  | .str x, .str y => Q (.bl (g (cl x) (cl y))) h
  | _, _ => False
abbrev rLt : PR2 := rCmp (fun i j => decide (i < j)) fun x y => decide (x < y)
abbrev rLe : PR2 := rCmp (fun i j => decide (i ≤ j)) fun x y => !decide (y < x)
abbrev rGt : PR2 := rCmp (fun i j => decide (j < i)) fun x y => decide (y < x)
abbrev rGe : PR2 := rCmp (fun i j => decide (j ≤ i)) fun x y => !decide (x < y)
def oCmp (f : Int → Int → Bool) (g : Str → Str → Bool) : R2 := fun x y H Q => rI0 (fun i j => .bl (f i j)) x y H Q ∨ ∃ i j, x = .str i ∧ y = .str j ∧ Q (.bl (g i j)) H
theorem lf_cmp {K : PySem.W.Frag} {f : Int → Int → Bool} {g : List Nat → List Nat → Bool} : Lf2 K (oCmp f fun i j => g i.cps.toList j.cps.toList) (rCmp f g) := by
  intro x y H p q h Q' Q rp rq s r l
  unfold rCmp at r
  split at r
  · exact .inl ⟨_, _, rel_int.mp rp, rel_int.mp rq, l _ _ _ _ r .refl (rel_bl.mpr rfl) s⟩
  · exact .inr ⟨_, _, rel_str.mp rp, rel_str.mp rq, l _ _ _ _ r .refl (rel_bl.mpr rfl) s⟩
  · exact r.elim
theorem op_ltA {X : Cx} : OpR X (compareOp .Lt) (oCmp (fun i j => decide (i < j)) fun i j => decide (i.cps.toList < j.cps.toList)) := op_lt.or op_lt_str
theorem op_leA {X : Cx} : OpR X (compareOp .LtE) (oCmp (fun i j => decide (i ≤ j)) fun i j => !decide (j.cps.toList < i.cps.toList)) := op_le.or op_le_str
theorem op_gtA {X : Cx} : OpR X (compareOp .Gt) (oCmp (fun i j => decide (j < i)) fun i j => decide (j.cps.toList < i.cps.toList)) := op_gt.or op_gt_str
theorem op_geA {X : Cx} : OpR X (compareOp .GtE) (oCmp (fun i j => decide (j ≤ i)) fun i j => !decide (i.cps.toList < j.cps.toList)) := op_ge.or op_ge_str

/-! ### in, not in: a sign in a text, data in a list or tuple -/
def rInP (neg : Bool) : PR2 := fun p q h Q => match p, q with
  | .str x, .str y => ∃ c, x = S [c] ∧ Q (.bl (decide (c ∈ cl y) != neg)) h
  | p, q => (match listed h q with
    | some xs => flat (vw h p) = true ∧ flats xs = true ∧ PyData.depthAll (toDs xs) ≤ 64 ∧ Q (.bl ((toDs xs).any (fun d => PyData.eqv d (toD (vw h p))) != neg)) h
    | none => False)
theorem eq_fun (h : Heap) (e : PyData) : ∃ f : Value → Bool, ∀ (u : Value) (d : PyData) (as : List Addr), d.hasDict = false → Reads h u d as → f u = PyData.eqv d e := by
  classical
  refine ⟨fun u => if z : ∃ d as, PyData.hasDict d = false ∧ Reads h u d as then PyData.eqv (Classical.choose z) e else false, fun u d as hd r => ?_⟩
  have hex : ∃ d as, PyData.hasDict d = false ∧ Reads h u d as := ⟨d, as, hd, r⟩
  show (if z : _ then _ else _) = _
  rw [dif_pos hex]
  obtain ⟨as', q1, q2⟩ := Classical.choose_spec hex
  rw [one_reading _ _ _ _ _ q1 hd q2 r]
theorem all_eqv {A : Around} {s : Shared} {v : Value} {e : PyData} {bs : List Addr} (re : Reads s.heap v e bs) (he : e.hasDict = false) (hu : A.units + 64 < cLine) {f : Value → Bool} (hf : ∀ (u : Value) (d : PyData) (as : List Addr), d.hasDict = false → Reads s.heap u d as → f u = PyData.eqv d e) :
    ∀ (ds : List PyData) (us : List Value) (as : List Addr), ReadsAll s.heap us ds as → PyData.hasDictAll ds = false → PyData.depthAll ds ≤ 64 → (∀ u ∈ us, SeqAt.EqAt A s u v (f u)) ∧ us.any f = ds.any fun d => PyData.eqv d e
  | [], _, _, r, _, _ => by cases r; exact ⟨fun _ h => (List.not_mem_nil h).elim, rfl⟩
  | d :: ds, _, _, r, hd, hz => by
    cases r with
    | @cons u us _ _ as1 as2 r1 r2 =>
      simp only [PyData.hasDictAll, Bool.or_eq_false_iff] at hd
      simp only [PyData.depthAll] at hz
      have z1 := Nat.le_max_left d.depth (PyData.depthAll ds)
      have z2 := Nat.le_max_right d.depth (PyData.depthAll ds)
      obtain ⟨i1, i2⟩ := all_eqv re he hu hf ds us as2 r2 hd.2 (by omega)
      refine ⟨fun w hw => ?_, by rw [List.any_cons, List.any_cons, hf u d _ hd.1 r1, i2]⟩
      rcases List.mem_cons.mp hw with e1 | hw
      · subst e1
        rw [hf w d _ hd.1 r1]
        exact eqR d e A s w v _ _ (by omega) r1 hd.1 re he
      · exact i1 w hw
theorem any_eqv {A : Around} {s : Shared} {v : Value} {e : PyData} {bs : List Addr} (re : Reads s.heap v e bs) (he : e.hasDict = false) (hu : A.units + 64 < cLine) (ds : List PyData) (us : List Value) (as : List Addr) (r : ReadsAll s.heap us ds as) (hd : PyData.hasDictAll ds = false) (hz : PyData.depthAll ds ≤ 64) :
    ∃ f : Value → Bool, (∀ u ∈ us, SeqAt.EqAt A s u v (f u)) ∧ us.any f = ds.any fun d => PyData.eqv d e := by
  obtain ⟨f, hf⟩ := eq_fun s.heap e
  exact ⟨f, all_eqv re he hu hf ds us as r hd hz⟩
def oIn (K : PySem.W.Frag) (neg : Bool) : R2 := fun x y H Q => (∃ c z, x = .str (S [c]) ∧ y = .str z ∧ Q (.bl (decide (c ∈ cl z) != neg)) H) ∨
  ∃ a ys d ds, y = .ref a ∧ (SqL K H a ys ∨ SqT K H a ys) ∧ Dp K H x d ∧ DpAll K H ys ds ∧ d.hasDict = false ∧ PyData.hasDictAll ds = false ∧ PyData.depthAll ds ≤ 64 ∧ Q (.bl (ds.any (fun e => PyData.eqv e d) != neg)) H
theorem op_inA {X : Cx} (hu : X.A.units + 65 < cLine) : OpR X (compareOp .In) (oIn X.K false) := by
  intro pins s σ H x y v u Q I rx ry h
  rcases h with ⟨c, z, rfl, rfl, q⟩ | ⟨a, ys, d, ds, rfl, hq, hd, hds, nd, nds, hz, q⟩
  · exact op_in_sign pins s σ H _ _ v u Q I rx ry ⟨c, z, rfl, rfl, by simpa [cl] using q⟩
  · cases ry
    obtain ⟨as, r1⟩ := Dp.reads I d x v hd rx
    rcases hq with hq | hq
    · obtain ⟨its, rv, pl, _⟩ := I.list hq
      obtain ⟨bs, r2⟩ := Dp.readsAll I ds ys its hds rv
      obtain ⟨f, f1, f2⟩ := any_eqv (A := X.A.in1) r1 nd (by show X.A.units + 1 + 64 < cLine; omega) ds its bs r2 nds hz
      refine SeqAt.in_listAt f pl.isList (fun w hw => f1 w (by simpa using hw)) ⟨.bl _, H, I, rfl, ?_⟩
      rw [show its.toArray.any f = its.any f by simp, f2]; simpa using q
    · obtain ⟨its, rv, pl, _⟩ := I.tuple hq
      obtain ⟨bs, r2⟩ := Dp.readsAll I ds ys its hds rv
      obtain ⟨f, f1, f2⟩ := any_eqv (A := X.A.in1) r1 nd (by show X.A.units + 1 + 64 < cLine; omega) ds its bs r2 nds hz
      refine SeqAt.in_tupleAt f pl (fun w hw => f1 w (by simpa using hw)) ⟨.bl _, H, I, rfl, ?_⟩
      rw [show its.toArray.any f = its.any f by simp, f2]; simpa using q
theorem op_notInA {X : Cx} (hu : X.A.units + 65 < cLine) : OpR X (compareOp .NotIn) (oIn X.K true) := by
  intro pins s σ H x y v u Q I rx ry h
  rcases h with ⟨c, z, rfl, rfl, q⟩ | ⟨a, ys, d, ds, rfl, hq, hd, hds, nd, nds, hz, q⟩
  · exact op_notIn_sign pins s σ H _ _ v u Q I rx ry ⟨c, z, rfl, rfl, by simpa [cl] using q⟩
  · cases ry
    obtain ⟨as, r1⟩ := Dp.reads I d x v hd rx
    rcases hq with hq | hq
    · obtain ⟨its, rv, pl, _⟩ := I.list hq
      obtain ⟨bs, r2⟩ := Dp.readsAll I ds ys its hds rv
      obtain ⟨f, f1, f2⟩ := any_eqv (A := X.A.in1) r1 nd (by show X.A.units + 1 + 64 < cLine; omega) ds its bs r2 nds hz
      refine SeqAt.notIn_listAt f pl.isList (fun w hw => f1 w (by simpa using hw)) ⟨.bl _, H, I, rfl, ?_⟩
      rw [show its.toArray.any f = its.any f by simp, f2]; simpa using q
    · obtain ⟨its, rv, pl, _⟩ := I.tuple hq
      obtain ⟨bs, r2⟩ := Dp.readsAll I ds ys its hds rv
      obtain ⟨f, f1, f2⟩ := any_eqv (A := X.A.in1) r1 nd (by show X.A.units + 1 + 64 < cLine; omega) ds its bs r2 nds hz
      refine SeqAt.notIn_tupleAt f pl (fun w hw => f1 w (by simpa using hw)) ⟨.bl _, H, I, rfl, ?_⟩
      rw [show its.toArray.any f = its.any f by simp, f2]; simpa using q
theorem lf_in {K : PySem.W.Frag} {neg : Bool} : Lf2 K (oIn K neg) (rInP neg) := by
  intro x y H p q h Q' Q rp rq s r l
  unfold rInP at r
  split at r
  · obtain ⟨c, rfl, r⟩ := r
    exact .inl ⟨c, _, rel_str.mp rp, rel_str.mp rq, l _ _ _ _ r .refl (rel_bl.mpr rfl) s⟩
  · split at r
    · rename_i xs e
      obtain ⟨f1, f2, hz, r⟩ := r
      obtain ⟨a, ys, ey, hq, rr⟩ := listed_sq rq s e
      exact .inr ⟨a, ys, _, _, ey, hq, vw_dp f1 rp s, Rels.dp xs ys f2 rr, noDict _ f1, noDicts xs f2, hz, l _ _ _ _ r .refl (rel_bl.mpr rfl) s⟩
    · exact r.elim

/-! ### dict displays, kept; the empty one -/
def mDisp (l : List (ME × ME)) : ME := fun τ h Q => mPs l τ h fun kvs h1 => (kvs.map (·.1)).Nodup ∧ Q (.dct (kvs.map (·.1)) (kvs.map (·.2))) h1
def mDct0 : ME := fun _ h Q => Q (.dct [] []) h
def mDct0M : ME := fun _ h Q => ∀ a, h a = none → Q (.ref a) (up h a (.dct [] []))
section
variable {X : Cx} {pos : Pos} {ks : List (Option Expr)} {vs : List Expr} {n : Nat} {l : List (ME × ME)}
theorem le_disp (h : LPs X pos ks vs n l) (hn : n ≤ 15 := by decide) (hall : ks.all (·.isSome) = true := by rfl) (hl : ks.length = vs.length := by rfl) (h0 : ks ≠ [] := by simp) (h15 : ks.length ≤ 15 := by decide) : LE X (.Dict ks vs pos) (mDisp l) := by
  obtain ⟨trs, h1, h2⟩ := h.ex
  refine PE.weak (PE.kp (pe_disp h1 hall hl h0 h15)) fun σ H Q ⟨τ, h, Q', s, sh, q, lq⟩ => ?_
  intro p hp
  have hp0 : h p = none := sh.fresh hp
  have g0 : Go H h (upd H p (.dK [])) h := .new hp
  refine h2 σ _ τ h _ _ (s.mono g0.mono) (sh.new hp) q fun xs h1 ps H1 q1 hl1 g1 rp s1 => ?_
  obtain ⟨nd, q1⟩ := q1
  have hH : H1 p = some (.dK []) := g1.frame p _ upd_same hp0
  have hd : h1 p = none := g1.dom p _ upd_same hp0
  obtain ⟨kvs, e1, e2, rr⟩ := rp.pairs
  have el : kvs.length = xs.length := by
    have := congrArg List.length e2
    rw [List.length_map, List.length_map] at this
    exact this.symm
  refine ⟨hH, kvs, e1, by rw [el, hl1]; exact hn, ?_⟩
  have em : mergeK [] kvs = kvs := by
    have := merge_nd kvs [] (by rw [List.nil_append, ← e2]; exact nd)
    rwa [List.nil_append] at this
  rw [em]
  refine .inr ⟨p, _, rfl, upd_same, trivial, fun o => ?_⟩
  rw [upd_upd]
  have mm : Mono H1 (upd H1 p (.frz o (.dK kvs))) := Mono.dK hH
  exact lq _ _ _ _ q1 ((g0.trans g1).renew hp mm) (rel_dct.mpr ⟨p, kvs, rfl, ⟨o, upd_same⟩, e2, rr.mono mm⟩) (s1.drop mm hd)
theorem le_dct0 : LE X (.Dict [] [] pos) mDct0 :=
  PE.weak (PE.kp pe_dnewK) fun σ H Q ⟨τ, h, Q', s, sh, q, l⟩ => fun p hp => keep_d (kvs := []) l sh rfl .nil q hp
theorem le_dct0M : LE X (.Dict [] [] pos) mDct0M :=
  PE.weak (PE.kp pe_dnewK) fun σ H Q ⟨τ, h, Q', s, sh, q, l⟩ => fun p hp => make_d (kvs := []) l sh rfl .nil q hp
/-- a, b, c = x, y, z with plain local names -/
def mPar3 (i j k : Nat) (m : MA) : MS := fun D τ h => m τ h fun ps h1 => match ps with | [p, q, r] => D.nx (st (st (st τ i (some p)) j (some q)) k (some r)) h1 | _ => False
theorem ls_par3 {i j k : Nat} {x y z : Str} {a b c : Expr} {ta : MA} {px py pz pt : Pos} {kt k2 pt2} (hc : X.calm = true) (hN : X.N.Nodup) (ha : LAn X [a, b, c] 3 ta) (hi : X.N[i]? = some x := by rfl) (hj : X.N[j]? = some y := by rfl) (hk : X.N[k]? = some z := by rfl)
    (hij : i ≠ j := by decide) (hik : i ≠ k := by decide) (hjk : j ≠ k := by decide)
    (hx : X.env.scope.names.lookup x = some .local := by rfl) (hy : X.env.scope.names.lookup y = some .local := by rfl) (hz : X.env.scope.names.lookup z = some .local := by rfl)
    (hw : swappedStores [.Tuple [.Name x px, .Name y py, .Name z pz] kt pt] (.Tuple [a, b, c] k2 pt2) X.env = pure (some [x, y, z]) := by rfl)
    (hs : swapsWithSole [.Tuple [.Name x px, .Name y py, .Name z pz] kt pt] (.Tuple [a, b, c] k2 pt2) pos.line X.env = pure false := by rfl) :
    LS X (.Assign [.Tuple [.Name x px, .Name y py, .Name z pz] kt pt] (.Tuple [a, b, c] k2 pt2) pos) (mPar3 i j k ta) := by
  refine PS.weak (ps_par3 hc hN hi hj hk hij hik hjk hx hy hz ha hw hs) fun D σ H ⟨τ, h, D', s, sh, q, l⟩ => ?_
  refine ⟨τ, h, _, s, sh, q, fun ps h1 vs H1 q1 hl m1 r s1 => ?_⟩
  match ps, hl, q1, r with
  | [p, q, r'], _, q1, r =>
    obtain ⟨v, ws, rfl, r1, r2⟩ := r.uncons
    obtain ⟨w1, w2, rfl, r3, r4⟩ := r2.two
    exact ⟨v, w1, w2, rfl, l.nx _ _ _ _ q1 m1 ((((s.mono m1.mono).set r1).set r3).set r4) s1⟩
end
end N3

/-! op= on names; list.extend, insert, pop of a place; sorted -/
namespace N3
open PySem PySem.Spec PyProof.Rows L2

/-! ### name += e -/
theorem no_tuple_iadd : typeLookup (.type "tuple") (dunderI "add") = pure none := by rw [typeLookup_type, builtinLookup_eq_fast]; kernel_rfl
theorem icat_any {prog : Program} {w : World} {A : Around} {E : Value → Shared → Prop} {s : Shared} {t b : Addr} {vs ws : List Value} {Q : Value → Shared → Prop} (ht : IsTup s.heap t vs.toArray) (hb : IsTup s.heap b ws.toArray)
    (h0 : vs = [] → Q (.ref b) s) (h1 : vs ≠ [] → ws = [] → Q (.ref t) s) (h2 : vs ≠ [] → ws ≠ [] → Q (.ref s.heap.objs.size) { s with heap := s.heap.push { cls := .type "tuple", data := .seq (vs ++ ws).toArray } }) (hz : vs.length + ws.length ≤ sizeLine) :
    wpAny (model prog w) A (inplaceOp .Add (.ref t) (.ref b)) Q E s := by
  obtain ⟨⟨c1, d1, x1, sl1⟩, ho, hc, n1, hd⟩ := id ht
  obtain ⟨⟨c2, d2, x2, sl2⟩, ho2, hc2, n2, hd2⟩ := id hb
  simp only at hc hd hc2 hd2
  subst hc; subst hd; subst hc2; subst hd2
  have go : ∀ {S : PySem.Spec}, Meets (Builtin.«tuple.__add__» ⟨[.ref t, .ref b], []⟩) S → S A (wants Q E) s → wpAny (model prog w) A (inplaceOp .Add (.ref t) (.ref b)) Q E s := fun {S} g k =>
    wpAny_inplaceOp_concat ⟨_, ho, rfl⟩ ⟨_, ho2, rfl⟩ no_tuple_iadd noFill_tuple_add seq_tuple_add (call_meets PySem.F.slot_tuple_add ⟨_, ho, rfl⟩ PySem.F.entry_tuple_add (PySem.F.args_tuple_add_2 _ _) g k)
  by_cases hv : vs = []
  · subst hv
    exact go (tuple_addW0 t b ([] : List Value).toArray ws.toArray n1 n2 d1 d2 sl1 sl2 (by simp)) ⟨ho, ho2, h0 rfl⟩
  by_cases hw : ws = []
  · subst hw
    exact go (tuple_addW1 t b vs.toArray ([] : List Value).toArray n1 n2 d1 d2 sl1 sl2 (by simpa using hv) (by simp)) ⟨ho, ho2, h1 hv rfl⟩
  · refine go (tuple_addW2 t b vs.toArray ws.toArray n1 n2 d1 d2 sl1 sl2 (by simpa using hv) (by simpa using hw) (by rw [List.size_toArray, List.size_toArray]; exact hz)) ⟨ho, ho2, ?_⟩
    have e : vs.toArray ++ ws.toArray = (vs ++ ws).toArray := by simp
    rw [e]; exact h2 hv hw
theorem iop_catA {X : Cx} : OpR X (inplaceOp .Add) (rCatA X.K) := by
  intro pins s σ H x y v u Q I rx ry h
  obtain ⟨a, b, xs, ys, rfl, rfl, ha, hb, hz, q0, q1, q2⟩ := h
  cases rx; cases ry
  obtain ⟨its, r1, p1, _⟩ := I.tuple ha
  obtain ⟨its2, r2, p2, _⟩ := I.tuple hb
  refine icat_any p1 p2 (fun z => ⟨.ref b, H, I, rfl, q0 (r1.nil_iff.mp z)⟩) (fun z z' => ⟨.ref a, H, I, rfl, q1 (fun k => z (r1.nil_iff.mpr k)) (r2.nil_iff.mp z')⟩) (fun z z' => ?_) (by rw [← r1.length, ← r2.length]; exact hz)
  have I2 := I.laid (t' := s.toks) (o := .tup (xs ++ ys)) (fun c o q => Heap.get?_push_of_some { cls := .type "tuple", data := .seq (its ++ its2).toArray } q) (Nat.le_refl _) ⟨by rw [List.length_append]; exact hz, _, r1.append r2, IsTup.new _ _⟩
  exact ⟨.ref s.heap.objs.size, _, I2, rfl, q2 (fun k => z (r1.nil_iff.mpr k)) (fun k => z' (r2.nil_iff.mpr k)) _ (I.hok.fresh (Nat.le_refl _))⟩
def rIAdd : PR2 := fun p q h Q => match p, q with
  | .int i, .int j => Q (.int (i + j)) h
  | .str x, .str y => x.length + y.length ≤ SZ ∧ Q (.str (x ++ y)) h
  | .tup xs, .tup ys => xs.length + ys.length ≤ SZ ∧ Q (.tup (xs ++ ys)) h
  | _, _ => False
def oIAdd (K : PySem.W.Frag) : R2 := fun x y H Q => ((∃ i j, x = .int i ∧ y = .int j ∧ Q (.int (i + j)) H) ∨ (∃ i j, x = .str i ∧ y = .str j ∧ i.length + j.length ≤ sizeLine ∧ Q (.str (i ++ j)) H)) ∨ rCatA K x y H Q
theorem iop_addA {X : Cx} : OpR X (inplaceOp .Add) (oIAdd X.K) := (iop_add.or iop_add_str).or iop_catA
theorem lf_iadd {K : PySem.W.Frag} : Lf2 K (oIAdd K) rIAdd := by
  intro x y H p q h Q' Q rp rq s r l
  unfold rIAdd at r
  split at r
  · exact .inl (.inl ⟨_, _, rel_int.mp rp, rel_int.mp rq, l _ _ _ _ r .refl (rel_int.mpr rfl) s⟩)
  · exact .inl (.inr ⟨_, _, rel_str.mp rp, rel_str.mp rq, sz_le r.1, l _ _ _ _ r.2 .refl (rel_str.mpr rfl) s⟩)
  · rename_i ps qs
    obtain ⟨a, xs, e1, h1, r1⟩ := rel_tup.mp rp
    obtain ⟨b, ys, e2, h2, r2⟩ := rel_tup.mp rq
    obtain ⟨hz, r⟩ := r
    refine .inr ⟨a, b, xs, ys, e1, e2, h1, h2, by rw [← r1.length, ← r2.length]; exact sz_le hz, fun e => ?_, fun e e' => ?_, fun e e' c hc => make_t l s (r1.append r2) r hc⟩
    · have e3 : ps = [] := List.length_eq_zero_iff.mp (by rw [r1.length, e]; rfl)
      rw [e3, List.nil_append] at r
      exact l _ _ _ _ r .refl (rel_tup.mpr ⟨b, ys, rfl, h2, r2⟩) s
    · have e3 : qs = [] := List.length_eq_zero_iff.mp (by rw [r2.length, e']; rfl)
      rw [e3, List.append_nil] at r
      exact l _ _ _ _ r .refl (rel_tup.mpr ⟨a, xs, rfl, h1, r1⟩) s
  · exact r.elim
def mAug (i : Nat) (m : ME) : MS := fun D τ h => match gt τ i with
  | some p => m τ h fun q h1 => rIAdd p q h1 fun z h2 => D.nx (st τ i (some z)) h2
  | none => False
theorem ls_aug {X : Cx} {pos : Pos} {i : Nat} {x : Str} {e : Expr} {m : ME} {pos' : Pos} (hN : X.N.Nodup) (he : LE X e m) (hi : X.N[i]? = some x := by rfl) (hx : Loc X.env.scope x := by first | exact Or.inl rfl | exact Or.inr rfl)
    (hf : X.fn x = true ∨ X.env.scope.names.lookup x = some .local := by first | exact .inl rfl | exact .inr rfl | assumption) : LS X (.AugAssign (.Name x pos') .Add e pos) (mAug i m) := by
  refine PS.weak (ps_aug hN hi hx he iop_addA hf) fun D σ H ⟨τ, h, D', s, sh, q, l⟩ => ?_
  unfold mAug at q
  split at q
  · rename_i p ep
    obtain ⟨v, ev, rv⟩ := s.get ep
    refine ⟨v, ev, τ, h, _, s, sh, q, fun q1 h1 y H1 q2 g1 r1 s1 => ?_⟩
    refine lf_iadd v y H1 p q1 h1 _ _ (rv.mono g1.mono) r1 s1 q2 fun z h2 zv H2 q3 g2 r2 s2 => ?_
    exact l.nx _ _ _ _ q3 (g1.trans g2) (((s.mono g1.mono).mono g2.mono).set r2) s2
  · exact q.elim

/-! ### sorted -/
open PySem.W in
/-- what is sorted: data, all alike -/
structure Srtb (bs : List PyData) : Prop where
  al : AllAlike bs
  so : Sortable bs
  nd : ∀ b ∈ bs, b.hasDict = false
  dp : ∀ b ∈ bs, b.depth ≤ 60
theorem dp_each {K : PySem.W.Frag} {H : Hp} {X : Cx} {pins : List (Addr × Obj)} {σ : L2.St} {s : Shared} (I : Inv X pins σ H s) (hK : K = X.K) : ∀ {bs : List (V × PyData)} {its : List Value}, (∀ b ∈ bs, Dp K H b.1 b.2) → Vals (bs.map Prod.fst) its →
    PySem.W.EachIs (fun u b => RelV b.1 u) its bs ∧ PySem.W.EachIs (fun u (b : V × PyData) => ∃ as, Reads s.heap u b.2 as) its bs
  | [], its, _, r => by
    have : its = [] := by cases r; rfl
    subst this
    exact ⟨.nil, .nil⟩
  | b :: bs, its, h, r => by
    cases r with
    | cons r1 r2 =>
      obtain ⟨e1, e2⟩ := dp_each I hK (fun c hc => h c (List.mem_cons_of_mem _ hc)) r2
      refine ⟨.cons r1 e1, .cons ?_ e2⟩
      have := h b List.mem_cons_self
      subst hK
      exact Dp.reads I b.2 b.1 _ this r1
theorem vals_each : ∀ {bs : List (V × PyData)} {its : List Value}, PySem.W.EachIs (fun u b => RelV b.1 u) its bs → Vals (bs.map Prod.fst) its
  | _, _, .nil => .nil
  | _, _, .cons h t => .cons h (vals_each t)
def oSort (K : PySem.W.Frag) : List V → Hp → VK → Prop := fun vs H Q => ∃ (a : Addr) (bs : List (V × PyData)), vs = [.ref a] ∧ SqL K H a (bs.map Prod.fst) ∧ (∀ b ∈ bs, Dp K H b.1 b.2) ∧ Srtb (bs.map Prod.snd) ∧
  ∀ l, H l = none → Q (.ref l) (upd H l (.lst ((bs.mergeSort (PySem.W.dataLe false Prod.snd)).map Prod.fst)))
theorem cr_sort {X : Cx} (hu : X.A.units + 66 < cLine) : CallR X (.builtin "sorted") (oSort X.K) := by
  intro pins s σ H vs us Q I r h
  obtain ⟨a, bs, rfl, ha, hd, st, q⟩ := h
  obtain ⟨u, rfl, ru⟩ := vals1 r
  cases ru
  obtain ⟨its, rv, pl, hz⟩ := I.list ha
  obtain ⟨e1, e2⟩ := dp_each I rfl hd rv
  rw [List.length_map] at hz
  refine PySem.W.sorted_data (bs := bs) (enc := Prod.snd) pl.isList e1 e2 st.al st.so hz (fun b hb => ?_) fun out hl eo => ?_
  · have := st.dp b.2 (List.mem_map_of_mem hb)
    omega
  · obtain ⟨c, hc⟩ := sortedAll_at s.heap its out.toArray
    have I2 := I.laid (t' := s.toks) (h' := sortedAll s.heap its out.toArray) (a := s.heap.objs.size + 1) (o := .lst ((bs.mergeSort (PySem.W.dataLe false Prod.snd)).map Prod.fst)) (fun _ _ => sortedAll_old) (Nat.le_succ _)
      ⟨by rw [List.length_map, List.length_mergeSort]; exact hz, out, c, vals_each eo, hc⟩
    exact ⟨.ref (s.heap.objs.size + 1), _, I2, rfl, q _ (I.hok.fresh (Nat.le_succ _))⟩
/-- sorted(xs): data, all alike, rising -/
def rSort : PRA := fun ps h Q => match ps with
  | [p] => (match seqL h p with | some xs => flats xs = true ∧ Srtb (xs.map toD) ∧ Q (.lst (xs.mergeSort (PySem.W.dataLe false toD))) h | none => False)
  | _ => False
theorem dps_zip {K : PySem.W.Frag} {H : Hp} : ∀ {ps : List PV} {xs : List V}, flats ps = true → Rels K H ps xs → ∀ b ∈ xs.zip (ps.map toD), Dp K H b.1 b.2
  | [], xs, _, r, b, hb => by rw [Rels.nil_iff] at r; subst r; exact (List.not_mem_nil hb).elim
  | p :: ps, xs, f, r, b, hb => by
    obtain ⟨v, vs, rfl, r1, r2⟩ := r.uncons
    have f' : (flat p && flats ps) = true := f
    rw [Bool.and_eq_true] at f'
    rw [List.map_cons, List.zip_cons_cons] at hb
    rcases List.mem_cons.mp hb with rfl | hb
    · exact Rel.dp p v f'.1 r1
    · exact dps_zip f'.2 r2 b hb
theorem rels_zip {K : PySem.W.Frag} {H : Hp} : ∀ {l : List (PV × V)}, (∀ x ∈ l, Rel K H x.1 x.2) → Rels K H (l.map Prod.fst) (l.map Prod.snd)
  | [], _ => .nil
  | x :: l, h => .cons (h x List.mem_cons_self) (rels_zip fun y hy => h y (List.mem_cons_of_mem _ hy))
theorem rels_pairs {K : PySem.W.Frag} {H : Hp} : ∀ {ps : List PV} {xs : List V}, Rels K H ps xs → ∀ x ∈ ps.zip xs, Rel K H x.1 x.2
  | [], _, _, x, hx => by simp at hx
  | p :: ps, xs, r, x, hx => by
    obtain ⟨v, vs, rfl, r1, r2⟩ := r.uncons
    rw [List.zip_cons_cons] at hx
    rcases List.mem_cons.mp hx with rfl | hx
    · exact r1
    · exact rels_pairs r2 x hx
theorem rels_sort {K : PySem.W.Frag} {H : Hp} {ps : List PV} {xs : List V} (r : Rels K H ps xs) : Rels K H (ps.mergeSort (PySem.W.dataLe false toD)) (((xs.zip (ps.map toD)).mergeSort (PySem.W.dataLe false Prod.snd)).map Prod.fst) := by
  have hl := r.length
  -- both are pictures of the sorted pairs
  let l := ps.zip xs
  have e1 : (l.mergeSort (PySem.W.dataLe false fun x => toD x.1)).map Prod.fst = ps.mergeSort (PySem.W.dataLe false toD) := by
    have z := PySem.W.sort_maps (r := PySem.W.dataLe false fun x : PV × V => toD x.1) (s := PySem.W.dataLe false toD) Prod.fst (l := l) (fun _ _ _ _ => rfl)
    rw [z, List.map_fst_zip (by omega)]
  have e2 : (l.mergeSort (PySem.W.dataLe false fun x => toD x.1)).map (fun x => (x.2, toD x.1)) = (xs.zip (ps.map toD)).mergeSort (PySem.W.dataLe false Prod.snd) := by
    have z := PySem.W.sort_maps (r := PySem.W.dataLe false fun x : PV × V => toD x.1) (s := PySem.W.dataLe false (Prod.snd : V × PyData → PyData)) (fun x : PV × V => (x.2, toD x.1)) (l := l) (fun _ _ _ _ => rfl)
    rw [z]
    congr 1
    show (ps.zip xs).map _ = _
    clear e1 z l
    induction ps generalizing xs with
    | nil => rw [Rels.nil_iff] at r; subst r; rfl
    | cons p ps ih =>
      obtain ⟨v, vs, rfl, r1, r2⟩ := r.uncons
      rw [List.zip_cons_cons, List.map_cons, List.map_cons, List.zip_cons_cons, ih r2 r2.length]
  rw [← e1, ← e2, List.map_map]
  exact rels_zip fun x hx => rels_pairs r x (List.mem_mergeSort.mp hx)
theorem kf_sort {K : PySem.W.Frag} : KfA K (oSort K) rSort := by
  intro xs H ps h Q' Q rp s r l
  unfold rSort at r
  split at r
  · split at r
    · rename_i p _ qs e
      obtain ⟨v, rfl, r1⟩ := rp.one
      obtain ⟨a, ys, rfl, hq, rr⟩ := seqL_sq r1 s e
      obtain ⟨f, st, r⟩ := r
      have hl := rr.length
      refine ⟨a, ys.zip (qs.map toD), rfl, by rw [List.map_fst_zip (by rw [List.length_map]; omega)]; exact hq, dps_zip f rr, by rw [List.map_snd_zip (by rw [List.length_map]; omega)]; exact st, fun c hc => keep_l l s (rels_sort rr) r hc⟩
    · exact r.elim
  · exact r.elim
theorem le_sort {X : Cx} {pos p : Pos} {e : Expr} {m : MA} (hu : X.A.units + 66 < cLine) (hm : X.mg "sorted" = none) (ha : LAn X [e] 1 m) (hg : Gl X "sorted" := by rfl) (h1 : starEach [e] X.env = (false, eval e X.env) :: starEach [] X.env := by rfl) :
    LE X (.Call (.Name "sorted" p) [e] [] pos) (mBlt rSort m) := le_bltK (cr_sort hu) kf_sort hm ha hg (h1 := h1) (h2 := rfl)
end N3

/-! list.extend, insert, pop of a place; min, max of two ints; dict of pairs; int of a text; f-strings; split -/
namespace N3
open PySem PySem.Spec PyProof.Rows L2

theorem extend_any (l : Addr) (xs : Array Value) (n : Nat) (b : Addr) (ys : Array Value) (n2 : Nat) (sl : Array (Option Value)) (hl : ¬(!xs.isEmpty && Builtin.List.listTooLong (xs.size + ys.size)) = true) (h1 : xs.size ≤ sizeLine) (h2 : xs.size + ys.size ≤ sizeLine + 1) :
    Meets (Builtin.«list.extend» ⟨[.ref l, .ref b], []⟩) (fun _ R s => s.heap.get? l = some { cls := .type "list", dict := none, data := .seq xs n, slots := #[] } ∧ s.heap.get? b = some { cls := .type "list", dict := none, data := .seq ys n2, slots := sl } ∧ R (.ok (.ret Value.none)) { s with heap := s.heap.update l (Obj.mapSeq fun x => x ++ ys), toks := s.toks }) :=
  .of_wp fun prog w A R s h => by
    obtain ⟨hp, g, d, tk, os⟩ := s; obtain ⟨ha, hb, h⟩ := h; have f1 := AutoSeq1.idx_int; have f2 := AutoSeq1.sub_tuple_tuple; have f3 := AutoSeq1.sub_list_list; have f4 := AutoSeq1.sub_tuple_list; have f5 := AutoSeq1.sub_list_tuple
    have hz : (xs ++ ys).size ≤ sizeLine + 1 := by rw [Array.size_append]; exact h2
    wp_walk using (wpAny_updateSeq ha rfl (hz := h1) (_hz' := hz)), AutoSeq1.wpAny_loadPart' ha, AutoSeq1.wpAny_loadPart' hb; exact ⟨_, rfl, h⟩
def oExtend (K : PySem.W.Frag) : V → List V → Hp → VK → Prop := fun x vs H Q => ∃ l b xs zs, x = .ref l ∧ vs = [.ref b] ∧ H l = some (.lst xs) ∧ SqL K H b zs ∧ xs.length + zs.length ≤ sizeLine ∧ Q .non (upd H l (.lst (xs ++ zs)))
theorem mt_extendA {X : Cx} : MtR X "list.extend" (oExtend X.K) := by
  intro pins s σ H x vs v us Q I rx rv h
  obtain ⟨l, b, xs, zs, rfl, rfl, hH, hB, hz, q⟩ := h
  cases rx
  obtain ⟨u, rfl, ru⟩ := rv.one
  cases ru
  obtain ⟨z, its, n, r, hl, e⟩ := I.lstM hH
  obtain ⟨its2, r2, ⟨⟨c2, d2, x2, sl2⟩, n2, e2, k1, k2, k3⟩, hz2⟩ := I.list hB
  simp only at k1 k2 k3
  subst k1; subst k2; subst k3
  have hl2 := r2.length
  have hsz : its.toArray.size + its2.toArray.size ≤ sizeLine := by rw [List.size_toArray, List.size_toArray]; omega
  have hlong : ¬ (!its.toArray.isEmpty && Builtin.List.listTooLong (its.toArray.size + its2.toArray.size)) = true := by
    rw [notLongL hsz, Bool.and_false]; simp
  refine call_meets PySem.F.slot_list_extend ⟨_, e, rfl⟩ PySem.F.entry_list_extend (PySem.F.args_list_extend_2 _ _) (extend_any l its.toArray n b its2.toArray n2 sl2 hlong (by rw [List.size_toArray]; omega) (by omega)) ⟨e, e2, ?_⟩
  exact ⟨.non, _, I.lset (its' := its ++ its2) hH e (by simp) (r.append r2) (by rw [List.length_append]; omega), rfl, q⟩
section
variable {X : Cx} {o e f : Expr} {es : List Expr} {n : Nat} {mo me : ME} {m : MA} {apos cpos pos p : Pos}
/-- xs.extend(ys): ys a list -/
def mExtend (mo : ME) (m : MA) : ME := fun τ h Q => mo τ h fun p h1 => listAt h1 p ∧ m τ h1 fun ps h2 => match p, ps with
  | .ref a, [q] => (match h2 a, seqL h2 q with | some (.lst xs), some ys => xs.length + ys.length ≤ SZ ∧ Q .non (up h2 a (.lst (xs ++ ys))) | _, _ => False)
  | _, _ => False
theorem le_extend (ho : LE X o mo) (he : LAn X [e] 1 m) (hbase : attributeBase o "extend" X.env (eval o X.env) = eval o X.env := by rfl)
    (hfew : ((backTo cpos (starEach [e] X.env)).all (fun x => !x.1) && (backToKw cpos (keywordEach [] X.env)).all (fun x => x.1.isSome) && decide (([e] : List Expr).length + ([] : List Keyword).length + (if ([] : List Keyword).isEmpty then 0 else 1) < 30)) = true := by rfl)
    (hline : (apos.endLine == cpos.line) = true := by rfl) (hs : starEach [e] X.env = (false, eval e X.env) :: starEach [] X.env := by rfl) :
    LE X (.Call (.Attribute o "extend" apos) [e] [] cpos) (mExtend mo m) := by
  refine PE.weak (pe_bm PySem.F.plainAttrs_list PySem.F.slot_list_extend PySem.F.type_list_extend mt_extendA ho he hbase hfew hline hs rfl) fun σ H Q ⟨τ, h, Q', s, sh, q, l⟩ => ?_
  refine ⟨τ, h, _, s, sh, q, fun p h1 v H1 q1 g1 r1 s1 => ⟨ty_list r1 s1 q1.1, ?_⟩⟩
  refine ⟨τ, h1, _, s.mono g1.mono, s1, q1.2, ?_⟩
  rintro ps h2 vs H2 q2 _ g2 rr s2
  split at q2
  · rename_i a q _
    obtain ⟨y, rfl, ry⟩ := rr.one
    split at q2
    · rename_i xs ys e2 e4
      obtain ⟨u, e3, us, rfl, rx⟩ := s2 _ _ e2
      obtain ⟨b, ws, rfl, hq, rw'⟩ := seqL_sq ry s2 e4
      have mm : Mono H2 (upd H2 a (.lst (us ++ ws))) := Mono.lst e3
      refine ⟨a, b, us, ws, rel_ref.mp r1, rfl, e3, hq, by rw [← rx.length, ← rw'.length]; exact sz_le q2.1, l _ _ _ _ q2.2 ((g1.trans g2).trans (.wr e2 mm)) (rel_non.mpr rfl) (s2.put mm ⟨_, rfl, (rx.append rw').mono mm⟩)⟩
    · exact q2.elim
  · exact q2.elim
/-- xs.insert(i, y), 0 ≤ i -/
def mInsert (mo : ME) (m : MA) : ME := fun τ h Q => mo τ h fun p h1 => listAt h1 p ∧ m τ h1 fun ps h2 => match p, ps with
  | .ref a, [.int i, q] => (match h2 a with | some (.lst xs) => xs.length < SZ ∧ 0 ≤ i ∧ i < 1000000 ∧ Q .non (up h2 a (.lst (xs.take i.toNat ++ [q] ++ xs.drop i.toNat))) | _ => False)
  | _, _ => False
theorem le_insert (ho : LE X o mo) (he : LAn X [e, f] 2 m) (hbase : attributeBase o "insert" X.env (eval o X.env) = eval o X.env := by rfl)
    (hfew : ((backTo cpos (starEach [e, f] X.env)).all (fun x => !x.1) && (backToKw cpos (keywordEach [] X.env)).all (fun x => x.1.isSome) && decide (([e, f] : List Expr).length + ([] : List Keyword).length + (if ([] : List Keyword).isEmpty then 0 else 1) < 30)) = true := by rfl)
    (hline : (apos.endLine == cpos.line) = true := by rfl) (hs : starEach [e, f] X.env = (false, eval e X.env) :: starEach [f] X.env := by rfl) (hp : (backTo cpos (starEach [f] X.env)).any (·.1) = false := by rfl) :
    LE X (.Call (.Attribute o "insert" apos) [e, f] [] cpos) (mInsert mo m) := by
  refine PE.weak (pe_bm PySem.F.plainAttrs_list PySem.F.slot_list_insert PySem.F.type_list_insert mt_insert ho he hbase hfew hline hs hp) fun σ H Q ⟨τ, h, Q', s, sh, q, l⟩ => ?_
  refine ⟨τ, h, _, s, sh, q, fun p h1 v H1 q1 g1 r1 s1 => ⟨ty_list r1 s1 q1.1, ?_⟩⟩
  refine ⟨τ, h1, _, s.mono g1.mono, s1, q1.2, ?_⟩
  rintro ps h2 vs H2 q2 _ g2 rr s2
  split at q2
  · rename_i a i q _
    obtain ⟨y, w, rfl, ry, rw'⟩ := rr.two
    split at q2
    · rename_i xs e2
      obtain ⟨u, e3, us, rfl, rx⟩ := s2 _ _ e2
      obtain ⟨z1, z2, z3, q2⟩ := q2
      have mm : Mono H2 (upd H2 a (.lst (us.take i.toNat ++ [w] ++ us.drop i.toNat))) := Mono.lst e3
      refine ⟨a, us, i, w, rel_ref.mp r1, by rw [rel_int.mp ry], e3, by rw [← rx.length]; exact sz_lt z1, z2, by omega, l _ _ _ _ q2 ((g1.trans g2).trans (.wr e2 mm)) (rel_non.mpr rfl) (s2.put mm ⟨_, rfl, (((rx.take _).append (.cons rw' .nil)).append (rx.drop _)).mono mm⟩)⟩
    · exact q2.elim
  · exact q2.elim
/-- xs.pop(i) -/
def mPopAt (mo : ME) (m : MA) : ME := fun τ h Q => mo τ h fun p h1 => listAt h1 p ∧ m τ h1 fun ps h2 => match p, ps with
  | .ref a, [.int i] => (match h2 a with
    | some (.lst xs) => xs.length ≤ SZ ∧ (match ixN xs.length i with | some k => (match xs[k]? with | some y => Q y (up h2 a (.lst (xs.eraseIdx k))) | none => False) | none => False)
    | _ => False)
  | _, _ => False
theorem Rels.eraseIdx {K : PySem.W.Frag} {H : Hp} {ps : List PV} {xs : List V} (r : Rels K H ps xs) (k : Nat) : Rels K H (ps.eraseIdx k) (xs.eraseIdx k) := by
  rw [List.eraseIdx_eq_take_drop_succ, List.eraseIdx_eq_take_drop_succ]
  exact (r.take _).append (r.drop _)
theorem le_popAt (ho : LE X o mo) (he : LAn X [e] 1 m) (hbase : attributeBase o "pop" X.env (eval o X.env) = eval o X.env := by rfl)
    (hfew : ((backTo cpos (starEach [e] X.env)).all (fun x => !x.1) && (backToKw cpos (keywordEach [] X.env)).all (fun x => x.1.isSome) && decide (([e] : List Expr).length + ([] : List Keyword).length + (if ([] : List Keyword).isEmpty then 0 else 1) < 30)) = true := by rfl)
    (hline : (apos.endLine == cpos.line) = true := by rfl) (hs : starEach [e] X.env = (false, eval e X.env) :: starEach [] X.env := by rfl) :
    LE X (.Call (.Attribute o "pop" apos) [e] [] cpos) (mPopAt mo m) := by
  refine PE.weak (pe_bm PySem.F.plainAttrs_list PySem.F.slot_list_pop PySem.F.type_list_pop mt_popAt ho he hbase hfew hline hs rfl) fun σ H Q ⟨τ, h, Q', s, sh, q, l⟩ => ?_
  refine ⟨τ, h, _, s, sh, q, fun p h1 v H1 q1 g1 r1 s1 => ⟨ty_list r1 s1 q1.1, ?_⟩⟩
  refine ⟨τ, h1, _, s.mono g1.mono, s1, q1.2, ?_⟩
  rintro ps h2 vs H2 q2 _ g2 rr s2
  split at q2
  · rename_i a i _
    obtain ⟨y, rfl, ry⟩ := rr.one
    split at q2
    · rename_i xs e2
      obtain ⟨u, e3, us, rfl, rx⟩ := s2 _ _ e2
      obtain ⟨z1, q2⟩ := q2
      split at q2
      · rename_i k ek
        split at q2
        · rename_i y2 ey
          obtain ⟨w, ew, rw'⟩ := rx.get ey
          obtain ⟨k1, k2, k3, k4⟩ := ixN_seq ek
          have hl := rx.length
          have hz : xs.length ≤ 16777216 := z1
          have mm : Mono H2 (upd H2 a (.lst (us.eraseIdx k))) := Mono.lst e3
          refine ⟨a, us, i, k, w, rel_ref.mp r1, by rw [rel_int.mp ry], e3, by omega, by omega, by rw [← hl]; exact k1, ew, l _ _ _ _ q2 ((g1.trans g2).trans (.wr e2 mm)) (rw'.mono mm) (s2.put mm ⟨_, rfl, (rx.eraseIdx k).mono mm⟩)⟩
        · exact q2.elim
      · exact q2.elim
    · exact q2.elim
  · exact q2.elim
/-- min, max of two ints -/
def rMin2 : PRA := fun ps h Q => match ps with | [.int i, .int j] => Q (.int (if j < i then j else i)) h | _ => False
def rMax2 : PRA := fun ps h Q => match ps with | [.int i, .int j] => Q (.int (if j > i then j else i)) h | _ => False
theorem lf_min2 {K : PySem.W.Frag} : LfA K (fun xs H Q => ∃ i j, xs = [.int i, .int j] ∧ Q (.int (if j < i then j else i)) H) rMin2 := by
  intro xs H ps h Q' Q rp s r l
  unfold rMin2 at r
  split at r
  · obtain ⟨v, w, rfl, r1, r2⟩ := rp.two
    rw [rel_int.mp r1, rel_int.mp r2]
    exact ⟨_, _, rfl, l _ _ _ _ r .refl (rel_int.mpr rfl) s⟩
  · exact r.elim
theorem lf_max2 {K : PySem.W.Frag} : LfA K (fun xs H Q => ∃ i j, xs = [.int i, .int j] ∧ Q (.int (if j > i then j else i)) H) rMax2 := by
  intro xs H ps h Q' Q rp s r l
  unfold rMax2 at r
  split at r
  · obtain ⟨v, w, rfl, r1, r2⟩ := rp.two
    rw [rel_int.mp r1, rel_int.mp r2]
    exact ⟨_, _, rfl, l _ _ _ _ r .refl (rel_int.mpr rfl) s⟩
  · exact r.elim
theorem le_min2 (hc : X.calm = true) (hm : X.mg "min" = none) (ha : LAn X [e, f] 2 m) (hg : Gl X "min" := by rfl) (h1 : starEach [e, f] X.env = (false, eval e X.env) :: starEach [f] X.env := by rfl) (h2 : (backTo pos (starEach [f] X.env)).any (·.1) = false := by rfl) :
    LE X (.Call (.Name "min" p) [e, f] [] pos) (mBlt rMin2 m) := le_blt (call_min2 hc) lf_min2 hm ha hg (h1 := h1) (h2 := h2)
theorem le_max2 (hc : X.calm = true) (hm : X.mg "max" = none) (ha : LAn X [e, f] 2 m) (hg : Gl X "max" := by rfl) (h1 : starEach [e, f] X.env = (false, eval e X.env) :: starEach [f] X.env := by rfl) (h2 : (backTo pos (starEach [f] X.env)).any (·.1) = false := by rfl) :
    LE X (.Call (.Name "max" p) [e, f] [] pos) (mBlt rMax2 m) := le_blt (call_max2 hc) lf_max2 hm ha hg (h1 := h1) (h2 := h2)
/-- int(text) -/
def rIntT : PRA := fun ps h Q => match ps with
  | [.str x] => x.length ≤ 640 ∧ (match PySem.intText? x with | some n => Q (.int n) h | none => False)
  | [.int i] => Q (.int i) h
  | [.bl b] => Q (.int (if b = true then 1 else 0)) h
  | _ => False
theorem le_intT (hm : X.mg "int" = none) (ha : LAn X [e] 1 m) (hg : Gl X "int" := by rfl) (h1 : starEach [e] X.env = (false, eval e X.env) :: starEach [] X.env := by rfl) :
    LE X (.Call (.Name "int" p) [e] [] pos) (mBlt rIntT m) := le_ty (call_int1.or call_int_str) (fun xs H ps h Q' Q rp s r l => by
  unfold rIntT at r
  split at r
  · obtain ⟨v, rfl, r1⟩ := rp.one
    obtain ⟨hl, r⟩ := r
    split at r
    · rename_i n en
      rw [rel_str.mp r1]
      exact .inr ⟨_, _, rfl, en, hl, l _ _ _ _ r .refl (rel_int.mpr rfl) s⟩
    · exact r.elim
  · obtain ⟨v, rfl, r1⟩ := rp.one
    rw [rel_int.mp r1]
    exact .inl (.inl ⟨_, rfl, l _ _ _ _ r .refl (rel_int.mpr rfl) s⟩)
  · obtain ⟨v, rfl, r1⟩ := rp.one
    rw [rel_bl.mp r1]
    exact .inl (.inr ⟨_, rfl, l _ _ _ _ r .refl (rel_int.mpr rfl) s⟩)
  · exact r.elim) hm ha hg (h1 := h1) (h2 := rfl)
/-- x.split(y): a list of texts, kept -/
def rSplit : PV → List PV → PH → PK → Prop := fun p ps h Q => match p, ps with
  | .str x, [.str y] => (y.length == 0) = false ∧ x.length + 2 ≤ SZ ∧ Q (.lst ((Txt.split x y).map PV.str)) h
  | _, _ => False
theorem rels_of_strs {K : PySem.W.Frag} {H : Hp} : ∀ ys : List Str, Rels K H (ys.map PV.str) (ys.map V.str)
  | [] => .nil
  | y :: ys => .cons (rel_str.mpr rfl) (rels_of_strs ys)
theorem le_split (ho : LE X o mo) (ha : LAn X [e] 1 m) (hbase : attributeBase o "split" X.env (eval o X.env) = eval o X.env := by rfl)
    (hfew : ((backTo cpos (starEach [e] X.env)).all (fun x => !x.1) && (backToKw cpos (keywordEach [] X.env)).all (fun x => x.1.isSome) && decide (([e] : List Expr).length + ([] : List Keyword).length + (if ([] : List Keyword).isEmpty then 0 else 1) < 30)) = true := by rfl)
    (hline : (apos.endLine == cpos.line) = true := by rfl) (hs : starEach [e] X.env = (false, eval e X.env) :: starEach [] X.env := by rfl) (hs1 : starEach [e] X.env = [(false, eval e X.env)] := by rfl) :
    LE X (.Call (.Attribute o "split" apos) [e] [] cpos) (mM1 rSplit mo m) := by
  refine PE.weak (PE.kp (pe_bm PySem.F.plainAttrs_str PySem.F.slot_str_split PySem.F.type_str_split mt_split ho ha hbase hfew hline hs rfl)) fun σ H Q ⟨τ, h, Q', s, sh, q, l⟩ => ?_
  refine ⟨τ, h, _, s, sh, q, fun p h1 v H1 ⟨⟨x, ex⟩, q1⟩ g1 r1 s1 => ⟨by subst ex; rw [rel_str.mp r1]; rfl, ?_⟩⟩
  refine ⟨τ, h1, _, s.mono g1.mono, s1, q1, ?_⟩
  rintro ps h2 vs H2 q2 _ g2 rr s2
  subst ex
  unfold rSplit at q2
  split at q2
  · rename_i x' y ex _
    cases ex
    obtain ⟨w, rfl, rw'⟩ := rr.one
    obtain ⟨z1, z2, q2⟩ := q2
    exact ⟨_, _, rel_str.mp r1, by rw [rel_str.mp rw'], z1, sz_le z2, fun a ha => keep_l (l.mono (g1.trans g2)) s2 (rels_of_strs _) q2 ha⟩
  · exact q2.elim
/-! ### f'..' -/
/-- a part: a text or an int, as a text -/
def mFmt (m : ME) : ME := fun τ h Q => m τ h fun p h1 => match p with
  | .str x => x.length ≤ SZ ∧ Q (.str x) h1
  | .int i => i.natAbs.log2 < 1920 ∧ Q (.str (toString i)) h1
  | _ => False
theorem le_fmt (he : LE X e me) : LE X (.FormattedValue e (-1) none pos) (mFmt me) := by
  refine PE.weak (pe_fmt he) fun σ H Q ⟨τ, h, Q', s, sh, q, l⟩ => ?_
  refine ⟨τ, h, _, s, sh, q, fun p h1 v H1 q1 g1 r1 s1 => ?_⟩
  cases p with
  | str x => exact .inl ⟨x, rel_str.mp r1, sz_le q1.1, l _ _ _ _ q1.2 g1 (rel_str.mpr rfl) s1⟩
  | int i => exact .inr ⟨i, rel_int.mp r1, q1.1, l _ _ _ _ q1.2 g1 (rel_str.mpr rfl) s1⟩
  | _ => exact q1.elim
/-- the parts, one behind the other -/
def mJs : List ME → List Nat → PSt → PH → (List Nat → PH → Prop) → Prop
  | [], acc, _, h, Q => Q acc h
  | m :: ms, acc, τ, h, Q => m τ h fun p h1 => match p with
    | .str y => acc.length + (cl y).length ≤ SZ ∧ mJs ms (acc ++ cl y) τ h1 Q
    | _ => False
def mJoin (ms : List ME) : ME := fun τ h Q => mJs ms [] τ h fun l h1 => Q (.str (S l)) h1
inductive LJ (X : Cx) : List Expr → List ME → Prop where
  | nil : LJ X [] []
  | cons {e : Expr} {m : ME} {es : List Expr} {ms : List ME} (h : LE X e m) (r : LJ X es ms) : LJ X (e :: es) (m :: ms)
theorem LJ.pj {es : List Expr} {ms : List ME} (h : LJ X es ms) : PJ X es (ms.map (upE X.K)) := by
  induction h with
  | nil => exact .nil
  | cons h _ ih => exact .cons h ih
theorem js_up {K : PySem.W.Frag} {σ : L2.St} {τ : PSt} : ∀ (ms : List ME) (acc : List Nat) (H : Hp) (h : PH) (Q' : List Nat → PH → Prop) (Q : Str → Hp → Prop), SimS K H σ τ → Sim K H h → mJs ms acc τ h Q' →
    (∀ l h1 H1, Q' l h1 → Go H h H1 h1 → SimS K H1 σ τ → Sim K H1 h1 → Q (S l) H1) → tJs (ms.map (upE K)) (S acc) σ H Q
  | [], acc, H, h, Q', Q, s, sh, q, k => k acc h H q .refl s sh
  | m :: ms, acc, H, h, Q', Q, s, sh, q, k => by
    show upE K m σ H _
    refine ⟨τ, h, _, s, sh, q, fun p h1 v H1 q1 g1 r1 s1 => ?_⟩
    cases p with
    | str y =>
      obtain ⟨hz, q1⟩ := q1
      have e : S acc ++ y = S (acc ++ cl y) := by rw [← S_cl y, S_append, cl_S]
      refine ⟨y, rel_str.mp r1, by rw [e, S_length, List.length_append]; exact sz_le hz, ?_⟩
      rw [e]
      exact js_up ms _ H1 h1 Q' Q (s.mono g1.mono) s1 q1 fun l h2 H2 q2 g2 => k l h2 H2 q2 (g1.trans g2)
    | _ => exact q1.elim
theorem le_fs {e1 e2 : Expr} {rest : List Expr} {ms : List ME} (h : LJ X (e1 :: e2 :: rest) ms) : LE X (.JoinedStr (e1 :: e2 :: rest) pos) (mJoin ms) := by
  refine PE.weak (pe_joined h.pj) fun σ H Q ⟨τ, h0, Q', s, sh, q, l⟩ => ?_
  exact js_up ms [] H h0 _ _ s sh q fun x h1 H1 q1 g1 _ s1 => l _ _ _ _ q1 g1 (rel_str.mpr rfl) s1
/-! ### dict(pairs), each key once -/
def prs : List PV → Option (List Key × List PV)
  | [] => some ([], [])
  | .tup [k, v] :: r => (match kOf k, prs r with | some k', some (ks, vs) => some (k' :: ks, v :: vs) | _, _ => none)
  | _ => none
theorem prs_rel {K : PySem.W.Frag} {H : Hp} : ∀ {xs : List PV} {us : List V} {ks : List Key} {vs : List PV}, Rels K H xs us → prs xs = some (ks, vs) →
    ∃ (as : List Addr) (kvs : List (Key × V)), us = as.map V.ref ∧ Paired (fun p kv => SqT K H p [kV kv.1, kv.2]) as kvs ∧ ks = kvs.map (·.1) ∧ Rels K H vs (kvs.map (·.2))
  | [], us, ks, vs, r, e => by
    rw [Rels.nil_iff] at r
    simp only [prs, Option.some.injEq, Prod.mk.injEq] at e
    obtain ⟨rfl, rfl⟩ := e
    exact ⟨[], [], r, .nil, rfl, .nil⟩
  | x :: xs, us, ks, vs, r, e => by
    obtain ⟨u, us', rfl, r1, r2⟩ := r.uncons
    unfold prs at e
    split at e
    · cases ‹_ :: _ = []›
    · rename_i k v rest e0
      cases e0
      split at e
      · rename_i k' ks' vs' ek er
        simp only [Option.some.injEq, Prod.mk.injEq] at e
        obtain ⟨rfl, rfl⟩ := e
        obtain ⟨as, kvs, e1, e2, e3, e4⟩ := prs_rel r2 er
        obtain ⟨a, ys, rfl, hq, ry⟩ := rel_tup.mp r1
        obtain ⟨w, z, rfl, rw', rz⟩ := ry.two
        have hk := kOf_rel rw' ek
        subst hk
        exact ⟨a :: as, (k', z) :: kvs, by rw [e1]; rfl, .cons hq e2, by rw [e3]; rfl, .cons rz e4⟩
      · cases e
    · cases e
def rDictP : PRA := fun ps h Q => match ps with
  | [p] => (match seqL h p with
    | some xs => (match prs xs with | some (ks, vs) => ks.Nodup ∧ Q (.dct ks vs) h | none => False)
    | none => False)
  | _ => False
theorem le_dictP (hc : X.calm = true) (hm : X.mg "dict" = none) (ha : LAn X [e] 1 m) (hg : Gl X "dict" := by rfl) (h1 : starEach [e] X.env = (false, eval e X.env) :: starEach [] X.env := by rfl) :
    LE X (.Call (.Name "dict" p) [e] [] pos) (mBlt rDictP m) := le_tyK (call_dictP hc) (fun xs H ps h Q' Q rp s r l => by
  unfold rDictP at r
  split at r
  · split at r
    · rename_i q _ ys e
      split at r
      · rename_i ks vs ek
        obtain ⟨v, rfl, r1⟩ := rp.one
        obtain ⟨a, us, rfl, hq, rr⟩ := seqL_sq r1 s e
        obtain ⟨as, kvs, rfl, e2, rfl, e4⟩ := prs_rel rr ek
        refine ⟨a, as, kvs, rfl, hq, e2, fun b hb => ?_⟩
        rw [merge_nd kvs [] (by simpa using r.1), List.nil_append]
        exact keep_d l s rfl e4 r.2 hb
      · exact r.elim
    · exact r.elim
  · exact r.elim) hm ha hg (h1 := h1) (h2 := rfl)
end
/-! ### [e, ..] * n, a list that may change -/
def mRepM (m : MA) (mb : ME) : ME := fun τ h Q => m τ h fun ps h1 => mb τ h1 fun q h2 => match q with
  | .int k => (-16777216 ≤ k ∧ k ≤ 16777216 ∧ ps.length * k.toNat ≤ SZ) ∧ ∀ a, h2 a = none → Q (.ref a) (up h2 a (.lst (List.replicate k.toNat ps).flatten))
  | _ => False
theorem le_repM {X : Cx} {pos p2 : Pos} {es : List Expr} {b : Expr} {n : Nat} {m : MA} {mb : ME} (h : LAn X es n m) (hb : LE X b mb) (hn : n ≤ 1000 := by decide) : LE X (.BinOp (.List es p2) .Mult b pos) (mRepM m mb) := by
  refine PE.weak (PE.kp (pe_op op_rep (pe_lst h) hb)) fun σ H Q ⟨τ, h, Q', s, sh, q, l⟩ => ?_
  refine ⟨τ, h, _, s, sh, q, fun ps h1 vs H1 q1 hl g1 r1 s1 => ⟨by rw [← r1.length, hl]; exact few hn, fun p hp => ?_⟩⟩
  have hp1 : h1 p = none := s1.fresh hp
  have gD : Go H1 h1 (upd H1 p (.lst vs)) h1 := .new hp
  refine ⟨τ, h1, _, s.mono (g1.trans gD).mono, s1.new hp, q1, fun q h2 y H2 q2 g2 r2 s2 => ?_⟩
  cases q with
  | int k =>
    obtain ⟨⟨k1, k2, hz⟩, q2⟩ := q2
    have hH : H2 p = some (.lst vs) := g2.frame p _ upd_same hp1
    refine ⟨p, k, vs, rfl, rel_int.mp r2, hH, by omega, by omega, by rw [← r1.length]; exact sz_le hz, fun c hc => ?_⟩
    have g := (g1.trans gD).trans g2
    exact make_l (l.mono g) s2 ((r1.mono (gD.trans g2).mono).rep k.toNat) q2 hc
  | _ => exact q2.elim
end N3

/-! what a def has made and no one needs any more may be forgotten at its end -/
namespace N3
open PySem PySem.Spec PyProof.Rows L2
def sub (h0 h1 : PH) : Prop := ∀ a o, h0 a = some o → h1 a = some o
theorem sub_refl (h : PH) : sub h h := fun _ _ e => e
theorem sub_up {h : PH} {a : Addr} {o : PO} (e : h a = none) : sub h (up h a o) := fun b u z => by
  unfold up
  by_cases hb : b = a
  · subst hb; rw [e] at z; cases z
  · rw [if_neg hb]; exact z
theorem sub_trans {h k l : PH} (a : sub h k) (b : sub k l) : sub h l := fun c o e => b c o (a c o e)
theorem sub_none {h0 h1 : PH} {b : Addr} (s : sub h0 h1) (e : h1 b = none) : h0 b = none := by
  cases z : h0 b with
  | none => rfl
  | some o => have := s b o z; rw [e] at this; cases this
def frg (Q : PK) : PK := fun p h1 => ∃ h0, sub h0 h1 ∧ Q p h0
theorem frg_of {Q : PK} {p : PV} {h : PH} (q : Q p h) : frg Q p h := ⟨h, sub_refl h, q⟩
theorem LQ.frg {K : PySem.W.Frag} {H : Hp} {h : PH} {Q' : PK} {Q : VK} (l : LQ K H h Q' Q) : LQ K H h (frg Q') Q := fun p h1 v H1 ⟨h0, s, q⟩ g r sm =>
  l p h0 v H1 q ⟨g.mono, g.frame, fun b u e n => sub_none s (g.dom b u e n), g.live⟩ r (sm.less s)
section
variable {P : Program} {w : World} {K : PySem.W.Frag} {mg : Str → Option Value} {base : Heap}
theorem FnG.frg {k : Nat} {f : Addr} {fd : FuncData} {ps : List Str} {sp : SpP} (F : FnG P w K mg base k f fd ps (fun qs h Q => ∃ Q', sp qs h Q' ∧ Q = N3.frg Q')) : FnG P w K mg base k f fd ps sp :=
  ⟨fun A outer s H args us vs Q hr hg he hb r ⟨qs, h1, Q', hl, rr, ss, z, l⟩ => F.run A outer s H args us vs Q hr hg he hb r ⟨qs, h1, N3.frg Q', hl, rr, ss, ⟨Q', z, rfl⟩, l.frg⟩⟩
theorem fn_okF {x qual : Str} {st : Stmt} {f : Addr} {fd : FuncData} {N ps : List Str} {k : Nat} {sp : SpP} {m : MS} (F : Fun K x qual st f fd) (S : FnScope N ps (defScope st))
    (hb : ∀ (cdv : Value) (A : Around) (outer : List Env) (s : Shared) (H : Hp) (E : XK), Room k (A.deeper (envOfC qual (defScope st) s.heap.objs.size f cdv)) → A.guards = some [] → LSs (cxOf CX0 P w K mg base N qual (defScope st) f cdv A outer s H E).nox (defBody st) m)
    (hm : ∀ qs h Q, qs.length = ps.length → sp qs h Q → m (ends (frg Q)) (sp0 N.length qs) h) : FnG P w K mg base (k + 1) f fd ps sp :=
  FnG.frg (fn_ok F S hb fun qs h Q hl ⟨Q', z, e⟩ => by subst e; exact hm qs h Q' hl z)
end
end N3

/-! comprehensions of two fors; sorted of a tuple -/
namespace N3
open PySem PySem.Spec PyProof.Rows L2
def lcI (gd : PH → Prop) (τ : PSt) (g : MG) (t : MT) (m : ME) : List PV → List PV → PH → (List PV → PH → Prop) → Prop
  | [], acc, h, Q => gd h ∧ Q acc h
  | p :: ps, acc, h, Q => gd h ∧ g p τ h fun τ1 h1 => t τ1 h1 fun b h2 => if b = true then m τ1 h2 fun v h3 => acc.length < SZ ∧ lcI gd τ g t m ps (acc ++ [v]) h3 Q else lcI gd τ g t m ps acc h2 Q
def lcO (gd : PH → Prop) (τ : PSt) (g : MG) (t : MT) (mi1 : MI) (vs1 : List Nat) (g1 : MG) (t1 : MT) (m : ME) : List PV → List PV → PH → (List PV → PH → Prop) → Prop
  | [], acc, h, Q => gd h ∧ Q acc h
  | p :: ps, acc, h, Q => gd h ∧ g p τ h fun τ1 h1 => t τ1 h1 fun b h2 => if b = true then mi1 τ1 h2 fun qs gd1 h3 => lcI gd1 (wp τ1 vs1) g1 t1 m qs acc h3 fun acc' h4 => lcO gd τ g t mi1 vs1 g1 t1 m ps acc' h4 Q else lcO gd τ g t mi1 vs1 g1 t1 m ps acc h2 Q
def mLc2 (mi : MI) (vs : List Nat) (g : MG) (t : MT) (mi1 : MI) (vs1 : List Nat) (g1 : MG) (t1 : MT) (m : ME) : ME := fun τ h Q => mi τ h fun ps gd h1 => lcO gd (wp τ vs) g t mi1 vs1 g1 t1 m ps [] h1 fun zs h2 => Q (.lst zs) h2
theorem lc_up2 {K : PySem.W.Frag} {mi mi1 : MI} {vs vs1 : List Nat} {g g1 : MG} {t t1 : MT} {m : ME} {Y : List PV → PH → Prop} {σ : L2.St} {H0 : Hp} {τ : PSt} {h0 : PH} {Q : VK} (s0 : SimS K H0 σ τ) (sh0 : Sim K H0 h0)
    (q : mi τ h0 fun ps gd h1 => lcO gd (wp τ vs) g t mi1 vs1 g1 t1 m ps [] h1 Y)
    (fin : ∀ zs h2 xs D H2, Y zs h2 → H0 D = none → H2 D = some (.lst xs) → h2 D = none → Sim K H2 h2 → Rels K H2 zs xs → Go H0 h0 H2 h2 → Q (.ref D) H2) :
    tLc2 (upI K mi) (upG K vs g) (upT K t) (upI K mi1) (upG K vs1 g1) (upT K t1) (upE K m) vs vs1 σ H0 Q := by
  refine ⟨τ, h0, _, s0, sh0, q, fun ps gd h1 H1 J q1 gA s1 wk D hD => ?_⟩
  have hD1 : h1 D = none := s1.fresh hD
  have gD : Go H1 h1 (upd H1 D (.lst [])) h1 := .new hD
  refine ⟨fun i n H => ∃ h acc xs, i ≤ ps.length ∧ n = ps.length - i ∧ Go H1 h1 H h ∧ H D = some (.lst xs) ∧ h D = none ∧ Rels K H acc xs ∧ Sim K H h ∧ lcO gd (wp τ vs) g t mi1 vs1 g1 t1 m (ps.drop i) acc h Y,
    ⟨ps.length, h1, [], [], Nat.zero_le _, rfl, gD, upd_same, hD1, .nil, s1.new hD, q1⟩, ?_⟩
  rintro i n H ⟨h, acc, xs, hi, rfl, gg, hx, hd, ra, sh, q⟩
  by_cases hlt : i < ps.length
  · have e : ps.drop i = ps[i] :: ps.drop (i + 1) := List.drop_eq_getElem_cons hlt
    rw [e] at q
    obtain ⟨hgd, q⟩ := q
    refine .inr ⟨wk.goes i H h hlt gg.mono sh hgd, fun H' => ∃ h acc xs, Go H1 h1 H' h ∧ H' D = some (.lst xs) ∧ h D = none ∧ Rels K H' acc xs ∧ Sim K H' h ∧ lcO gd (wp τ vs) g t mi1 vs1 g1 t1 m (ps.drop (i + 1)) acc h Y,
      fun H' ⟨h, acc, xs, a1, a2, a3, a4, a5, a7⟩ => ⟨ps.length - (i + 1), by omega, h, acc, xs, hlt, rfl, a1, a2, a3, a4, a5, a7⟩, fun x H' y => ?_⟩
    obtain ⟨g2, sh2, rx⟩ := wk.yields i H h x H' ps[i] (List.getElem?_eq_getElem hlt) gg.mono sh hgd y
    have gw : Mono H0 H' := (gA.trans (gg.trans g2)).mono
    refine ⟨ps[i], wp τ vs, h, _, rx, (s0.mono gw).wipe vs, sh2, q, fun τ3 h3 σ3 H3 q3 g3 s3 sh3 w3 => ⟨by rw [w3, wipe_wipe], ?_⟩⟩
    refine ⟨τ3, h3, _, s3, sh3, q3, fun b h4 H4 q4 g4 s4 => ?_⟩
    have g24 := (g2.trans g3).trans g4
    have x4 : H4 D = some (.lst xs) := g24.frame D _ hx hd
    have d4 : h4 D = none := g24.dom D _ hx hd
    cases b with
    | false =>
      simp only [Bool.false_eq_true, if_false] at q4 ⊢
      exact ⟨h4, acc, xs, gg.trans g24, x4, d4, ra.mono g24.mono, s4, q4⟩
    | true =>
      simp only [if_true] at q4 ⊢
      refine ⟨τ3, h4, _, s3.mono g4.mono, s4, q4, fun qs gd1 h5 H5 J1 q5 g5 s5 wk1 => ?_⟩
      have x5 : H5 D = some (.lst xs) := g5.frame D _ x4 d4
      have d5 : h5 D = none := g5.dom D _ x4 d4
      refine ⟨fun j k H => ∃ h acc xs, j ≤ qs.length ∧ k = qs.length - j ∧ Mono H5 H ∧ Go H1 h1 H h ∧ H D = some (.lst xs) ∧ h D = none ∧ Rels K H acc xs ∧ Sim K H h ∧ lcI gd1 (wp τ3 vs1) g1 t1 m (qs.drop j) acc h fun acc' h4 => lcO gd (wp τ vs) g t mi1 vs1 g1 t1 m (ps.drop (i + 1)) acc' h4 Y,
        ⟨qs.length, h5, acc, xs, Nat.zero_le _, rfl, Mono.refl _, (gg.trans g24).trans g5, x5, d5, ra.mono (g24.trans g5).mono, s5, q5⟩, ?_⟩
      rintro j k H6 ⟨h6, acc6, xs6, hj, rfl, m6, gg6, hx6, hd6, ra6, sh6, q6⟩
      by_cases hlt6 : j < qs.length
      · have e6 : qs.drop j = qs[j] :: qs.drop (j + 1) := List.drop_eq_getElem_cons hlt6
        rw [e6] at q6
        obtain ⟨hgd6, q6⟩ := q6
        refine .inr ⟨wk1.goes j H6 h6 hlt6 m6 sh6 hgd6, fun H' => ∃ h acc xs, Mono H5 H' ∧ Go H1 h1 H' h ∧ H' D = some (.lst xs) ∧ h D = none ∧ Rels K H' acc xs ∧ Sim K H' h ∧ lcI gd1 (wp τ3 vs1) g1 t1 m (qs.drop (j + 1)) acc h fun acc' h4 => lcO gd (wp τ vs) g t mi1 vs1 g1 t1 m (ps.drop (i + 1)) acc' h4 Y,
          fun H' ⟨h, acc, xs, a0, a1, a2, a3, a4, a5, a7⟩ => ⟨qs.length - (j + 1), by omega, h, acc, xs, hlt6, rfl, a0, a1, a2, a3, a4, a5, a7⟩, fun x H' y => ?_⟩
        obtain ⟨g7, sh7, rx7⟩ := wk1.yields j H6 h6 x H' qs[j] (List.getElem?_eq_getElem hlt6) m6 sh6 hgd6 y
        refine ⟨qs[j], wp τ3 vs1, h6, _, rx7, (s3.mono ((g4.trans g5).mono.trans (m6.trans g7.mono))).wipe vs1, sh7, q6, fun τ8 h8 σ8 H8 q8 g8 s8 sh8 w8 => ⟨by rw [w8, wipe_wipe], ?_⟩⟩
        refine ⟨τ8, h8, _, s8, sh8, q8, fun b h9 H9 q9 g9 s9 => ?_⟩
        have g79 := (g7.trans g8).trans g9
        have x9 : H9 D = some (.lst xs6) := g79.frame D _ hx6 hd6
        have d9 : h9 D = none := g79.dom D _ hx6 hd6
        cases b with
        | true =>
          simp only [if_true] at q9 ⊢
          refine ⟨τ8, h9, _, s8.mono g9.mono, s9, q9, fun v hA yA HA ⟨qz, qA⟩ g_A rA sA => ?_⟩
          have xA : HA D = some (.lst xs6) := g_A.frame D _ x9 d9
          have dA : hA D = none := g_A.dom D _ x9 d9
          have mw : Mono HA (upd HA D (.lst (xs6 ++ [yA]))) := Mono.lst xA
          refine ⟨xs6, xA, by rw [← ra6.length]; exact sz_lt qz, hA, acc6 ++ [v], xs6 ++ [yA], (m6.trans (g79.trans g_A).mono).trans mw, ((gg6.trans g79).trans g_A).renew hD mw, upd_same, dA, ((ra6.mono (g79.trans g_A).mono).append (.cons rA .nil)).mono mw, sA.drop mw dA, qA⟩
        | false =>
          simp only [Bool.false_eq_true, if_false] at q9 ⊢
          exact ⟨h9, acc6, xs6, m6.trans g79.mono, gg6.trans g79, x9, d9, ra6.mono g79.mono, s9, q9⟩
      · have e6 : j = qs.length := by omega
        subst e6
        rw [List.drop_length] at q6
        exact .inl ⟨wk1.stops H6 h6 m6 sh6 q6.1, h6, acc6, xs6, gg6, hx6, hd6, ra6, sh6, q6.2⟩
  · have e : i = ps.length := by omega
    subst e
    rw [List.drop_length] at q
    exact .inl ⟨wk.stops H h gg.mono sh q.1, fin acc h xs D H q.2 (gA.live D hD) hx hd sh ra (gA.trans gg)⟩
section
variable {X : Cx} {pos : Pos}
theorem le_lc2 {elt tg iter tg1 iter1 : Expr} {ifs ifs1 : List Expr} {scope : Scope} {mi mi1 : MI} {g g1 : MG} {t t1 : MT} {m : ME} (own : List (Str × Nat)) (vs1 : List Nat) (hc : X.calm = true) (hN : X.N.Nodup) (hi : LI X tg iter mi) (ok : BlkOk X.N X.env.scope scope own) (hv : ∀ i ∈ vs1, i ∈ own.map (·.2))
    (hg : ∀ (s : Shared) (H : Hp) (C : Addr) (cl : List (Str × Addr)) (fp : List Addr), LG (X.blk s H scope (compEnvC scope cl C X.env) fp) tg (own.map (·.2)) g) (ht : ∀ (s : Shared) (H : Hp) (C : Addr) (cl : List (Str × Addr)) (fp : List Addr), LTs (X.blk s H scope (compEnvC scope cl C X.env) fp) ifs t)
    (hi1 : ∀ (s : Shared) (H : Hp) (C : Addr) (cl : List (Str × Addr)) (fp : List Addr), LI (X.blk s H scope (compEnvC scope cl C X.env) fp) tg1 iter1 mi1)
    (hg1 : ∀ (s : Shared) (H : Hp) (C : Addr) (cl : List (Str × Addr)) (fp : List Addr), LG (X.blk s H scope (compEnvC scope cl C X.env) fp) tg1 vs1 g1) (ht1 : ∀ (s : Shared) (H : Hp) (C : Addr) (cl : List (Str × Addr)) (fp : List Addr), LTs (X.blk s H scope (compEnvC scope cl C X.env) fp) ifs1 t1)
    (he : ∀ (s : Shared) (H : Hp) (C : Addr) (cl : List (Str × Addr)) (fp : List Addr), LE (X.blk s H scope (compEnvC scope cl C X.env) fp) elt m) (hs : ∀ x, foldedSetIterable iter X.env x = pure x := by intro _; rfl) (hs1 : ∀ env x, foldedSetIterable iter1 env x = pure x := by intro _ _; rfl) :
    LE X (.ListComp elt [⟨tg, iter, ifs, 0⟩, ⟨tg1, iter1, ifs1, 0⟩] scope pos) (mLc2 mi (own.map (·.2)) g t mi1 vs1 g1 t1 m) :=
  PE.weak (PE.kp (pe_lc2 hc hN hi ok hv hg ht hi1 hg1 ht1 he hs hs1)) fun σ H Q ⟨τ, h, Q', s, sh, q, l⟩ => lc_up2 s sh q fun zs h2 xs D H2 q2 h0 hD hd s2 r2 g2 => .inr ⟨D, _, rfl, hD, trivial, fun o => by
    have mm : Mono H2 (upd H2 D (.frz o (.lst xs))) := Mono.lst hD
    refine l (.lst zs) h2 (.ref D) _ q2 (g2.renew h0 mm) ?_ (s2.drop mm hd)
    simp only [Rel]
    exact ⟨D, xs, rfl, .inl ⟨o, upd_same⟩, r2.mono mm⟩⟩
end

/-! ### sorted of a tuple -/
theorem collect_any {prog : Program} {w : World} {A : Around} {E : Value → Shared → Prop} {s : Shared} {l : Addr} {vs : List Value} {Q : List Value → Shared → Prop} (hl : IsTup s.heap l vs.toArray)
    (h : Q vs { s with heap := (s.heap.push (seqObj "list" #[] 0)).update s.heap.objs.size (Obj.mapSeq (· ++ vs.toArray)) }) (hz : vs.length ≤ sizeLine) : wpAny (model prog w) A (collect (.ref l)) Q E s := by
  obtain ⟨o, ho, hc, n, hd⟩ := id hl
  have ho2 : (s.heap.push (seqObj "list" #[] 0)).get? l = some o := Heap.get?_push_of_some _ ho
  unfold collect; refine wpAny_bind (wpAny_runValue (codeAny_builtin entry_proto_collect' ?_))
  show wpAny (model prog w) _ (do again (.builtin "list.__iadd__" ⟨[← newList [], .ref l], []⟩)) _ _ s
  refine wpAny_bind (wpAny_newList (wpAny_pure ⟨Code.quiet_builtin _ (by decide +kernel), codeAny_builtin entry_list_iadd' (show wpAny (model prog w) _ (Builtin.List.listExtendWith (.ref s.heap.objs.size) (.ref l) (.ref s.heap.objs.size)) _ _ { s with heap := s.heap.push (seqObj "list" #[] 0) } from ?_)⟩))
  unfold Builtin.List.listExtendWith; refine wpAny_bind (wpAny_typeOf (T := "tuple") ⟨o, ho2, hc⟩ ?_)
  rw [if_pos (by rw [show (Value.type "tuple" == Value.type "tuple") = true from by rfl, Bool.or_true])]; refine wpAny_bind (listItems_at ho2 hd (wpAny_bind (listItems_at (xs := #[]) (n := 0) (Heap.get?_push_size _ rfl) rfl ?_)))
  rw [if_neg (by simp)]; refine wpAny_bind (listUpdate_at (xs := #[]) (n := 0) (Heap.get?_push_size _ rfl) rfl (wpAny_pure ?_) (Nat.zero_le _) (by show (#[] ++ vs.toArray).size ≤ sizeLine + 1; simp only [Array.size_append, List.size_toArray, List.length_nil]; omega))
  show wpAny (model prog w) A (do let o ← load s.heap.objs.size; match o.data with | .seq xs _ => pure xs.toList | _ => unsupported "internal:collect") Q E { s with heap := (s.heap.push (seqObj "list" #[] 0)).update s.heap.objs.size (Obj.mapSeq (· ++ vs.toArray)) }
  refine wpAny_bind (wpAny_load (get?_update_seq (Heap.get?_push_size _ rfl) _) (show wpAny (model prog w) A (pure ((#[] : Array Value) ++ vs.toArray).toList) Q E _ from ?_))
  rw [show ((#[] : Array Value) ++ vs.toArray).toList = vs by simp]; exact wpAny_pure h
open PySem.W in
theorem sorted_tup {prog : Program} {w : World} {A : Around} {E : Value → Shared → Prop} {s : Shared} {β : Type} {vs : List Value} {bs : List β} {enc : β → PyData} {R : Value → β → Prop} {l : Addr} {Q : Value → Shared → Prop} (hl : IsTup s.heap l vs.toArray) (e : EachIs R vs bs) (er : EachIs (fun v b => ∃ as, Reads s.heap v (enc b) as) vs bs)
    (hal : AllAlike (bs.map enc)) (hk : Sortable (bs.map enc)) (hL : bs.length ≤ sizeLine) (hu : ∀ b, b ∈ bs → A.units + 2 + (enc b).depth < cLine)
    (h : ∀ out, out.length = bs.length → EachIs R out (bs.mergeSort (dataLe false enc)) → Q (.ref (s.heap.objs.size + 1)) { s with heap := sortedAll s.heap vs (List.toArray out) }) : wpAny (model prog w) A (call (.builtin "sorted") [.ref l]) Q E s := by
  have hv : vs.length ≤ sizeLine := by rw [e.length]; exact hL
  have er2 : EachIs (fun v b => ∃ as, Reads (sortingHeap (copyHeap s.heap vs) (s.heap.objs.size + 1) vs) v (enc b) as) vs bs := er.mono fun _ _ ⟨as, r⟩ => ⟨as, PyProof.Rows.Reads.keeps (fun _ _ => sorting_copy_old) r⟩
  have body : ∀ E' : Value → Shared → Prop, wpAny (model prog w) A.in1.in1 (Builtin.«list.sort» ⟨[.ref (s.heap.objs.size + 1)], []⟩) (fun f s' => f = .done (.ret .none) ∧ Q (.ref (s.heap.objs.size + 1)) s') E' { s with heap := copyHeap s.heap vs } := fun E' =>
    list_sort_vals (s := { s with heap := copyHeap s.heap vs }) (copyHeap_at s.heap vs) (SortsAt.data (s := { s with heap := sortingHeap (copyHeap s.heap vs) (s.heap.objs.size + 1) vs }) (each_map (R := fun v d => ∃ as, Reads (sortingHeap (copyHeap s.heap vs) (s.heap.objs.size + 1) vs) v d as) enc er2) hal hk (bound_map hu)) hv
      ⟨rfl, h _ (by rw [sortVals_length false rfl]; exact e.length) (sortVals_data false e er2 hal)⟩
  have hsz2 : ((s.heap.push (seqObj "list" #[] 0)).update s.heap.objs.size (Obj.mapSeq (· ++ vs.toArray))).objs.size = s.heap.objs.size + 1 := by rw [Heap.size_update, size_push']
  refine call_function_entry_kw kind_sorted plain_sorted entry_sorted (args_sorted1 _) ?_
  unfold Builtin.«sorted»; refine wpAny_bind (m := checkCount "sorted" 1 1 _) (wpAny_pure (wpAny_bind (collect_any hl (wpAny_bind (wpAny_newList (show wpAny (model prog w) _ _ _ _ { s with heap := copyHeap s.heap vs } from ?_) hv)) hv)))
  rw [hsz2]; refine wpAny_bind (wpAny_holding (wpAny_call_entry_kw slot_list_sort ⟨_, copyHeap_at s.heap vs, rfl⟩ entry_list_sort (show wpAny (model prog w) A.in1.in1 (Builtin.«list.sort» ⟨[.ref (s.heap.objs.size + 1)], []⟩) _ _ _ from ?_) (args_list_sort _)))
  exact wpAny_mono (body _) (fun f s' ⟨hf, hq⟩ => by subst hf; exact ⟨_, rfl, wpAny_pure ⟨_, rfl, hq⟩⟩) fun _ _ e => e
def oSortT (K : PySem.W.Frag) : List V → Hp → VK → Prop := fun vs H Q => ∃ (a : Addr) (bs : List (V × PyData)), vs = [.ref a] ∧ SqT K H a (bs.map Prod.fst) ∧ (∀ b ∈ bs, Dp K H b.1 b.2) ∧ Srtb (bs.map Prod.snd) ∧
  ∀ l, H l = none → Q (.ref l) (upd H l (.lst ((bs.mergeSort (PySem.W.dataLe false Prod.snd)).map Prod.fst)))
theorem cr_sortTup {X : Cx} (hu : X.A.units + 66 < cLine) : CallR X (.builtin "sorted") (oSortT X.K) := by
  intro pins s σ H vs us Q I r h
  obtain ⟨a, bs, rfl, ha, hd, st, q⟩ := h
  obtain ⟨u, rfl, ru⟩ := vals1 r
  cases ru
  obtain ⟨its, rv, pl, hz⟩ := I.tuple ha
  obtain ⟨e1, e2⟩ := dp_each I rfl hd rv
  rw [List.length_map] at hz
  refine sorted_tup (bs := bs) (enc := Prod.snd) pl e1 e2 st.al st.so hz (fun b hb => ?_) fun out hl eo => ?_
  · have := st.dp b.2 (List.mem_map_of_mem hb)
    omega
  · obtain ⟨c, hc⟩ := sortedAll_at s.heap its out.toArray
    have I2 := I.laid (t' := s.toks) (h' := sortedAll s.heap its out.toArray) (a := s.heap.objs.size + 1) (o := .lst ((bs.mergeSort (PySem.W.dataLe false Prod.snd)).map Prod.fst)) (fun _ _ => sortedAll_old) (Nat.le_succ _)
      ⟨by rw [List.length_map, List.length_mergeSort]; exact hz, out, c, vals_each eo, hc⟩
    exact ⟨.ref (s.heap.objs.size + 1), _, I2, rfl, q _ (I.hok.fresh (Nat.le_succ _))⟩
/-- sorted(xs), xs a list or a tuple -/
def rSortA : PRA := fun ps h Q => match ps with
  | [p] => (match listed h p with | some xs => flats xs = true ∧ Srtb (xs.map toD) ∧ Q (.lst (xs.mergeSort (PySem.W.dataLe false toD))) h | none => False)
  | _ => False
theorem kf_sortA {K : PySem.W.Frag} : KfA K (fun vs H Q => oSort K vs H Q ∨ oSortT K vs H Q) rSortA := by
  intro xs H ps h Q' Q rp s r l
  unfold rSortA at r
  split at r
  · split at r
    · rename_i p _ qs e
      obtain ⟨v, rfl, r1⟩ := rp.one
      obtain ⟨a, ys, rfl, hq, rr⟩ := listed_sq r1 s e
      obtain ⟨f, st, r⟩ := r
      have hl := rr.length
      have e1 : (ys.zip (qs.map toD)).map Prod.fst = ys := List.map_fst_zip (by rw [List.length_map]; omega)
      have e2 : (ys.zip (qs.map toD)).map Prod.snd = qs.map toD := List.map_snd_zip (by rw [List.length_map]; omega)
      rcases hq with hq | hq
      · exact .inl ⟨a, ys.zip (qs.map toD), rfl, by rw [e1]; exact hq, dps_zip f rr, by rw [e2]; exact st, fun c hc => keep_l l s (rels_sort rr) r hc⟩
      · exact .inr ⟨a, ys.zip (qs.map toD), rfl, by rw [e1]; exact hq, dps_zip f rr, by rw [e2]; exact st, fun c hc => keep_l l s (rels_sort rr) r hc⟩
    · exact r.elim
  · exact r.elim
theorem le_sortA {X : Cx} {pos p : Pos} {e : Expr} {m : MA} (hu : X.A.units + 66 < cLine) (hm : X.mg "sorted" = none) (ha : LAn X [e] 1 m) (hg : Gl X "sorted" := by rfl) (h1 : starEach [e] X.env = (false, eval e X.env) :: starEach [] X.env := by rfl) :
    LE X (.Call (.Name "sorted" p) [e] [] pos) (mBlt rSortA m) := le_bltK ((cr_sort hu).or (cr_sortTup hu)) kf_sortA hm ha hg (h1 := h1) (h2 := rfl)
/-! ### list(text) -/
theorem vals_at : ∀ {ys : List V} {us : List Value}, ys.length = us.length → (∀ (j : Nat) (y : V) (u : Value), ys[j]? = some y → us[j]? = some u → RelV y u) → Vals ys us
  | [], [], _, _ => .nil
  | y :: ys, u :: us, hl, h => .cons (h 0 y u rfl rfl) (vals_at (by simpa using hl) fun j z w e1 e2 => h (j + 1) z w (by simpa using e1) (by simpa using e2))
  | [], _ :: _, hl, _ => by simp at hl
  | _ :: _, [], hl, _ => by simp at hl
def oListT : List V → Hp → VK → Prop := fun xs H Q => ∃ x : Str, xs = [.str x] ∧ x.length ≤ sizeLine ∧ ∀ l, H l = none → Q (.ref l) (upd H l (.lst ((cl x).map fun c => V.str (S [c]))))
theorem call_listT {X : Cx} (hc : X.calm = true) : CallR X (.type "list") oListT := by
  intro pins s σ H xs us Q I r h
  obtain ⟨x, rfl, hz, q⟩ := h
  obtain ⟨u, rfl, ru⟩ := vals1 r
  obtain ⟨t, rfl⟩ := ru
  refine call_list_str (I.ok.hd hc) x t (fun h' tk acc n kp e it => ?_) hz
  have hl : acc.size = (cl x).length := by rw [it.1]; simp [cl]
  have I2 := I.laid (t' := tk) (h' := h') (a := s.heap.objs.size) (o := .lst ((cl x).map fun c => V.str (S [c]))) kp (Nat.le_refl _) ⟨by rw [List.length_map, ← cl_length]; exact hz, acc.toList, n, ?_, by simpa using e⟩
  · exact ⟨.ref s.heap.objs.size, _, I2, rfl, q _ (I.hok.fresh (Nat.le_refl _))⟩
  · refine vals_at (by rw [List.length_map]; exact hl.symm) fun j y w e1 e2 => ?_
    obtain ⟨c, k, hc', rfl⟩ := it.2 j w (by simpa using e2)
    rw [List.getElem?_map] at e1
    have e3 : (cl x)[j]? = some c := by simpa [cl] using hc'
    rw [e3] at e1
    cases e1
    exact ⟨_, rfl⟩
/-- list(xs), xs a list, a tuple, a text -/
def rListA : PRA := fun ps h Q => match ps with
  | [.str x] => x.length ≤ SZ ∧ Q (.lst (ones x)) h
  | [p] => (match listed h p with | some xs => Q (.lst xs) h | none => False)
  | _ => False
theorem rels_ones {K : PySem.W.Frag} {H : Hp} (l : List Nat) : Rels K H (l.map fun c => PV.str (S [c])) (l.map fun c => V.str (S [c])) := by
  induction l with
  | nil => exact .nil
  | cons c l ih => exact .cons (rel_str.mpr rfl) ih
theorem kf_listA {K : PySem.W.Frag} : KfA K (fun xs H Q => oListOf K xs H Q ∨ oListT xs H Q) rListA := by
  intro xs H ps h Q' Q rp s r l
  unfold rListA at r
  split at r
  · rename_i x
    obtain ⟨v, rfl, r1⟩ := rp.one
    exact .inr ⟨x, by rw [rel_str.mp r1], sz_le r.1, fun c hc => keep_l l s (rels_ones (cl x)) r.2 hc⟩
  · split at r
    · rename_i e
      obtain ⟨v, rfl, r1⟩ := rp.one
      obtain ⟨a, ys, rfl, hq, rr⟩ := listed_sq r1 s e
      exact .inl ⟨a, ys, rfl, hq, fun c hc => keep_l l s rr r hc⟩
    · exact r.elim
  · exact r.elim
theorem le_listA {X : Cx} {pos p : Pos} {e : Expr} {m : MA} (hc : X.calm = true) (hm : X.mg "list" = none) (ha : LAn X [e] 1 m) (hg : Gl X "list" := by rfl) (h1 : starEach [e] X.env = (false, eval e X.env) :: starEach [] X.env := by rfl) :
    LE X (.Call (.Name "list" p) [e] [] pos) (mBlt rListA m) := le_tyK (call_list_of.or (call_listT hc)) kf_listA hm ha hg (h1 := h1) (h2 := rfl)
end N3

/-! targets with a star; targets of a list -/
namespace N3
open PySem PySem.Spec PyProof.Rows L2
/-- what the parts of `a, *b, c = list` are -/
theorem star_parts {prog : Program} {w : World} {A : Around} {E : Value → Shared → Prop} {s : Shared} {l : Addr} {its : Array Value} {n i : Nat} {Q : List Value → Shared → Prop} (hl : s.heap.IsList l its) (hh : A.handled = none) (hi : i < n) (hn : n ≤ its.size + 1) (hz : its.size ≤ sizeLine)
    (k : ∀ (g : Heap) (tk : Nat), (∀ b o, s.heap.get? b = some o → g.get? b = some o) → Q (its.toList.take i ++ [.ref g.objs.size] ++ (its.toList.drop i).drop (its.size + 1 - n)) { s with heap := g.push { cls := .type "list", data := .seq ((its.toList.drop i).take (its.size + 1 - n)).toArray }, toks := tk }) :
    wpAny (model prog w) A (unpackItems (.ref l) n (some i)) Q E s := by
  have far : l < s.heap.objs.size := let ⟨_, ho, _⟩ := hl; Heap.lt_size ho
  have ne : l ≠ s.heap.objs.size := Nat.ne_of_lt far
  unfold unpackItems notIterableAtAll
  refine wpAny_bind (wpAny_bind (wpAny_specialOf hl.typeIs slot_list_iter.lookup (wpAny_pure ?_)))
  simp only [Bool.false_eq_true, if_false]
  refine wpAny_bind (wpAny_holding (wpAny_pyIter_list hl (wpAny_bind (wpAny_holding (PySem.W.kun_draw ne i 0 _ _ ⟨_, Heap.get?_push_size _ rfl, rfl, rfl⟩ (hl.push _) (by omega) fun g1 at1 sm => ?_)))))
  have hl1 : g1.IsList l its := (hl.push _).extBut sm.extBut ne
  rw [Nat.zero_add] at at1
  have la : s.heap.objs.size < g1.objs.size := let ⟨_, ho, _⟩ := id at1; Heap.lt_size ho
  have lb : l < g1.objs.size := let ⟨_, ho, _⟩ := id hl1; Heap.lt_size ho
  rw [List.drop_zero]
  have f1 : (its.toList.take i).length = i := by rw [List.length_take, Array.length_toList]; omega
  have f2 : (its.toList.drop i).length = its.size - i := by rw [List.length_drop, Array.length_toList]
  have f3 : (its.toList.drop i).length - (n - 1 - i) = its.size + 1 - n := by rw [f2]; omega
  rw [if_neg (by rw [f1]; omega)]
  refine wpAny_bind (wpAny_holding (PySem.W.kun_collect (s := { s with heap := g1 }) (T := "list_iterator") (.inr (.inr (.inl rfl))) (Walks.list (A := A.in1) hh s.heap.objs.size l ne its) (fun _ _ st => st.1.typeIs) (k := i) (by omega) ⟨at1, hl1⟩ la lb (fun g2 tk kp => ?_) hz))
  dsimp only
  rw [if_neg (by rw [f2]; omega), f3]
  refine wpAny_bind (wpAny_newList (wpAny_pure ?_))
  have old : ∀ b o, s.heap.get? b = some o → g2.get? b = some o := fun b o e => kp b o (Nat.ne_of_lt (Heap.lt_size e)) (sm.extBut b o (Nat.ne_of_lt (Heap.lt_size e)) (Heap.get?_push_of_some _ e))
  exact k g2 tk old
def gStr (K : PySem.W.Frag) (n i : Nat) (t : TGs) : TG := fun v σ H Q => ∃ a xs, v = .ref a ∧ SqL K H a xs ∧ n ≤ xs.length + 1 ∧
  ∀ D o, H D = none → t (xs.take i ++ [.ref D] ++ (xs.drop i).drop (xs.length + 1 - n)) σ (upd H D (.frz o (.lst ((xs.drop i).take (xs.length + 1 - n))))) Q
section
variable {X : Cx} {pos : Pos} {es : List Expr} {vs : List Nat}
theorem pg_str {k : Nat} {t : TGs} {n i : Nat} (hc : X.calm = true) (h : PGs X es t) (hn : (assignEach es X.env).length = n := by rfl) (hst : (assignEach es X.env).findIdx? (·.1) = some i := by rfl) (hi : i < n := by decide) : PG X (.Tuple es k pos) (gStr X.K n i t) := by
  refine ⟨fun pins s σ H v u Q I r hw => ?_⟩
  obtain ⟨a, xs, rfl, hq, hl, hw⟩ := hw
  cases r
  obtain ⟨its, rv, pl, hz⟩ := I.list hq
  have ll := rv.length
  rw [PyProof.Rows.assign_Tuple]; refine wpAny_bind (wpAny_standAt ?_)
  unfold unpack; rw [hn, hst]
  refine wpAny_bind (wpAny_holding (star_parts pl.isList (I.ok.hd hc) hi (by simp; omega) (by simp; omega) fun g tk old => ?_))
  have I1 : Inv X pins σ H { s with heap := g } := I.kept (t' := s.toks) old
  have e : its.toArray.toList = its := rfl
  have ez : its.toArray.size = xs.length := by simp [ll]
  rw [e, ez]
  have I2 : Inv X pins σ (upd H g.objs.size (.lst ((xs.drop i).take (xs.length + 1 - n)))) { s with heap := g.push { cls := .type "list", data := .seq ((its.drop i).take (xs.length + 1 - n)).toArray }, toks := tk } :=
    I1.laid (a := g.objs.size) (t' := tk) (fun b o z => Heap.get?_push_of_some _ z) (Nat.le_refl _) ⟨by rw [List.length_take, List.length_drop]; omega, _, _, (rv.drop i).take _, Heap.get?_push_size _ rfl⟩
  obtain ⟨o, I3⟩ := Inv.keep I2 upd_same trivial
  rw [upd_upd] at I3
  have q := hw g.objs.size o (I1.hok.fresh (Nat.le_refl _))
  refine h.run pins _ σ _ _ _ Q I3 ?_ q
  exact ((rv.take i).append (Paired.cons (show RelV (.ref g.objs.size) (.ref g.objs.size) from rfl) .nil)).append ((rv.drop i).drop _)
/-- a, *b, c = list -/
def gS (n i : Nat) (g : MGs) : MG := fun p τ h Q => match seqL h p with
  | some ps => n ≤ ps.length + 1 ∧ g (ps.take i ++ [.lst ((ps.drop i).take (ps.length + 1 - n))] ++ (ps.drop i).drop (ps.length + 1 - n)) τ h Q
  | none => False
/-- a, b = list -/
def gL (n : Nat) (g : MGs) : MG := fun p τ h Q => match seqL h p with
  | some ps => ps.length = n ∧ g ps τ h Q
  | none => False
theorem lg_str {k : Nat} {g : MGs} {n i : Nat} (hc : X.calm = true) (h : LGs X es vs g) (hn : (assignEach es X.env).length = n := by rfl) (hst : (assignEach es X.env).findIdx? (·.1) = some i := by rfl) (hi : i < n := by decide) : LG X (.Tuple es k pos) vs (gS n i g) := by
  refine PG.weak (pg_str hc h hn hst hi) fun v σ H Q ⟨p, τ, h, Q', r, s, sh, q, l⟩ => ?_
  unfold gS at q
  cases e : seqL h p with
  | none => rw [e] at q; exact q.elim
  | some ps =>
    rw [e] at q
    obtain ⟨a, xs, rfl, sq, rr⟩ := seqL_sq r sh e
    have ll := rr.length
    have q2 := q.2
    rw [ll] at q2
    refine ⟨a, xs, rfl, sq, by rw [← ll]; exact q.1, fun D o hD => ?_⟩
    have m : Mono H (upd H D (.frz o (.lst ((xs.drop i).take (xs.length + 1 - n))))) := Mono.new hD
    refine ⟨_, τ, h, Q', ?_, s.mono m, sh.new hD, q2, fun τ1 h1 σ1 H1 q1 g1 s1 sh1 w1 => l τ1 h1 σ1 H1 q1 (Go.trans (.new hD) g1) s1 sh1 w1⟩
    refine Rels.append (Rels.append ((rr.take i).mono m) (.cons ?_ .nil)) (((rr.drop i).drop _).mono m)
    simp only [Rel]
    exact ⟨D, _, rfl, .inl ⟨o, upd_same⟩, ((rr.drop i).take _).mono m⟩
theorem lg_lst {k : Nat} {g : MGs} {n : Nat} (hc : X.calm = true) (h : LGs X es vs g) (hn : (assignEach es X.env).length = n := by rfl) (hst : (assignEach es X.env).findIdx? (·.1) = none := by rfl) : LG X (.Tuple es k pos) vs (gL n g) := by
  refine PG.weak (pg_unl hc h hn hst) fun v σ H Q ⟨p, τ, h, Q', r, s, sh, q, l⟩ => ?_
  unfold gL at q
  cases e : seqL h p with
  | none => rw [e] at q; exact q.elim
  | some ps =>
    rw [e] at q
    obtain ⟨a, xs, rfl, sq, rr⟩ := seqL_sq r sh e
    exact ⟨a, xs, rfl, sq, by rw [← rr.length, q.1], ps, τ, h, Q', rr, s, sh, q.2, l⟩
theorem lgs_star {e : Expr} {p : Pos} {g : MGs} (h : LGs X (e :: es) vs g) (hs : (assignEach (.Starred e p :: es) X.env).map (·.2) = (assignEach (e :: es) X.env).map (·.2) := by rfl) : LGs X (.Starred e p :: es) vs g :=
  ⟨fun pins s σ H ws us Q I r q => by rw [hs]; exact h.run pins s σ H ws us Q I r q⟩
end
/-! ### two keywords, exchanged -/
def cat2r {α : Type} (xs ys : List α) : List α := xs ++ ys.reverse
section
variable {X : Cx} {pos p : Pos} {j k : Nat} {x : Str} {st : Stmt} {ps : List Str} {sp : SpP}
theorem kwb_turned {K : PySem.W.Frag} {f : Addr} {fd : FuncData} {ks : List Str} {i m : Nat} (F : Fun K x x st f fd) (hl : i + m = ps.length)
    (h : ∀ (kV doc pm : Value) (an : Option Addr) (cdv ct : Value) (us ws : List Value), us.length = i → ws.length = m → bindArgs (PySem.W.fnOf x x (defArgs st) (defBody st) (defScope st) .none kV doc pm an cdv ct) ⟨us, ks.zip ws⟩ = pure (ps.zip (cat2r us ws))) :
    KwB fd ps ks cat2r cat2r cat2r i m := by
  obtain ⟨oc, od, kV, doc, pm, an, cdv, ct, osl, rfl, lk, hcd⟩ := F.ex
  exact ⟨fun s us ws h1 h2 => .of_eq (h kV doc pm an cdv ct us ws h1 h2), fun _ _ r1 r2 => r1.append r2.reverse, fun _ _ r1 r2 => r1.append r2.reverse, fun {qs zs} h1 h2 => by unfold cat2r; rw [List.length_append, List.length_reverse, h1, h2, hl]⟩
theorem le_fnKr {m' : Nat} {ks : List Str} {kws : List Keyword} {mk : MA} (c : Fn X.prog X.w X.K X.mg X.base j x st ps sp) (hr : Room k X.A) (hj : j ≤ k) (hG : X.A.guards = some []) (hl : 0 + m' = ps.length)
    (h : ∀ (kV doc pm : Value) (an : Option Addr) (cdv ct : Value) (us ws : List Value), us.length = 0 → ws.length = m' → bindArgs (PySem.W.fnOf x x (defArgs st) (defBody st) (defScope st) .none kV doc pm an cdv ct) ⟨us, ks.zip ws⟩ = pure (ps.zip (cat2r us ws)))
    (hkw : LKn X kws m' mk) (hg : Gl X x := by rfl) (hall : (backToKw pos (keywordEach kws X.env)).all (·.1.isSome) = true := by rfl) (hks : (backToKw pos (keywordEach kws X.env)).filterMap (·.1) = ks := by rfl)
    (hdb : (x == ("__debug__" : Str)) = false := by decide) (hpl : ((backTo pos (starEach [] X.env)).any (·.1) || (backToKw pos (keywordEach kws X.env)).any (·.1.isNone)) = false := by rfl) : LE X (.Call (.Name x p) [] kws pos) (mKw sp cat2r mNil mk) := by
  obtain ⟨f, fd, hm, F, hb, G⟩ := c.ex
  exact le_callK0 G (hr.mono hj) hG hm F.kp (kwb_turned F hl h) hkw hg hall hks hdb hpl
end
/-! ### a slice that may change -/
def rSlM (p : PV) (lo hi : Option Int) (h : PH) (Q : PK) : Prop := match seqL h p with
  | some xs => ∀ a, h a = none → Q (.ref a) (up h a (.lst (cut xs lo hi)))
  | none => False
theorem kf_slM {K : PySem.W.Frag} {x : V} {H : Hp} {p : PV} {lo hi : Option Int} {h : PH} {Q' : PK} {Q : VK} (rp : Rel K H p x) (s : Sim K H h) (r : rSlM p lo hi h Q') (l : LQ K H h Q' Q) : oSl K x lo hi H (kQ Q) := by
  unfold rSlM at r
  split at r
  · rename_i e
    obtain ⟨a, ys, rfl, hq, rr⟩ := seqL_sq rp s e
    exact .inl (.inl ⟨a, ys, rfl, hq, fun c hc => make_l l s (rr.cut lo hi) r hc⟩)
  · exact r.elim
def mSlM (m : ME) (ml mh : MO) : ME := fun τ h Q => m τ h fun p h1 => ml τ h1 fun lo h2 => mh τ h2 fun hi h3 => rSlM p lo hi h3 Q
section
variable {X : Cx} {pos p2 : Pos} {e : Expr} {lo hi : Option Expr}
theorem le_slM {m : ME} {ml mh : MO} (he : LE X e m) (hl : LO X lo ml) (hh : LO X hi mh) : LE X (.Subscript e (.Slice lo hi none p2) pos) (mSlM m ml mh) := by
  refine PE.weak (PE.kp (pe_slice sl_all he hl hh)) fun σ H Q ⟨τ, h, Q', s, sh, q, l⟩ => ?_
  refine ⟨τ, h, _, s, sh, q, fun p h1 v H1 q1 g1 r1 s1 => ⟨τ, h1, _, s.mono g1.mono, s1, q1, fun lo h2 H2 q2 g2 s2 => ?_⟩⟩
  refine ⟨τ, h2, _, (s.mono g1.mono).mono g2.mono, s2, q2, fun hi h3 H3 q3 g3 s3 => ?_⟩
  exact kf_slM (r1.mono (g2.trans g3).mono) s3 q3 (l.mono ((g1.trans g2).trans g3))
end
end N3

/-! enumerate of a tuple -/
namespace PySem
open PySem PySem.Spec PyProof.Rows L2
theorem enumT_made (l : Addr) (its : Array Value) :
    Meets (Builtin.«enumerate.__new__» ⟨[.type "enumerate", .ref l], []⟩) (fun _ R s => s.heap.IsTuple l its ∧
      R (.ok (.ret (.ref (s.heap.objs.size + 1)))) { s with heap := (s.heap.push { cls := .type "tuple_iterator", data := .fields #[.ref l, .int 0 0] }).push { cls := .type "enumerate", data := .fields #[.none, .bool false, .ref s.heap.objs.size, rawInt 0, .none, .none] } }) :=
  .of_wp fun prog w A R s h => by
    obtain ⟨hp, g, d, tk, os⟩ := s; obtain ⟨ht, h⟩ := h
    have hsub := sub_enumerate; have gone : ∀ {A' : Around} {E : Value → Shared → Prop} {Q : Value → Shared → Prop}, Q (.ref hp.objs.size) ⟨hp.push { cls := .type "tuple_iterator", data := .fields #[.ref l, .int 0 0] }, g, d, tk, os⟩ → wpAny (model prog w) A' (pyIter (.ref l)) Q E ⟨hp, g, d, tk, os⟩ := fun q => wpAny_pyIter_tuple ht q
    wp_walk using gone
    refine wpAny_stack_any fun st => wpAny_pure ?_
    rw [← Heap.size_push hp { cls := .type "tuple_iterator", data := .fields #[.ref l, .int 0 0] }] at h
    split
    · rename_i c _ _ _ _ _
      cases (c == Value.type "enumerate") <;> (wp_walk using gone; exact ⟨_, rfl, h⟩)
    · wp_walk using gone; exact ⟨_, rfl, h⟩
end PySem
namespace PySem
open PySem PySem.Spec PyProof.Rows L2
section
variable {prog : Program} {w : World} {A : Around} {E : Value → Shared → Prop} {s : Shared}
theorem enumT_call {l : Addr} {its : Array Value} {Q : Value → Shared → Prop} (ht : s.heap.IsTuple l its)
    (k : ∀ g, IsEnum g (s.heap.objs.size + 1) s.heap.objs.size 0 .none → g.IsTupleIter s.heap.objs.size l 0 → (∀ b o, s.heap.get? b = some o → g.get? b = some o) → Q (.ref (s.heap.objs.size + 1)) { s with heap := g }) :
    wpAny (model prog w) A (call (.type "enumerate") [.ref l]) Q E s := by
  refine callType_new F.called_enumerate (by decide) (F.typeCall_enumerate_1 _) (F.newCall_enumerate_1 _) (fun obj => F.args_object_init_2 obj _) F.entry_enumerate_new (enumT_made l its) ⟨ht, ?_⟩
  have z := Heap.size_push s.heap { cls := .type "tuple_iterator", data := .fields #[.ref l, .int 0 0] }
  have top := Heap.get?_push_size (s.heap.push { cls := .type "tuple_iterator", data := .fields #[.ref l, .int 0 0] }) (o := { cls := .type "enumerate", data := .fields #[.none, .bool false, .ref s.heap.objs.size, rawInt 0, .none, .none] }) rfl
  rw [z] at top
  exact ⟨⟨_, top, rfl⟩, k _ top ⟨_, Heap.get?_push_of_some _ (Heap.get?_push_size _ rfl), rfl, rfl⟩ fun b o x => Heap.get?_push_of_some _ (Heap.get?_push_of_some _ x)⟩
end
end PySem
namespace N3
open PySem PySem.Spec PyProof.Rows L2
/-- the tuple at a at each turn, each item in a new pair -/
def IteT (K : PySem.W.Frag) (a : Addr) : It :=
  ⟨fun i H => ∃ (xs : List V) (x : V), SqT K H a xs ∧ xs[i]? = some x, fun i H v H' => ∃ T x, v = .ref T ∧ H T = none ∧ H' = upd H T (.tup [.int (i : Nat), x]) ∧ ∀ xs, SqT K H a xs → xs[i]? = some x, fun i H => ∃ xs : List V, SqT K H a xs ∧ xs.length = i⟩
theorem turn_enumT {P : Program} {w : World} {K : PySem.W.Frag} {elts : List Expr} {kk : Nat} {tpos : Pos} (a e it : Addr) (hea : e ≠ a) (hia : a ≠ it) :
    Turn P w K (.Tuple elts kk tpos) (IteT K a) [e, it] e (fun i h => (∃ old, IsEnum h e it ((i : Nat) : Int) old) ∧ h.IsTupleIter it a i ∧ e ≠ it) where
  mem := by simp
  obj := fun i h st b hb => by
    obtain ⟨⟨old, he⟩, ⟨o, ho, hc, hd⟩, _⟩ := st
    rcases (show b = e ∨ b = it by simpa using hb) with rfl | rfl
    · exact ⟨_, he, fun v q => nomatch q⟩
    · exact ⟨o, ho, fun v q => by rw [hd] at q; cases q⟩
  keep := fun i h h' st k => ⟨let ⟨⟨old, he⟩, _⟩ := st; ⟨old, k e (by simp) _ he⟩, st.2.1.at fun o q => k it (by simp) o q, st.2.2⟩
  item := by
    intro X hP hw hK hc i pins s σ H E I hf st hg
    subst hP hw hK
    obtain ⟨⟨old, he⟩, hit, hne⟩ := st
    obtain ⟨xs, x, hq, hx⟩ := hg
    obtain ⟨its, rv, p, hz⟩ := I.tuple hq
    obtain ⟨u, hu, ru⟩ := rv.get hx
    have hel := Heap.lt_size he
    have hil : it < s.heap.objs.size := let ⟨_, q, _⟩ := hit; Heap.lt_size q
    refine wpAny_pyNext_enum_itemD (Draws.tuple (A := X.A.in1) (I.ok.hd hc) it a hia its.toArray) he ⟨hit, p⟩ (by rw [List.size_toArray]; exact (List.getElem?_eq_some_iff.mp hu).1) hne (by simp [hne, hea]) fun u' g tk pu out st' tup sz k => ?_
    obtain rfl : u' = u := by rw [List.getElem?_toArray] at pu; rw [hu] at pu; exact (Option.some.inj pu).symm
    refine ⟨_, rfl, wpAny_letOwnedTupleGo_enum (s := { s with heap := g, toks := tk + 1 }) out fun g2 he2 sb => ?_⟩
    have tup2 : g2.get? s.heap.objs.size = some { cls := .type "tuple", data := .seq #[.int i tk, u'] } := (sb.2 _ (Nat.ne_of_gt hel)).trans tup
    have fr := I.hok.fresh (Nat.le_refl s.heap.objs.size)
    have J : Inv X pins σ (upd H s.heap.objs.size (.tup [.int (i : Nat), x])) { s with heap := g2, toks := tk + 1 } :=
      I.turnedNew (ch := [e, it]) (fun b ob hb q => (sb.2 b fun z => hb (by simp [z])).trans (k b ob (fun z => hb (by simp [z])) (fun z => hb (by simp [z])) q)) hf (Nat.le_refl _)
        ⟨by show 2 ≤ sizeLine; decide, [.int i tk, u'], .cons ⟨_, rfl⟩ (.cons ru .nil), ⟨_, tup2, rfl, _, rfl⟩⟩
    refine ⟨.ref s.heap.objs.size, _, J, rfl, ⟨_, x, rfl, fr, rfl, fun ys hy => by rw [I.tuple_inj hy hq]; exact hx⟩, ⟨⟨u', by rw [show ((i + 1 : Nat) : Int) = (i : Int) + 1 by omega]; exact he2⟩, st'.1.at fun o q => (sb.2 it (Ne.symm hne)).trans q, hne⟩, fun b hb => ?_⟩
    have hb' : b < s.heap.objs.size := by
      rcases (show b = e ∨ b = it by simpa using hb) with rfl | rfl
      · exact hel
      · exact hil
    rw [upd_ne (Nat.ne_of_lt hb')]; exact (hf b hb).1
  done := by
    intro X hP hw hK hc i pins s σ H E I hf st hg
    subst hP hw hK
    obtain ⟨⟨old, he⟩, hit, hne⟩ := st
    obtain ⟨xs, hq, hx⟩ := hg
    obtain ⟨its, rv, p, hz⟩ := I.tuple hq
    obtain ⟨f0, f1, f2, f3, f4, f5⟩ := hf it (by simp)
    have ll := rv.length
    have ls : its.toArray.size = i := by rw [List.size_toArray]; omega
    exact wpAny_pyNext_enum_endD (Draws.tuple (A := X.A.in1) (I.ok.hd hc) it a hia its.toArray) he ⟨by rw [ls]; exact hit, p⟩ fun h' eb => ⟨rfl, I.turned (t' := s.toks) (fun b o hb q => eb b o hb q) f0 f1 f3 f4 f5⟩
  self := fun A i s Q E st h => let ⟨⟨_, he⟩, _⟩ := st; wpAny_pyIter_enum he h
/-- enumerate of a list or a tuple -/
def iEnumA (K : PySem.W.Frag) (ta : TA) : TI := fun σ H R => ta σ H fun vs H1 => (∃ a xs, vs = [.ref a] ∧ SqL K H1 a xs ∧ R (Ite K a) H1) ∨ ∃ a xs, vs = [.ref a] ∧ SqT K H1 a xs ∧ R (IteT K a) H1
theorem pi_enumA {X : Cx} {e : Expr} {ta : TA} {p pos tpos : Pos} {elts : List Expr} {kk : Nat} (hg : Gl X "enumerate") (hm : X.mg "enumerate" = none) (ha : PA X [e] ta) (hs : starEach [e] X.env = [(false, eval e X.env)] := by rfl) :
    PI X (.Tuple elts kk tpos) (.Call (.Name "enumerate" p) [e] [] pos) (iEnumA X.K ta) := by
  refine ⟨fun pins s σ H R I h => ?_⟩
  refine Call_ (ld_blt I hg hm boot_enumerate (PyProof.Rows.callWith_type1 (thn (ha.run pos pins s σ H _ I h) fun us s1 ⟨vs, H1, I1, r1, q1⟩ => ?_) hs rfl))
  have tl : ∀ b, b ∈ [s1.heap.objs.size + 1, s1.heap.objs.size] → s1.heap.objs.size ≤ b := fun b hb => by
    have e' : b = s1.heap.objs.size + 1 ∨ b = s1.heap.objs.size := by simpa using hb
    rcases e' with z | z
    · rw [z]; exact Nat.le_add_right _ _
    · rw [z]; exact Nat.le_refl _
  rcases q1 with ⟨a, xs, ex, hq, q⟩ | ⟨a, xs, ex, hq, q⟩
  · subst ex
    cases r1 with
    | cons r rr =>
      cases rr
      cases r
      obtain ⟨its, rv, p', hz⟩ := I1.list hq
      refine call_enumerate_list p'.isList fun h' he hit hsz hk => wpAny_pyIter_enum he ?_
      have I2 : Inv X pins σ H1 { s1 with heap := h' } := I1.kept (t' := s1.toks) hk
      exact ⟨s1.heap.objs.size + 1, [s1.heap.objs.size + 1, s1.heap.objs.size], _, _, H1, rfl, I2, turn_enum a (s1.heap.objs.size + 1) s1.heap.objs.size, ⟨⟨.none, he⟩, hit, Nat.succ_ne_self _⟩, fun b hb => I1.fpOk (tl b hb) (I1.hok.fresh (tl b hb)), q⟩
  · subst ex
    cases r1 with
    | cons r rr =>
      cases rr
      cases r
      obtain ⟨its, rv, p', hz⟩ := I1.tuple hq
      have ht : s1.heap.IsTuple a its.toArray := p'
      have hl : a < s1.heap.objs.size := by obtain ⟨o, q, _⟩ := ht; exact Heap.lt_size q
      refine enumT_call ht fun h' he hit hk => wpAny_pyIter_enum he ?_
      have I2 : Inv X pins σ H1 { s1 with heap := h' } := I1.kept (t' := s1.toks) hk
      exact ⟨s1.heap.objs.size + 1, [s1.heap.objs.size + 1, s1.heap.objs.size], _, _, H1, rfl, I2, turn_enumT a (s1.heap.objs.size + 1) s1.heap.objs.size (Nat.ne_of_gt (Nat.lt_succ_of_lt hl)) (Nat.ne_of_lt hl), ⟨⟨.none, he⟩, hit, Nat.succ_ne_self _⟩, fun b hb => I1.fpOk (tl b hb) (I1.hok.fresh (tl b hb)), q⟩
def mEnumA (m : MA) : MI := fun τ h Q => m τ h fun ps h1 => match ps with
  | [.tup xs] => xs.length ≤ SZ ∧ Q (enm xs) (fun _ => True) h1
  | [p] => (match seqL h1 p with | some xs => xs.length ≤ SZ ∧ Q (enm xs) (gdS p xs) h1 | none => False)
  | _ => False
section
variable {X : Cx} {tg e e2 : Expr} {pos p : Pos} {m : ME}
theorem enm_step {K : PySem.W.Frag} {H : Hp} {h : PH} {T : Addr} {i : Nat} {x : V} {p : PV} {xs : List PV} {us : List V} (sm : Sim K H h) (ru : Rels K H xs us) (hT : H T = none) (e : us[i]? = some x) (hp : (enm xs)[i]? = some p) :
    Go H h (upd H T (.tup [.int (i : Nat), x])) h ∧ Sim K (upd H T (.tup [.int (i : Nat), x])) h ∧ Rel K (upd H T (.tup [.int (i : Nat), x])) p (.ref T) := by
  unfold enm at hp
  rw [List.getElem?_map, List.getElem?_zipIdx] at hp
  cases ex : xs[i]? with
  | none => rw [ex] at hp; cases hp
  | some w =>
    rw [ex] at hp
    simp only [Option.map_some, Option.some.injEq, Nat.zero_add] at hp
    subst hp
    obtain ⟨w', e1, r3⟩ := ru.get ex
    rw [e] at e1; cases e1
    have mm : Mono H (upd H T (.tup [.int (i : Nat), x])) := Mono.new hT
    exact ⟨.new hT, sm.new hT, rel_tup.mpr ⟨T, _, rfl, .inl (.inl upd_same), .cons (rel_int.mpr rfl) (.cons (r3.mono mm) .nil)⟩⟩
theorem li_enumA {m : MA} {elts : List Expr} {kk : Nat} {tpos : Pos} (hm : X.mg "enumerate" = none) (ha : LAn X [e] 1 m) (hg : Gl X "enumerate" := by rfl) (hs : starEach [e] X.env = [(false, eval e X.env)] := by rfl) :
    LI X (.Tuple elts kk tpos) (.Call (.Name "enumerate" p) [e] [] pos) (mEnumA m) := by
  refine PI.weak (pi_enumA hg hm ha hs) fun σ H R ⟨τ, h, Q', s, sh, q, l⟩ => ?_
  refine ⟨τ, h, _, s, sh, q, fun ps h1 vs H1 q1 hl g1 r1 s1 => ?_⟩
  have hlen : ∀ xs, (enm xs).length = xs.length := fun xs => by unfold enm; simp
  split at q1
  · rename_i xs
    obtain ⟨v, rfl, r2⟩ := r1.one
    obtain ⟨a, ys, rfl, hq, rr⟩ := rel_tup.mp r2
    refine .inr ⟨a, ys, rfl, hq, l _ _ _ _ _ q1.2 g1 s1 ⟨by rw [hlen]; exact sz_le q1.1, fun i H h hi m sm g => ?_, fun H h m sm g => ?_, fun i H h y H' p hp m sm g hy => ?_⟩⟩
    · rw [hlen, rr.length] at hi
      exact ⟨ys, ys[i], m.sqT hq, List.getElem?_eq_getElem hi⟩
    · exact ⟨ys, m.sqT hq, by rw [hlen, rr.length]⟩
    · obtain ⟨T, x, rfl, hT, rfl, hy⟩ := hy
      exact enm_step sm (rr.mono m) hT (hy ys (m.sqT hq)) hp
  · rename_i p _
    obtain ⟨v, rfl, r2⟩ := r1.one
    split at q1
    · rename_i xs e
      obtain ⟨a, ys, rfl, hq, rr, later⟩ := seqL_walk r2 s1 e
      refine .inl ⟨a, ys, rfl, hq, l _ _ _ _ _ q1.2 g1 s1 ⟨by rw [hlen]; exact sz_le q1.1, fun i H h hi m sm g => ?_, fun H h m sm g => ?_, fun i H h y H' p hp m sm g hy => ?_⟩⟩
      · obtain ⟨us, hu, ru⟩ := later H h m sm g
        rw [hlen, ru.length] at hi
        exact ⟨us, us[i], hu, List.getElem?_eq_getElem hi⟩
      · obtain ⟨us, hu, ru⟩ := later H h m sm g
        exact ⟨us, hu, by rw [hlen, ru.length]; exact Nat.le_refl _⟩
      · obtain ⟨us, hu, ru⟩ := later H h m sm g
        obtain ⟨T, x, rfl, hT, rfl, hy⟩ := hy
        exact enm_step sm ru hT (hy us hu) hp
    · exact q1.elim
  · exact q1.elim
end
/-! ### a tuple, many times -/
def rMulT : PR2 := fun p q h Q => match p, q with
  | .tup xs, .int n => 0 ≤ n ∧ n ≤ 1000 ∧ xs ≠ [] ∧ xs.length ≤ 1000 ∧ Q (.tup (List.replicate n.toNat xs).flatten) h
  | p, q => rMul p q h Q
def oMulT (K : PySem.W.Frag) : R2 := fun x y H Q => oMul K x y H Q ∨ rRepT K x y H Q
theorem op_mulT {X : Cx} : OpR X (binaryOp .Mult) (oMulT X.K) := op_mulA.or op_repT
theorem kf_mulT {K : PySem.W.Frag} : Kf2 K (oMulT K) rMulT := by
  intro x y H p q h Q' Q rp rq s r l
  unfold rMulT at r
  split at r
  · rename_i ps n
    obtain ⟨n0, n1, hne, hl, r⟩ := r
    by_cases h2 : 2 ≤ n
    · obtain ⟨a, xs, e1, h1, r1⟩ := rel_tup.mp rp
      have ll := r1.length
      refine .inr ⟨a, n, xs, e1, rel_int.mp rq, h1, fun z => hne ?_, h2, n1, by omega, fun c hc => .inl (make_t l s (r1.rep n.toNat) r hc)⟩
      subst z
      exact List.eq_nil_of_length_eq_zero ll
    · refine .inl (kf_mul x y H _ _ h Q' Q rp rq s ⟨n0, by omega, ?_⟩ l)
      by_cases h1 : n = 1
      · subst h1
        rw [if_pos rfl]
        simpa using r
      · rw [if_neg h1]
        have : n = 0 := by omega
        subst this
        simpa using r
  · exact .inl (kf_mul x y H _ _ h Q' Q rp rq s r l)
end N3

/-! lists that may change: of a text cut, of two lists; a store as a target -/
namespace N3
open PySem PySem.Spec PyProof.Rows L2
def rSplitM : PV → List PV → PH → PK → Prop := fun p ps h Q => match p, ps with
  | .str x, [.str y] => (y.length == 0) = false ∧ x.length + 2 ≤ SZ ∧ ∀ a, h a = none → Q (.ref a) (up h a (.lst ((Txt.split x y).map PV.str)))
  | _, _ => False
section
variable {X : Cx} {pos apos cpos p2 : Pos} {o e i : Expr} {m : MA} {mo mk me : ME} {vs : List Nat}
theorem le_splitM (ho : LE X o mo) (ha : LAn X [e] 1 m) (hbase : attributeBase o "split" X.env (eval o X.env) = eval o X.env := by rfl)
    (hfew : ((backTo cpos (starEach [e] X.env)).all (fun x => !x.1) && (backToKw cpos (keywordEach [] X.env)).all (fun x => x.1.isSome) && decide (([e] : List Expr).length + ([] : List Keyword).length + (if ([] : List Keyword).isEmpty then 0 else 1) < 30)) = true := by rfl)
    (hline : (apos.endLine == cpos.line) = true := by rfl) (hs : starEach [e] X.env = (false, eval e X.env) :: starEach [] X.env := by rfl) (hs1 : starEach [e] X.env = [(false, eval e X.env)] := by rfl) :
    LE X (.Call (.Attribute o "split" apos) [e] [] cpos) (mM1 rSplitM mo m) := by
  refine PE.weak (PE.kp (pe_bm PySem.F.plainAttrs_str PySem.F.slot_str_split PySem.F.type_str_split mt_split ho ha hbase hfew hline hs rfl)) fun σ H Q ⟨τ, h, Q', s, sh, q, l⟩ => ?_
  refine ⟨τ, h, _, s, sh, q, fun p h1 v H1 ⟨⟨x, ex⟩, q1⟩ g1 r1 s1 => ⟨by subst ex; rw [rel_str.mp r1]; rfl, ?_⟩⟩
  refine ⟨τ, h1, _, s.mono g1.mono, s1, q1, ?_⟩
  rintro ps h2 vs H2 q2 _ g2 rr s2
  subst ex
  unfold rSplitM at q2
  split at q2
  · rename_i x' y ex _
    cases ex
    obtain ⟨w, rfl, rw'⟩ := rr.one
    obtain ⟨z1, z2, q2⟩ := q2
    exact ⟨_, _, rel_str.mp r1, by rw [rel_str.mp rw'], z1, sz_le z2, fun a ha => make_l (l.mono (g1.trans g2)) s2 (rels_of_strs _) q2 ha⟩
  · exact q2.elim
/-- a list and a list, that may change -/
def rAddM : PR2 := fun p q h Q => match seqL h p, seqL h q with
  | some xs, some ys => xs.length + ys.length ≤ SZ ∧ ∀ a, h a = none → Q (.ref a) (up h a (.lst (xs ++ ys)))
  | _, _ => False
theorem kf_addM {K : PySem.W.Frag} : Kf2 K (oAdd K) rAddM := by
  intro x y H p q h Q' Q rp rq s r l
  unfold rAddM at r
  split at r
  · rename_i xs ys e1 e2
    obtain ⟨a, us, ea, ha, ra⟩ := seqL_sq rp s e1
    obtain ⟨b, ws, eb, hb, rb⟩ := seqL_sq rq s e2
    refine .inr ⟨a, b, us, ws, ea, eb, ha, hb, ?_, fun c hc => make_l l s (ra.append rb) r.2 hc⟩
    rw [← ra.length, ← rb.length]; exact sz_le r.1
  · exact r.elim
/-- o[i] as a target -/
def gPut (mo mk : ME) : MG := fun p τ h Q => mo τ h fun d h2 => mk τ h2 fun q h3 => match d with
  | .ref a => (match h3 a with
    | some (.dct ks vs) => (match kOf q with | some k => ks.length < SZ ∧ Q τ (up h3 a (.dct (pk ks k) (pvs ks vs k p))) | none => False)
    | some (.lst xs) => (match q with | .int i => (match ixN xs.length i with | some j => Q τ (up h3 a (.lst (xs.set j p))) | none => False) | _ => False)
    | _ => False)
  | _ => False
theorem lg_put {o i : Expr} {pos' : Pos} (hu : X.A.units + 1 < cLine) (ho : LE X o mo) (hi : LE X i mk)
    (ha : ∀ u, assign (.Subscript o i pos') X.env u = (do let ov ← holding [u] (eval o X.env); let iv ← holding [u, ov] (eval i X.env); standAt pos'; holding [u, ov, iv] (setItem ov iv u); release [u, ov, iv] []) := by intro _; rfl) : LG X (.Subscript o i pos') vs (gPut mo mk) := by
  refine PG.weak (pg_sub ho hi (PSet_or (set_dict hu) set_list) ha) fun v σ H Q ⟨p, τ, h, Q', r, s, sh, q, l⟩ => ?_
  refine ⟨τ, h, _, s, sh, q, fun d h2 x H2 q2 g2 r2 s2 => ?_⟩
  refine ⟨τ, h2, _, s.mono g2.mono, s2, q2, fun q h3 y H3 q3 g3 r3 s3 => ?_⟩
  cases d with
  | ref a =>
    have hx := rel_ref.mp (r2.mono g3.mono)
    simp only at q3
    split at q3
    · rename_i ks us e
      split at q3
      · rename_i k ek
        obtain ⟨u, e1, kvs, rfl, rfl, rr⟩ := s3 a _ e
        have hy := kOf_rel r3 ek
        have hl : kvs.length < sizeLine := by
          have z := q3.1
          rw [List.length_map] at z
          exact sz_lt z
        subst hy hx
        have mm : Mono H3 (upd H3 a (.dK (putK kvs k v))) := Mono.dK e1
        obtain ⟨z1, z2⟩ := put_rel (k := k) rr ((r.mono g2.mono).mono g3.mono)
        refine .inl ⟨a, _, rfl, DPut.k e1 hl, l _ _ _ _ q3.2 ((g2.trans g3).trans (.wr e mm)) (((s.mono g2.mono).mono g3.mono).mono mm) (s3.put mm ⟨_, rfl, z1, z2.mono mm⟩) rfl⟩
      · exact q3.elim
    · rename_i xs e
      split at q3
      · rename_i i
        split at q3
        · rename_i j ej
          obtain ⟨u, e1, ys, rfl, rr⟩ := s3 a _ e
          have hy := rel_int.mp r3
          subst hy hx
          have mm : Mono H3 (upd H3 a (.lst (ys.set j v))) := Mono.lst e1
          refine .inr ⟨a, ys, i, j, rfl, rfl, e1, by rw [← rr.length]; exact ej, l _ _ _ _ q3 ((g2.trans g3).trans (.wr e mm)) (((s.mono g2.mono).mono g3.mono).mono mm) (s3.put mm ⟨_, rfl, (rr.set ((r.mono g2.mono).mono g3.mono) j).mono mm⟩) rfl⟩
        · exact q3.elim
      · exact q3.elim
    · exact q3.elim
  | _ => exact q3.elim
end
end N3

namespace N3
open PySem PySem.Spec PyProof.Rows L2
/-! ### xs[::e], e 1 or -1 -/
def mStep (m ms : ME) : ME := fun τ h Q => m τ h fun p h1 => ms τ h1 fun q h2 => match q with
  | .int i => (match seqL h2 p with
    | some xs => (i = 1 ∨ i = -1) ∧ Q (.lst (if i = 1 then xs else xs.reverse)) h2
    | none => False)
  | _ => False
def tStepA (K : PySem.W.Frag) (te ts : TE) : TE := fun σ H Q => te σ H fun x H1 => tPart ts σ H1 fun o H2 => ∃ i, o = some i ∧ (i = 1 ∨ i = -1) ∧ ∃ a xs, x = .ref a ∧ SqL K H2 a xs ∧ ∀ p, H2 p = none → Q (.ref p) (upd H2 p (.lst (if i = 1 then xs else xs.reverse)))
theorem pick_one (its : List Value) : slicePick its.toArray none none (some 1) = its.toArray := by
  have := slicePick_cut its none none
  rw [show slicePick its.toArray none none (some 1) = slicePick its.toArray none none none from rfl, this]
  unfold HT.sIx
  simp
section
variable {X : Cx} {pos p3 : Pos} {e es : Expr}
theorem pe_stepA {te ts : TE} (he : PE X e te) (hs : PE X es ts) : PE X (.Subscript e (.Slice none none (some es) p3) pos) (tStepA X.K te ts) := by
  refine ⟨fun pins s σ H Q I h => ?_⟩
  refine Subscript_ (thn (he.run pins s σ H _ I h) fun v s1 ⟨x, H1, I1, r1, q1⟩ => ?_)
  have hst : L2.PO X (some es) (tPart ts) := po_some hs
  refine wpAny_Slice (thn (po_none.run pins s1 σ H1 (fun o H2 => o = none ∧ H2 = H1) I1 ⟨rfl, rfl⟩) fun vl s2 ⟨l, H2, I2, pl, el, e2⟩ => ?_)
  subst el e2
  refine thn (po_none.run pins s2 σ H2 (fun o H3 => o = none ∧ H3 = H2) I2 ⟨rfl, rfl⟩) fun vu s3 ⟨u, H3, I3, pu, eu, e3⟩ => ?_
  subst eu e3
  refine thn (hst.run pins s3 σ H3 (fun o H4 => ∃ i, o = some i ∧ (i = 1 ∨ i = -1) ∧ ∃ a xs, x = .ref a ∧ SqL X.K H4 a xs ∧ ∀ p, H4 p = none → Q (.ref p) (upd H4 p (.lst (if i = 1 then xs else xs.reverse)))) I3 q1) fun vs s4 ⟨o, H4, I4, ps, i, eo, hi, a, xs, ex, hx, q⟩ => ?_
  subst eo
  subst ex
  cases r1
  have I5 : Inv X pins σ H4 { s4 with heap := s4.heap.push { cls := .type "slice", data := .fields #[vl, vu, vs] } } := I4.kept (t' := s4.toks) fun b ob q => Heap.get?_push_of_some _ q
  show wpAny (model X.prog X.w) X.A (subscriptTail e (.Slice none none (some es) p3) (.ref a) (.ref s4.heap.objs.size)) (EP X pins σ Q) X.xe { s4 with heap := s4.heap.push { cls := .type "slice", data := .fields #[vl, vu, vs] } }
  obtain ⟨its, r, ht, hz⟩ := I5.list hx
  have hlen := r.length
  refine tail_any (ops := [.ref a, .ref s4.heap.objs.size]) ht.isList.typeIs (PySem.slot_list_getitem.lookup) ?_ (by with_unfolding_all rfl)
  refine wpAny_getItem_list_slice ht.isList (Heap.IsSliceOf.new _ vl vu vs) pl pu ps (by rcases hi with rfl | rfl <;> decide) ?_ (by rw [List.size_toArray]; omega)
  rcases hi with rfl | rfl
  · rw [pick_one]
    rw [if_pos rfl] at q
    refine ⟨.ref _, _, I5.laid (t' := s4.toks) (o := .lst xs) (fun b ob q => Heap.get?_push_of_some _ q) (Nat.le_refl _) ?_, rfl, q _ (I5.hok.fresh (Nat.le_refl _))⟩
    exact ⟨hz, _, 0, r, Heap.get?_push_size _ rfl⟩
  · rw [PySem.W.krv_pick]
    rw [if_neg (by decide)] at q
    refine ⟨.ref _, _, I5.laid (t' := s4.toks) (o := .lst xs.reverse) (fun b ob q => Heap.get?_push_of_some _ q) (Nat.le_refl _) ?_, rfl, q _ (I5.hok.fresh (Nat.le_refl _))⟩
    exact ⟨by rw [List.length_reverse]; exact hz, _, 0, r.reverse, Heap.get?_push_size _ rfl⟩
theorem le_stp {m ms : ME} (he : LE X e m) (hs : LE X es ms) : LE X (.Subscript e (.Slice none none (some es) p3) pos) (mStep m ms) := by
  refine PE.weak (PE.kp (pe_stepA he hs)) fun σ H Q ⟨τ, h, Q', s, sh, q, l⟩ => ?_
  refine ⟨τ, h, _, s, sh, q, fun p h1 v H1 q1 g1 r1 s1 => ?_⟩
  refine ⟨τ, h1, _, s.mono g1.mono, s1, q1, fun q2 h2 y H2 q3 g2 r2 s2 => ?_⟩
  cases q2 with
  | int i =>
    have ey := rel_int.mp r2
    simp only at q3
    split at q3
    · rename_i xs e
      obtain ⟨a, ys, rfl, hq, rr⟩ := seqL_sq (r1.mono g2.mono) s2 e
      refine ⟨i, ey, i, rfl, q3.1, a, ys, rfl, hq, fun c hc => keep_l ((l.mono g1).mono g2) s2 ?_ q3.2 hc⟩
      split
      · exact rr
      · exact rr.reverse
    · exact q3.elim
  | _ => exact q3.elim
end
end N3

namespace N3
open PySem PySem.Spec PyProof.Rows L2
/-! ### the truth of any value; a or b, a and b as values -/
def trv (h : PH) : PV → Option Bool
  | .non => some false
  | .bl b => some b
  | .int i => some (i != 0)
  | .str x => if x.length ≤ SZ then some ((x.length : Int) != 0) else none
  | .tup xs => some (!xs.isEmpty)
  | p => match seqL h p with | some xs => some (!xs.isEmpty) | none => none
theorem isEmpty_rels {K : PySem.W.Frag} {H : Hp} {ps : List PV} {xs : List V} (r : Rels K H ps xs) : ps.isEmpty = xs.isEmpty := by
  cases ps with
  | nil => rw [Rels.nil_iff] at r; subst r; rfl
  | cons p ps => obtain ⟨v, vs, rfl, _, _⟩ := r.uncons; rfl
theorem trv_up {K : PySem.W.Frag} {H : Hp} {h : PH} {p : PV} {v : V} {k : Bool} (r : Rel K H p v) (s : Sim K H h) (e : trv h p = some k) : TruV K v H k := by
  have seq : ∀ {xs}, seqL h p = some xs → k = !xs.isEmpty → TruV K v H k := fun {xs} e1 e2 => by
    obtain ⟨a, ys, rfl, hq, rr⟩ := seqL_sq r s e1
    exact .inl ⟨ys, hq, by rw [e2, isEmpty_rels rr]⟩
  cases p with
  | non => rw [rel_non.mp r]; exact (Option.some.inj e).symm
  | bl b => rw [rel_bl.mp r]; exact (Option.some.inj e).symm
  | int i => rw [rel_int.mp r]; exact (Option.some.inj e).symm
  | str x =>
    rw [rel_str.mp r]
    simp only [trv] at e
    split at e
    · rename_i hz
      exact ⟨sz_le hz, (Option.some.inj e).symm⟩
    · cases e
  | tup xs =>
    obtain ⟨a, ys, rfl, hq, rr⟩ := rel_tup.mp r
    exact .inr (.inl ⟨ys, hq, by rw [← isEmpty_rels rr]; exact (Option.some.inj e).symm⟩)
  | lst xs => exact seq (xs := xs) rfl (Option.some.inj e).symm
  | ref a =>
    have e : (match seqL h (.ref a) with | some xs => some (!xs.isEmpty) | none => none) = some k := e
    split at e
    · rename_i xs e1
      exact seq e1 (Option.some.inj e).symm
    · cases e
  | dct ks vs => cases e
  | ty n => cases e
def mOrV (a b : ME) : ME := fun τ h Q => a τ h fun p h1 => match trv h1 p with
  | some k => if k = true then Q p h1 else b τ h1 Q
  | none => False
def mAndV (a b : ME) : ME := fun τ h Q => a τ h fun p h1 => match trv h1 p with
  | some k => if k = true then b τ h1 Q else Q p h1
  | none => False
section
variable {X : Cx} {a b e : Expr} {rest : List Expr} {pos : Pos}
theorem le_orV {ma mb : ME} (ha : LE X a ma) (hb : LE X (.BoolOp .Or (b :: rest) pos) mb) : LE X (.BoolOp .Or (a :: b :: rest) pos) (mOrV ma mb) := by
  refine PE.weak (pe_orT ha hb) fun σ H Q ⟨τ, h, Q', s, sh, q, l⟩ => ?_
  refine ⟨τ, h, _, s, sh, q, fun p h1 v H1 q1 m1 r s1 => ?_⟩
  split at q1
  · rename_i k e
    refine ⟨k, trv_up r s1 e, ?_⟩
    cases k with
    | true => exact l _ _ _ _ q1 m1 r s1
    | false => exact ⟨τ, h1, Q', s.mono m1.mono, s1, q1, l.mono m1⟩
  · exact q1.elim
theorem le_andV {ma mb : ME} (ha : LE X a ma) (hb : LE X (.BoolOp .And (b :: rest) pos) mb) : LE X (.BoolOp .And (a :: b :: rest) pos) (mAndV ma mb) := by
  refine PE.weak (pe_andT ha hb) fun σ H Q ⟨τ, h, Q', s, sh, q, l⟩ => ?_
  refine ⟨τ, h, _, s, sh, q, fun p h1 v H1 q1 m1 r s1 => ?_⟩
  split at q1
  · rename_i k e
    refine ⟨k, trv_up r s1 e, ?_⟩
    cases k with
    | true => exact ⟨τ, h1, Q', s.mono m1.mono, s1, q1, l.mono m1⟩
    | false => exact l _ _ _ _ q1 m1 r s1
  · exact q1.elim
end
end N3

/-! sorted(set(xs)) of texts -/
namespace N3
open PySem PySem.Spec PyProof.Rows L2 PySem.Froz

/-! ### the table of a set of texts, as it is walked -/
def txOf : Value → Str
  | .str x _ => x
  | _ => ""
structure TsetOk (P : Program) (w : World) (D : SD) (l : List Str) : Prop where
  tx : TxOk P w D l
  nd : l.Nodup
  st : ∀ e ∈ D.1.toList, ∃ k t, e.2 = .str k t
  pm : (D.1.toList.map fun e => txOf e.2).Perm l
  ri : Ris D.2.2.place.toList
  le : w.params.followText "set-order" = true ∨ D.2.2.led = true
section
variable {P : Program} {w : World} {A : Around} {E : Value → Shared → Prop} {s : Shared} {l : List Str}
theorem tset_tail {ep : Nat} {es1 : Array (Int × Value)} {t2 : SetTable} {wd : Bool} (F : TsetOk P w (es1, ep, t2) l) : TsetOk P w (tailTx ep es1 t2 wd) l := by
  have T := tail_ok (wasDummy := wd) F.tx
  unfold tailTx at T ⊢
  by_cases c : (!wd && t2.tooFull) = true
  · rw [if_pos c] at T ⊢
    have p := relayAll_perm t2 es1 (SetTable.grown es1.size)
    exact ⟨T, F.nd, fun e he => F.st e (p.mem_iff.mp he), (p.map _).trans F.pm, relayAll_ris _ _ _, F.le.imp id fun z => (relayAll_led t2 es1 _).trans z⟩
  · rw [if_neg c] at T ⊢
    exact ⟨T, F.nd, F.st, F.pm, F.ri, F.le⟩
theorem tset_add {D : SD} {k : Str} (u : Tok) (F : TsetOk P w D l) (hk : k ∉ l) : TsetOk P w (addTx (hashStr w k) (.str k u) D) (k :: l) := by
  obtain ⟨es, ep, t⟩ := D
  have p := layNew_perm t es (hashStr w k) (.str k u)
  have r := layNew_ris t es (hashStr w k) (.str k u) F.ri
  have e := layNew_led t es (hashStr w k) (.str k u)
  have f := layNew_fits t es (hashStr w k) (.str k u)
  rw [Array.toList_push] at p
  have hr : Ris (if (layNew t es (hashStr w k) (.str k u)).2.1.plain = true then { (layNew t es (hashStr w k) (.str k u)).2.1 with plain := false } else (layNew t es (hashStr w k) (.str k u)).2.1).place.toList := by
    split <;> exact r
  have hl : (if (layNew t es (hashStr w k) (.str k u)).2.1.plain = true then { (layNew t es (hashStr w k) (.str k u)).2.1 with plain := false } else (layNew t es (hashStr w k) (.str k u)).2.1).led = t.led := by
    split <;> exact e
  have hf : (if (layNew t es (hashStr w k) (.str k u)).2.1.plain = true then { (layNew t es (hashStr w k) (.str k u)).2.1 with plain := false } else (layNew t es (hashStr w k) (.str k u)).2.1).fits (layNew t es (hashStr w k) (.str k u)).1.size = true := by
    by_cases c : (layNew t es (hashStr w k) (.str k u)).2.1.plain = true
    · rw [if_pos c]; exact SetTable.fits_plain_off f
    · rw [if_neg c]; exact f
  unfold addTx
  refine tset_tail ⟨F.tx.push (by rw [Array.toList_push]; exact p) hf, List.nodup_cons.mpr ⟨hk, F.nd⟩, fun x hx => ?_, ?_, hr, F.le.imp id fun z => hl.trans z⟩
  · rcases List.mem_append.mp (p.mem_iff.mp hx) with z | z
    · exact F.st x z
    · rw [List.mem_singleton] at z; exact ⟨k, u, by rw [z]⟩
  · refine (p.map _).trans ?_
    rw [List.map_append]
    exact (List.perm_append_singleton _ _).trans (F.pm.cons k)
/-- the set of the texts l lies at a -/
def Tset (P : Program) (w : World) (h : Heap) (a : Addr) (l : List Str) : Prop := ∃ D, h.get? a = some (sObj "set" D) ∧ TsetOk P w D l
theorem Tset.at {h h' : Heap} {a : Addr} (R : Tset P w h a l) (k : ∀ o, h.get? a = some o → h'.get? a = some o) : Tset P w h' a l := by
  obtain ⟨D, e, F⟩ := R
  exact ⟨D, k _ e, F⟩
theorem tset_new {h : Heap} {a : Addr} (ho : h.get? a = some { cls := .type "set", dict := none, data := .set #[] 0 (.fresh 0 0 (!w.params.followText "set-order")) }) : Tset P w h a [] :=
  ⟨(#[], 0, .fresh 0 0 (!w.params.followText "set-order")), ho, TxOk.nil rfl, .nil, fun e he => by simp at he, .nil, List.Pairwise.nil, by
    show _ ∨ (!w.params.followText "set-order") = true
    cases w.params.followText "set-order"
    · exact .inr rfl
    · exact .inl rfl⟩
theorem old_x {a : Addr} {D : SD} {k : Str} {u : Tok} {Q : Bool → Shared → Prop} (ho : s.heap.get? a = some (sObj "set" D)) (F : TxOk P w D l) (hk : k ∈ l) (hb : l.length < scanBound) (h : Q false s) : wpAny (model P w) A (setAddHashed a (.str k u) (hashStr w k)) Q E s := by
  obtain ⟨es, ep, t⟩ := D
  have hd : (sObj "set" (es, ep, t)).data = .set es ep t := rfl
  have hsz : es.size = l.length := F.sz
  have hsc : es.size < scanBound := by rw [hsz]; exact hb
  obtain ⟨e, he, z⟩ := (F.mem k).mp hk
  unfold setAddHashed setAddHashedIn
  refine wpAny_holding (wpAny_bind (wpAny_setState_of ho hd F.fit ?_))
  dsimp only
  rw [byScan_of (knd := strKind P w) (es := es) rfl hsc F.el]
  simp only [↓reduceIte]
  unfold setAddByScan
  refine wpAny_bind (wpAny_bind (wpAny_rule (wpAny_bind (wpAny_setScan_of (knd := strKind P w) (k := k) (is_str k u) ho hd F.fit F.el ?_))))
  cases hr : List.findIdx? (fun e => (strKind P w).is k e.2) es.toList with
  | none =>
    have := List.findIdx?_eq_none_iff.mp hr e he
    rw [z] at this; cases this
  | some j => exact wpAny_pure (wpAny_pure h)
theorem tset_set {a : Addr} {k : Str} {u : Tok} {Q : Bool → Shared → Prop} (R : Tset P w s.heap a l) (hb : l.length + 1 < scanBound)
    (h : ∀ h' b l', Heap.SameBut a s.heap h' → Tset P w h' a l' → l'.Nodup → (∀ x, x ∈ l' ↔ x ∈ l ∨ x = k) → l'.length ≤ l.length + 1 → Q b { s with heap := h' }) : wpAny (model P w) A (setAddHashed a (.str k u) (hashStr w k)) Q E s := by
  obtain ⟨D, ho, F⟩ := R
  by_cases hk : k ∈ l
  · exact old_x ho F.tx hk (by omega) (h s.heap false l (Heap.SameBut.refl _ _) ⟨D, ho, F⟩ F.nd (fun x => ⟨.inl, fun z => z.elim id fun e => by rw [e]; exact hk⟩) (by omega))
  · refine add_x ho F.tx hk hb (h _ true (k :: l) (Heap.SameBut.update _ _ _) ⟨_, get_upd _ ho rfl, tset_add u F hk⟩ (List.nodup_cons.mpr ⟨hk, F.nd⟩) (fun x => ?_) (by rw [List.length_cons]; omega))
    rw [List.mem_cons]; exact Or.comm
/-! ### set(xs) -/
theorem tset_loop {I : Addr} {fp wr : List Addr} {G : Array GenState → Array GenState → Prop} {n : Nat} {Pv : Nat → Value → Prop} {St : Nat → Shared → Prop} {R : Result → Shared → Prop}
    (W : WalksS P w A.in1 I fp wr G n Pv St) (S : Addr) (hSf : S ∉ fp) (ws : List Str) (hn : n = ws.length) (hb : ws.length + 1 < scanBound) (hval : ∀ i v, Pv i v → ∃ k t, ws[i]? = some k ∧ v = .str k t) :
    ∀ (k i : Nat) (s : Shared), n - i = k → i ≤ n → St i s → (∃ l, Tset P w s.heap S l ∧ l.Nodup ∧ (∀ x, x ∈ l ↔ x ∈ ws.take i) ∧ l.length ≤ i) →
      (∀ s' l, Moved (S :: wr) G s s' → Tset P w s'.heap S l → l.Nodup → (∀ x, x ∈ l ↔ x ∈ ws) → l.length ≤ n → R (.ok (.ret .none)) s') →
      codeAny (model P w) A (.builtin "set.update.loop" ⟨[.ref S, .ref I], []⟩) R s := by
  have hSw : S ∉ wr := fun h => hSf (W.sub _ h)
  have hsub : ∀ b ∈ wr, b ∈ S :: wr := fun b hb => List.mem_cons_of_mem _ hb
  intro k
  induction k with
  | zero =>
    intro i s hk' hi hst ⟨l, hS, nd, mm, ll⟩ hR
    have hin : i = n := by omega
    subst hin
    refine codeAny_builtin F.entry_set_update_loop ?_
    rw [Around.under_plainId F.plain_set_update_loop _]
    show wpAny _ A.in1 (pyNext (.ref I) >>= _) _ _ s
    refine wpAny_bind (W.done s _ _ hst fun s' hm => ?_)
    show wpAny _ A.in1 (ret Value.none) _ _ s'
    rw [List.take_of_length_le (by omega)] at mm
    exact wpAny_pure (hR s' l (hm.mono hsub) (hS.at fun o e => hm.heap S o hSw e) nd mm ll)
  | succ k ih =>
    intro i s hk' hi hst ⟨l, hS, nd, mm, ll⟩ hR
    have hlt : i < n := by omega
    refine codeAny_builtin F.entry_set_update_loop ?_
    rw [Around.under_plainId F.plain_set_update_loop _]
    show wpAny _ A.in1 (pyNext (.ref I) >>= _) _ _ s
    refine wpAny_bind (W.item i s _ _ hlt hst fun v s' hP hst' hm => ?_)
    obtain ⟨z, t, hz, rfl⟩ := hval i v hP
    have hS' : Tset P w s'.heap S l := hS.at fun o e => hm.heap S o hSw e
    show wpAny _ A.in1 (holding [Value.str z t] (setAdd S (.str z t)) >>= _) _ _ s'
    refine wpAny_bind (wpAny_holding ?_)
    unfold setAdd
    refine wpAny_holding ?_
    refine wpAny_bind ((strKind P w).pyHash (k := z) (is_str z t) ?_)
    refine tset_set (s := { s' with toks := s'.toks + 1 }) hS' (by omega) fun h' b l' hsb hS2 nd2 mm2 ll2 => ?_
    refine wpAny_pure ⟨plainId_quiet F.plain_set_update_loop _, ih (i + 1) _ (by omega) hlt (W.frame _ s' _ _ hst' (Nat.le_succ _) fun b hb o e => ?_) ⟨l', hS2, nd2, fun x => ?_, by omega⟩ fun s'' l2 hm'' hS'' nd' mm' ll' => ?_⟩
    · rw [hsb.2 b (fun h : b = S => hSf (by rw [← h]; exact hb))]; exact e
    · rw [mm2, mm, List.take_add_one, hz, List.mem_append]
      simp
    · refine hR s'' l2 (Moved.trans W.gtrans ((hm.mono hsub).then_heap (Nat.le_succ _) fun b o hb e => ?_) hm'') hS'' nd' mm' ll'
      rw [hsb.2 b (fun h : b = S => hb (by rw [h]; exact List.mem_cons_self))]; exact e
theorem set_tuple {l : Addr} {items : Array Value} (ws : List Str) {Q : Value → Shared → Prop} (hh : A.handled = none) (hl : s.heap.IsTuple l items) (hn : items.size = ws.length) (hi : ∀ (i : Nat) (v : Value), items[i]? = some v → ∃ k t, ws[i]? = some k ∧ v = .str k t) (hb : ws.length + 1 < scanBound)
    (h : ∀ (h' : Heap) (tk : Nat) (l' : List Str), Tset P w h' s.heap.objs.size l' → l'.Nodup → (∀ x, x ∈ l' ↔ x ∈ ws) → l'.length ≤ ws.length → (∀ b o, s.heap.get? b = some o → h'.get? b = some o) → Q (.ref s.heap.objs.size) { s with heap := h', toks := tk }) :
    wpAny (model P w) A (call (.type "set") [.ref l]) Q E s := by
  obtain ⟨c, tl, hmro⟩ := F.called_set.mro
  have hmade := F.called_set.made
  have hsub := F.called_set.sub
  refine wpAny_call (codeAny_of_tree ?_)
  show wpAny _ _ (callAny (.type "set") _) _ _ _
  refine wpAny_pure ⟨Code.quiet_builtin _ (by decide +kernel), codeAny_builtin F.entry_type_call ?_⟩
  rw [Around.under_plain (weight_type_call_type "set" [.ref l] []) rfl]
  have h1 := F.called_set.notType
  have h2 := F.called_set.canCreate
  have hct := F.typeCall_set_1 (.ref l)
  repeat (any_goals (first | assumption | wp_step))
  generalize hh0 : s.heap.push { cls := .type "set", dict := none, data := .set #[] 0 (.fresh 0 0 (!w.params.followText "set-order")) } = h0
  have hsz : h0.objs.size = s.heap.objs.size + 1 := by rw [← hh0]; exact Heap.size_push ..
  have hS : h0.get? s.heap.objs.size = some { cls := .type "set", dict := none, data := .set #[] 0 (.fresh 0 0 (!w.params.followText "set-order")) } := by rw [← hh0]; exact Heap.get?_push_size _ rfl
  have hk0 : ∀ b o, s.heap.get? b = some o → h0.get? b = some o := fun b o e => by rw [← hh0]; exact Heap.get?_push_of_some _ e
  refine codeAny_mono (code_set_led1 (.ref l) (E := E) (Q₁ := fun obj s₁ => obj = .ref s.heap.objs.size ∧ s₁ = { s with heap := h0 }) ⟨rfl, by rw [hh0]⟩) fun r s₁ hr => ?_
  cases r with
  | error e => exact hr
  | ok fl =>
    cases fl with
    | ret obj =>
      obtain ⟨rfl, rfl⟩ := hr
      have hT : Shared.TypeIs { s with heap := h0 } (.ref s.heap.objs.size) "set" := ⟨_, hS, rfl⟩
      have hli := F.called_set.init.lookup
      have hbi := F.called_set.init.bind (.ref s.heap.objs.size)
      repeat (any_goals (first | assumption | wp_step))
      refine codeAny_mono (codeAny_call_builtin (R := wants (fun r s₂ => r = .none ∧ ∃ h' tk l', s₂ = { s with heap := h', toks := tk } ∧ Tset P w h' s.heap.objs.size l' ∧ l'.Nodup ∧ (∀ x, x ∈ l' ↔ x ∈ ws) ∧ l'.length ≤ ws.length ∧
          (∀ b o, s.heap.get? b = some o → h'.get? b = some o)) E) F.called_set.init.plain F.entry_set_init (check_set_init_1 hT ?_)) fun r₂ s₂ hr₂ => ?_
      · obtain ⟨ol, hol, hcl, nl, hdl⟩ := hl
        obtain ⟨ocls, odict, odata, oslots⟩ := ol
        simp only at hcl hdl
        subst hcl; subst hdl
        have hol' := hk0 _ _ hol
        have hsls := F.sub_tuple_set
        have hslf := F.sub_tuple_frozenset
        have hne : (Value.type "tuple" == Value.type "dict") = false := by decide
        have hl1 : h0.IsTuple l items := ⟨_, hol', rfl, nl, rfl⟩
        unfold Builtin.«set.__init__» noKeywords Builtin.Frozenset.updateFrom
        generalize hPI : pyIter = PI
        wp_walk
        subst hPI
        refine wpAny_pyIter_tuple hl1 ?_
        refine wpAny_bind (wpAny_runValue ?_)
        have hlS : l < s.heap.objs.size := Heap.lt_size hol
        have hh3 : A.in1.in1.in1.handled = none := by simp [hh]
        have hneI : l ≠ h0.objs.size := by rw [hsz]; exact Nat.ne_of_lt (Nat.lt_succ_of_lt hlS)
        have hSf : s.heap.objs.size ∉ [h0.objs.size, l] := by
          simp only [List.mem_cons, List.not_mem_nil, or_false, not_or]
          exact ⟨by rw [hsz]; exact Nat.ne_of_lt (Nat.lt_succ_self _), Nat.ne_of_gt hlS⟩
        refine tset_loop ((Walks.tuple hh3 _ l hneI items).toS) s.heap.objs.size hSf ws hn hb hi (items.size - 0) 0 _ (by omega) (Nat.zero_le _)
          ⟨⟨_, Heap.get?_push_size _ rfl, rfl, rfl⟩, (hl1.push _)⟩ ⟨[], tset_new (Heap.get?_push_of_some _ hS), .nil, fun x => by simp, Nat.le_refl _⟩ ?hR
        intro s' l' hm hS' nd mm ll
        obtain ⟨h', g2, d', tk', os'⟩ := s'
        have eg : g2 = s.gens := hm.gens
        have ed : d' = s.drawn := hm.drawn
        have eo : os' = s.os := hm.os
        subst eg; subst ed; subst eo
        show wpAny _ _ _ _ _ _
        refine wpAny_pure ?_
        show wpAny _ _ (ret Value.none) _ _ _
        refine wpAny_pure ⟨rfl, h', tk', l', rfl, hS', nd, mm, by rw [← hn]; exact ll, fun b o e => ?_⟩
        have hb0 : b < s.heap.objs.size := Heap.lt_size e
        exact hm.heap b o (by simp only [List.mem_cons, List.not_mem_nil, or_false, not_or]; exact ⟨Nat.ne_of_lt hb0, by rw [hsz]; exact Nat.ne_of_lt (Nat.lt_succ_of_lt hb0)⟩) (Heap.get?_push_of_some _ (hk0 _ _ e))
      · cases r₂ with
        | error e => exact hr₂
        | ok fl₂ =>
          cases fl₂ with
          | ret r =>
            obtain ⟨rfl, h', tk, l', rfl, hS', nd, mm, ll, hk'⟩ := hr₂
            repeat (any_goals (first | assumption | wp_step))
            exact h _ _ _ hS' nd mm ll hk'
          | _ => exact hr₂.elim
    | _ => exact hr.elim
theorem set_list {l : Addr} {items : Array Value} (ws : List Str) {Q : Value → Shared → Prop} (hh : A.handled = none) (hl : s.heap.IsList l items) (hn : items.size = ws.length) (hi : ∀ (i : Nat) (v : Value), items[i]? = some v → ∃ k t, ws[i]? = some k ∧ v = .str k t) (hb : ws.length + 1 < scanBound)
    (h : ∀ (h' : Heap) (tk : Nat) (l' : List Str), Tset P w h' s.heap.objs.size l' → l'.Nodup → (∀ x, x ∈ l' ↔ x ∈ ws) → l'.length ≤ ws.length → (∀ b o, s.heap.get? b = some o → h'.get? b = some o) → Q (.ref s.heap.objs.size) { s with heap := h', toks := tk }) :
    wpAny (model P w) A (call (.type "set") [.ref l]) Q E s := by
  obtain ⟨c, tl, hmro⟩ := F.called_set.mro
  have hmade := F.called_set.made
  have hsub := F.called_set.sub
  refine wpAny_call (codeAny_of_tree ?_)
  show wpAny _ _ (callAny (.type "set") _) _ _ _
  refine wpAny_pure ⟨Code.quiet_builtin _ (by decide +kernel), codeAny_builtin F.entry_type_call ?_⟩
  rw [Around.under_plain (weight_type_call_type "set" [.ref l] []) rfl]
  have h1 := F.called_set.notType
  have h2 := F.called_set.canCreate
  have hct := F.typeCall_set_1 (.ref l)
  repeat (any_goals (first | assumption | wp_step))
  generalize hh0 : s.heap.push { cls := .type "set", dict := none, data := .set #[] 0 (.fresh 0 0 (!w.params.followText "set-order")) } = h0
  have hsz : h0.objs.size = s.heap.objs.size + 1 := by rw [← hh0]; exact Heap.size_push ..
  have hS : h0.get? s.heap.objs.size = some { cls := .type "set", dict := none, data := .set #[] 0 (.fresh 0 0 (!w.params.followText "set-order")) } := by rw [← hh0]; exact Heap.get?_push_size _ rfl
  have hk0 : ∀ b o, s.heap.get? b = some o → h0.get? b = some o := fun b o e => by rw [← hh0]; exact Heap.get?_push_of_some _ e
  refine codeAny_mono (code_set_led1 (.ref l) (E := E) (Q₁ := fun obj s₁ => obj = .ref s.heap.objs.size ∧ s₁ = { s with heap := h0 }) ⟨rfl, by rw [hh0]⟩) fun r s₁ hr => ?_
  cases r with
  | error e => exact hr
  | ok fl =>
    cases fl with
    | ret obj =>
      obtain ⟨rfl, rfl⟩ := hr
      have hT : Shared.TypeIs { s with heap := h0 } (.ref s.heap.objs.size) "set" := ⟨_, hS, rfl⟩
      have hli := F.called_set.init.lookup
      have hbi := F.called_set.init.bind (.ref s.heap.objs.size)
      repeat (any_goals (first | assumption | wp_step))
      refine codeAny_mono (codeAny_call_builtin (R := wants (fun r s₂ => r = .none ∧ ∃ h' tk l', s₂ = { s with heap := h', toks := tk } ∧ Tset P w h' s.heap.objs.size l' ∧ l'.Nodup ∧ (∀ x, x ∈ l' ↔ x ∈ ws) ∧ l'.length ≤ ws.length ∧
          (∀ b o, s.heap.get? b = some o → h'.get? b = some o)) E) F.called_set.init.plain F.entry_set_init (check_set_init_1 hT ?_)) fun r₂ s₂ hr₂ => ?_
      · obtain ⟨ol, hol, hcl, nl, hdl⟩ := hl
        obtain ⟨ocls, odict, odata, oslots⟩ := ol
        simp only at hcl hdl
        subst hcl; subst hdl
        have hol' := hk0 _ _ hol
        have hsls := F.sub_list_set
        have hslf := F.sub_list_frozenset
        have hne : (Value.type "list" == Value.type "dict") = false := by decide
        have hl1 : h0.IsList l items := ⟨_, hol', rfl, nl, rfl⟩
        unfold Builtin.«set.__init__» noKeywords Builtin.Frozenset.updateFrom
        generalize hPI : pyIter = PI
        wp_walk
        subst hPI
        refine wpAny_pyIter_list hl1 ?_
        refine wpAny_bind (wpAny_runValue ?_)
        have hlS : l < s.heap.objs.size := Heap.lt_size hol
        have hh3 : A.in1.in1.in1.handled = none := by simp [hh]
        have hneI : l ≠ h0.objs.size := by rw [hsz]; exact Nat.ne_of_lt (Nat.lt_succ_of_lt hlS)
        have hSf : s.heap.objs.size ∉ [h0.objs.size, l] := by
          simp only [List.mem_cons, List.not_mem_nil, or_false, not_or]
          exact ⟨by rw [hsz]; exact Nat.ne_of_lt (Nat.lt_succ_self _), Nat.ne_of_gt hlS⟩
        refine tset_loop ((Walks.list hh3 _ l hneI items).toS) s.heap.objs.size hSf ws hn hb hi (items.size - 0) 0 _ (by omega) (Nat.zero_le _)
          ⟨⟨_, Heap.get?_push_size _ rfl, rfl, rfl⟩, (hl1.push _)⟩ ⟨[], tset_new (Heap.get?_push_of_some _ hS), .nil, fun x => by simp, Nat.le_refl _⟩ ?hR
        intro s' l' hm hS' nd mm ll
        obtain ⟨h', g2, d', tk', os'⟩ := s'
        have eg : g2 = s.gens := hm.gens
        have ed : d' = s.drawn := hm.drawn
        have eo : os' = s.os := hm.os
        subst eg; subst ed; subst eo
        show wpAny _ _ _ _ _ _
        refine wpAny_pure ?_
        show wpAny _ _ (ret Value.none) _ _ _
        refine wpAny_pure ⟨rfl, h', tk', l', rfl, hS', nd, mm, by rw [← hn]; exact ll, fun b o e => ?_⟩
        have hb0 : b < s.heap.objs.size := Heap.lt_size e
        exact hm.heap b o (by simp only [List.mem_cons, List.not_mem_nil, or_false, not_or]; exact ⟨Nat.ne_of_lt hb0, by rw [hsz]; exact Nat.ne_of_lt (Nat.lt_succ_of_lt hb0)⟩) (Heap.get?_push_of_some _ (hk0 _ _ e))
      · cases r₂ with
        | error e => exact hr₂
        | ok fl₂ =>
          cases fl₂ with
          | ret r =>
            obtain ⟨rfl, h', tk, l', rfl, hS', nd, mm, ll, hk'⟩ := hr₂
            repeat (any_goals (first | assumption | wp_step))
            exact h _ _ _ hS' nd mm ll hk'
          | _ => exact hr₂.elim
    | _ => exact hr.elim
end
end N3

/-! sorted(set(xs)) of texts: as an expression -/
namespace N3
open PySem PySem.Spec PyProof.Rows L2 PySem.Froz
section
variable {P : Program} {w : World} {A : Around} {E : Value → Shared → Prop} {s : Shared} {l : List Str}
/-! ### sorted(set) -/
theorem each_tx {D : SD} {l : List Str} {vs : List Value} (F : TsetOk P w D l) (p : vs.Perm (D.1.toList.map (·.2))) : (vs.map txOf).Perm l ∧ ∀ v ∈ vs, ∃ t, v = .str (txOf v) t := by
  refine ⟨(p.map txOf).trans (by rw [List.map_map]; exact F.pm), fun v hv => ?_⟩
  obtain ⟨e, he, rfl⟩ := List.mem_map.mp (p.mem_iff.mp hv)
  obtain ⟨k, t, z⟩ := F.st e he
  exact ⟨t, by rw [z]; rfl⟩
theorem each_of {R : Value → Str → Prop} : ∀ {vs : List Value}, (∀ v ∈ vs, R v (txOf v)) → PySem.W.EachIs R vs (vs.map txOf)
  | [], _ => .nil
  | v :: vs, h => .cons (h v List.mem_cons_self) (each_of fun x hx => h x (List.mem_cons_of_mem _ hx))
theorem alike_tx (bs : List Str) : PySem.W.AllAlike (bs.map PyData.str) ∧ PySem.W.Sortable (bs.map PyData.str) :=
  ⟨PySem.W.AllAlike.of fun a b => by simp [PySem.W.alike], PySem.W.Sortable.others fun b => ⟨by simp, fun xs => by simp⟩⟩
open PySem.W in
theorem sorted_tset {a : Addr} {l : List Str} {Q : Value → Shared → Prop} (R : Tset P w s.heap a l) (hh : A.handled = none) (hu : A.units + 10 < cLine) (hz : l.length < scanBound)
    (hQ : ∀ s' p (bs : List Str) (out : Array Value) (c : Nat), (∀ b o, s.heap.get? b = some o → s'.heap.get? b = some o) → s'.gens = s.gens → s'.os = s.os → s.heap.objs.size ≤ p →
      s'.heap.get? p = some (seqObj "list" out c) → bs.Perm l → EachIs (fun v b => ∃ t, v = Value.str b t) out.toList (bs.mergeSort (dataLe false PyData.str)) → Q (.ref p) s') :
    wpAny (model P w) A (call (.builtin "sorted") [.ref a]) Q E s := by
  obtain ⟨⟨es, ep, t⟩, ho, F⟩ := R
  have hsz : es.size = l.length := F.tx.sz
  refine Calls.call_function_entry kind_sorted plain_sorted entry_sorted (args_sorted1 _) ?_
  unfold Builtin.«sorted»
  refine wpAny_bind (m := checkCount "sorted" 1 1 _) (wpAny_pure ?_)
  refine wpAny_bind (collect_set (A := A.in1) hh ⟨_, ho, rfl, rfl⟩ F.tx.fit (by rw [hsz]; exact hz) F.ri F.le fun s1 vs k1 hz1 g1 o1 pm => ?_)
  obtain ⟨pl, av⟩ := each_tx F pm
  have hvl : vs.length = l.length := by rw [← pl.length_eq, List.length_map]
  have hvz : vs.length ≤ sizeLine := by rw [hvl]; exact Nat.le_trans (Nat.le_of_lt hz) (by decide)
  have e0 : EachIs (fun v b => ∃ t, v = Value.str b t) vs (vs.map txOf) := each_of av
  have er : ∀ h : Heap, EachIs (fun v b => ∃ as, Reads h v (PyData.str b) as) vs (vs.map txOf) := fun h => each_of fun v hv => by
    obtain ⟨t, e⟩ := av v hv
    exact ⟨[], by rw [e]; exact .str _ _⟩
  obtain ⟨hal, hk⟩ := alike_tx (vs.map txOf)
  refine wpAny_bind (wpAny_newList ?_ hvz)
  have hoL : (s1.heap.push (seqObj "list" vs.toArray 0)).get? s1.heap.objs.size = some (seqObj "list" vs.toArray 0) := Heap.get?_push_size _ rfl
  refine wpAny_bind (wpAny_holding (wpAny_call_entry slot_list_sort ⟨_, hoL, rfl⟩ entry_list_sort
    (list_sort_vals (κ := dataKind (sortingHeap (s1.heap.push (seqObj "list" vs.toArray 0)) s1.heap.objs.size vs) ((vs.map txOf).map PyData.str)) (s := { s1 with heap := s1.heap.push (seqObj "list" vs.toArray 0) }) hoL
      (SortsAt.data (s := { s1 with heap := sortingHeap (s1.heap.push (seqObj "list" vs.toArray 0)) s1.heap.objs.size vs }) (each_map (R := fun v d => ∃ as, Reads (sortingHeap (s1.heap.push (seqObj "list" vs.toArray 0)) s1.heap.objs.size vs) v d as) PyData.str (er _)) hal hk (fun d hd => by
        obtain ⟨b, -, rfl⟩ := List.mem_map.mp hd
        show A.units + 1 + 1 + (PyData.str b).depth < cLine
        simp only [PyData.depth]; omega)) hvz ⟨.none, rfl, ?_⟩) (args_list_sort _)))
  obtain ⟨c, hc⟩ := sortedHeap_at (vs := vs) (out := (sortVals (dataKind (sortingHeap (s1.heap.push (seqObj "list" vs.toArray 0)) s1.heap.objs.size vs) ((vs.map txOf).map PyData.str)) false vs vs).toArray) hoL
  have eo := sortVals_data (h' := sortingHeap (s1.heap.push (seqObj "list" vs.toArray 0)) s1.heap.objs.size vs) false e0 (er _) hal
  refine wpAny_pure ⟨_, rfl, hQ _ s1.heap.objs.size (vs.map txOf) _ c (fun b u e => ?_) g1 o1 hz1 hc pl (by rw [List.toList_toArray]; exact eo)⟩
  have q := k1 b u e
  have hlt := Heap.lt_size q
  show (sortedHeap (s1.heap.push (seqObj "list" vs.toArray 0)) s1.heap.objs.size vs _).get? b = some u
  rw [sortedHeap_old (Nat.ne_of_lt hlt) (by rw [size_push']; exact Nat.lt_succ_of_lt hlt)]
  exact Heap.get?_push_of_some _ q
def TsetO (P : Program) (w : World) (a : Addr) (l : List Str) : HO := .ext fun h => Tset P w h a l
theorem tsetO_new {H : Hp} {h : Heap} {a : Addr} (R : Tset P w h a l) : ObjOk P w H h a (TsetO P w a l) := by
  have ⟨D, e, F⟩ := R
  exact ⟨R, ⟨_, e⟩, fun h1 h2 p k => Tset.at p k⟩
theorem strs_vals : ∀ {ws : List Str} {us : List Value}, Vals (ws.map V.str) us → us.length = ws.length ∧ ∀ (i : Nat) (v : Value), us[i]? = some v → ∃ k t, ws[i]? = some k ∧ v = .str k t
  | [], _, r => by cases r; exact ⟨rfl, fun i v e => by simp at e⟩
  | x :: ws, _, r => by
    cases r with
    | cons r1 r2 =>
      obtain ⟨h1, h2⟩ := strs_vals r2
      refine ⟨by rw [List.length_cons, List.length_cons, h1], fun i v e => ?_⟩
      cases i with
      | zero =>
        obtain ⟨t, z⟩ := r1
        rw [List.getElem?_cons_zero] at e
        cases e
        exact ⟨x, t, rfl, z⟩
      | succ i => exact h2 i v (by rw [List.getElem?_cons_succ] at e; exact e)
theorem vals_strs : ∀ {ws : List Str} {us : List Value}, PySem.W.EachIs (fun v b => ∃ t, v = Value.str b t) us ws → Vals (ws.map V.str) us
  | _, _, .nil => .nil
  | _, _, .cons h t => .cons h (vals_strs t)
theorem rels_txs {K : PySem.W.Frag} {H : Hp} : ∀ {ws : List Str} {xs : List V}, Rels K H (ws.map PV.str) xs → xs = ws.map V.str
  | [], xs, r => by simpa only [List.map_nil, Rels] using r
  | x :: ws, xs, r => by
    simp only [List.map_cons, Rels] at r
    obtain ⟨v, vs, e, h1, h2⟩ := r
    simp only [Rel] at h1
    rw [e, rels_txs h2, h1]; rfl
theorem txs_rels {K : PySem.W.Frag} {H : Hp} : ∀ (ws : List Str), Rels K H (ws.map PV.str) (ws.map V.str)
  | [] => .nil
  | x :: ws => .cons (by simp only [Rel]) (txs_rels ws)
end
def oSetTx (K : PySem.W.Frag) (P : Program) (w : World) : List V → Hp → VK → Prop := fun vs H Q => ∃ (a : Addr) (ws : List Str), vs = [.ref a] ∧ (SqL K H a (ws.map V.str) ∨ SqT K H a (ws.map V.str)) ∧ ws.length + 1 < scanBound ∧
  ∀ p l, l.Nodup → (∀ x, x ∈ l ↔ x ∈ ws) → l.length ≤ ws.length → H p = none → Q (.ref p) (upd H p (TsetO P w p l))
theorem cr_setTx {X : Cx} (hc : X.calm = true) : CallR X (.type "set") (oSetTx X.K X.prog X.w) := by
  intro pins s σ H vs us Q I r h
  obtain ⟨a, ws, rfl, hq, hb, q⟩ := h
  rw [Vals.ref1 r]
  rcases hq with hq | hq
  · obtain ⟨its, rv, pl, hz⟩ := I.list hq
    obtain ⟨e1, e2⟩ := strs_vals rv
    refine set_list (P := X.prog) (w := X.w) ws (I.ok.hd hc) pl.isList (by simpa using e1) (by simpa using e2) hb fun h' tk l' R nd mm ll k => ?_
    exact ⟨.ref s.heap.objs.size, upd H s.heap.objs.size (TsetO X.prog X.w s.heap.objs.size l'), I.laid (t' := tk) k (Nat.le_refl _) (tsetO_new R), rfl, q _ _ nd mm ll (I.hok.fresh (Nat.le_refl _))⟩
  · obtain ⟨its, rv, pl, hz⟩ := I.tuple hq
    obtain ⟨e1, e2⟩ := strs_vals rv
    refine set_tuple (P := X.prog) (w := X.w) ws (I.ok.hd hc) pl (by simpa using e1) (by simpa using e2) hb fun h' tk l' R nd mm ll k => ?_
    exact ⟨.ref s.heap.objs.size, upd H s.heap.objs.size (TsetO X.prog X.w s.heap.objs.size l'), I.laid (t' := tk) k (Nat.le_refl _) (tsetO_new R), rfl, q _ _ nd mm ll (I.hok.fresh (Nat.le_refl _))⟩
def oSortTx (P : Program) (w : World) : List V → Hp → VK → Prop := fun vs H Q => ∃ (a : Addr) (l : List Str), vs = [.ref a] ∧ H a = some (TsetO P w a l) ∧ l.length < scanBound ∧
  ∀ (bs : List Str) (p : Addr), bs.Perm l → H p = none → Q (.ref p) (upd H p (.lst ((bs.mergeSort (PySem.W.dataLe false PyData.str)).map V.str)))
theorem cr_sortTx {X : Cx} (hc : X.calm = true) (hu : X.A.units + 66 < cLine) : CallR X (.builtin "sorted") (oSortTx X.prog X.w) := by
  intro pins s σ H vs us Q I r h
  obtain ⟨a, l, rfl, ha, hb, q⟩ := h
  have R0 : Tset X.prog X.w s.heap a l := (I.hok a _ ha).1
  rw [Vals.ref1 r]
  refine sorted_tset R0 (I.ok.hd hc) (by omega) hb fun s' p bs out c k g o hp hg pm eo => ?_
  have hn : H p = none := I.hok.fresh hp
  have hv := vals_strs eo
  have hlen : ((bs.mergeSort (PySem.W.dataLe false PyData.str)).map V.str).length ≤ sizeLine := by
    rw [List.length_map, List.length_mergeSort, pm.length_eq]
    exact Nat.le_trans (Nat.le_of_lt hb) (by decide)
  have J : Inv X pins σ (upd H p (.lst ((bs.mergeSort (PySem.W.dataLe false PyData.str)).map V.str))) { s with heap := s'.heap, gens := s'.gens, drawn := s'.drawn, toks := s'.toks } :=
    I.call (ch := []) (Un.laid k hp hn) (I.hok.laid k hp ⟨hlen, out.toList, c, hv, hg⟩) (by rw [g]; exact I.bare) (fun _ z => nomatch z)
  have e : s' = { s with heap := s'.heap, gens := s'.gens, drawn := s'.drawn, toks := s'.toks } := by
    cases s'
    cases s
    cases o
    rfl
  rw [e]
  exact ⟨.ref p, _, J, rfl, q bs p pm hn⟩
/-- sorted(set(xs)), xs texts -/
def rSortSet : PRA := fun ps h Q => match ps with
  | [p] => (match listed h p with
    | some xs => ∃ ws : List Str, xs = ws.map PV.str ∧ ws.length < 4000 ∧ ∀ bs : List Str, bs.Nodup → (∀ x, x ∈ bs ↔ x ∈ ws) → bs.length ≤ ws.length → Q (.lst ((bs.mergeSort (PySem.W.dataLe false PyData.str)).map PV.str)) h
    | none => False)
  | _ => False
theorem le_sortSet {X : Cx} {pos pos2 p p2 : Pos} {e : Expr} {m : MA} (hc : X.calm = true) (hu : X.A.units + 66 < cLine) (hm : X.mg "sorted" = none) (hm2 : X.mg "set" = none) (ha : LAn X [e] 1 m) (hg : Gl X "sorted" := by rfl) (hg2 : Gl X "set" := by rfl) (h1 : starEach [e] X.env = (false, eval e X.env) :: starEach [] X.env := by rfl) :
    LE X (.Call (.Name "sorted" p) [.Call (.Name "set" p2) [e] [] pos2] [] pos) (mBlt rSortSet m) := by
  have he : PE X (.Call (.Name "set" p2) [e] [] pos2) (tCB (oSetTx X.K X.prog X.w) (upL X.K 1 m)) := pe_callTy (T := "set") (cr_setTx hc) hg2 hm2 (by decide +kernel) ha (by decide) (by decide) h1 rfl
  refine PE.weak (PE.kp (pe_callB (id := "sorted") (cr_sortTx hc hu) hg hm (by decide +kernel) (pa_cons he pa_nil rfl) (by decide) (by decide) rfl rfl)) fun σ H Q ⟨τ, h, Q', s, sh, q, l⟩ => ?_
  refine ⟨τ, h, _, s, sh, q, fun ps h1 vs H1 q1 hl m1 r1 s1 => ?_⟩
  unfold rSortSet at q1
  split at q1
  · split at q1
    · rename_i p _ qs e
      obtain ⟨v, rfl, r2⟩ := r1.one
      obtain ⟨a, ys, rfl, hq, rr⟩ := listed_sq r2 s1 e
      obtain ⟨ws, rfl, wl, q1⟩ := q1
      have := rels_txs rr
      subst this
      refine ⟨a, ws, rfl, hq, by unfold scanBound; omega, fun p l' nd mm ll hp => ⟨p, l', rfl, upd_same, by unfold scanBound; omega, fun bs p2 pm hp2 => ?_⟩⟩
      exact keep_l ((l.mono m1).mono (Go.new hp)) (s1.new hp) (txs_rels _) (q1 bs (pm.nodup_iff.mpr nd) (fun x => pm.mem_iff.trans (mm x)) (by rw [pm.length_eq]; exact ll)) hp2
    · exact q1.elim
  · exact q1.elim
end N3

namespace N3
open PySem PySem.Spec PyProof.Rows L2

/-! ### the deck that the laws draw from -/
abbrev kLeft : Key := .inr ("cells" : Str)
abbrev kEvery : Key := .inr ("stir" : Str)
abbrev kGone : Key := .inr ("turn" : Str)
abbrev dkeys : List Key := [kLeft, kEvery, kGone]
theorem lk_left {a b c : PV} : lk dkeys [a, b, c] (.inr ("cells" : Str)) = some a := if_pos rfl
theorem lk_every {a b c : PV} : lk dkeys [a, b, c] (.inr ("stir" : Str)) = some b := by
  have h : ¬ (kLeft = kEvery) := by decide +kernel
  exact (if_neg h).trans (if_pos rfl)
theorem lk_gone {a b c : PV} : lk dkeys [a, b, c] (.inr ("turn" : Str)) = some c := by
  have h : ¬ (kLeft = kGone) := by decide +kernel
  have h2 : ¬ (kEvery = kGone) := by decide +kernel
  exact (if_neg h).trans ((if_neg h2).trans (if_pos rfl))
theorem pk_gone : pk dkeys (.inr ("turn" : Str)) = dkeys := by
  have h : hasK dkeys kGone = true := by decide +kernel
  exact if_pos h
theorem pvs_gone {a b c v : PV} : pvs dkeys [a, b, c] (.inr ("turn" : Str)) v = [a, b, v] := by
  have h : hasK dkeys kGone = true := by decide +kernel
  have h1 : ¬ (kLeft = kGone) := by decide +kernel
  have h2 : ¬ (kEvery = kGone) := by decide +kernel
  refine (if_pos h).trans ?_
  show [if kLeft = kGone then v else a, if kEvery = kGone then v else b, if kGone = kGone then v else c] = _
  rw [if_neg h1, if_neg h2, if_pos rfl]
/-- a deck's two objects, and all else -/
structure Dk where
  d : Addr
  l : Addr
  ev : Int
  h0 : PH
  ne : d ≠ l
def Dk.hp (D : Dk) (xs : List Int) (gone : Int) : PH := up (up D.h0 D.d (.dct dkeys [.ref D.l, .int D.ev, .int gone])) D.l (.lst (xs.map PV.int))
/-- at most n draws have been made -/
def Dk.At (D : Dk) (n : Nat) (h : PH) : Prop := ∃ (xs : List Int) (gone : Int), xs.length ≤ 63 ∧ 0 ≤ gone ∧ gone ≤ n ∧ h = D.hp xs gone
theorem Dk.At.mono {D : Dk} {n m : Nat} {h : PH} (a : D.At n h) (hm : n ≤ m) : D.At m h := by
  obtain ⟨xs, g, h1, h2, h3, e⟩ := a
  exact ⟨xs, g, h1, h2, by omega, e⟩
section
variable {D : Dk} {xs ys : List Int} {g g' : Int}
theorem Dk.at_d : D.hp xs g D.d = some (.dct dkeys [.ref D.l, .int D.ev, .int g]) := by unfold Dk.hp; rw [up_ne D.ne, up_same]
theorem Dk.at_l : D.hp xs g D.l = some (.lst (xs.map PV.int)) := by unfold Dk.hp; rw [up_same]
theorem Dk.put_d : up (D.hp xs g) D.d (.dct dkeys [.ref D.l, .int D.ev, .int g']) = D.hp xs g' := by
  unfold Dk.hp; rw [up_swap D.ne.symm, up_up]
theorem Dk.put_l : up (D.hp xs g) D.l (.lst (ys.map PV.int)) = D.hp ys g := by unfold Dk.hp; rw [up_up]
end
/-- draw(deck, many): any number below many -/
def spDraw : SpP := fun ps h Q => ∃ (D : Dk) (n : Nat) (many : Int), ps = [.ref D.d, .int many] ∧ D.At n h ∧ n < 1000000000 ∧ 1 ≤ many ∧ many < 1073741824 ∧ ∀ r h', 0 ≤ r → r < many → D.At (n + 1) h' → Q (.int r) h'
/-- deck(script) -/
def spDeck : SpP := fun ps h Q => ∃ ns : List Int, ps = [.lst (ns.map PV.int)] ∧ ns.length ≤ 63 ∧ ∀ (D : Dk) (h' : PH), D.h0 = h → D.At 0 h' → Q (.ref D.d) h'
def mDraw : MS :=
  mSeq (mDput (mB rAdd (mB rIx (mVar 0) (mC (.str "turn"))) (mC (.int 1))) (mVar 0) (mC (.str "turn")))
  (mSeq (mPar 2 3 (mCons (mB rIx (mVar 0) (mC (.str "turn"))) (mCons (mB rIx (mVar 0) (mC (.str "stir"))) (mNil))))
  (mSeq (mIfS (mTest (mB rNe (mB rIx (mVar 0) (mC (.str "cells"))) (mLst (mNil)))) (mSeq (mAsg (mPop (mB rIx (mVar 0) (mC (.str "cells")))) (gN 4))
  (mSeq (mIfS (mTest (mB rGe (mVar 4) (mB rPow (mC (.int 10)) (mC (.int 18))))) (mSeq (mDrop (mAppend (mB rIx (mVar 0) (mC (.str "cells"))) (mCons (mB rDiv (mVar 4) (mVar 1)) (mNil))))
  (mRet (mB rMod (mVar 4) (mVar 1)))) (mNx))
  (mAsg (mB rAdd (mVar 3) (mB rMod (mVar 4) (mC (.int 2147483629)))) (gN 3)))) (mNx))
  (mSeq (mAsg (mB rMod (mB rMul (mB rAdd (mVar 3) (mB rMul (mB rMul (mC (.int 52361)) (mVar 2)) (mVar 2))) (mC (.int 48271))) (mC (.int 2147483647))) (gN 3))
  (mSeq (mAsg (mB rMod (mB rAdd (mB rAdd (mB rMul (mVar 3) (mVar 3)) (mB rMul (mC (.int 30011)) (mVar 2))) (mC (.int 5))) (mC (.int 2147483579))) (gN 3))
  (mRet (mB rMod (mB rDiv (mB rMod (mB rMul (mVar 3) (mB rAdd (mB rDiv (mVar 3) (mC (.int 3))) (mC (.int 69621)))) (mC (.int 2147483563))) (mC (.int 32))) (mVar 1)))))))
/-- behind a statement: what its end hands on -/
theorem seq_mid {a b : MS} {D : PEnds} {τ : PSt} {h : PH} (mid : PSt → PH → Prop) (hb : ∀ τ h, mid τ h → b D τ h) (ha : ∀ P : PSt → PH → Prop, (∀ τ h, mid τ h → P τ h) → a { D with nx := P } τ h) : mSeq a b D τ h := ha (b D) hb
/-- a statement by itself, what follows unseen -/
theorem seq_step {a b : MS} {D : PEnds} {τ : PSt} {h : PH} (ha : ∀ P : PSt → PH → Prop, P = b D → a { D with nx := P } τ h) : mSeq a b D τ h := ha _ rfl
/-! ### loops by what holds at each turn -/
theorem forL_of {gd : PH → Prop} {g : MG} {b : MS} {D : PEnds} (W : List PV → PSt → PH → Prop)
    (step : ∀ p ps τ h, W (p :: ps) τ h → gd h ∧ ∀ P : PSt → PH → Prop, (∀ τ h, W ps τ h → P τ h) → g p τ h fun τ1 h1 => b { D with nx := P, ct := P, bk := D.nx } τ1 h1)
    (fin : ∀ τ h, W [] τ h → gd h ∧ D.nx τ h) : ∀ ps τ h, W ps τ h → forL gd g b D ps τ h
  | [], τ, h, w => fin τ h w
  | p :: ps, τ, h, w => ⟨(step p ps τ h w).1, (step p ps τ h w).2 (forL gd g b D ps) fun τ h w => forL_of W step fin ps τ h w⟩
theorem lcL_of {gd : PH → Prop} {τ : PSt} {g : MG} {t : MT} {m : ME} {Q : List PV → PH → Prop} (W : List PV → List PV → PH → Prop)
    (step : ∀ p ps acc h, W (p :: ps) acc h → gd h ∧ ∀ P : List PV → PH → Prop, (∀ acc h, W ps acc h → P acc h) → g p τ h fun τ1 h1 => t τ1 h1 fun b h2 => if b = true then m τ1 h2 fun v h3 => P (acc ++ [v]) h3 else P acc h2)
    (fin : ∀ acc h, W [] acc h → gd h ∧ Q acc h) : ∀ ps acc h, W ps acc h → lcL gd τ g t m ps acc h Q
  | [], acc, h, w => fin acc h w
  | p :: ps, acc, h, w => ⟨(step p ps acc h w).1, (step p ps acc h w).2 (fun acc h => lcL gd τ g t m ps acc h Q) fun acc h w => lcL_of W step fin ps acc h w⟩
theorem flats_ints : ∀ ns : List Int, flats (ns.map PV.int) = true
  | [] => rfl
  | n :: ns => by show (true && flats (ns.map PV.int)) = true; rw [flats_ints ns]; rfl
theorem depths_ints : ∀ ns : List Int, PyData.depthAll (toDs (ns.map PV.int)) = 0
  | [] => by simp [toDs, PyData.depthAll]
  | n :: ns => by
    have ih := depths_ints ns
    simp [toDs, toD, PyData.depthAll, PyData.depth, ih]
theorem depth_ints (ns : List Int) : (PyData.list (toDs (ns.map PV.int))).depth ≤ 64 := by
  simp [PyData.depth, depths_ints]
theorem Dk.list_l {D : Dk} {xs : List Int} {g : Int} : listAt (D.hp xs g) (.ref D.l) := ⟨_, _, rfl, Dk.at_l⟩
/-- a comprehension whose turns change nothing: the items' answers -/
theorem lcL_map {gd : PH → Prop} {τ : PSt} {g : MG} {m : ME} {h : PH} {Q : List PV → PH → Prop} (f : PV → PV) (hg : gd h) :
    ∀ (ps acc : List PV), (∀ p ∈ ps, ∀ P : PV → PH → Prop, P (f p) h → g p τ h fun τ1 h1 => m τ1 h1 P) → Q (acc ++ ps.map f) h → lcL gd τ g mYes m ps acc h Q
  | [], acc, _, q => ⟨hg, by simpa using q⟩
  | p :: ps, acc, hs, q => by
    refine ⟨hg, ?_⟩
    have z := hs p List.mem_cons_self (fun v h3 => lcL gd τ g mYes m ps (acc ++ [v]) h3 Q) (lcL_map f hg ps _ (fun x hx => hs x (List.mem_cons_of_mem _ hx)) (by simpa using q))
    simpa only [mYes, if_true] using z
def mDeck : MS :=
  mSeq (mPar 1 2 (mCons (mBlt rListA (mCons (mSl (mVar 0) (mNoPart) (mPart (mC (.int 63)))) (mNil))) (mCons (mC (.int 104729)) (mNil))))
  (mSeq (mFor (mSeqs (mVar 1)) (gN 3) (mAsg (mB rMod (mB rAdd (mB rAdd (mB rMul (mVar 2) (mC (.int 75577))) (mB rMod (mVar 3) (mC (.int 2147483629)))) (mC (.int 7))) (mC (.int 2147483587))) (gN 2)))
  (mRet (mDispM [(mC (.str "cells"), mRevM (mVar 1)), (mC (.str "stir"), mVar 2), (mC (.str "turn"), mC (.int 0))])))
theorem emod_ex {z n : Int} {R : Int → Prop} (hn : 0 < n) (k : ∀ w, 0 ≤ w → w < n → R w) : R (z % n) := k _ (Int.emod_nonneg _ (by omega)) (Int.emod_lt_of_pos _ hn)
theorem pure_draw : ∀ qs h Q, qs.length = 2 → spDraw qs h Q → mDraw (ends Q) (sp0 5 qs) h := by
  rintro _ _ Q - ⟨D, n, many, rfl, ⟨xs, gone, hx, hg0, hgn, rfl⟩, hn, hm1, hm2, k⟩
  unfold mDraw
  have many0 : (0 : Int) < many := by omega
  have fin : ∀ (ys : List Int) (r : Int), ys.length ≤ 63 → 0 ≤ r → r < many → Q (.int r) (D.hp ys (gone + 1)) := fun ys r hy h1 h2 => k r _ h1 h2 ⟨ys, gone + 1, hy, by omega, by omega, rfl⟩
  refine seq_step fun P hP => ?_
  simp only [N3.mDput, N3.mB, N3.mU, N3.mVar, N3.mC, N3.sp0, N3.gt, N3.st, N3.rIx, N3.seqL, N3.dctL, N3.kOf, N3.rAdd, N3.mAsg, N3.gN, N3.mIfS, N3.mTest, N3.mPop, N3.mAppend, N3.mDrop, N3.mRet, N3.mRetN, N3.mNx, N3.mBrk, N3.mCnt, N3.mLst, N3.mLstM, N3.mCons, N3.mNil, N3.mTup, N3.mBlt, N3.mKw, N3.cat2, N3.cat2r, N3.gS, N3.gL, N3.mSlM, N3.rSlM, N3.mM1, N3.mSl, N3.mRev, N3.mStep, N3.mRevM, N3.mPart, N3.mNoPart, N3.rII, N3.rII0, N3.rIB, N3.rCmp, N3.rLt, N3.rLe, N3.rGt, N3.rGe, N3.mIsI, N3.tn, N3.isI, N3.mDisp, N3.mDct0, N3.mDct0M, N3.mPar3, N3.mAug, N3.rIAdd, N3.mExtend, N3.mInsert, N3.mPopAt, N3.rMin2, N3.rMax2, N3.rIntT, N3.rSplit, N3.rSplitM, N3.rAddM, N3.gPut, N3.mFmt, N3.mJs, N3.mJoin, N3.rDictP, N3.mRepM, N3.rListA, N3.rSortA, N3.mLc2, N3.lcI, N3.lcO, N3.rAllB, N3.rAnyB, N3.rStrI, N3.rIntO, N3.vwL, N3.rMul, N3.rMulT, N3.rNeg, N3.rSub, N3.rDiv, N3.rMod, N3.rPow, N3.mPar, N3.mAndT, N3.mOrT, N3.mNotT, N3.mAnd, N3.mOr, N3.mOrV, N3.mAndV, N3.trv, N3.mNot, N3.mIf, N3.mChn, N3.mKeep, N3.mRep, N3.mDispM, N3.mPs, N3.ends, N3.rLen, N3.rListOf, N3.rListOfM, N3.rTupOf, N3.rSumI, N3.listed, N3.rSl, N3.rRev, N3.rEq, N3.rNe, N3.rIsN, N3.rNotN, N3.isNon, N3.vw, N3.mYes, N3.gT, N3.gsCons, N3.gsNil, N3.mFor, N3.mSeqs, N3.mLc, N3.mLcM, N3.mRng1, N3.mRng2, N3.mEnum, N3.mEnumA, N3.mZip, N3.wp, N3.rJoin, N3.rSS, N3.rIdxS, N3.rRepr, N3.flat, N3.flats, N3.toD, N3.toDs, List.length_cons, List.length_nil, List.append_eq, List.cons_append, List.nil_append, List.map_cons, List.map_nil, if_true, if_false, Bool.false_eq_true, decide_eq_true_eq, Option.some.injEq, true_and, and_true, Bool.not_true, Bool.not_false, reduceCtorEq, Bool.and_self, Bool.and_true, Bool.true_and, ite_true, ite_false, Dk.at_d, Dk.at_l, lk_gone, pk_gone, pvs_gone, Dk.put_d]
  refine ⟨by decide, ?_⟩
  subst hP
  refine seq_step fun P hP => ?_
  simp only [N3.mDput, N3.mB, N3.mU, N3.mVar, N3.mC, N3.sp0, N3.gt, N3.st, N3.rIx, N3.seqL, N3.dctL, N3.kOf, N3.rAdd, N3.mAsg, N3.gN, N3.mIfS, N3.mTest, N3.mPop, N3.mAppend, N3.mDrop, N3.mRet, N3.mRetN, N3.mNx, N3.mBrk, N3.mCnt, N3.mLst, N3.mLstM, N3.mCons, N3.mNil, N3.mTup, N3.mBlt, N3.mKw, N3.cat2, N3.cat2r, N3.gS, N3.gL, N3.mSlM, N3.rSlM, N3.mM1, N3.mSl, N3.mRev, N3.mStep, N3.mRevM, N3.mPart, N3.mNoPart, N3.rII, N3.rII0, N3.rIB, N3.rCmp, N3.rLt, N3.rLe, N3.rGt, N3.rGe, N3.mIsI, N3.tn, N3.isI, N3.mDisp, N3.mDct0, N3.mDct0M, N3.mPar3, N3.mAug, N3.rIAdd, N3.mExtend, N3.mInsert, N3.mPopAt, N3.rMin2, N3.rMax2, N3.rIntT, N3.rSplit, N3.rSplitM, N3.rAddM, N3.gPut, N3.mFmt, N3.mJs, N3.mJoin, N3.rDictP, N3.mRepM, N3.rListA, N3.rSortA, N3.mLc2, N3.lcI, N3.lcO, N3.rAllB, N3.rAnyB, N3.rStrI, N3.rIntO, N3.vwL, N3.rMul, N3.rMulT, N3.rNeg, N3.rSub, N3.rDiv, N3.rMod, N3.rPow, N3.mPar, N3.mAndT, N3.mOrT, N3.mNotT, N3.mAnd, N3.mOr, N3.mOrV, N3.mAndV, N3.trv, N3.mNot, N3.mIf, N3.mChn, N3.mKeep, N3.mRep, N3.mDispM, N3.mPs, N3.ends, N3.rLen, N3.rListOf, N3.rListOfM, N3.rTupOf, N3.rSumI, N3.listed, N3.rSl, N3.rRev, N3.rEq, N3.rNe, N3.rIsN, N3.rNotN, N3.isNon, N3.vw, N3.mYes, N3.gT, N3.gsCons, N3.gsNil, N3.mFor, N3.mSeqs, N3.mLc, N3.mLcM, N3.mRng1, N3.mRng2, N3.mEnum, N3.mEnumA, N3.mZip, N3.wp, N3.rJoin, N3.rSS, N3.rIdxS, N3.rRepr, N3.flat, N3.flats, N3.toD, N3.toDs, List.length_cons, List.length_nil, List.append_eq, List.cons_append, List.nil_append, List.map_cons, List.map_nil, if_true, if_false, Bool.false_eq_true, decide_eq_true_eq, Option.some.injEq, true_and, and_true, Bool.not_true, Bool.not_false, reduceCtorEq, Bool.and_self, Bool.and_true, Bool.true_and, ite_true, ite_false, Dk.at_d, Dk.at_l, lk_gone, lk_every]
  subst hP
  refine seq_step fun P hP => ?_
  have rest : ∀ (ys : List Int) (c : Int) (w : Option PV), ys.length ≤ 63 → P [some (PV.ref D.d), some (PV.int many), some (PV.int (gone + 1)), some (PV.int c), w] (D.hp ys (gone + 1)) := by
    intro ys c w hy
    subst hP
    refine seq_step fun P hP => ?_
    simp only [N3.mDput, N3.mB, N3.mU, N3.mVar, N3.mC, N3.sp0, N3.gt, N3.st, N3.rIx, N3.seqL, N3.dctL, N3.kOf, N3.rAdd, N3.mAsg, N3.gN, N3.mIfS, N3.mTest, N3.mPop, N3.mAppend, N3.mDrop, N3.mRet, N3.mRetN, N3.mNx, N3.mBrk, N3.mCnt, N3.mLst, N3.mLstM, N3.mCons, N3.mNil, N3.mTup, N3.mBlt, N3.mKw, N3.cat2, N3.cat2r, N3.gS, N3.gL, N3.mSlM, N3.rSlM, N3.mM1, N3.mSl, N3.mRev, N3.mStep, N3.mRevM, N3.mPart, N3.mNoPart, N3.rII, N3.rII0, N3.rIB, N3.rCmp, N3.rLt, N3.rLe, N3.rGt, N3.rGe, N3.mIsI, N3.tn, N3.isI, N3.mDisp, N3.mDct0, N3.mDct0M, N3.mPar3, N3.mAug, N3.rIAdd, N3.mExtend, N3.mInsert, N3.mPopAt, N3.rMin2, N3.rMax2, N3.rIntT, N3.rSplit, N3.rSplitM, N3.rAddM, N3.gPut, N3.mFmt, N3.mJs, N3.mJoin, N3.rDictP, N3.mRepM, N3.rListA, N3.rSortA, N3.mLc2, N3.lcI, N3.lcO, N3.rAllB, N3.rAnyB, N3.rStrI, N3.rIntO, N3.vwL, N3.rMul, N3.rMulT, N3.rNeg, N3.rSub, N3.rDiv, N3.rMod, N3.rPow, N3.mPar, N3.mAndT, N3.mOrT, N3.mNotT, N3.mAnd, N3.mOr, N3.mOrV, N3.mAndV, N3.trv, N3.mNot, N3.mIf, N3.mChn, N3.mKeep, N3.mRep, N3.mDispM, N3.mPs, N3.ends, N3.rLen, N3.rListOf, N3.rListOfM, N3.rTupOf, N3.rSumI, N3.listed, N3.rSl, N3.rRev, N3.rEq, N3.rNe, N3.rIsN, N3.rNotN, N3.isNon, N3.vw, N3.mYes, N3.gT, N3.gsCons, N3.gsNil, N3.mFor, N3.mSeqs, N3.mLc, N3.mLcM, N3.mRng1, N3.mRng2, N3.mEnum, N3.mEnumA, N3.mZip, N3.wp, N3.rJoin, N3.rSS, N3.rIdxS, N3.rRepr, N3.flat, N3.flats, N3.toD, N3.toDs, List.length_cons, List.length_nil, List.append_eq, List.cons_append, List.nil_append, List.map_cons, List.map_nil, if_true, if_false, Bool.false_eq_true, decide_eq_true_eq, Option.some.injEq, true_and, and_true, Bool.not_true, Bool.not_false, reduceCtorEq, Bool.and_self, Bool.and_true, Bool.true_and, ite_true, ite_false]
    refine ⟨.inl (by decide), .inr ⟨by omega, by omega⟩, .inr (by decide), by decide, ?_⟩
    refine emod_ex (R := fun z => P [some (PV.ref D.d), some (PV.int many), some (PV.int (gone + 1)), some (PV.int z), w] (D.hp ys (gone + 1))) (by decide) fun z z0 z1 => ?_
    subst hP
    refine seq_step fun P hP => ?_
    simp only [N3.mDput, N3.mB, N3.mU, N3.mVar, N3.mC, N3.sp0, N3.gt, N3.st, N3.rIx, N3.seqL, N3.dctL, N3.kOf, N3.rAdd, N3.mAsg, N3.gN, N3.mIfS, N3.mTest, N3.mPop, N3.mAppend, N3.mDrop, N3.mRet, N3.mRetN, N3.mNx, N3.mBrk, N3.mCnt, N3.mLst, N3.mLstM, N3.mCons, N3.mNil, N3.mTup, N3.mBlt, N3.mKw, N3.cat2, N3.cat2r, N3.gS, N3.gL, N3.mSlM, N3.rSlM, N3.mM1, N3.mSl, N3.mRev, N3.mStep, N3.mRevM, N3.mPart, N3.mNoPart, N3.rII, N3.rII0, N3.rIB, N3.rCmp, N3.rLt, N3.rLe, N3.rGt, N3.rGe, N3.mIsI, N3.tn, N3.isI, N3.mDisp, N3.mDct0, N3.mDct0M, N3.mPar3, N3.mAug, N3.rIAdd, N3.mExtend, N3.mInsert, N3.mPopAt, N3.rMin2, N3.rMax2, N3.rIntT, N3.rSplit, N3.rSplitM, N3.rAddM, N3.gPut, N3.mFmt, N3.mJs, N3.mJoin, N3.rDictP, N3.mRepM, N3.rListA, N3.rSortA, N3.mLc2, N3.lcI, N3.lcO, N3.rAllB, N3.rAnyB, N3.rStrI, N3.rIntO, N3.vwL, N3.rMul, N3.rMulT, N3.rNeg, N3.rSub, N3.rDiv, N3.rMod, N3.rPow, N3.mPar, N3.mAndT, N3.mOrT, N3.mNotT, N3.mAnd, N3.mOr, N3.mOrV, N3.mAndV, N3.trv, N3.mNot, N3.mIf, N3.mChn, N3.mKeep, N3.mRep, N3.mDispM, N3.mPs, N3.ends, N3.rLen, N3.rListOf, N3.rListOfM, N3.rTupOf, N3.rSumI, N3.listed, N3.rSl, N3.rRev, N3.rEq, N3.rNe, N3.rIsN, N3.rNotN, N3.isNon, N3.vw, N3.mYes, N3.gT, N3.gsCons, N3.gsNil, N3.mFor, N3.mSeqs, N3.mLc, N3.mLcM, N3.mRng1, N3.mRng2, N3.mEnum, N3.mEnumA, N3.mZip, N3.wp, N3.rJoin, N3.rSS, N3.rIdxS, N3.rRepr, N3.flat, N3.flats, N3.toD, N3.toDs, List.length_cons, List.length_nil, List.append_eq, List.cons_append, List.nil_append, List.map_cons, List.map_nil, if_true, if_false, Bool.false_eq_true, decide_eq_true_eq, Option.some.injEq, true_and, and_true, Bool.not_true, Bool.not_false, reduceCtorEq, Bool.and_self, Bool.and_true, Bool.true_and, ite_true, ite_false]
    refine ⟨.inl ⟨by omega, by omega⟩, .inl (by decide), by decide, ?_⟩
    refine emod_ex (R := fun z => P [some (PV.ref D.d), some (PV.int many), some (PV.int (gone + 1)), some (PV.int z), w] (D.hp ys (gone + 1))) (by decide) fun y y0 y1 => ?_
    subst hP
    simp only [N3.mDput, N3.mB, N3.mU, N3.mVar, N3.mC, N3.sp0, N3.gt, N3.st, N3.rIx, N3.seqL, N3.dctL, N3.kOf, N3.rAdd, N3.mAsg, N3.gN, N3.mIfS, N3.mTest, N3.mPop, N3.mAppend, N3.mDrop, N3.mRet, N3.mRetN, N3.mNx, N3.mBrk, N3.mCnt, N3.mLst, N3.mLstM, N3.mCons, N3.mNil, N3.mTup, N3.mBlt, N3.mKw, N3.cat2, N3.cat2r, N3.gS, N3.gL, N3.mSlM, N3.rSlM, N3.mM1, N3.mSl, N3.mRev, N3.mStep, N3.mRevM, N3.mPart, N3.mNoPart, N3.rII, N3.rII0, N3.rIB, N3.rCmp, N3.rLt, N3.rLe, N3.rGt, N3.rGe, N3.mIsI, N3.tn, N3.isI, N3.mDisp, N3.mDct0, N3.mDct0M, N3.mPar3, N3.mAug, N3.rIAdd, N3.mExtend, N3.mInsert, N3.mPopAt, N3.rMin2, N3.rMax2, N3.rIntT, N3.rSplit, N3.rSplitM, N3.rAddM, N3.gPut, N3.mFmt, N3.mJs, N3.mJoin, N3.rDictP, N3.mRepM, N3.rListA, N3.rSortA, N3.mLc2, N3.lcI, N3.lcO, N3.rAllB, N3.rAnyB, N3.rStrI, N3.rIntO, N3.vwL, N3.rMul, N3.rMulT, N3.rNeg, N3.rSub, N3.rDiv, N3.rMod, N3.rPow, N3.mPar, N3.mAndT, N3.mOrT, N3.mNotT, N3.mAnd, N3.mOr, N3.mOrV, N3.mAndV, N3.trv, N3.mNot, N3.mIf, N3.mChn, N3.mKeep, N3.mRep, N3.mDispM, N3.mPs, N3.ends, N3.rLen, N3.rListOf, N3.rListOfM, N3.rTupOf, N3.rSumI, N3.listed, N3.rSl, N3.rRev, N3.rEq, N3.rNe, N3.rIsN, N3.rNotN, N3.isNon, N3.vw, N3.mYes, N3.gT, N3.gsCons, N3.gsNil, N3.mFor, N3.mSeqs, N3.mLc, N3.mLcM, N3.mRng1, N3.mRng2, N3.mEnum, N3.mEnumA, N3.mZip, N3.wp, N3.rJoin, N3.rSS, N3.rIdxS, N3.rRepr, N3.flat, N3.flats, N3.toD, N3.toDs, List.length_cons, List.length_nil, List.append_eq, List.cons_append, List.nil_append, List.map_cons, List.map_nil, if_true, if_false, Bool.false_eq_true, decide_eq_true_eq, Option.some.injEq, true_and, and_true, Bool.not_true, Bool.not_false, reduceCtorEq, Bool.and_self, Bool.and_true, Bool.true_and, ite_true, ite_false]
    exact ⟨⟨by decide, by decide⟩, .inl ⟨by omega, by omega⟩, by decide, ⟨by decide, by decide⟩, many0, fin ys _ hy (Int.emod_nonneg _ (by omega)) (Int.emod_lt_of_pos _ many0)⟩
  simp only [N3.mDput, N3.mB, N3.mU, N3.mVar, N3.mC, N3.sp0, N3.gt, N3.st, N3.rIx, N3.seqL, N3.dctL, N3.kOf, N3.rAdd, N3.mAsg, N3.gN, N3.mIfS, N3.mTest, N3.mPop, N3.mAppend, N3.mDrop, N3.mRet, N3.mRetN, N3.mNx, N3.mBrk, N3.mCnt, N3.mLst, N3.mLstM, N3.mCons, N3.mNil, N3.mTup, N3.mBlt, N3.mKw, N3.cat2, N3.cat2r, N3.gS, N3.gL, N3.mSlM, N3.rSlM, N3.mM1, N3.mSl, N3.mRev, N3.mStep, N3.mRevM, N3.mPart, N3.mNoPart, N3.rII, N3.rII0, N3.rIB, N3.rCmp, N3.rLt, N3.rLe, N3.rGt, N3.rGe, N3.mIsI, N3.tn, N3.isI, N3.mDisp, N3.mDct0, N3.mDct0M, N3.mPar3, N3.mAug, N3.rIAdd, N3.mExtend, N3.mInsert, N3.mPopAt, N3.rMin2, N3.rMax2, N3.rIntT, N3.rSplit, N3.rSplitM, N3.rAddM, N3.gPut, N3.mFmt, N3.mJs, N3.mJoin, N3.rDictP, N3.mRepM, N3.rListA, N3.rSortA, N3.mLc2, N3.lcI, N3.lcO, N3.rAllB, N3.rAnyB, N3.rStrI, N3.rIntO, N3.vwL, N3.rMul, N3.rMulT, N3.rNeg, N3.rSub, N3.rDiv, N3.rMod, N3.rPow, N3.mPar, N3.mAndT, N3.mOrT, N3.mNotT, N3.mAnd, N3.mOr, N3.mOrV, N3.mAndV, N3.trv, N3.mNot, N3.mIf, N3.mChn, N3.mKeep, N3.mRep, N3.mDispM, N3.mPs, N3.ends, N3.rLen, N3.rListOf, N3.rListOfM, N3.rTupOf, N3.rSumI, N3.listed, N3.rSl, N3.rRev, N3.rEq, N3.rNe, N3.rIsN, N3.rNotN, N3.isNon, N3.vw, N3.mYes, N3.gT, N3.gsCons, N3.gsNil, N3.mFor, N3.mSeqs, N3.mLc, N3.mLcM, N3.mRng1, N3.mRng2, N3.mEnum, N3.mEnumA, N3.mZip, N3.wp, N3.rJoin, N3.rSS, N3.rIdxS, N3.rRepr, N3.flat, N3.flats, N3.toD, N3.toDs, List.length_cons, List.length_nil, List.append_eq, List.cons_append, List.nil_append, List.map_cons, List.map_nil, if_true, if_false, Bool.false_eq_true, decide_eq_true_eq, Option.some.injEq, true_and, and_true, Bool.not_true, Bool.not_false, reduceCtorEq, Bool.and_self, Bool.and_true, Bool.true_and, ite_true, ite_false, Dk.at_d, Dk.at_l, lk_left]
  refine ⟨flats_ints _, depth_ints _, ?_⟩
  rcases List.eq_nil_or_concat xs with rfl | ⟨ys, c, rfl⟩
  · rw [if_neg (by decide)]
    exact rest _ _ _ hx
  · rw [List.concat_eq_append] at hx ⊢
    rw [List.length_append] at hx
    have h1 : (!(PyData.list (toDs (List.map PV.int (ys ++ [c])))).eqv (PyData.list [])) = true := by
      cases ys <;> rfl
    rw [if_pos h1]
    refine seq_step fun P' hP' => ?_
    simp only [N3.mDput, N3.mB, N3.mU, N3.mVar, N3.mC, N3.sp0, N3.gt, N3.st, N3.rIx, N3.seqL, N3.dctL, N3.kOf, N3.rAdd, N3.mAsg, N3.gN, N3.mIfS, N3.mTest, N3.mPop, N3.mAppend, N3.mDrop, N3.mRet, N3.mRetN, N3.mNx, N3.mBrk, N3.mCnt, N3.mLst, N3.mLstM, N3.mCons, N3.mNil, N3.mTup, N3.mBlt, N3.mKw, N3.cat2, N3.cat2r, N3.gS, N3.gL, N3.mSlM, N3.rSlM, N3.mM1, N3.mSl, N3.mRev, N3.mStep, N3.mRevM, N3.mPart, N3.mNoPart, N3.rII, N3.rII0, N3.rIB, N3.rCmp, N3.rLt, N3.rLe, N3.rGt, N3.rGe, N3.mIsI, N3.tn, N3.isI, N3.mDisp, N3.mDct0, N3.mDct0M, N3.mPar3, N3.mAug, N3.rIAdd, N3.mExtend, N3.mInsert, N3.mPopAt, N3.rMin2, N3.rMax2, N3.rIntT, N3.rSplit, N3.rSplitM, N3.rAddM, N3.gPut, N3.mFmt, N3.mJs, N3.mJoin, N3.rDictP, N3.mRepM, N3.rListA, N3.rSortA, N3.mLc2, N3.lcI, N3.lcO, N3.rAllB, N3.rAnyB, N3.rStrI, N3.rIntO, N3.vwL, N3.rMul, N3.rMulT, N3.rNeg, N3.rSub, N3.rDiv, N3.rMod, N3.rPow, N3.mPar, N3.mAndT, N3.mOrT, N3.mNotT, N3.mAnd, N3.mOr, N3.mOrV, N3.mAndV, N3.trv, N3.mNot, N3.mIf, N3.mChn, N3.mKeep, N3.mRep, N3.mDispM, N3.mPs, N3.ends, N3.rLen, N3.rListOf, N3.rListOfM, N3.rTupOf, N3.rSumI, N3.listed, N3.rSl, N3.rRev, N3.rEq, N3.rNe, N3.rIsN, N3.rNotN, N3.isNon, N3.vw, N3.mYes, N3.gT, N3.gsCons, N3.gsNil, N3.mFor, N3.mSeqs, N3.mLc, N3.mLcM, N3.mRng1, N3.mRng2, N3.mEnum, N3.mEnumA, N3.mZip, N3.wp, N3.rJoin, N3.rSS, N3.rIdxS, N3.rRepr, N3.flat, N3.flats, N3.toD, N3.toDs, List.length_cons, List.length_nil, List.append_eq, List.cons_append, List.nil_append, List.map_cons, List.map_nil, if_true, if_false, Bool.false_eq_true, decide_eq_true_eq, Option.some.injEq, true_and, and_true, Bool.not_true, Bool.not_false, reduceCtorEq, Bool.and_self, Bool.and_true, Bool.true_and, ite_true, ite_false, Dk.at_d, Dk.at_l, lk_left, List.map_append, List.getLast?_append, List.getLast?_singleton, Option.some_or, List.dropLast_concat, Dk.put_l]
    subst hP'
    refine seq_step fun P' hP' => ?_
    simp only [N3.mDput, N3.mB, N3.mU, N3.mVar, N3.mC, N3.sp0, N3.gt, N3.st, N3.rIx, N3.seqL, N3.dctL, N3.kOf, N3.rAdd, N3.mAsg, N3.gN, N3.mIfS, N3.mTest, N3.mPop, N3.mAppend, N3.mDrop, N3.mRet, N3.mRetN, N3.mNx, N3.mBrk, N3.mCnt, N3.mLst, N3.mLstM, N3.mCons, N3.mNil, N3.mTup, N3.mBlt, N3.mKw, N3.cat2, N3.cat2r, N3.gS, N3.gL, N3.mSlM, N3.rSlM, N3.mM1, N3.mSl, N3.mRev, N3.mStep, N3.mRevM, N3.mPart, N3.mNoPart, N3.rII, N3.rII0, N3.rIB, N3.rCmp, N3.rLt, N3.rLe, N3.rGt, N3.rGe, N3.mIsI, N3.tn, N3.isI, N3.mDisp, N3.mDct0, N3.mDct0M, N3.mPar3, N3.mAug, N3.rIAdd, N3.mExtend, N3.mInsert, N3.mPopAt, N3.rMin2, N3.rMax2, N3.rIntT, N3.rSplit, N3.rSplitM, N3.rAddM, N3.gPut, N3.mFmt, N3.mJs, N3.mJoin, N3.rDictP, N3.mRepM, N3.rListA, N3.rSortA, N3.mLc2, N3.lcI, N3.lcO, N3.rAllB, N3.rAnyB, N3.rStrI, N3.rIntO, N3.vwL, N3.rMul, N3.rMulT, N3.rNeg, N3.rSub, N3.rDiv, N3.rMod, N3.rPow, N3.mPar, N3.mAndT, N3.mOrT, N3.mNotT, N3.mAnd, N3.mOr, N3.mOrV, N3.mAndV, N3.trv, N3.mNot, N3.mIf, N3.mChn, N3.mKeep, N3.mRep, N3.mDispM, N3.mPs, N3.ends, N3.rLen, N3.rListOf, N3.rListOfM, N3.rTupOf, N3.rSumI, N3.listed, N3.rSl, N3.rRev, N3.rEq, N3.rNe, N3.rIsN, N3.rNotN, N3.isNon, N3.vw, N3.mYes, N3.gT, N3.gsCons, N3.gsNil, N3.mFor, N3.mSeqs, N3.mLc, N3.mLcM, N3.mRng1, N3.mRng2, N3.mEnum, N3.mEnumA, N3.mZip, N3.wp, N3.rJoin, N3.rSS, N3.rIdxS, N3.rRepr, N3.flat, N3.flats, N3.toD, N3.toDs, List.length_cons, List.length_nil, List.append_eq, List.cons_append, List.nil_append, List.map_cons, List.map_nil, if_true, if_false, Bool.false_eq_true, decide_eq_true_eq, Option.some.injEq, true_and, and_true, Bool.not_true, Bool.not_false, reduceCtorEq, Bool.and_self, Bool.and_true, Bool.true_and, ite_true, ite_false, Dk.at_d, Dk.at_l, lk_left]
    refine ⟨⟨by decide, by decide, by decide⟩, ?_⟩
    by_cases hc : 10 ^ (18 : Int).toNat ≤ c
    · rw [if_pos hc]
      refine seq_step fun P'' hP'' => ?_
      simp only [N3.mDput, N3.mB, N3.mU, N3.mVar, N3.mC, N3.sp0, N3.gt, N3.st, N3.rIx, N3.seqL, N3.dctL, N3.kOf, N3.rAdd, N3.mAsg, N3.gN, N3.mIfS, N3.mTest, N3.mPop, N3.mAppend, N3.mDrop, N3.mRet, N3.mRetN, N3.mNx, N3.mBrk, N3.mCnt, N3.mLst, N3.mLstM, N3.mCons, N3.mNil, N3.mTup, N3.mBlt, N3.mKw, N3.cat2, N3.cat2r, N3.gS, N3.gL, N3.mSlM, N3.rSlM, N3.mM1, N3.mSl, N3.mRev, N3.mStep, N3.mRevM, N3.mPart, N3.mNoPart, N3.rII, N3.rII0, N3.rIB, N3.rCmp, N3.rLt, N3.rLe, N3.rGt, N3.rGe, N3.mIsI, N3.tn, N3.isI, N3.mDisp, N3.mDct0, N3.mDct0M, N3.mPar3, N3.mAug, N3.rIAdd, N3.mExtend, N3.mInsert, N3.mPopAt, N3.rMin2, N3.rMax2, N3.rIntT, N3.rSplit, N3.rSplitM, N3.rAddM, N3.gPut, N3.mFmt, N3.mJs, N3.mJoin, N3.rDictP, N3.mRepM, N3.rListA, N3.rSortA, N3.mLc2, N3.lcI, N3.lcO, N3.rAllB, N3.rAnyB, N3.rStrI, N3.rIntO, N3.vwL, N3.rMul, N3.rMulT, N3.rNeg, N3.rSub, N3.rDiv, N3.rMod, N3.rPow, N3.mPar, N3.mAndT, N3.mOrT, N3.mNotT, N3.mAnd, N3.mOr, N3.mOrV, N3.mAndV, N3.trv, N3.mNot, N3.mIf, N3.mChn, N3.mKeep, N3.mRep, N3.mDispM, N3.mPs, N3.ends, N3.rLen, N3.rListOf, N3.rListOfM, N3.rTupOf, N3.rSumI, N3.listed, N3.rSl, N3.rRev, N3.rEq, N3.rNe, N3.rIsN, N3.rNotN, N3.isNon, N3.vw, N3.mYes, N3.gT, N3.gsCons, N3.gsNil, N3.mFor, N3.mSeqs, N3.mLc, N3.mLcM, N3.mRng1, N3.mRng2, N3.mEnum, N3.mEnumA, N3.mZip, N3.wp, N3.rJoin, N3.rSS, N3.rIdxS, N3.rRepr, N3.flat, N3.flats, N3.toD, N3.toDs, List.length_cons, List.length_nil, List.append_eq, List.cons_append, List.nil_append, List.map_cons, List.map_nil, if_true, if_false, Bool.false_eq_true, decide_eq_true_eq, Option.some.injEq, true_and, and_true, Bool.not_true, Bool.not_false, reduceCtorEq, Bool.and_self, Bool.and_true, Bool.true_and, ite_true, ite_false, Dk.at_d, Dk.at_l, lk_left]
      refine ⟨Dk.list_l, ⟨many0, hm2⟩, by rw [List.length_map]; show _ < 16777216; simp at hx; omega, ?_⟩
      rw [show List.map PV.int ys ++ [PV.int (c / many)] = List.map PV.int (ys ++ [c / many]) by simp, Dk.put_l]
      subst hP''
      simp only [N3.mDput, N3.mB, N3.mU, N3.mVar, N3.mC, N3.sp0, N3.gt, N3.st, N3.rIx, N3.seqL, N3.dctL, N3.kOf, N3.rAdd, N3.mAsg, N3.gN, N3.mIfS, N3.mTest, N3.mPop, N3.mAppend, N3.mDrop, N3.mRet, N3.mRetN, N3.mNx, N3.mBrk, N3.mCnt, N3.mLst, N3.mLstM, N3.mCons, N3.mNil, N3.mTup, N3.mBlt, N3.mKw, N3.cat2, N3.cat2r, N3.gS, N3.gL, N3.mSlM, N3.rSlM, N3.mM1, N3.mSl, N3.mRev, N3.mStep, N3.mRevM, N3.mPart, N3.mNoPart, N3.rII, N3.rII0, N3.rIB, N3.rCmp, N3.rLt, N3.rLe, N3.rGt, N3.rGe, N3.mIsI, N3.tn, N3.isI, N3.mDisp, N3.mDct0, N3.mDct0M, N3.mPar3, N3.mAug, N3.rIAdd, N3.mExtend, N3.mInsert, N3.mPopAt, N3.rMin2, N3.rMax2, N3.rIntT, N3.rSplit, N3.rSplitM, N3.rAddM, N3.gPut, N3.mFmt, N3.mJs, N3.mJoin, N3.rDictP, N3.mRepM, N3.rListA, N3.rSortA, N3.mLc2, N3.lcI, N3.lcO, N3.rAllB, N3.rAnyB, N3.rStrI, N3.rIntO, N3.vwL, N3.rMul, N3.rMulT, N3.rNeg, N3.rSub, N3.rDiv, N3.rMod, N3.rPow, N3.mPar, N3.mAndT, N3.mOrT, N3.mNotT, N3.mAnd, N3.mOr, N3.mOrV, N3.mAndV, N3.trv, N3.mNot, N3.mIf, N3.mChn, N3.mKeep, N3.mRep, N3.mDispM, N3.mPs, N3.ends, N3.rLen, N3.rListOf, N3.rListOfM, N3.rTupOf, N3.rSumI, N3.listed, N3.rSl, N3.rRev, N3.rEq, N3.rNe, N3.rIsN, N3.rNotN, N3.isNon, N3.vw, N3.mYes, N3.gT, N3.gsCons, N3.gsNil, N3.mFor, N3.mSeqs, N3.mLc, N3.mLcM, N3.mRng1, N3.mRng2, N3.mEnum, N3.mEnumA, N3.mZip, N3.wp, N3.rJoin, N3.rSS, N3.rIdxS, N3.rRepr, N3.flat, N3.flats, N3.toD, N3.toDs, List.length_cons, List.length_nil, List.append_eq, List.cons_append, List.nil_append, List.map_cons, List.map_nil, if_true, if_false, Bool.false_eq_true, decide_eq_true_eq, Option.some.injEq, true_and, and_true, Bool.not_true, Bool.not_false, reduceCtorEq, Bool.and_self, Bool.and_true, Bool.true_and, ite_true, ite_false]
      exact ⟨many0, fin _ _ (by rw [List.length_append]; exact hx) (Int.emod_nonneg _ (by omega)) (Int.emod_lt_of_pos _ many0)⟩
    · rw [if_neg hc]
      subst hP'
      simp only [N3.mDput, N3.mB, N3.mU, N3.mVar, N3.mC, N3.sp0, N3.gt, N3.st, N3.rIx, N3.seqL, N3.dctL, N3.kOf, N3.rAdd, N3.mAsg, N3.gN, N3.mIfS, N3.mTest, N3.mPop, N3.mAppend, N3.mDrop, N3.mRet, N3.mRetN, N3.mNx, N3.mBrk, N3.mCnt, N3.mLst, N3.mLstM, N3.mCons, N3.mNil, N3.mTup, N3.mBlt, N3.mKw, N3.cat2, N3.cat2r, N3.gS, N3.gL, N3.mSlM, N3.rSlM, N3.mM1, N3.mSl, N3.mRev, N3.mStep, N3.mRevM, N3.mPart, N3.mNoPart, N3.rII, N3.rII0, N3.rIB, N3.rCmp, N3.rLt, N3.rLe, N3.rGt, N3.rGe, N3.mIsI, N3.tn, N3.isI, N3.mDisp, N3.mDct0, N3.mDct0M, N3.mPar3, N3.mAug, N3.rIAdd, N3.mExtend, N3.mInsert, N3.mPopAt, N3.rMin2, N3.rMax2, N3.rIntT, N3.rSplit, N3.rSplitM, N3.rAddM, N3.gPut, N3.mFmt, N3.mJs, N3.mJoin, N3.rDictP, N3.mRepM, N3.rListA, N3.rSortA, N3.mLc2, N3.lcI, N3.lcO, N3.rAllB, N3.rAnyB, N3.rStrI, N3.rIntO, N3.vwL, N3.rMul, N3.rMulT, N3.rNeg, N3.rSub, N3.rDiv, N3.rMod, N3.rPow, N3.mPar, N3.mAndT, N3.mOrT, N3.mNotT, N3.mAnd, N3.mOr, N3.mOrV, N3.mAndV, N3.trv, N3.mNot, N3.mIf, N3.mChn, N3.mKeep, N3.mRep, N3.mDispM, N3.mPs, N3.ends, N3.rLen, N3.rListOf, N3.rListOfM, N3.rTupOf, N3.rSumI, N3.listed, N3.rSl, N3.rRev, N3.rEq, N3.rNe, N3.rIsN, N3.rNotN, N3.isNon, N3.vw, N3.mYes, N3.gT, N3.gsCons, N3.gsNil, N3.mFor, N3.mSeqs, N3.mLc, N3.mLcM, N3.mRng1, N3.mRng2, N3.mEnum, N3.mEnumA, N3.mZip, N3.wp, N3.rJoin, N3.rSS, N3.rIdxS, N3.rRepr, N3.flat, N3.flats, N3.toD, N3.toDs, List.length_cons, List.length_nil, List.append_eq, List.cons_append, List.nil_append, List.map_cons, List.map_nil, if_true, if_false, Bool.false_eq_true, decide_eq_true_eq, Option.some.injEq, true_and, and_true, Bool.not_true, Bool.not_false, reduceCtorEq, Bool.and_self, Bool.and_true, Bool.true_and, ite_true, ite_false, Dk.at_d, Dk.at_l, lk_every]
      exact ⟨by decide, rest _ _ _ (by simp at hx; omega)⟩
theorem pure_deck : ∀ qs h Q, qs.length = 1 → spDeck qs h Q → mDeck (ends Q) (sp0 4 qs) h := by
  rintro _ h Q - ⟨ns, rfl, hn, k⟩
  unfold mDeck
  have hc : cut (ns.map PV.int) none (some 63) = ns.map PV.int := cut_all ⟨rfl, by
    show HT.sIx _ _ (some 63) = _
    unfold HT.sIx
    simp; omega⟩
  refine seq_step fun P hP => ?_
  simp only [N3.mDput, N3.mB, N3.mU, N3.mVar, N3.mC, N3.sp0, N3.gt, N3.st, N3.rIx, N3.seqL, N3.dctL, N3.kOf, N3.rAdd, N3.mAsg, N3.gN, N3.mIfS, N3.mTest, N3.mPop, N3.mAppend, N3.mDrop, N3.mRet, N3.mRetN, N3.mNx, N3.mBrk, N3.mCnt, N3.mLst, N3.mLstM, N3.mCons, N3.mNil, N3.mTup, N3.mBlt, N3.mKw, N3.cat2, N3.cat2r, N3.gS, N3.gL, N3.mSlM, N3.rSlM, N3.mM1, N3.mSl, N3.mRev, N3.mStep, N3.mRevM, N3.mPart, N3.mNoPart, N3.rII, N3.rII0, N3.rIB, N3.rCmp, N3.rLt, N3.rLe, N3.rGt, N3.rGe, N3.mIsI, N3.tn, N3.isI, N3.mDisp, N3.mDct0, N3.mDct0M, N3.mPar3, N3.mAug, N3.rIAdd, N3.mExtend, N3.mInsert, N3.mPopAt, N3.rMin2, N3.rMax2, N3.rIntT, N3.rSplit, N3.rSplitM, N3.rAddM, N3.gPut, N3.mFmt, N3.mJs, N3.mJoin, N3.rDictP, N3.mRepM, N3.rListA, N3.rSortA, N3.mLc2, N3.lcI, N3.lcO, N3.rAllB, N3.rAnyB, N3.rStrI, N3.rIntO, N3.vwL, N3.rMul, N3.rMulT, N3.rNeg, N3.rSub, N3.rDiv, N3.rMod, N3.rPow, N3.mPar, N3.mAndT, N3.mOrT, N3.mNotT, N3.mAnd, N3.mOr, N3.mOrV, N3.mAndV, N3.trv, N3.mNot, N3.mIf, N3.mChn, N3.mKeep, N3.mRep, N3.mDispM, N3.mPs, N3.ends, N3.rLen, N3.rListOf, N3.rListOfM, N3.rTupOf, N3.rSumI, N3.listed, N3.rSl, N3.rRev, N3.rEq, N3.rNe, N3.rIsN, N3.rNotN, N3.isNon, N3.vw, N3.mYes, N3.gT, N3.gsCons, N3.gsNil, N3.mFor, N3.mSeqs, N3.mLc, N3.mLcM, N3.mRng1, N3.mRng2, N3.mEnum, N3.mEnumA, N3.mZip, N3.wp, N3.rJoin, N3.rSS, N3.rIdxS, N3.rRepr, N3.flat, N3.flats, N3.toD, N3.toDs, List.length_cons, List.length_nil, List.append_eq, List.cons_append, List.nil_append, List.map_cons, List.map_nil, if_true, if_false, Bool.false_eq_true, decide_eq_true_eq, Option.some.injEq, true_and, and_true, Bool.not_true, Bool.not_false, reduceCtorEq, Bool.and_self, Bool.and_true, Bool.true_and, ite_true, ite_false, hc]
  subst hP
  refine seq_step fun P hP => ?_
  simp only [N3.mDput, N3.mB, N3.mU, N3.mVar, N3.mC, N3.sp0, N3.gt, N3.st, N3.rIx, N3.seqL, N3.dctL, N3.kOf, N3.rAdd, N3.mAsg, N3.gN, N3.mIfS, N3.mTest, N3.mPop, N3.mAppend, N3.mDrop, N3.mRet, N3.mRetN, N3.mNx, N3.mBrk, N3.mCnt, N3.mLst, N3.mLstM, N3.mCons, N3.mNil, N3.mTup, N3.mBlt, N3.mKw, N3.cat2, N3.cat2r, N3.gS, N3.gL, N3.mSlM, N3.rSlM, N3.mM1, N3.mSl, N3.mRev, N3.mStep, N3.mRevM, N3.mPart, N3.mNoPart, N3.rII, N3.rII0, N3.rIB, N3.rCmp, N3.rLt, N3.rLe, N3.rGt, N3.rGe, N3.mIsI, N3.tn, N3.isI, N3.mDisp, N3.mDct0, N3.mDct0M, N3.mPar3, N3.mAug, N3.rIAdd, N3.mExtend, N3.mInsert, N3.mPopAt, N3.rMin2, N3.rMax2, N3.rIntT, N3.rSplit, N3.rSplitM, N3.rAddM, N3.gPut, N3.mFmt, N3.mJs, N3.mJoin, N3.rDictP, N3.mRepM, N3.rListA, N3.rSortA, N3.mLc2, N3.lcI, N3.lcO, N3.rAllB, N3.rAnyB, N3.rStrI, N3.rIntO, N3.vwL, N3.rMul, N3.rMulT, N3.rNeg, N3.rSub, N3.rDiv, N3.rMod, N3.rPow, N3.mPar, N3.mAndT, N3.mOrT, N3.mNotT, N3.mAnd, N3.mOr, N3.mOrV, N3.mAndV, N3.trv, N3.mNot, N3.mIf, N3.mChn, N3.mKeep, N3.mRep, N3.mDispM, N3.mPs, N3.ends, N3.rLen, N3.rListOf, N3.rListOfM, N3.rTupOf, N3.rSumI, N3.listed, N3.rSl, N3.rRev, N3.rEq, N3.rNe, N3.rIsN, N3.rNotN, N3.isNon, N3.vw, N3.mYes, N3.gT, N3.gsCons, N3.gsNil, N3.mFor, N3.mSeqs, N3.mLc, N3.mLcM, N3.mRng1, N3.mRng2, N3.mEnum, N3.mEnumA, N3.mZip, N3.wp, N3.rJoin, N3.rSS, N3.rIdxS, N3.rRepr, N3.flat, N3.flats, N3.toD, N3.toDs, List.length_cons, List.length_nil, List.append_eq, List.cons_append, List.nil_append, List.map_cons, List.map_nil, if_true, if_false, Bool.false_eq_true, decide_eq_true_eq, Option.some.injEq, true_and, and_true, Bool.not_true, Bool.not_false, reduceCtorEq, Bool.and_self, Bool.and_true, Bool.true_and, ite_true, ite_false]
  refine forL_of (W := fun ps τ h2 => (∀ p ∈ ps, ∃ i, p = .int i) ∧ ∃ (c : Int) (v : Option PV), h2 = h ∧ τ = [some (.lst (ns.map PV.int)), some (.lst (ns.map PV.int)), some (.int c), v]) ?_ ?_ _ _ _ ⟨fun p hp => ?_, _, none, rfl, rfl⟩
  · rintro p ps τ h2 ⟨hp, c, v, rfl, rfl⟩
    obtain ⟨i, rfl⟩ := hp p List.mem_cons_self
    refine ⟨trivial, fun P' hP' => ?_⟩
    simp only [N3.mDput, N3.mB, N3.mU, N3.mVar, N3.mC, N3.sp0, N3.gt, N3.st, N3.rIx, N3.seqL, N3.dctL, N3.kOf, N3.rAdd, N3.mAsg, N3.gN, N3.mIfS, N3.mTest, N3.mPop, N3.mAppend, N3.mDrop, N3.mRet, N3.mRetN, N3.mNx, N3.mBrk, N3.mCnt, N3.mLst, N3.mLstM, N3.mCons, N3.mNil, N3.mTup, N3.mBlt, N3.mKw, N3.cat2, N3.cat2r, N3.gS, N3.gL, N3.mSlM, N3.rSlM, N3.mM1, N3.mSl, N3.mRev, N3.mStep, N3.mRevM, N3.mPart, N3.mNoPart, N3.rII, N3.rII0, N3.rIB, N3.rCmp, N3.rLt, N3.rLe, N3.rGt, N3.rGe, N3.mIsI, N3.tn, N3.isI, N3.mDisp, N3.mDct0, N3.mDct0M, N3.mPar3, N3.mAug, N3.rIAdd, N3.mExtend, N3.mInsert, N3.mPopAt, N3.rMin2, N3.rMax2, N3.rIntT, N3.rSplit, N3.rSplitM, N3.rAddM, N3.gPut, N3.mFmt, N3.mJs, N3.mJoin, N3.rDictP, N3.mRepM, N3.rListA, N3.rSortA, N3.mLc2, N3.lcI, N3.lcO, N3.rAllB, N3.rAnyB, N3.rStrI, N3.rIntO, N3.vwL, N3.rMul, N3.rMulT, N3.rNeg, N3.rSub, N3.rDiv, N3.rMod, N3.rPow, N3.mPar, N3.mAndT, N3.mOrT, N3.mNotT, N3.mAnd, N3.mOr, N3.mOrV, N3.mAndV, N3.trv, N3.mNot, N3.mIf, N3.mChn, N3.mKeep, N3.mRep, N3.mDispM, N3.mPs, N3.ends, N3.rLen, N3.rListOf, N3.rListOfM, N3.rTupOf, N3.rSumI, N3.listed, N3.rSl, N3.rRev, N3.rEq, N3.rNe, N3.rIsN, N3.rNotN, N3.isNon, N3.vw, N3.mYes, N3.gT, N3.gsCons, N3.gsNil, N3.mFor, N3.mSeqs, N3.mLc, N3.mLcM, N3.mRng1, N3.mRng2, N3.mEnum, N3.mEnumA, N3.mZip, N3.wp, N3.rJoin, N3.rSS, N3.rIdxS, N3.rRepr, N3.flat, N3.flats, N3.toD, N3.toDs, List.length_cons, List.length_nil, List.append_eq, List.cons_append, List.nil_append, List.map_cons, List.map_nil, if_true, if_false, Bool.false_eq_true, decide_eq_true_eq, Option.some.injEq, true_and, and_true, Bool.not_true, Bool.not_false, reduceCtorEq, Bool.and_self, Bool.and_true, Bool.true_and, ite_true, ite_false]
    exact ⟨.inr (by decide), by decide, by decide, hP' _ _ ⟨fun q hq => hp q (List.mem_cons_of_mem _ hq), _, _, rfl, rfl⟩⟩
  · rintro τ h2 ⟨-, c, v, rfl, rfl⟩
    refine ⟨trivial, ?_⟩
    subst hP
    dsimp only
    simp only [N3.mDput, N3.mB, N3.mU, N3.mVar, N3.mC, N3.sp0, N3.gt, N3.st, N3.rIx, N3.seqL, N3.dctL, N3.kOf, N3.rAdd, N3.mAsg, N3.gN, N3.mIfS, N3.mTest, N3.mPop, N3.mAppend, N3.mDrop, N3.mRet, N3.mRetN, N3.mNx, N3.mBrk, N3.mCnt, N3.mLst, N3.mLstM, N3.mCons, N3.mNil, N3.mTup, N3.mBlt, N3.mKw, N3.cat2, N3.cat2r, N3.gS, N3.gL, N3.mSlM, N3.rSlM, N3.mM1, N3.mSl, N3.mRev, N3.mStep, N3.mRevM, N3.mPart, N3.mNoPart, N3.rII, N3.rII0, N3.rIB, N3.rCmp, N3.rLt, N3.rLe, N3.rGt, N3.rGe, N3.mIsI, N3.tn, N3.isI, N3.mDisp, N3.mDct0, N3.mDct0M, N3.mPar3, N3.mAug, N3.rIAdd, N3.mExtend, N3.mInsert, N3.mPopAt, N3.rMin2, N3.rMax2, N3.rIntT, N3.rSplit, N3.rSplitM, N3.rAddM, N3.gPut, N3.mFmt, N3.mJs, N3.mJoin, N3.rDictP, N3.mRepM, N3.rListA, N3.rSortA, N3.mLc2, N3.lcI, N3.lcO, N3.rAllB, N3.rAnyB, N3.rStrI, N3.rIntO, N3.vwL, N3.rMul, N3.rMulT, N3.rNeg, N3.rSub, N3.rDiv, N3.rMod, N3.rPow, N3.mPar, N3.mAndT, N3.mOrT, N3.mNotT, N3.mAnd, N3.mOr, N3.mOrV, N3.mAndV, N3.trv, N3.mNot, N3.mIf, N3.mChn, N3.mKeep, N3.mRep, N3.mDispM, N3.mPs, N3.ends, N3.rLen, N3.rListOf, N3.rListOfM, N3.rTupOf, N3.rSumI, N3.listed, N3.rSl, N3.rRev, N3.rEq, N3.rNe, N3.rIsN, N3.rNotN, N3.isNon, N3.vw, N3.mYes, N3.gT, N3.gsCons, N3.gsNil, N3.mFor, N3.mSeqs, N3.mLc, N3.mLcM, N3.mRng1, N3.mRng2, N3.mEnum, N3.mEnumA, N3.mZip, N3.wp, N3.rJoin, N3.rSS, N3.rIdxS, N3.rRepr, N3.flat, N3.flats, N3.toD, N3.toDs, List.length_cons, List.length_nil, List.append_eq, List.cons_append, List.nil_append, List.map_cons, List.map_nil, if_true, if_false, Bool.false_eq_true, decide_eq_true_eq, Option.some.injEq, true_and, and_true, Bool.not_true, Bool.not_false, reduceCtorEq, Bool.and_self, Bool.and_true, Bool.true_and, ite_true, ite_false]
    intro l hl
    refine ⟨by decide +kernel, fun d hd => ?_⟩
    have ne : d ≠ l := fun e => by rw [e, up_same] at hd; cases hd
    refine k ⟨d, l, c, _, ne⟩ _ rfl ⟨ns.reverse, 0, by rw [List.length_reverse]; exact hn, Int.le_refl _, Int.le_refl _, ?_⟩
    unfold Dk.hp
    rw [up_swap ne.symm, List.map_reverse]
  · obtain ⟨i, -, rfl⟩ := List.mem_map.mp hp
    exact ⟨i, rfl⟩
end N3

namespace N3
open PySem PySem.Spec PyProof.Rows L2

/-- a comprehension whose turns change nothing: the items that pass, and their answers -/
theorem lcL_filter {gd : PH → Prop} {τ : PSt} {g : MG} {t : MT} {m : ME} {h : PH} {Q : List PV → PH → Prop} (c : PV → Bool) (f : PV → PV) (hg : gd h) :
    ∀ (ps acc : List PV), (∀ p ∈ ps, ∀ P : List PV → PH → Prop, ∀ acc, (if c p = true then P (acc ++ [f p]) h else P acc h) → g p τ h fun τ1 h1 => t τ1 h1 fun b h2 => if b = true then m τ1 h2 fun v h3 => P (acc ++ [v]) h3 else P acc h2) →
      Q (acc ++ (ps.filter c).map f) h → lcL gd τ g t m ps acc h Q
  | [], acc, _, q => ⟨hg, by simpa using q⟩
  | p :: ps, acc, hs, q => by
    refine ⟨hg, hs p List.mem_cons_self (fun acc h3 => lcL gd τ g t m ps acc h3 Q) acc ?_⟩
    cases hc : c p with
    | true => exact lcL_filter c f hg ps _ (fun x hx => hs x (List.mem_cons_of_mem _ hx)) (by simpa [List.filter_cons, hc] using q)
    | false => exact lcL_filter c f hg ps _ (fun x hx => hs x (List.mem_cons_of_mem _ hx)) (by simpa [List.filter_cons, hc] using q)

/-! ### picking -/
theorem atI_nat {α : Type} {xs : List α} {r : Int} (h0 : 0 ≤ r) (h1 : r < xs.length) : ∃ v ∈ xs, atI xs r = some v := by
  have e : ixN xs.length r = some r.toNat := by
    unfold ixN
    simp only [h0, h1, if_true]
  have hl : r.toNat < xs.length := by omega
  refine ⟨xs[r.toNat], List.getElem_mem hl, ?_⟩
  unfold atI
  rw [e]
  exact List.getElem?_eq_getElem hl
def mPick (spD : SpP) : MS := mRet (mB rIx (mVar 1) (mBlt spD (mCons (mVar 0) (mCons (mBlt rLen (mCons (mVar 1) (mNil))) (mNil)))))
/-- what can be picked from: a text, a list, a tuple -/
def pickFrom : PV → Option (List PV)
  | .str x => some (ones x)
  | .lst xs => some xs
  | .tup xs => some xs
  | _ => none
def spPick : SpP := fun ps h Q => ∃ (D : Dk) (n : Nat) (p : PV) (xs : List PV), ps = [.ref D.d, p] ∧ D.At n h ∧ n < 1000000000 ∧ pickFrom p = some xs ∧ xs ≠ [] ∧ xs.length ≤ SZ ∧ ∀ v h', v ∈ xs → D.At (n + 1) h' → Q v h'
theorem pure_pick : ∀ qs h Q, qs.length = 2 → spPick qs h Q → mPick spDraw (ends Q) (sp0 2 qs) h := by
  rintro _ h Q - ⟨D, n, p, xs, rfl, ha, hn, hp, hne, hz, k⟩
  have pos : 0 < xs.length := List.length_pos_iff.mpr hne
  cases p with
  | str x =>
    simp only [pickFrom, Option.some.injEq] at hp
    subst hp
    have hl : x.length = (ones x).length := by unfold ones; rw [List.length_map, ← cl_length]
    simp only [mPick, N3.mDput, N3.mB, N3.mU, N3.mVar, N3.mC, N3.sp0, N3.gt, N3.st, N3.rIx, N3.seqL, N3.dctL, N3.kOf, N3.rAdd, N3.mAsg, N3.gN, N3.mIfS, N3.mTest, N3.mPop, N3.mAppend, N3.mDrop, N3.mRet, N3.mRetN, N3.mNx, N3.mBrk, N3.mCnt, N3.mLst, N3.mLstM, N3.mCons, N3.mNil, N3.mTup, N3.mBlt, N3.mKw, N3.cat2, N3.cat2r, N3.gS, N3.gL, N3.mSlM, N3.rSlM, N3.mM1, N3.mSl, N3.mRev, N3.mStep, N3.mRevM, N3.mPart, N3.mNoPart, N3.rII, N3.rII0, N3.rIB, N3.rCmp, N3.rLt, N3.rLe, N3.rGt, N3.rGe, N3.mIsI, N3.tn, N3.isI, N3.mDisp, N3.mDct0, N3.mDct0M, N3.mPar3, N3.mAug, N3.rIAdd, N3.mExtend, N3.mInsert, N3.mPopAt, N3.rMin2, N3.rMax2, N3.rIntT, N3.rSplit, N3.rSplitM, N3.rAddM, N3.gPut, N3.mFmt, N3.mJs, N3.mJoin, N3.rDictP, N3.mRepM, N3.rListA, N3.rSortA, N3.mLc2, N3.lcI, N3.lcO, N3.rAllB, N3.rAnyB, N3.rStrI, N3.rIntO, N3.vwL, N3.rMul, N3.rMulT, N3.rNeg, N3.rSub, N3.rDiv, N3.rMod, N3.rPow, N3.mPar, N3.mAndT, N3.mOrT, N3.mNotT, N3.mAnd, N3.mOr, N3.mOrV, N3.mAndV, N3.trv, N3.mNot, N3.mIf, N3.mChn, N3.mKeep, N3.mRep, N3.mDispM, N3.mPs, N3.ends, N3.rLen, N3.rListOf, N3.rListOfM, N3.rTupOf, N3.rSumI, N3.listed, N3.rSl, N3.rRev, N3.rEq, N3.rNe, N3.rIsN, N3.rNotN, N3.isNon, N3.vw, N3.mYes, N3.gT, N3.gsCons, N3.gsNil, N3.mFor, N3.mSeqs, N3.mLc, N3.mLcM, N3.mRng1, N3.mRng2, N3.mEnum, N3.mEnumA, N3.mZip, N3.wp, N3.rJoin, N3.rSS, N3.rIdxS, N3.rRepr, N3.flat, N3.flats, N3.toD, N3.toDs, List.length_cons, List.length_nil, List.append_eq, List.cons_append, List.nil_append, List.map_cons, List.map_nil, if_true, if_false, Bool.false_eq_true, decide_eq_true_eq, Option.some.injEq, true_and, and_true, Bool.not_true, Bool.not_false, reduceCtorEq, Bool.and_self, Bool.and_true, Bool.true_and, ite_true, ite_false]
    refine ⟨by rw [hl]; exact hz, D, n, _, rfl, ha, hn, by omega, by have hz' : (ones x).length ≤ 16777216 := hz; omega, fun r h' h0 h1 a => ?_⟩
    refine ⟨by rw [hl]; exact hz, ?_⟩
    obtain ⟨c, hc, e⟩ := atI_nat (xs := cl x) h0 (by rw [← cl_length]; exact h1)
    simp only [e]
    exact k _ _ (List.mem_map.mpr ⟨c, hc, rfl⟩) a
  | lst ys =>
    simp only [pickFrom, Option.some.injEq] at hp
    subst hp
    simp only [mPick, N3.mDput, N3.mB, N3.mU, N3.mVar, N3.mC, N3.sp0, N3.gt, N3.st, N3.rIx, N3.seqL, N3.dctL, N3.kOf, N3.rAdd, N3.mAsg, N3.gN, N3.mIfS, N3.mTest, N3.mPop, N3.mAppend, N3.mDrop, N3.mRet, N3.mRetN, N3.mNx, N3.mBrk, N3.mCnt, N3.mLst, N3.mLstM, N3.mCons, N3.mNil, N3.mTup, N3.mBlt, N3.mKw, N3.cat2, N3.cat2r, N3.gS, N3.gL, N3.mSlM, N3.rSlM, N3.mM1, N3.mSl, N3.mRev, N3.mStep, N3.mRevM, N3.mPart, N3.mNoPart, N3.rII, N3.rII0, N3.rIB, N3.rCmp, N3.rLt, N3.rLe, N3.rGt, N3.rGe, N3.mIsI, N3.tn, N3.isI, N3.mDisp, N3.mDct0, N3.mDct0M, N3.mPar3, N3.mAug, N3.rIAdd, N3.mExtend, N3.mInsert, N3.mPopAt, N3.rMin2, N3.rMax2, N3.rIntT, N3.rSplit, N3.rSplitM, N3.rAddM, N3.gPut, N3.mFmt, N3.mJs, N3.mJoin, N3.rDictP, N3.mRepM, N3.rListA, N3.rSortA, N3.mLc2, N3.lcI, N3.lcO, N3.rAllB, N3.rAnyB, N3.rStrI, N3.rIntO, N3.vwL, N3.rMul, N3.rMulT, N3.rNeg, N3.rSub, N3.rDiv, N3.rMod, N3.rPow, N3.mPar, N3.mAndT, N3.mOrT, N3.mNotT, N3.mAnd, N3.mOr, N3.mOrV, N3.mAndV, N3.trv, N3.mNot, N3.mIf, N3.mChn, N3.mKeep, N3.mRep, N3.mDispM, N3.mPs, N3.ends, N3.rLen, N3.rListOf, N3.rListOfM, N3.rTupOf, N3.rSumI, N3.listed, N3.rSl, N3.rRev, N3.rEq, N3.rNe, N3.rIsN, N3.rNotN, N3.isNon, N3.vw, N3.mYes, N3.gT, N3.gsCons, N3.gsNil, N3.mFor, N3.mSeqs, N3.mLc, N3.mLcM, N3.mRng1, N3.mRng2, N3.mEnum, N3.mEnumA, N3.mZip, N3.wp, N3.rJoin, N3.rSS, N3.rIdxS, N3.rRepr, N3.flat, N3.flats, N3.toD, N3.toDs, List.length_cons, List.length_nil, List.append_eq, List.cons_append, List.nil_append, List.map_cons, List.map_nil, if_true, if_false, Bool.false_eq_true, decide_eq_true_eq, Option.some.injEq, true_and, and_true, Bool.not_true, Bool.not_false, reduceCtorEq, Bool.and_self, Bool.and_true, Bool.true_and, ite_true, ite_false]
    refine ⟨D, n, _, rfl, ha, hn, by omega, by have hz' : ys.length ≤ 16777216 := hz; omega, fun r h' h0 h1 a => ?_⟩
    obtain ⟨c, hc, e⟩ := atI_nat h0 h1
    simp only [e]
    exact k _ _ hc a
  | tup ys =>
    simp only [pickFrom, Option.some.injEq] at hp
    subst hp
    simp only [mPick, N3.mDput, N3.mB, N3.mU, N3.mVar, N3.mC, N3.sp0, N3.gt, N3.st, N3.rIx, N3.seqL, N3.dctL, N3.kOf, N3.rAdd, N3.mAsg, N3.gN, N3.mIfS, N3.mTest, N3.mPop, N3.mAppend, N3.mDrop, N3.mRet, N3.mRetN, N3.mNx, N3.mBrk, N3.mCnt, N3.mLst, N3.mLstM, N3.mCons, N3.mNil, N3.mTup, N3.mBlt, N3.mKw, N3.cat2, N3.cat2r, N3.gS, N3.gL, N3.mSlM, N3.rSlM, N3.mM1, N3.mSl, N3.mRev, N3.mStep, N3.mRevM, N3.mPart, N3.mNoPart, N3.rII, N3.rII0, N3.rIB, N3.rCmp, N3.rLt, N3.rLe, N3.rGt, N3.rGe, N3.mIsI, N3.tn, N3.isI, N3.mDisp, N3.mDct0, N3.mDct0M, N3.mPar3, N3.mAug, N3.rIAdd, N3.mExtend, N3.mInsert, N3.mPopAt, N3.rMin2, N3.rMax2, N3.rIntT, N3.rSplit, N3.rSplitM, N3.rAddM, N3.gPut, N3.mFmt, N3.mJs, N3.mJoin, N3.rDictP, N3.mRepM, N3.rListA, N3.rSortA, N3.mLc2, N3.lcI, N3.lcO, N3.rAllB, N3.rAnyB, N3.rStrI, N3.rIntO, N3.vwL, N3.rMul, N3.rMulT, N3.rNeg, N3.rSub, N3.rDiv, N3.rMod, N3.rPow, N3.mPar, N3.mAndT, N3.mOrT, N3.mNotT, N3.mAnd, N3.mOr, N3.mOrV, N3.mAndV, N3.trv, N3.mNot, N3.mIf, N3.mChn, N3.mKeep, N3.mRep, N3.mDispM, N3.mPs, N3.ends, N3.rLen, N3.rListOf, N3.rListOfM, N3.rTupOf, N3.rSumI, N3.listed, N3.rSl, N3.rRev, N3.rEq, N3.rNe, N3.rIsN, N3.rNotN, N3.isNon, N3.vw, N3.mYes, N3.gT, N3.gsCons, N3.gsNil, N3.mFor, N3.mSeqs, N3.mLc, N3.mLcM, N3.mRng1, N3.mRng2, N3.mEnum, N3.mEnumA, N3.mZip, N3.wp, N3.rJoin, N3.rSS, N3.rIdxS, N3.rRepr, N3.flat, N3.flats, N3.toD, N3.toDs, List.length_cons, List.length_nil, List.append_eq, List.cons_append, List.nil_append, List.map_cons, List.map_nil, if_true, if_false, Bool.false_eq_true, decide_eq_true_eq, Option.some.injEq, true_and, and_true, Bool.not_true, Bool.not_false, reduceCtorEq, Bool.and_self, Bool.and_true, Bool.true_and, ite_true, ite_false]
    refine ⟨D, n, _, rfl, ha, hn, by omega, by have hz' : ys.length ≤ 16777216 := hz; omega, fun r h' h0 h1 a => ?_⟩
    obtain ⟨c, hc, e⟩ := atI_nat h0 h1
    simp only [e]
    exact k _ _ hc a
  | _ => simp [pickFrom] at hp

/-- a comprehension over turns that draw: each turn's value is good -/
theorem runs {D : Dk} {τ : PSt} {i cost n : Nat} {m : ME} {h : PH} {Q : List PV → PH → Prop} (G : PV → Prop) (ps : List PV) (step : ∀ p ∈ ps, ∀ n' h' (Q : PK), D.At n' h' → n ≤ n' → n' + cost ≤ n + cost * ps.length → (∀ v h2, G v → D.At (n' + cost) h2 → Q v h2) → m (st τ i (some p)) h' Q)
    (ha : D.At n h) (k : ∀ (zs : List PV) h', (∀ z ∈ zs, G z) → zs.length = ps.length → D.At (n + cost * ps.length) h' → Q zs h') : lcL (fun _ => True) τ (gN i) mYes m ps [] h Q := by
  refine lcL_of (W := fun qs acc h' => (∀ z ∈ acc, G z) ∧ (∀ q ∈ qs, q ∈ ps) ∧ acc.length + qs.length = ps.length ∧ D.At (n + cost * acc.length) h') ?_ ?_ _ _ _ ⟨fun _ z => (List.not_mem_nil z).elim, fun _ h => h, by simp, by simpa using ha⟩
  · rintro p qs acc h' ⟨hg, hm, hl, a⟩
    refine ⟨trivial, fun P hP => ?_⟩
    rw [List.length_cons] at hl
    have hc : cost * (acc.length + 1) ≤ cost * ps.length := Nat.mul_le_mul_left _ (by omega)
    rw [Nat.mul_add, Nat.mul_one] at hc
    show m (st τ i (some p)) h' fun v h3 => P (acc ++ [v]) h3
    refine step p (hm p List.mem_cons_self) _ h' _ a (by omega) (by omega) fun v h2 gv a2 => hP _ _ ⟨fun z hz => ?_, fun q hq => hm q (List.mem_cons_of_mem _ hq), by rw [List.length_append, List.length_singleton]; omega, ?_⟩
    · rcases List.mem_append.mp hz with h | h
      · exact hg z h
      · rw [List.mem_singleton] at h; subst h; exact gv
    · rw [List.length_append, List.length_singleton, Nat.mul_add, Nat.mul_one, ← Nat.add_assoc]; exact a2
  · rintro acc h' ⟨hg, hm, hl, a⟩
    have e : acc.length = ps.length := by simpa using hl
    exact ⟨trivial, k acc h' hg e (by rw [← e]; exact a)⟩
theorem rng_len {lo : Int} {n : Nat} : (rng lo n).length = n := by unfold rng; rw [List.length_map, List.length_range]
/-- texts of one sign each, put together -/
theorem signs_of (G : Nat → Prop) : ∀ zs : List PV, (∀ z ∈ zs, ∃ c, G c ∧ z = .str (S [c])) → ∃ l : List Nat, zs = (l.map fun c => [c]).map (fun z => .str (S z)) ∧ (∀ c ∈ l, G c) ∧ l.length = zs.length
  | [], _ => ⟨[], rfl, fun _ h => (List.not_mem_nil h).elim, rfl⟩
  | z :: zs, h => by
    obtain ⟨c, gc, rfl⟩ := h z List.mem_cons_self
    obtain ⟨l, rfl, hl, hn⟩ := signs_of G zs fun y hy => h y (List.mem_cons_of_mem _ hy)
    refine ⟨c :: l, rfl, fun x hx => ?_, by rw [List.length_cons, List.length_cons, hn]⟩
    rcases List.mem_cons.mp hx with rfl | hx
    · exact gc
    · exact hl x hx
theorem joinL_nil : ∀ zs : List (List Nat), TL.joinL [] zs = zs.flatten
  | [] => rfl
  | [x] => by simp [TL.joinL]
  | x :: y :: r => by
    have ih := joinL_nil (y :: r)
    simp only [TL.joinL] at ih ⊢
    rw [ih]; simp
theorem flat_ones (l : List Nat) : (l.map fun c => [c]).flatten = l := by
  induction l with
  | nil => rfl
  | cons c l ih => rw [List.map_cons, List.flatten_cons, ih]; rfl
theorem sum_ones (l : List Nat) : ((l.map fun c => [c]).map (·.length)).sum = l.length := by
  induction l with
  | nil => rfl
  | cons c l ih => rw [List.map_cons, List.map_cons, List.sum_cons, ih, List.length_cons]; simp; omega

/-! ### texts: the first place of a sign -/
open PySem.StrLaws PySem.Builtin.Str in
theorem occ_full (s sub : Str) (hi : Nat) : ∀ (l : List Nat) (st : Array Nat × Nat), ¬ st.fst.size < 1 → (forIn l st (occBody s sub hi 1)).run.fst = st.fst
  | [], _, _ => rfl
  | a :: l, st, h => by
    rw [List.forIn_cons]
    unfold occBody
    rw [if_neg fun z => h z.1.1.1]
    exact occ_full s sub hi l _ h
open PySem.StrLaws PySem.Builtin.Str in
theorem occ_first (s sub : Str) (hi : Nat) : ∀ (l : List Nat) (free : Nat), (∀ i ∈ l, free ≤ i) →
    (forIn l ((#[] : Array Nat), free) (occBody s sub hi 1)).run.fst.toList.head? = l.find? fun i => decide (i + sub.length ≤ hi ∧ subAt s sub i = true)
  | [], _, _ => rfl
  | a :: l, free, hf => by
    rw [List.forIn_cons]
    unfold occBody
    have ha : free ≤ a := hf a List.mem_cons_self
    by_cases hc : a + sub.length ≤ hi ∧ subAt s sub a = true
    · rw [if_pos ⟨⟨⟨by simp, ha⟩, hc.1⟩, hc.2⟩]
      have := occ_full s sub hi l ((#[] : Array Nat).push a, a + sub.length) (by simp)
      show ((forIn l ((#[] : Array Nat).push a, a + sub.length) (occBody s sub hi 1)).run.fst.toList.head?) = _
      rw [this, List.find?_cons_of_pos (by simpa using hc)]
      simp
    · rw [if_neg fun z => hc ⟨z.1.2, z.2⟩, List.find?_cons_of_neg (by simpa using hc)]
      exact occ_first s sub hi l free fun i hi' => hf i (List.mem_cons_of_mem _ hi')
theorem find_range (l : List Nat) (c : Nat) : ∀ (n k : Nat), k + n = l.length + 1 → (∀ i, i < k → l[i]? ≠ some c) → (List.range' k n).find? (fun i => decide (l[i]? = some c)) = if c ∈ l then some (l.idxOf c) else none
  | 0, k, h, hk => by
    have hn : c ∉ l := fun hc => by
      obtain ⟨i, e⟩ := List.mem_iff_getElem?.mp hc
      obtain ⟨hi, _⟩ := List.getElem?_eq_some_iff.mp e
      exact hk i (by omega) e
    rw [if_neg hn]; rfl
  | n + 1, k, h, hk => by
    rw [List.range'_succ]
    by_cases e : l[k]? = some c
    · rw [List.find?_cons_of_pos (by simpa using e)]
      have hm : c ∈ l := List.mem_iff_getElem?.mpr ⟨k, e⟩
      rw [if_pos hm]
      have h1 : l.idxOf c ≤ k := by
        refine Nat.le_of_not_lt fun z => ?_
        obtain ⟨hi, ek⟩ := List.getElem?_eq_some_iff.mp e
        have := List.not_of_lt_findIdx (xs := l) (p := fun x => x == c) (i := k) (by simpa [List.idxOf] using z)
        simp [ek] at this
      have h2 : ¬ l.idxOf c < k := fun z => by
        have hl : l.idxOf c < l.length := List.idxOf_lt_length_iff.mpr hm
        exact hk _ z (by rw [List.getElem?_eq_getElem hl, List.getElem_idxOf])
      congr 1; omega
    · rw [List.find?_cons_of_neg (by simpa using e)]
      refine find_range l c n (k + 1) (by omega) fun i hi => ?_
      by_cases z : i = k
      · subst z; exact e
      · exact hk i (by omega)
open PySem.StrLaws PySem.Builtin.Str in
theorem first_one (l : List Nat) (c : Nat) : (occurrences (S l) (S [c]) 0 (S l).length 1).head? = if c ∈ l then some (l.idxOf c) else none := by
  rw [occ_eq, occ_first _ _ _ _ _ (fun _ _ => Nat.zero_le _), ← find_range l c (l.length + 1) 0 (by omega) (fun i hi => absurd hi (Nat.not_lt_zero _))]
  rw [S_length, Nat.sub_zero]
  congr 1
  funext i
  have := subAt_one (S l) c i
  rw [S_length] at this
  exact decide_eq_decide.mpr this
theorem find_one (l : List Nat) (c : Nat) : Txt.find (S l) (S [c]) = if c ∈ l then (l.idxOf c : Int) else -1 := by
  have h := first_one l c
  unfold Txt.find
  split
  · rename_i i r e
    rw [e, List.head?_cons] at h
    by_cases hc : c ∈ l
    · rw [if_pos hc] at h ⊢
      rw [Option.some.inj h]
    · rw [if_neg hc] at h; cases h
  · rename_i e
    rw [e, List.head?_nil] at h
    by_cases hc : c ∈ l
    · rw [if_pos hc] at h; cases h
    · rw [if_neg hc]
theorem index_one (l : List Nat) (c : Nat) : Txt.index0 (S l) (S [c]) = if c ∈ l then some (l.idxOf c) else none := first_one l c
end N3

namespace N3
open PySem PySem.Spec PyProof.Rows L2

/-! ### how long what is shown may be -/
mutual
def wt : PyData → Nat
  | .none => 4
  | .bool _ => 5
  | .int i => i.natAbs.log2 + 2
  | .str x => 10 * x.length + 2
  | .list xs => wts xs + 2
  | .tuple xs => wts xs + 3
  | .dict kvs => wtk kvs + 2
def wts : List PyData → Nat
  | [] => 0
  | x :: xs => wt x + 2 + wts xs
def wtk : List (PyData × PyData) → Nat
  | [] => 0
  | (k, v) :: r => wt k + wt v + 4 + wtk r
end
mutual
def sigs : PyData → Bool
  | .str x => (cl x).all fun c => decide (c < 16 ^ 8)
  | .list xs => sigsAll xs
  | .tuple xs => sigsAll xs
  | .dict kvs => sigsKv kvs
  | _ => true
def sigsAll : List PyData → Bool
  | [] => true
  | x :: xs => sigs x && sigsAll xs
def sigsKv : List (PyData × PyData) → Bool
  | [] => true
  | (k, v) :: r => sigs k && sigs v && sigsKv r
end
theorem textFrom_le : ∀ (ts : List Str) (k : Nat) (acc : Str), (textFrom k acc ts).length ≤ acc.length + (ts.map fun t => t.length + 2).sum
  | [], k, acc => by simp [textFrom]
  | t :: r, k, acc => by
    have ih := textFrom_le r (k + 1) (acc ++ (if k > 0 then ", " else "" : String) ++ t)
    have e : (acc ++ (if k > 0 then ", " else "" : String) ++ t).length ≤ acc.length + 2 + t.length := by
      rw [strLen_append, strLen_append]
      split
      · exact Nat.le_refl _
      · have : (("" : String) : Str).length = 0 := rfl
        omega
    simp only [List.map_cons, List.sum_cons]
    show (textFrom (k + 1) _ r).length ≤ _
    omega
theorem listText_le (ts : List Str) : (listText ts).length ≤ (ts.map fun t => t.length + 2).sum + 2 := by
  unfold listText
  rw [strLen_append]
  have := textFrom_le ts 0 "["
  have e1 : (("[" : String) : Str).length = 1 := rfl
  have e2 : ("]" : Str).length = 1 := rfl
  omega
theorem tupleText_le (ts : List Str) : (tupleText ts).length ≤ (ts.map fun t => t.length + 2).sum + 3 := by
  unfold tupleText
  rw [strLen_append, strLen_append]
  have e1 : ("(" : Str).length = 1 := rfl
  have e2 : ((if ts.length == 1 then ",)" else ")" : String) : Str).length ≤ 2 := by
    split
    · exact Nat.le_refl _
    · exact Nat.le_succ _
  cases ts with
  | nil =>
    have : (Str.join ", " ([] : List Str)).length = 0 := rfl
    simp only [List.map_nil, List.sum_nil]
    omega
  | cons x r =>
    have := join_length_add (x :: r) (by simp)
    unfold piled at this
    omega
theorem dictText_le (ts : List Str) : (dictText ts).length ≤ (ts.map fun t => t.length + 2).sum + 2 := by
  unfold dictText
  rw [strLen_append, strLen_append]
  have e1 : ("{" : Str).length = 1 := rfl
  have e2 : ("}" : Str).length = 1 := rfl
  cases ts with
  | nil =>
    have : (Str.join ", " ([] : List Str)).length = 0 := rfl
    simp only [List.map_nil, List.sum_nil]
    omega
  | cons x r =>
    have := join_length_add (x :: r) (by simp)
    unfold piled at this
    omega
mutual
theorem shown_le : ∀ d : PyData, sigs d = true → d.shown.length ≤ wt d
  | .none, _ => by simp only [PyData.shown, wt]; decide
  | .bool b, _ => by simp only [PyData.shown, wt]; cases b <;> decide
  | .int i, _ => by
    simp only [PyData.shown, wt]
    have := int_text_length_le (a := i) (k := i.natAbs.log2 + 1) (Nat.succ_pos _) (Nat.lt_succ_self _)
    show (Str.ofString (toString i)).length ≤ _
    rw [PySem.ofString_length]; omega
  | .str x, s => by
    simp only [PyData.shown, wt]
    refine StrLaws.reprText_len x fun c hc => ?_
    simp only [sigs, List.all_eq_true, decide_eq_true_eq] at s
    exact s c hc
  | .list xs, s => by
    simp only [PyData.shown, wt]
    have := shownAll_le xs (by simpa only [sigs] using s)
    have := listText_le (PyData.shownAll xs)
    omega
  | .tuple xs, s => by
    simp only [PyData.shown, wt]
    have := shownAll_le xs (by simpa only [sigs] using s)
    have := tupleText_le (PyData.shownAll xs)
    omega
  | .dict kvs, s => by
    simp only [PyData.shown, wt]
    have := shownKv_le kvs (by simpa only [sigs] using s)
    have := dictText_le (PyData.shownKv kvs)
    omega
theorem shownAll_le : ∀ xs : List PyData, sigsAll xs = true → ((PyData.shownAll xs).map fun t => t.length + 2).sum ≤ wts xs
  | [], _ => by simp [PyData.shownAll, wts]
  | x :: xs, s => by
    simp only [sigsAll, Bool.and_eq_true] at s
    have h1 := shown_le x s.1
    have h2 := shownAll_le xs s.2
    simp only [PyData.shownAll, wts, List.map_cons, List.sum_cons]
    omega
theorem shownKv_le : ∀ xs : List (PyData × PyData), sigsKv xs = true → ((PyData.shownKv xs).map fun t => t.length + 2).sum ≤ wtk xs
  | [], _ => by simp [PyData.shownKv, wtk]
  | (k, v) :: xs, s => by
    simp only [sigsKv, Bool.and_eq_true] at s
    have h1 := shown_le k s.1.1
    have h2 := shown_le v s.1.2
    have h3 := shownKv_le xs s.2
    simp only [PyData.shownKv, wtk, List.map_cons, List.sum_cons]
    rw [strLen_append, strLen_append]
    have e1 : (": " : Str).length = 2 := rfl
    omega
end
/-- what is asked of a value whose repr is taken, put together -/
theorem repr_ok {h : PH} {p : PV} {Q : PK} (f : okR (vwL h p) = true) (hs : (toD (vwL h p)).showable = true) (hd : (toD (vwL h p)).depth ≤ 64) (hg : sigs (toD (vwL h p)) = true) (hw : wt (toD (vwL h p)) ≤ SZ) (q : Q (.str (toD (vwL h p)).shown) h) : rRepr [p] h Q :=
  ⟨⟨f, hs, hd, Nat.le_trans (shown_le _ hg) hw⟩, q⟩
theorem log_lt {i : Int} {k : Nat} (h : i.natAbs < 2 ^ (k + 1)) : i.natAbs.log2 < k + 1 := by
  by_cases z : i.natAbs = 0
  · rw [z]; simp
  · exact (Nat.log2_lt z).mpr h
end N3

/-! what is drawn: texts of few signs, data of few parts -/
namespace N3
open PySem PySem.Spec PyProof.Rows L2

theorem draw_to {D : Dk} {n : Nat} {h : PH} {Q : PK} {many : Int} (ha : D.At n h) (hn : n < 900000000) (h1 : 1 ≤ many) (h2 : many < 1073741824) (k : ∀ r h', 0 ≤ r → r < many → D.At (n + 1) h' → Q (.int r) h') : spDraw [.ref D.d, .int many] h Q :=
  ⟨D, n, many, rfl, ha, by omega, h1, h2, k⟩
theorem pick_lst {D : Dk} {n : Nat} {h : PH} {Q : PK} {xs : List PV} (ha : D.At n h) (hn : n < 900000000) (h1 : xs ≠ []) (h2 : xs.length ≤ 100000) (k : ∀ v ∈ xs, ∀ h', D.At (n + 1) h' → Q v h') : spPick [.ref D.d, .lst xs] h Q :=
  ⟨D, n, _, xs, rfl, ha, by omega, rfl, h1, by show _ ≤ 16777216; omega, fun v h' hv a => k v hv h' a⟩
theorem pick_tup {D : Dk} {n : Nat} {h : PH} {Q : PK} {xs : List PV} (ha : D.At n h) (hn : n < 900000000) (h1 : xs ≠ []) (h2 : xs.length ≤ 100000) (k : ∀ v ∈ xs, ∀ h', D.At (n + 1) h' → Q v h') : spPick [.ref D.d, .tup xs] h Q :=
  ⟨D, n, _, xs, rfl, ha, by omega, rfl, h1, by show _ ≤ 16777216; omega, fun v h' hv a => k v hv h' a⟩
theorem ones_length (x : Str) : (ones x).length = (cl x).length := by unfold ones; rw [List.length_map]
theorem pick_str {D : Dk} {n : Nat} {h : PH} {Q : PK} {x : Str} (ha : D.At n h) (hn : n < 900000000) (h1 : cl x ≠ []) (h2 : (cl x).length ≤ 100000) (k : ∀ c ∈ cl x, ∀ h', D.At (n + 1) h' → Q (.str (S [c])) h') : spPick [.ref D.d, .str x] h Q := by
  refine ⟨D, n, _, ones x, rfl, ha, by omega, rfl, fun e => h1 (List.map_eq_nil_iff.mp e), by rw [ones_length]; show _ ≤ 16777216; omega, fun v h' hv a => ?_⟩
  obtain ⟨c, hc, rfl⟩ := List.mem_map.mp hv
  exact k c hc h' a
/-- an item, by its place -/
theorem ix_lst {xs : List PV} {r : Int} {h : PH} {Q : PK} (h0 : 0 ≤ r) (h1 : r < xs.length) (k : ∀ v ∈ xs, Q v h) : rIx (.lst xs) (.int r) h Q := by
  obtain ⟨v, hv, e⟩ := atI_nat h0 h1
  simp only [rIx, seqL, e]
  exact k v hv
theorem ix_tup {xs : List PV} {r : Int} {h : PH} {Q : PK} (h0 : 0 ≤ r) (h1 : r < xs.length) (k : ∀ v ∈ xs, Q v h) : rIx (.tup xs) (.int r) h Q := by
  obtain ⟨v, hv, e⟩ := atI_nat h0 h1
  simp only [rIx, e]
  exact k v hv
theorem atI_lst {xs : List PV} {r : Int} {Z : PV → Prop} (h0 : 0 ≤ r) (h1 : r < xs.length) (k : ∀ v ∈ xs, Z v) : (match atI xs r with | some v => Z v | none => False) := by
  obtain ⟨v, hv, e⟩ := atI_nat h0 h1
  rw [e]; exact k v hv

/-- what is not right: nothing -/
theorem none_wrong {τ : PSt} {i : Nat} {sp : SpP} {xs : List PV} {h : PH} {Q : List PV → PH → Prop} (hi : ∀ v, gt (st τ i (some v)) i = some v) (hx : ∀ x ∈ xs, ∀ P : PK, P (.bl true) h → sp [x] h P) (q : Q [] h) :
    lcL (fun _ => True) τ (gN i) (mNotT (mTest (mBlt sp (mCons (mVar i) mNil)))) (mVar i) xs [] h Q := by
  refine lcL_filter (c := fun _ => false) (f := id) trivial _ _ (fun p hp P acc z => ?_) (by rw [show (List.filter (fun _ => false) xs) = [] from by induction xs <;> simp_all]; exact q)
  simp only [gN, mNotT, mTest, mBlt, mCons, mVar, mNil, hi]
  exact hx p hp _ z
theorem okRs_of : ∀ {ps : List PV}, (∀ p ∈ ps, okR p = true) → okRs ps = true
  | [], _ => rfl
  | p :: ps, h => by
    show (okR p && okRs ps) = true
    rw [h p List.mem_cons_self, okRs_of fun q hq => h q (List.mem_cons_of_mem _ hq)]; rfl
theorem eqv_str (x : Str) : PyData.eqv (.str x) (.str x) = true := eqv_self _ rfl
/-! ### objects beside the deck -/
def Dk.wr (D : Dk) (a : Addr) (o : PO) : Dk := { D with h0 := up D.h0 a o }
theorem Dk.wr_hp {D : Dk} {a : Addr} {o : PO} {xs : List Int} {g : Int} (n1 : a ≠ D.d) (n2 : a ≠ D.l) : (D.wr a o).hp xs g = up (D.hp xs g) a o := by
  unfold Dk.hp Dk.wr
  dsimp only
  rw [up_swap n1, up_swap n2]
theorem Dk.At.wr {D : Dk} {n : Nat} {h : PH} {a : Addr} (o : PO) (ha : D.At n h) (n1 : a ≠ D.d) (n2 : a ≠ D.l) : (D.wr a o).At n (up h a o) := by
  obtain ⟨xs, g, h1, h2, h3, rfl⟩ := ha
  exact ⟨xs, g, h1, h2, h3, (Dk.wr_hp n1 n2).symm⟩
theorem Dk.At.ne {D : Dk} {n : Nat} {h : PH} {a : Addr} (ha : D.At n h) (e : h a = none) : a ≠ D.d ∧ a ≠ D.l := by
  obtain ⟨xs, g, h1, h2, h3, rfl⟩ := ha
  refine ⟨fun z => ?_, fun z => ?_⟩
  · rw [z, Dk.at_d] at e; cases e
  · rw [z, Dk.at_l] at e; cases e
theorem Dk.At.rd {D : Dk} {n : Nat} {h : PH} {a : Addr} (ha : D.At n h) (n1 : a ≠ D.d) (n2 : a ≠ D.l) : h a = D.h0 a := by
  obtain ⟨xs, g, h1, h2, h3, rfl⟩ := ha
  unfold Dk.hp
  rw [up_ne n2, up_ne n1]
theorem Dk.wr_wr {D : Dk} {a : Addr} {o u : PO} : (D.wr a o).wr a u = D.wr a u := by
  unfold Dk.wr
  dsimp only
  rw [up_up]
theorem Dk.wr_sw {D : Dk} {a b : Addr} {o u : PO} (e : a ≠ b) : (D.wr a o).wr b u = (D.wr b u).wr a o := by
  unfold Dk.wr
  dsimp only
  rw [up_swap e]
theorem Dk.At.back {D : Dk} {n : Nat} {h : PH} {a : Addr} {o : PO} (ha : (D.wr a o).At n h) (e : D.h0 a = none) (n1 : a ≠ D.d) (n2 : a ≠ D.l) : ∃ h0, sub h0 h ∧ h0 a = .none ∧ D.At n h0 := by
  obtain ⟨xs, g, h1, h2, h3, rfl⟩ := ha
  refine ⟨D.hp xs g, ?_, by unfold Dk.hp; rw [up_ne n2, up_ne n1]; exact e, xs, g, h1, h2, h3, rfl⟩
  rw [Dk.wr_hp n1 n2]
  refine sub_up ?_
  unfold Dk.hp
  rw [up_ne n2, up_ne n1]; exact e
theorem Dk.At.none {D : Dk} {n : Nat} {h : PH} {a : Addr} (ha : D.At n h) (e : h a = none) : D.h0 a = none := by
  obtain ⟨n1, n2⟩ := ha.ne e
  rw [← ha.rd n1 n2]; exact e
theorem ixN_nat {n q : Nat} (h : q < n) : ixN n (q : Int) = some q := by
  unfold ixN
  have h0 : (0 : Int) ≤ q := by omega
  have h1 : (q : Int) < n := by omega
  simp only [h0, h1, if_true, Int.toNat_natCast]
theorem rep_one {α : Type} (n : Nat) (x : α) : (List.replicate n [x]).flatten = List.replicate n x := by
  induction n with
  | zero => rfl
  | succ n ih => rw [List.replicate_succ, List.flatten_cons, ih, List.replicate_succ]; rfl
theorem flats_of {ps : List PV} (h : ∀ p ∈ ps, flat p = true) : flats ps = true := by
  induction ps with
  | nil => rfl
  | cons p ps ih =>
    show (flat p && flats ps) = true
    rw [h p List.mem_cons_self, ih fun q hq => h q (List.mem_cons_of_mem _ hq)]; rfl
theorem sub_lose {h : PH} {a : Addr} {o : PO} (e : h a = none) : sub h (lose (up h a o) a) := fun b u z => by
  have hb : b ≠ a := fun q => by rw [q, e] at z; cases z
  rw [lose_ne hb, up_ne hb]; exact z
theorem sub_lose' {h0 h : PH} {a : Addr} (s : sub h0 h) (e : h0 a = none) : sub h0 (lose h a) := fun b u z => by
  have hb : b ≠ a := fun q => by rw [q, e] at z; cases z
  rw [lose_ne hb]; exact s b u z
theorem eqv_int (x y : Int) : PyData.eqv (.int x) (.int y) = decide (x = y) := by
  show (x == y) = _
  by_cases h : x = y <;> simp [h]
theorem eqv_S (x y : List Nat) : PyData.eqv (.str (S x)) (.str (S y)) = decide (x = y) := by
  show (S x == S y) = _
  by_cases h : x = y
  · subst h; simp
  · rw [decide_eq_false h]
    exact beq_eq_false_iff_ne.mpr fun z => h (by have := congrArg cl z; rwa [cl_S, cl_S] at this)
theorem eqv_nil (xs : List PV) : PyData.eqv (.list (toDs xs)) (.list []) = xs.isEmpty := by cases xs <;> rfl
theorem perm_one {α : Type} {le : α → α → Prop} : ∀ {a b : List α}, a.Perm b → a.Pairwise le → b.Pairwise le → (∀ x ∈ a, ∀ y ∈ a, le x y → le y x → x = y) → a = b
  | [], b, p, _, _, _ => by rw [List.nil_perm.mp p]
  | x :: a, [], p, _, _, _ => by cases p.symm.nil_eq
  | x :: a, y :: b, p, h1, h2, an => by
    have e : x = y := by
      have hx : x ∈ y :: b := p.mem_iff.mp List.mem_cons_self
      have hy : y ∈ x :: a := p.mem_iff.mpr List.mem_cons_self
      rcases List.mem_cons.mp hx with e | hx'
      · exact e
      rcases List.mem_cons.mp hy with e | hy'
      · exact e.symm
      · exact an x List.mem_cons_self y hy ((List.pairwise_cons.mp h1).1 y hy') ((List.pairwise_cons.mp h2).1 x hx')
    subst e
    rw [perm_one (List.perm_cons x |>.mp p) (List.pairwise_cons.mp h1).2 (List.pairwise_cons.mp h2).2 fun z hz w hw => an z (List.mem_cons_of_mem _ hz) w (List.mem_cons_of_mem _ hw)]
/-! ### texts of signs below 128 -/
structure Tx (n : Nat) (l : List Nat) : Prop where
  c : ∀ c ∈ l, c < 128
  n : l.length ≤ n
section
variable {n m : Nat} {l k : List Nat}
theorem Tx.mono (t : Tx n l) (h : n ≤ m) : Tx m l := ⟨t.c, Nat.le_trans t.n h⟩
theorem Tx.nil : Tx n [] := ⟨fun _ h => (List.not_mem_nil h).elim, Nat.zero_le _⟩
theorem Tx.one {c : Nat} (h : c < 128) : Tx 1 [c] := ⟨fun x hx => by rw [List.mem_singleton] at hx; omega, Nat.le_refl _⟩
theorem Tx.app (t : Tx n l) (u : Tx m k) : Tx (n + m) (l ++ k) := ⟨fun c hc => (List.mem_append.mp hc).elim (t.c c) (u.c c), by rw [List.length_append]; have := t.n; have := u.n; omega⟩
theorem mem_cut {α : Type} {xs : List α} {lo hi : Option Int} {x : α} (h : x ∈ cut xs lo hi) : x ∈ xs := by
  unfold cut at h; exact List.mem_of_mem_drop (List.mem_of_mem_take h)
theorem Tx.cut (t : Tx n l) (lo hi : Option Int) : Tx n (cut l lo hi) := ⟨fun c hc => t.c c (mem_cut hc), Nat.le_trans (cut_length _ _ _) t.n⟩
theorem Tx.rev (t : Tx n l) : Tx n l.reverse := ⟨fun c hc => t.c c (List.mem_reverse.mp hc), by rw [List.length_reverse]; exact t.n⟩
theorem len_rep (k : Nat) (l : List Nat) : (List.replicate k l).flatten.length = k * l.length := by
  rw [List.length_flatten, List.map_replicate, List.sum_replicate_nat]
theorem Tx.rep (t : Tx n l) (k : Nat) : Tx (k * n) (List.replicate k l).flatten := ⟨fun c hc => by
  obtain ⟨y, hy, hx⟩ := List.mem_flatten.mp hc
  rw [(List.mem_replicate.mp hy).2] at hx
  exact t.c c hx, by rw [len_rep]; exact Nat.mul_le_mul_left _ t.n⟩
theorem Tx.len (t : Tx n l) (h : n ≤ 1000000) : (S l).length ≤ SZ := by rw [S_length]; have := t.n; show _ ≤ 16777216; omega
end
/-- the text of a number -/
theorem tx_num {i : Int} {k : Nat} (hk : 0 < k) (h : i.natAbs < 10 ^ k) : Tx (k + 1) (cl (Str.ofString (toString i))) := by
  refine ⟨fun c hc => ?_, ?_⟩
  · have := PySem.W.KSb.asc_num i
    exact this c (by simpa [cl] using hc)
  · rw [← cl_length, PySem.ofString_length]
    exact int_text_length_le10 hk h

/-! ### data: how deep, how long its text may be -/
structure TH (n z : Nat) (p : PV) : Prop where
  ok : okR p = true
  sh : (toD p).showable = true
  dp : (toD p).depth ≤ n
  sg : sigs (toD p) = true
  sz : wt (toD p) ≤ z
section
variable {n m z y : Nat} {p : PV} {ps : List PV}
theorem TH.mono (t : TH n z p) (h1 : n ≤ m) (h2 : z ≤ y) : TH m y p := ⟨t.ok, t.sh, Nat.le_trans t.dp h1, t.sg, Nat.le_trans t.sz h2⟩
theorem TH.str {l : List Nat} (t : Tx n l) : TH 0 (10 * n + 2) (.str (S l)) := by
  refine ⟨rfl, rfl, Nat.le_refl _, ?_, ?_⟩
  · show (cl (S l)).all _ = true
    rw [List.all_eq_true]
    intro c hc
    have := t.c c hc
    rw [decide_eq_true_eq]
    exact Nat.lt_of_lt_of_le this (by decide)
  · show 10 * (S l).length + 2 ≤ _
    rw [S_length]; have := t.n; omega
theorem TH.strS {x : Str} (t : Tx n (cl x)) : TH 0 (10 * n + 2) (.str x) := by
  have := TH.str t
  rwa [S_cl] at this
theorem TH.int {i : Int} {k : Nat} (h : i.natAbs < 2 ^ (k + 1)) (hk : k < 1900 := by decide) : TH 0 (k + 3) (.int i) := by
  have := log_lt h
  refine ⟨rfl, ?_, Nat.le_refl _, rfl, ?_⟩
  · show decide (_ < 1920) = true
    rw [decide_eq_true_eq]; omega
  · show i.natAbs.log2 + 2 ≤ _
    omega
theorem TH.non : TH 0 4 .non := ⟨rfl, rfl, Nat.le_refl _, rfl, Nat.le_refl _⟩
theorem TH.bl {b : Bool} : TH 0 5 (.bl b) := ⟨rfl, rfl, Nat.le_refl _, rfl, Nat.le_refl _⟩
theorem TH.all (h : ∀ p ∈ ps, TH n z p) : okRs ps = true ∧ PyData.showableAll (toDs ps) = true ∧ PyData.depthAll (toDs ps) ≤ n ∧ sigsAll (toDs ps) = true ∧ wts (toDs ps) ≤ ps.length * (z + 2) := by
  induction ps with
  | nil => exact ⟨rfl, rfl, Nat.zero_le _, rfl, Nat.zero_le _⟩
  | cons p ps ih =>
    obtain ⟨h1, h2, h3, h4, h5⟩ := ih fun q hq => h q (List.mem_cons_of_mem _ hq)
    have t := h p List.mem_cons_self
    refine ⟨?_, ?_, ?_, ?_, ?_⟩
    · show (okR p && okRs ps) = true; rw [t.ok, h1]; rfl
    · show ((toD p).showable && PyData.showableAll (toDs ps)) = true; rw [t.sh, h2]; rfl
    · show max (toD p).depth (PyData.depthAll (toDs ps)) ≤ n
      exact Nat.max_le.mpr ⟨t.dp, h3⟩
    · show (sigs (toD p) && sigsAll (toDs ps)) = true; rw [t.sg, h4]; rfl
    · show wt (toD p) + 2 + wts (toDs ps) ≤ _
      have := t.sz
      rw [List.length_cons, Nat.add_mul]
      omega
theorem TH.lst (h : ∀ p ∈ ps, TH n z p) : TH (n + 1) (ps.length * (z + 2) + 2) (.lst ps) := by
  obtain ⟨h1, h2, h3, h4, h5⟩ := TH.all h
  refine ⟨h1, h2, ?_, h4, ?_⟩
  · show PyData.depthAll (toDs ps) + 1 ≤ _; omega
  · show wts (toDs ps) + 2 ≤ _; omega
theorem TH.tup (h : ∀ p ∈ ps, TH n z p) : TH (n + 1) (ps.length * (z + 2) + 3) (.tup ps) := by
  obtain ⟨h1, h2, h3, h4, h5⟩ := TH.all h
  refine ⟨h1, h2, ?_, h4, ?_⟩
  · show PyData.depthAll (toDs ps) + 1 ≤ _; omega
  · show wts (toDs ps) + 3 ≤ _; omega
theorem TH.repr {h : PH} {Q : PK} (t : TH n z (vwL h p)) (hn : n ≤ 64) (hz : z ≤ SZ) (q : Q (.str (toD (vwL h p)).shown) h) : rRepr [p] h Q :=
  repr_ok t.ok t.sh (Nat.le_trans t.dp hn) t.sg (Nat.le_trans t.sz hz) q
end
end N3

namespace Wneversaid_k25_runs
open PySem PySem.Spec PyProof.Rows L2 N3
def top (i : Nat) : Stmt := PySem.Challenge.pw_neversaid_k25_runs.main.body.getD i (.Pass ⟨0, 0, 0, 0⟩)
abbrev s_place_of : Stmt := top 6
abbrev s_law_reel : Stmt := top 14
abbrev s_law_next : Stmt := top 15
abbrev s_law_mixed : Stmt := top 20
abbrev s_mixed : Stmt := top 7
abbrev s_law_one_of : Stmt := top 16
abbrev s_law_many : Stmt := top 19
abbrev s_law_ends : Stmt := top 21
abbrev s_ends_run : Stmt := top 11
abbrev s_law_line : Stmt := top 17
abbrev s_law_cut_right : Stmt := top 22
abbrev s_runs_of : Stmt := top 12
abbrev s_law_lines : Stmt := top 18
abbrev s_law_right : Stmt := top 23
abbrev s_law_near_right : Stmt := top 24
abbrev s_law : Stmt := top 25
/-! ### place_of -/
abbrev N_place_of : List Str := ["sign"]
abbrev P_place_of : List Str := ["sign"]
theorem sc_place_of : FnScope N_place_of P_place_of (defScope s_place_of) := ⟨rfl, rfl, rfl, by decide +kernel, rfl, by decide +kernel, by decide +kernel⟩
def m_place_of : MS :=
  mRet (mIf (mTest (mB rEq (mVar 0) (mC (.str "\n")))) (mBlt rLen (mCons (mC (.str "abcdefghijklmnopqrstuvwxyz0123456789-: ")) (mNil))) (mM1 (rSS fun a b => .int (Txt.find a b)) (mC (.str "abcdefghijklmnopqrstuvwxyz0123456789-: ")) (mCons (mVar 0) (mNil))))
theorem ok_place_of {P : Program} {w : World} {K : PySem.W.Frag} {mg : Str → Option Value} {base : Heap} {f : Addr} {fd : FuncData} {t_SIGNS : Tok} {sp : SpP} (F : Fun K "place_of" "place_of" s_place_of f fd) (z_len : mg "len" = none) (g_SIGNS : mg "SIGNS" = some (.str "abcdefghijklmnopqrstuvwxyz0123456789-: " t_SIGNS))
    (hp : ∀ (qs : List PV) (h : PH) (Q : N3.PK), qs.length = P_place_of.length → sp qs h Q → m_place_of (ends Q) (sp0 N_place_of.length qs) h) : FnG P w K mg base (0 + 1) f fd P_place_of sp := by
  refine fn_ok (k := 0) F sc_place_of (m := m_place_of) (fun cdv A outer s H E hr hG => ?_) hp
  have nd := sc_place_of.nd
  exact ls_one (ls_ret (le_if (lt_cmp (op_eqA (hu64 hr)) lf_eq (le_var (i := 0)) (le_str) (nomark _)) (le_len z_len (la_cons (le_glS g_SIGNS) (la_nil))) (le_find (le_glS g_SIGNS) (la_cons (le_var (i := 0)) (la_nil)))))
/-! ### law_reel -/
abbrev N_law_reel : List Str := ["_law_script", "_law_cells", "_law_stir", "_law_cell"]
abbrev P_law_reel : List Str := ["_law_script"]
theorem sc_law_reel : FnScope N_law_reel P_law_reel (defScope s_law_reel) := ⟨rfl, rfl, rfl, by decide +kernel, rfl, by decide +kernel, by decide +kernel⟩
def m_law_reel : MS :=
  mSeq (mPar 1 2 (mCons (mBlt rListA (mCons (mSl (mVar 0) (mNoPart) (mPart (mC (.int 63)))) (mNil))) (mCons (mC (.int 104729)) (mNil))))
  (mSeq (mFor (mSeqs (mVar 1)) (gN 3) (mAsg (mB rMod (mB rAdd (mB rAdd (mB rMul (mVar 2) (mC (.int 75577))) (mB rMod (mVar 3) (mC (.int 2147483629)))) (mC (.int 7))) (mC (.int 2147483587))) (gN 2)))
  (mRet (mDispM [(mC (.str "cells"), mRevM (mVar 1)), (mC (.str "stir"), mVar 2), (mC (.str "turn"), mC (.int 0))])))
theorem ok_law_reel {P : Program} {w : World} {K : PySem.W.Frag} {mg : Str → Option Value} {base : Heap} {f : Addr} {fd : FuncData} {sp : SpP} (F : Fun K "_law_reel" "_law_reel" s_law_reel f fd) (z_list : mg "list" = none)
    (hp : ∀ (qs : List PV) (h : PH) (Q : N3.PK), qs.length = P_law_reel.length → sp qs h Q → m_law_reel (ends Q) (sp0 N_law_reel.length qs) h) : FnG P w K mg base (0 + 1) f fd P_law_reel sp := by
  refine fn_ok (k := 0) F sc_law_reel (m := m_law_reel) (fun cdv A outer s H E hr hG => ?_) hp
  have nd := sc_law_reel.nd
  exact ls_cons (ls_par (i := 1) (j := 2) rfl nd (la_cons (le_listA rfl z_list (la_cons (le_sl (le_var (i := 0)) (lo_none) (lo_some (le_int))) (la_nil))) (la_cons (le_int) (la_nil))))
    (ls_cons (ls_for (vs := [3]) PassesOwn.never rfl (li_seqs (le_var (i := 1))) (lg_name (i := 3) nd) (ls_one (ls_set (i := 2) nd (le_op op_mod kf_ii (le_op op_addA kf_add (le_op op_addA kf_add (le_op op_mulA kf_mul (le_var (i := 2)) (le_int)) (le_op op_mod kf_ii (le_var (i := 3)) (le_int))) (le_int)) (le_int)))))
    (ls_one (ls_ret (le_dispM (lps_cons (le_str) (le_revM (le_var (i := 1))) (lps_cons (le_str) (le_var (i := 2)) (lps_cons (le_str) (le_int) (lps_nil))))))))
/-! ### law_next -/
abbrev N_law_next : List Str := ["_law_reel_here", "_law_ways", "_law_turn", "_law_number", "_law_cell"]
abbrev P_law_next : List Str := ["_law_reel_here", "_law_ways"]
theorem sc_law_next : FnScope N_law_next P_law_next (defScope s_law_next) := ⟨rfl, rfl, rfl, by decide +kernel, rfl, by decide +kernel, by decide +kernel⟩
def m_law_next : MS :=
  mSeq (mDput (mB rAdd (mB rIx (mVar 0) (mC (.str "turn"))) (mC (.int 1))) (mVar 0) (mC (.str "turn")))
  (mSeq (mPar 2 3 (mCons (mB rIx (mVar 0) (mC (.str "turn"))) (mCons (mB rIx (mVar 0) (mC (.str "stir"))) (mNil))))
  (mSeq (mIfS (mTest (mB rNe (mB rIx (mVar 0) (mC (.str "cells"))) (mLst (mNil)))) (mSeq (mAsg (mPop (mB rIx (mVar 0) (mC (.str "cells")))) (gN 4))
  (mSeq (mIfS (mTest (mB rGe (mVar 4) (mB rPow (mC (.int 10)) (mC (.int 18))))) (mSeq (mDrop (mAppend (mB rIx (mVar 0) (mC (.str "cells"))) (mCons (mB rDiv (mVar 4) (mVar 1)) (mNil))))
  (mRet (mB rMod (mVar 4) (mVar 1)))) (mNx))
  (mAsg (mB rAdd (mVar 3) (mB rMod (mVar 4) (mC (.int 2147483629)))) (gN 3)))) (mNx))
  (mSeq (mAsg (mB rMod (mB rMul (mB rAdd (mVar 3) (mB rMul (mB rMul (mC (.int 52361)) (mVar 2)) (mVar 2))) (mC (.int 48271))) (mC (.int 2147483647))) (gN 3))
  (mSeq (mAsg (mB rMod (mB rAdd (mB rAdd (mB rMul (mVar 3) (mVar 3)) (mB rMul (mC (.int 30011)) (mVar 2))) (mC (.int 5))) (mC (.int 2147483579))) (gN 3))
  (mRet (mB rMod (mB rDiv (mB rMod (mB rMul (mVar 3) (mB rAdd (mB rDiv (mVar 3) (mC (.int 3))) (mC (.int 69621)))) (mC (.int 2147483563))) (mC (.int 32))) (mVar 1)))))))
theorem ok_law_next {P : Program} {w : World} {K : PySem.W.Frag} {mg : Str → Option Value} {base : Heap} {f : Addr} {fd : FuncData} {sp : SpP} (F : Fun K "_law_next" "_law_next" s_law_next f fd)
    (hp : ∀ (qs : List PV) (h : PH) (Q : N3.PK), qs.length = P_law_next.length → sp qs h Q → m_law_next (ends Q) (sp0 N_law_next.length qs) h) : FnG P w K mg base (0 + 1) f fd P_law_next sp := by
  refine fn_ok (k := 0) F sc_law_next (m := m_law_next) (fun cdv A outer s H E hr hG => ?_) hp
  have nd := sc_law_next.nd
  exact ls_cons (ls_dput (hu1 hr) (le_var (i := 0)) (le_str) (le_op op_addA kf_add (le_ix (hu1 hr) (le_var (i := 0)) (le_str)) (le_int)))
    (ls_cons (ls_par (i := 2) (j := 3) rfl nd (la_cons (le_ix (hu1 hr) (le_var (i := 0)) (le_str)) (la_cons (le_ix (hu1 hr) (le_var (i := 0)) (le_str)) (la_nil))))
    (ls_cons (ls_if (lt_cmp (op_neA (hu64 hr)) lf_ne (le_ix (hu1 hr) (le_var (i := 0)) (le_str)) (le_lst (la_nil)) (nomark _)) (ls_cons (ls_set (i := 4) nd (le_pop (le_ix (hu1 hr) (le_var (i := 0)) (le_str))))
    (ls_cons (ls_if (lt_cmp op_geA lf_cmp (le_var (i := 4)) (le_op op_pow kf_ii (le_int) (le_int)) (nomark _)) (ls_cons (ls_expr (le_append (le_ix (hu1 hr) (le_var (i := 0)) (le_str)) (la_cons (le_op op_fdiv kf_ii (le_var (i := 4)) (le_var (i := 1))) (la_nil))))
    (ls_one (ls_ret (le_op op_mod kf_ii (le_var (i := 4)) (le_var (i := 1)))))) (ls_nil))
    (ls_one (ls_set (i := 3) nd (le_op op_addA kf_add (le_var (i := 3)) (le_op op_mod kf_ii (le_var (i := 4)) (le_int))))))) (ls_nil))
    (ls_cons (ls_set (i := 3) nd (le_op op_mod kf_ii (le_op op_mulA kf_mul (le_op op_addA kf_add (le_var (i := 3)) (le_op op_mulA kf_mul (le_op op_mulA kf_mul (le_int) (le_var (i := 2))) (le_var (i := 2)))) (le_int)) (le_int)))
    (ls_cons (ls_set (i := 3) nd (le_op op_mod kf_ii (le_op op_addA kf_add (le_op op_addA kf_add (le_op op_mulA kf_mul (le_var (i := 3)) (le_var (i := 3))) (le_op op_mulA kf_mul (le_int) (le_var (i := 2)))) (le_int)) (le_int)))
    (ls_one (ls_ret (le_op op_mod kf_ii (le_op op_fdiv kf_ii (le_op op_mod kf_ii (le_op op_mulA kf_mul (le_var (i := 3)) (le_op op_addA kf_add (le_op op_fdiv kf_ii (le_var (i := 3)) (le_int)) (le_int))) (le_int)) (le_int)) (le_var (i := 1)))))))))
/-! ### law_mixed -/
abbrev N_law_mixed : List Str := ["_law_text", "_law_signs", "_law_number", "_law_sign"]
abbrev P_law_mixed : List Str := ["_law_text"]
theorem sc_law_mixed : FnScope N_law_mixed P_law_mixed (defScope s_law_mixed) := ⟨rfl, rfl, rfl, by decide +kernel, rfl, by decide +kernel, by decide +kernel⟩
def m_law_mixed : MS :=
  mSeq (mAsg (mTup (mCons (mC (.str "abcdefghijklmnopqrstuvwxyz0123456789-: \n")) (mCons (mC (.int 11)) (mNil)))) (gT 2 (gsCons (gN 1) (gsCons (gN 2) (gsNil)))))
  (mSeq (mFor (mSeqs (mVar 0)) (gN 3) (mAsg (mB rMod (mB rAdd (mB rAdd (mB rMul (mVar 2) (mC (.int 69621))) (mM1 rIdxS (mVar 1) (mCons (mVar 3) (mNil)))) (mC (.int 1))) (mC (.int 2147483647))) (gN 2)))
  (mRet (mB rMod (mB rAdd (mB rMul (mVar 2) (mVar 2)) (mC (.int 48271))) (mC (.int 2147483647)))))
theorem ok_law_mixed {P : Program} {w : World} {K : PySem.W.Frag} {mg : Str → Option Value} {base : Heap} {f : Addr} {fd : FuncData} {sp : SpP} (F : Fun K "_law_mixed" "_law_mixed" s_law_mixed f fd)
    (hp : ∀ (qs : List PV) (h : PH) (Q : N3.PK), qs.length = P_law_mixed.length → sp qs h Q → m_law_mixed (ends Q) (sp0 N_law_mixed.length qs) h) : FnG P w K mg base (0 + 1) f fd P_law_mixed sp := by
  refine fn_ok (k := 0) F sc_law_mixed (m := m_law_mixed) (fun cdv A outer s H E hr hG => ?_) hp
  have nd := sc_law_mixed.nd
  exact ls_cons (ls_asg (vs := [1, 2]) (le_tup (la_cons (le_str) (la_cons (le_int) (la_nil)))) (lg_tup rfl (lgs_cons (lg_name (i := 1) nd) (lgs_cons (lg_name (i := 2) nd) (lgs_nil)))))
    (ls_cons (ls_for (vs := [3]) PassesOwn.never rfl (li_seqs (le_var (i := 0))) (lg_name (i := 3) nd) (ls_one (ls_set (i := 2) nd (le_op op_mod kf_ii (le_op op_addA kf_add (le_op op_addA kf_add (le_op op_mulA kf_mul (le_var (i := 2)) (le_int)) (le_indexS rfl (le_var (i := 1)) (la_cons (le_var (i := 3)) (la_nil)))) (le_int)) (le_int)))))
    (ls_one (ls_ret (le_op op_mod kf_ii (le_op op_addA kf_add (le_op op_mulA kf_mul (le_var (i := 2)) (le_var (i := 2))) (le_int)) (le_int)))))
/-! ### mixed -/
abbrev N_mixed : List Str := ["text", "number", "sign"]
abbrev P_mixed : List Str := ["text"]
theorem sc_mixed : FnScope N_mixed P_mixed (defScope s_mixed) := ⟨rfl, rfl, rfl, by decide +kernel, rfl, by decide +kernel, by decide +kernel⟩
def m_mixed (sp_place_of : SpP) : MS :=
  mSeq (mAsg (mC (.int 11)) (gN 1))
  (mSeq (mFor (mSeqs (mVar 0)) (gN 2) (mAsg (mB rMod (mB rAdd (mB rAdd (mB rMul (mVar 1) (mC (.int 69621))) (mBlt sp_place_of (mCons (mVar 2) (mNil)))) (mC (.int 1))) (mC (.int 2147483647))) (gN 1)))
  (mRet (mB rMod (mB rAdd (mB rMul (mVar 1) (mVar 1)) (mC (.int 48271))) (mC (.int 2147483647)))))
theorem ok_mixed {P : Program} {w : World} {K : PySem.W.Frag} {mg : Str → Option Value} {base : Heap} {f : Addr} {fd : FuncData} {t_FIRST : Tok} {t_TIMES : Tok} {t_P : Tok} {t_MORE : Tok} {sp_place_of : SpP} {sp : SpP} (F : Fun K "mixed" "mixed" s_mixed f fd) (c_place_of : Fn P w K mg base 1 "place_of" s_place_of P_place_of sp_place_of) (g_FIRST : mg "FIRST" = some (.int 11 t_FIRST)) (g_TIMES : mg "TIMES" = some (.int 69621 t_TIMES)) (g_P : mg "P" = some (.int 2147483647 t_P)) (g_MORE : mg "MORE" = some (.int 48271 t_MORE))
    (hp : ∀ (qs : List PV) (h : PH) (Q : N3.PK), qs.length = P_mixed.length → sp qs h Q → m_mixed sp_place_of (ends Q) (sp0 N_mixed.length qs) h) : FnG P w K mg base (1 + 1) f fd P_mixed sp := by
  refine fn_ok (k := 1) F sc_mixed (m := m_mixed sp_place_of) (fun cdv A outer s H E hr hG => ?_) hp
  have nd := sc_mixed.nd
  exact ls_cons (ls_set (i := 1) nd (le_glI g_FIRST))
    (ls_cons (ls_for (vs := [2]) PassesOwn.never rfl (li_seqs (le_var (i := 0))) (lg_name (i := 2) nd) (ls_one (ls_set (i := 1) nd (le_op op_mod kf_ii (le_op op_addA kf_add (le_op op_addA kf_add (le_op op_mulA kf_mul (le_var (i := 1)) (le_glI g_TIMES)) (le_fn c_place_of hr (by decide) hG (la_cons (le_var (i := 2)) (la_nil)))) (le_int)) (le_glI g_P)))))
    (ls_one (ls_ret (le_op op_mod kf_ii (le_op op_addA kf_add (le_op op_mulA kf_mul (le_var (i := 1)) (le_var (i := 1))) (le_glI g_MORE)) (le_glI g_P)))))
/-! ### law_one_of -/
abbrev N_law_one_of : List Str := ["_law_reel_here", "_law_some"]
abbrev P_law_one_of : List Str := ["_law_reel_here", "_law_some"]
theorem sc_law_one_of : FnScope N_law_one_of P_law_one_of (defScope s_law_one_of) := ⟨rfl, rfl, rfl, by decide +kernel, rfl, by decide +kernel, by decide +kernel⟩
def m_law_one_of (sp_law_next : SpP) : MS :=
  mRet (mB rIx (mVar 1) (mBlt sp_law_next (mCons (mVar 0) (mCons (mBlt rLen (mCons (mVar 1) (mNil))) (mNil)))))
theorem ok_law_one_of {P : Program} {w : World} {K : PySem.W.Frag} {mg : Str → Option Value} {base : Heap} {f : Addr} {fd : FuncData} {sp_law_next : SpP} {sp : SpP} (F : Fun K "_law_one_of" "_law_one_of" s_law_one_of f fd) (c_law_next : Fn P w K mg base 1 "_law_next" s_law_next P_law_next sp_law_next) (z_len : mg "len" = none)
    (hp : ∀ (qs : List PV) (h : PH) (Q : N3.PK), qs.length = P_law_one_of.length → sp qs h Q → m_law_one_of sp_law_next (ends Q) (sp0 N_law_one_of.length qs) h) : FnG P w K mg base (1 + 1) f fd P_law_one_of sp := by
  refine fn_ok (k := 1) F sc_law_one_of (m := m_law_one_of sp_law_next) (fun cdv A outer s H E hr hG => ?_) hp
  have nd := sc_law_one_of.nd
  exact ls_one (ls_ret (le_ix (hu1 hr) (le_var (i := 1)) (le_fn c_law_next hr (by decide) hG (la_cons (le_var (i := 0)) (la_cons (le_len z_len (la_cons (le_var (i := 1)) (la_nil))) (la_nil))))))
/-! ### law_many -/
abbrev N_law_many : List Str := ["_law_reel_here"]
abbrev P_law_many : List Str := ["_law_reel_here"]
theorem sc_law_many : FnScope N_law_many P_law_many (defScope s_law_many) := ⟨rfl, rfl, rfl, by decide +kernel, rfl, by decide +kernel, by decide +kernel⟩
def m_law_many (sp_law_next : SpP) : MS :=
  mRet (mB rAdd (mB rIx (mLst (mCons (mC (.int 0)) (mCons (mC (.int 1)) (mCons (mC (.int 2)) (mCons (mC (.int 5)) (mCons (mC (.int 6)) (mCons (mC (.int 12)) (mCons (mC (.int 30)) (mCons (mC (.int 70)) (mNil)))))))))) (mBlt sp_law_next (mCons (mVar 0) (mCons (mC (.int 8)) (mNil))))) (mBlt sp_law_next (mCons (mVar 0) (mCons (mC (.int 3)) (mNil)))))
theorem ok_law_many {P : Program} {w : World} {K : PySem.W.Frag} {mg : Str → Option Value} {base : Heap} {f : Addr} {fd : FuncData} {sp_law_next : SpP} {sp : SpP} (F : Fun K "_law_many" "_law_many" s_law_many f fd) (c_law_next : Fn P w K mg base 1 "_law_next" s_law_next P_law_next sp_law_next)
    (hp : ∀ (qs : List PV) (h : PH) (Q : N3.PK), qs.length = P_law_many.length → sp qs h Q → m_law_many sp_law_next (ends Q) (sp0 N_law_many.length qs) h) : FnG P w K mg base (1 + 1) f fd P_law_many sp := by
  refine fn_ok (k := 1) F sc_law_many (m := m_law_many sp_law_next) (fun cdv A outer s H E hr hG => ?_) hp
  have nd := sc_law_many.nd
  exact ls_one (ls_ret (le_op op_addA kf_add (le_ix (hu1 hr) (le_lst (la_cons (le_int) (la_cons (le_int) (la_cons (le_int) (la_cons (le_int) (la_cons (le_int) (la_cons (le_int) (la_cons (le_int) (la_cons (le_int) (la_nil)))))))))) (le_fn c_law_next hr (by decide) hG (la_cons (le_var (i := 0)) (la_cons (le_int) (la_nil))))) (le_fn c_law_next hr (by decide) hG (la_cons (le_var (i := 0)) (la_cons (le_int) (la_nil))))))
/-! ### law_ends -/
abbrev N_law_ends : List Str := ["_law_run", "_law_at"]
abbrev P_law_ends : List Str := ["_law_run", "_law_at"]
theorem sc_law_ends : FnScope N_law_ends P_law_ends (defScope s_law_ends) := ⟨rfl, rfl, rfl, by decide +kernel, rfl, by decide +kernel, by decide +kernel⟩
def m_law_ends (sp_law_mixed : SpP) : MS :=
  mRet (mOr (mB rEq (mVar 1) (mC (.int 5))) (mAnd (mB rGt (mVar 1) (mC (.int 0))) (mB rEq (mB rMod (mBlt sp_law_mixed (mCons (mB rIx (mVar 0) (mVar 1)) (mNil))) (mC (.int 4))) (mC (.int 0)))))
theorem ok_law_ends {P : Program} {w : World} {K : PySem.W.Frag} {mg : Str → Option Value} {base : Heap} {f : Addr} {fd : FuncData} {sp_law_mixed : SpP} {sp : SpP} (F : Fun K "_law_ends" "_law_ends" s_law_ends f fd) (c_law_mixed : Fn P w K mg base 1 "_law_mixed" s_law_mixed P_law_mixed sp_law_mixed)
    (hp : ∀ (qs : List PV) (h : PH) (Q : N3.PK), qs.length = P_law_ends.length → sp qs h Q → m_law_ends sp_law_mixed (ends Q) (sp0 N_law_ends.length qs) h) : FnG P w K mg base (1 + 1) f fd P_law_ends sp := by
  refine fn_ok (k := 1) F sc_law_ends (m := m_law_ends sp_law_mixed) (fun cdv A outer s H E hr hG => ?_) hp
  have nd := sc_law_ends.nd
  exact ls_one (ls_ret (le_or (le_cmp (op_eqA (hu64 hr)) lf_eq (le_var (i := 1)) (le_int) (nomark _)) (le_one (le_and (le_cmp op_gtA lf_cmp (le_var (i := 1)) (le_int) (nomark _)) (le_one (le_cmp (op_eqA (hu64 hr)) lf_eq (le_op op_mod kf_ii (le_fn c_law_mixed hr (by decide) hG (la_cons (le_ix (hu1 hr) (le_var (i := 0)) (le_var (i := 1))) (la_nil))) (le_int)) (le_int) (nomark _)))))))
/-! ### ends_run -/
abbrev N_ends_run : List Str := ["run"]
abbrev P_ends_run : List Str := ["run"]
theorem sc_ends_run : FnScope N_ends_run P_ends_run (defScope s_ends_run) := ⟨rfl, rfl, rfl, by decide +kernel, rfl, by decide +kernel, by decide +kernel⟩
def m_ends_run (sp_mixed : SpP) : MS :=
  mRet (mOr (mB rEq (mBlt rLen (mCons (mVar 0) (mNil))) (mC (.int 6))) (mAnd (mB rGt (mBlt rLen (mCons (mVar 0) (mNil))) (mC (.int 1))) (mB rEq (mB rMod (mBlt sp_mixed (mCons (mB rIx (mVar 0) (mU rNeg (mC (.int 1)))) (mNil))) (mC (.int 4))) (mC (.int 0)))))
theorem ok_ends_run {P : Program} {w : World} {K : PySem.W.Frag} {mg : Str → Option Value} {base : Heap} {f : Addr} {fd : FuncData} {t_CUT_BY : Tok} {t_MOST_LINES : Tok} {sp_mixed : SpP} {sp : SpP} (F : Fun K "ends_run" "ends_run" s_ends_run f fd) (c_mixed : Fn P w K mg base 2 "mixed" s_mixed P_mixed sp_mixed) (z_len : mg "len" = none) (g_CUT_BY : mg "CUT_BY" = some (.int 4 t_CUT_BY)) (g_MOST_LINES : mg "MOST_LINES" = some (.int 6 t_MOST_LINES))
    (hp : ∀ (qs : List PV) (h : PH) (Q : N3.PK), qs.length = P_ends_run.length → sp qs h Q → m_ends_run sp_mixed (ends Q) (sp0 N_ends_run.length qs) h) : FnG P w K mg base (2 + 1) f fd P_ends_run sp := by
  refine fn_ok (k := 2) F sc_ends_run (m := m_ends_run sp_mixed) (fun cdv A outer s H E hr hG => ?_) hp
  have nd := sc_ends_run.nd
  exact ls_one (ls_ret (le_or (le_cmp (op_eqA (hu64 hr)) lf_eq (le_len z_len (la_cons (le_var (i := 0)) (la_nil))) (le_glI g_MOST_LINES) (nomark _)) (le_one (le_and (le_cmp op_gtA lf_cmp (le_len z_len (la_cons (le_var (i := 0)) (la_nil))) (le_int) (nomark _)) (le_one (le_cmp (op_eqA (hu64 hr)) lf_eq (le_op op_mod kf_ii (le_fn c_mixed hr (by decide) hG (la_cons (le_ix (hu1 hr) (le_var (i := 0)) (le_un un_neg lf_neg (le_int))) (la_nil))) (le_glI g_CUT_BY)) (le_int) (nomark _)))))))
/-! ### law_line -/
abbrev N_law_line : List Str := ["_law_reel_here", "_law_sort", "_law_k", "_law_signs", "_law_words", "_law_name", "_law_j"]
abbrev P_law_line : List Str := ["_law_reel_here", "_law_sort", "_law_k"]
theorem sc_law_line : FnScope N_law_line P_law_line (defScope s_law_line) := ⟨rfl, rfl, rfl, by decide +kernel, rfl, by decide +kernel, by decide +kernel⟩
def m_law_line (sp_law_next sp_law_one_of : SpP) : MS :=
  mSeq (mAsg (mC (.str "abcdefghijklmnopqrstuvwxyz0123456789-: ")) (gN 3))
  (mSeq (mAsg (mLst (mCons (mC (.str "a")) (mCons (mC (.str "row")) (mCons (mC (.str ":")) (mCons (mC (.str "now")) (mCons (mC (.str "0")) (mCons (mC (.str "-7")) (mCons (mC (.str "17")) (mCons (mC (.str "to")) (mCons (mC (.str "for")) (mCons (mC (.str "stands")) (mCons (mC (.str "gone")) (mCons (mC (.str "-")) (mCons (mC (.str "999")) (mNil))))))))))))))) (gN 4))
  (mSeq (mIfS (mTest (mB rEq (mVar 1) (mC (.int 0)))) (mRet (mM1 rJoin (mC (.str " ")) (mCons (mLc (mRng1 (mCons (mB rAdd (mC (.int 1)) (mBlt sp_law_next (mCons (mVar 0) (mCons (mC (.int 5)) (mNil))))) (mNil))) [6] (gN 6) (mYes) (mBlt sp_law_one_of (mCons (mVar 0) (mCons (mVar 4) (mNil))))) (mNil)))) (mNx))
  (mSeq (mIfS (mTest (mB rEq (mVar 1) (mC (.int 1)))) (mRet (mB rAdd (mC (.str "stands ann 4 own ")) (mBlt rStrI (mCons (mBlt sp_law_next (mCons (mVar 0) (mCons (mC (.int 400)) (mNil)))) (mNil))))) (mNx))
  (mSeq (mIfS (mTest (mB rEq (mVar 1) (mC (.int 2)))) (mRet (mB rMul (mB rIx (mVar 3) (mB rMod (mVar 2) (mC (.int 3)))) (mB rAdd (mC (.int 1)) (mB rDiv (mVar 2) (mC (.int 3)))))) (mNx))
  (mSeq (mIfS (mTest (mB rEq (mVar 1) (mC (.int 3)))) (mRet (mM1 rJoin (mC (.str "")) (mCons (mLc (mRng1 (mCons (mB rAdd (mC (.int 1)) (mBlt sp_law_next (mCons (mVar 0) (mCons (mC (.int 8)) (mNil))))) (mNil))) [6] (gN 6) (mYes) (mBlt sp_law_one_of (mCons (mVar 0) (mCons (mVar 3) (mNil))))) (mNil)))) (mNx))
  (mSeq (mIfS (mTest (mB rEq (mVar 1) (mC (.int 4)))) (mSeq (mAsg (mBlt sp_law_one_of (mCons (mVar 0) (mCons (mLst (mCons (mC (.str "a")) (mCons (mC (.str "b")) (mCons (mC (.str "ab")) (mCons (mC (.str "rows")) (mNil)))))) (mNil)))) (gN 5))
  (mRet (mM1 rJoin (mC (.str " ")) (mCons (mLst (mCons (mVar 5) (mCons (mBlt rStrI (mCons (mBlt sp_law_next (mCons (mVar 0) (mCons (mC (.int 3)) (mNil)))) (mNil))) (mCons (mBlt rStrI (mCons (mBlt sp_law_next (mCons (mVar 0) (mCons (mC (.int 50)) (mNil)))) (mNil))) (mNil))))) (mNil))))) (mNx))
  (mRet (mB rAdd (mB rMul (mBlt sp_law_one_of (mCons (mVar 0) (mCons (mVar 3) (mNil)))) (mC (.int 40))) (mBlt rStrI (mCons (mBlt sp_law_next (mCons (mVar 0) (mCons (mC (.int 1000)) (mNil)))) (mNil)))))))))))
theorem ok_law_line {P : Program} {w : World} {K : PySem.W.Frag} {mg : Str → Option Value} {base : Heap} {f : Addr} {fd : FuncData} {sp_law_next sp_law_one_of : SpP} {sp : SpP} (F : Fun K "_law_line" "_law_line" s_law_line f fd) (c_law_next : Fn P w K mg base 1 "_law_next" s_law_next P_law_next sp_law_next) (c_law_one_of : Fn P w K mg base 2 "_law_one_of" s_law_one_of P_law_one_of sp_law_one_of) (z_range : mg "range" = none) (z_str : mg "str" = none)
    (hp : ∀ (qs : List PV) (h : PH) (Q : N3.PK), qs.length = P_law_line.length → sp qs h Q → m_law_line sp_law_next sp_law_one_of (ends Q) (sp0 N_law_line.length qs) h) : FnG P w K mg base (2 + 1) f fd P_law_line sp := by
  refine fn_ok (k := 2) F sc_law_line (m := m_law_line sp_law_next sp_law_one_of) (fun cdv A outer s H E hr hG => ?_) hp
  have nd := sc_law_line.nd
  exact ls_cons (ls_set (i := 3) nd (le_str))
    (ls_cons (ls_set (i := 4) nd (le_lst (la_cons (le_str) (la_cons (le_str) (la_cons (le_str) (la_cons (le_str) (la_cons (le_str) (la_cons (le_str) (la_cons (le_str) (la_cons (le_str) (la_cons (le_str) (la_cons (le_str) (la_cons (le_str) (la_cons (le_str) (la_cons (le_str) (la_nil))))))))))))))))
    (ls_cons (ls_if (lt_cmp (op_eqA (hu64 hr)) lf_eq (le_var (i := 1)) (le_int) (nomark _)) (ls_one (ls_ret (le_join (le_str) (la_cons (le_lc [("_law_j", 6)] rfl nd (li_rng1 z_range (la_cons (le_op op_addA kf_add (le_int) (le_fn c_law_next hr (by decide) hG (la_cons (le_var (i := 0)) (la_cons (le_int) (la_nil))))) (la_nil))) (blkOk_by (N := N_law_line) (sc := defScope s_law_line) (own := [("_law_j", 6)]) (by decide +kernel)) (fun _ _ _ _ _ => lg_name (i := 6) nd) (fun _ _ _ _ _ => lts_nil) (fun _ _ _ _ _ => le_fn c_law_one_of hr (by decide) hG (la_cons (le_var (i := 0)) (la_cons (le_var (i := 4)) (la_nil))))) (la_nil))))) (ls_nil))
    (ls_cons (ls_if (lt_cmp (op_eqA (hu64 hr)) lf_eq (le_var (i := 1)) (le_int) (nomark _)) (ls_one (ls_ret (le_op op_addA kf_add (le_str) (le_strI z_str (la_cons (le_fn c_law_next hr (by decide) hG (la_cons (le_var (i := 0)) (la_cons (le_int) (la_nil)))) (la_nil)))))) (ls_nil))
    (ls_cons (ls_if (lt_cmp (op_eqA (hu64 hr)) lf_eq (le_var (i := 1)) (le_int) (nomark _)) (ls_one (ls_ret (le_op op_mulA kf_mul (le_ix (hu1 hr) (le_var (i := 3)) (le_op op_mod kf_ii (le_var (i := 2)) (le_int))) (le_op op_addA kf_add (le_int) (le_op op_fdiv kf_ii (le_var (i := 2)) (le_int)))))) (ls_nil))
    (ls_cons (ls_if (lt_cmp (op_eqA (hu64 hr)) lf_eq (le_var (i := 1)) (le_int) (nomark _)) (ls_one (ls_ret (le_join (le_str) (la_cons (le_lc [("_law_j", 6)] rfl nd (li_rng1 z_range (la_cons (le_op op_addA kf_add (le_int) (le_fn c_law_next hr (by decide) hG (la_cons (le_var (i := 0)) (la_cons (le_int) (la_nil))))) (la_nil))) (blkOk_by (N := N_law_line) (sc := defScope s_law_line) (own := [("_law_j", 6)]) (by decide +kernel)) (fun _ _ _ _ _ => lg_name (i := 6) nd) (fun _ _ _ _ _ => lts_nil) (fun _ _ _ _ _ => le_fn c_law_one_of hr (by decide) hG (la_cons (le_var (i := 0)) (la_cons (le_var (i := 3)) (la_nil))))) (la_nil))))) (ls_nil))
    (ls_cons (ls_if (lt_cmp (op_eqA (hu64 hr)) lf_eq (le_var (i := 1)) (le_int) (nomark _)) (ls_cons (ls_set (i := 5) nd (le_fn c_law_one_of hr (by decide) hG (la_cons (le_var (i := 0)) (la_cons (le_lst (la_cons (le_str) (la_cons (le_str) (la_cons (le_str) (la_cons (le_str) (la_nil)))))) (la_nil)))))
    (ls_one (ls_ret (le_join (le_str) (la_cons (le_lst (la_cons (le_var (i := 5)) (la_cons (le_strI z_str (la_cons (le_fn c_law_next hr (by decide) hG (la_cons (le_var (i := 0)) (la_cons (le_int) (la_nil)))) (la_nil))) (la_cons (le_strI z_str (la_cons (le_fn c_law_next hr (by decide) hG (la_cons (le_var (i := 0)) (la_cons (le_int) (la_nil)))) (la_nil))) (la_nil))))) (la_nil)))))) (ls_nil))
    (ls_one (ls_ret (le_op op_addA kf_add (le_op op_mulA kf_mul (le_fn c_law_one_of hr (by decide) hG (la_cons (le_var (i := 0)) (la_cons (le_var (i := 3)) (la_nil)))) (le_int)) (le_strI z_str (la_cons (le_fn c_law_next hr (by decide) hG (la_cons (le_var (i := 0)) (la_cons (le_int) (la_nil)))) (la_nil))))))))))))
/-! ### law_cut_right -/
abbrev N_law_cut_right : List Str := ["_law_found", "_law_rows", "_law_together", "_law_number", "_law_run", "_law_amid", "_law_at"]
abbrev P_law_cut_right : List Str := ["_law_found", "_law_rows"]
theorem sc_law_cut_right : FnScope N_law_cut_right P_law_cut_right (defScope s_law_cut_right) := ⟨rfl, rfl, rfl, by decide +kernel, rfl, by decide +kernel, by decide +kernel⟩
def m_law_cut_right (sp_law_ends : SpP) : MS :=
  mSeq (mIfS (mNotT (mTest (mIsI .tup (mVar 0)))) (mRet (mC (.bl false))) (mNx))
  (mSeq (mAsg (mTup (mNil)) (gN 2))
  (mSeq (mFor (mEnumA (mCons (mVar 0) (mNil))) (gT 2 (gsCons (gN 3) (gsCons (gN 4) (gsNil)))) (mSeq (mIfS (mOrT (mNotT (mTest (mIsI .tup (mVar 4)))) (mTest (mB rEq (mVar 4) (mTup (mNil))))) (mRet (mC (.bl false))) (mNx))
  (mSeq (mAsg (mB rAdd (mVar 2) (mVar 4)) (gN 2))
  (mSeq (mAsg (mLc (mRng1 (mCons (mB rSub (mBlt rLen (mCons (mVar 4) (mNil))) (mC (.int 1))) (mNil))) [6] (gN 6) (mTest (mBlt sp_law_ends (mCons (mVar 4) (mCons (mVar 6) (mNil))))) (mVar 6)) (gN 5))
  (mIfS (mOrT (mTest (mB rNe (mVar 5) (mLst (mNil)))) (mAndT (mTest (mB rLt (mVar 3) (mB rSub (mBlt rLen (mCons (mVar 0) (mNil))) (mC (.int 1))))) (mNotT (mTest (mBlt sp_law_ends (mCons (mVar 4) (mCons (mB rSub (mBlt rLen (mCons (mVar 4) (mNil))) (mC (.int 1))) (mNil)))))))) (mRet (mC (.bl false))) (mNx))))))
  (mRet (mB rEq (mBlt rRepr (mCons (mVar 2) (mNil))) (mBlt rRepr (mCons (mVar 1) (mNil)))))))
theorem ok_law_cut_right {P : Program} {w : World} {K : PySem.W.Frag} {mg : Str → Option Value} {base : Heap} {f : Addr} {fd : FuncData} {sp_law_ends : SpP} {sp : SpP} (F : Fun K "_law_cut_right" "_law_cut_right" s_law_cut_right f fd) (c_law_ends : Fn P w K mg base 2 "_law_ends" s_law_ends P_law_ends sp_law_ends) (z_isinstance : mg "isinstance" = none) (z_tuple : mg "tuple" = none) (z_enumerate : mg "enumerate" = none) (z_range : mg "range" = none) (z_len : mg "len" = none) (z_repr : mg "repr" = none)
    (hp : ∀ (qs : List PV) (h : PH) (Q : N3.PK), qs.length = P_law_cut_right.length → sp qs h Q → m_law_cut_right sp_law_ends (ends Q) (sp0 N_law_cut_right.length qs) h) : FnG P w K mg base (2 + 1) f fd P_law_cut_right sp := by
  refine fn_ok (k := 2) F sc_law_cut_right (m := m_law_cut_right sp_law_ends) (fun cdv A outer s H E hr hG => ?_) hp
  have nd := sc_law_cut_right.nd
  exact ls_cons (ls_if (lt_not (lt_val (le_isi .tup z_isinstance z_tuple (le_var (i := 0))))) (ls_one (ls_ret (le_bl))) (ls_nil))
    (ls_cons (ls_set (i := 2) nd (le_tup (la_nil)))
    (ls_cons (ls_for (vs := [3, 4]) PassesOwn.never rfl (li_enumA z_enumerate (la_cons (le_var (i := 0)) (la_nil))) (lg_tup rfl (lgs_cons (lg_name (i := 3) nd) (lgs_cons (lg_name (i := 4) nd) (lgs_nil)))) (ls_cons (ls_if (lt_w (lw_or (lt_not (lt_val (le_isi .tup z_isinstance z_tuple (le_var (i := 4))))) (lw_or1 (lt_cmp (op_eqA (hu64 hr)) lf_eq (le_var (i := 4)) (le_tup (la_nil)) (nomark _))))) (ls_one (ls_ret (le_bl))) (ls_nil))
    (ls_cons (ls_set (i := 2) nd (le_op op_addA kf_add (le_var (i := 2)) (le_var (i := 4))))
    (ls_cons (ls_setLc (i := 5) [("_law_at", 6)] rfl nd (li_rng1 z_range (la_cons (le_op op_sub kf_ii0 (le_len z_len (la_cons (le_var (i := 4)) (la_nil))) (le_int)) (la_nil))) (blkOk_by (N := N_law_cut_right) (sc := defScope s_law_cut_right) (own := [("_law_at", 6)]) (by decide +kernel)) (fun _ _ _ _ _ => lg_name (i := 6) nd) (fun _ _ _ _ _ => lts_one (lt_val (le_fn c_law_ends hr (by decide) hG (la_cons (le_var (i := 4)) (la_cons (le_var (i := 6)) (la_nil)))))) (fun _ _ _ _ _ => le_var (i := 6)))
    (ls_one (ls_if (lt_w (lw_or (lt_cmp (op_neA (hu64 hr)) lf_ne (le_var (i := 5)) (le_lst (la_nil)) (nomark _)) (lw_or1 (lt_w (lw_and (lt_cmp op_ltA lf_cmp (le_var (i := 3)) (le_op op_sub kf_ii0 (le_len z_len (la_cons (le_var (i := 0)) (la_nil))) (le_int)) (nomark _)) (lw_and1 (lt_not (lt_val (le_fn c_law_ends hr (by decide) hG (la_cons (le_var (i := 4)) (la_cons (le_op op_sub kf_ii0 (le_len z_len (la_cons (le_var (i := 4)) (la_nil))) (le_int)) (la_nil)))))))))))) (ls_one (ls_ret (le_bl))) (ls_nil)))))))
    (ls_one (ls_ret (le_cmp (op_eqA (hu64 hr)) lf_eq (le_repr hG (hu66 hr) z_repr (la_cons (le_var (i := 2)) (la_nil))) (le_repr hG (hu66 hr) z_repr (la_cons (le_var (i := 1)) (la_nil))) (nomark _))))))
/-! ### runs_of -/
abbrev N_runs_of : List Str := ["lines", "found", "run", "line"]
abbrev P_runs_of : List Str := ["lines"]
theorem sc_runs_of : FnScope N_runs_of P_runs_of (defScope s_runs_of) := ⟨rfl, rfl, rfl, by decide +kernel, rfl, by decide +kernel, by decide +kernel⟩
def m_runs_of (sp_ends_run : SpP) : MS :=
  mSeq (mPar 1 2 (mCons (mLstM (mNil)) (mCons (mTup (mNil)) (mNil))))
  (mSeq (mFor (mSeqs (mVar 0)) (gN 3) (mSeq (mAug 2 (mTup (mCons (mVar 3) (mNil))))
  (mIfS (mTest (mBlt sp_ends_run (mCons (mVar 2) (mNil)))) (mSeq (mDrop (mAppend (mVar 1) (mCons (mVar 2) (mNil))))
  (mAsg (mTup (mNil)) (gN 2))) (mNx))))
  (mSeq (mIfS (mTest (mB rNe (mVar 2) (mTup (mNil)))) (mDrop (mAppend (mVar 1) (mCons (mVar 2) (mNil)))) (mNx))
  (mRet (mBlt rTupOf (mCons (mVar 1) (mNil))))))
theorem ok_runs_of {P : Program} {w : World} {K : PySem.W.Frag} {mg : Str → Option Value} {base : Heap} {f : Addr} {fd : FuncData} {sp_ends_run : SpP} {sp : SpP} (F : Fun K "runs_of" "runs_of" s_runs_of f fd) (c_ends_run : Fn P w K mg base 3 "ends_run" s_ends_run P_ends_run sp_ends_run) (z_tuple : mg "tuple" = none)
    (hp : ∀ (qs : List PV) (h : PH) (Q : N3.PK), qs.length = P_runs_of.length → sp qs h Q → m_runs_of sp_ends_run (ends (frg Q)) (sp0 N_runs_of.length qs) h) : FnG P w K mg base (3 + 1) f fd P_runs_of sp := by
  refine fn_okF (k := 3) F sc_runs_of (m := m_runs_of sp_ends_run) (fun cdv A outer s H E hr hG => ?_) hp
  have nd := sc_runs_of.nd
  exact ls_cons (ls_par (i := 1) (j := 2) rfl nd (la_cons (le_lstM (la_nil)) (la_cons (le_tup (la_nil)) (la_nil))))
    (ls_cons (ls_for (vs := [3]) PassesOwn.never rfl (li_seqs (le_var (i := 0))) (lg_name (i := 3) nd) (ls_cons (ls_aug (i := 2) nd (le_tup (la_cons (le_var (i := 3)) (la_nil))))
    (ls_one (ls_if (lt_val (le_fn c_ends_run hr (by decide) hG (la_cons (le_var (i := 2)) (la_nil)))) (ls_cons (ls_expr (le_append (le_var (i := 1)) (la_cons (le_var (i := 2)) (la_nil))))
    (ls_one (ls_set (i := 2) nd (le_tup (la_nil))))) (ls_nil)))))
    (ls_cons (ls_if (lt_cmp (op_neA (hu64 hr)) lf_ne (le_var (i := 2)) (le_tup (la_nil)) (nomark _)) (ls_one (ls_expr (le_append (le_var (i := 1)) (la_cons (le_var (i := 2)) (la_nil))))) (ls_nil))
    (ls_one (ls_ret (le_tuple z_tuple (la_cons (le_var (i := 1)) (la_nil)))))))
/-! ### law_lines -/
abbrev N_law_lines : List Str := ["_law_reel_here", "_law_many_here", "_law_sort", "_law_found", "_law_k", "_law_line_here"]
abbrev P_law_lines : List Str := ["_law_reel_here", "_law_many_here"]
theorem sc_law_lines : FnScope N_law_lines P_law_lines (defScope s_law_lines) := ⟨rfl, rfl, rfl, by decide +kernel, rfl, by decide +kernel, by decide +kernel⟩
def m_law_lines (sp_law_next sp_law_line : SpP) : MS :=
  mSeq (mPar 2 3 (mCons (mBlt sp_law_next (mCons (mVar 0) (mCons (mC (.int 6)) (mNil)))) (mCons (mLstM (mNil)) (mNil))))
  (mSeq (mFor (mRng1 (mCons (mVar 1) (mNil))) (gN 4) (mSeq (mAsg (mBlt sp_law_line (mCons (mVar 0) (mCons (mVar 2) (mCons (mVar 4) (mNil))))) (gN 5))
  (mIfS (mTest (mB (rInP true) (mVar 5) (mVar 3))) (mDrop (mAppend (mVar 3) (mCons (mVar 5) (mNil)))) (mNx))))
  (mRet (mBlt rTupOf (mCons (mBlt rSortA (mCons (mVar 3) (mNil))) (mNil)))))
theorem ok_law_lines {P : Program} {w : World} {K : PySem.W.Frag} {mg : Str → Option Value} {base : Heap} {f : Addr} {fd : FuncData} {sp_law_next sp_law_line : SpP} {sp : SpP} (F : Fun K "_law_lines" "_law_lines" s_law_lines f fd) (c_law_next : Fn P w K mg base 1 "_law_next" s_law_next P_law_next sp_law_next) (c_law_line : Fn P w K mg base 3 "_law_line" s_law_line P_law_line sp_law_line) (z_range : mg "range" = none) (z_tuple : mg "tuple" = none) (z_sorted : mg "sorted" = none)
    (hp : ∀ (qs : List PV) (h : PH) (Q : N3.PK), qs.length = P_law_lines.length → sp qs h Q → m_law_lines sp_law_next sp_law_line (ends (frg Q)) (sp0 N_law_lines.length qs) h) : FnG P w K mg base (3 + 1) f fd P_law_lines sp := by
  refine fn_okF (k := 3) F sc_law_lines (m := m_law_lines sp_law_next sp_law_line) (fun cdv A outer s H E hr hG => ?_) hp
  have nd := sc_law_lines.nd
  exact ls_cons (ls_par (i := 2) (j := 3) rfl nd (la_cons (le_fn c_law_next hr (by decide) hG (la_cons (le_var (i := 0)) (la_cons (le_int) (la_nil)))) (la_cons (le_lstM (la_nil)) (la_nil))))
    (ls_cons (ls_for (vs := [4]) PassesOwn.never rfl (li_rng1 z_range (la_cons (le_var (i := 1)) (la_nil))) (lg_name (i := 4) nd) (ls_cons (ls_set (i := 5) nd (le_fn c_law_line hr (by decide) hG (la_cons (le_var (i := 0)) (la_cons (le_var (i := 2)) (la_cons (le_var (i := 4)) (la_nil))))))
    (ls_one (ls_if (lt_cmp (op_notInA (hu65 hr)) lf_in (le_var (i := 5)) (le_var (i := 3)) (by with_unfolding_all rfl)) (ls_one (ls_expr (le_append (le_var (i := 3)) (la_cons (le_var (i := 5)) (la_nil))))) (ls_nil)))))
    (ls_one (ls_ret (le_tuple z_tuple (la_cons (le_sortA (hu66 hr) z_sorted (la_cons (le_var (i := 3)) (la_nil))) (la_nil))))))
/-! ### law_right -/
abbrev N_law_right : List Str := ["_law_rows", "_law_found"]
abbrev P_law_right : List Str := ["_law_rows"]
theorem sc_law_right : FnScope N_law_right P_law_right (defScope s_law_right) := ⟨rfl, rfl, rfl, by decide +kernel, rfl, by decide +kernel, by decide +kernel⟩
def m_law_right (sp_runs_of sp_law_cut_right : SpP) : MS :=
  mSeq (mAsg (mBlt sp_runs_of (mCons (mVar 0) (mNil))) (gN 1))
  (mSeq (mIfS (mNotT (mTest (mBlt sp_law_cut_right (mCons (mVar 1) (mCons (mVar 0) (mNil)))))) (mRet (mC (.bl false))) (mNx))
  (mRet (mB rEq (mBlt rRepr (mCons (mLst (mCons (mKw sp_runs_of cat2 mNil (mCons (mVar 0) (mNil))) (mCons (mBlt sp_runs_of (mCons (mVar 0) (mNil))) (mNil)))) (mNil))) (mBlt rRepr (mCons (mLst (mCons (mVar 1) (mCons (mVar 1) (mNil)))) (mNil))))))
theorem ok_law_right {P : Program} {w : World} {K : PySem.W.Frag} {mg : Str → Option Value} {base : Heap} {f : Addr} {fd : FuncData} {sp_runs_of sp_law_cut_right : SpP} {sp : SpP} (F : Fun K "_law_right" "_law_right" s_law_right f fd) (c_runs_of : Fn P w K mg base 4 "runs_of" s_runs_of P_runs_of sp_runs_of) (c_law_cut_right : Fn P w K mg base 3 "_law_cut_right" s_law_cut_right P_law_cut_right sp_law_cut_right) (z_repr : mg "repr" = none)
    (hp : ∀ (qs : List PV) (h : PH) (Q : N3.PK), qs.length = P_law_right.length → sp qs h Q → m_law_right sp_runs_of sp_law_cut_right (ends Q) (sp0 N_law_right.length qs) h) : FnG P w K mg base (4 + 1) f fd P_law_right sp := by
  refine fn_ok (k := 4) F sc_law_right (m := m_law_right sp_runs_of sp_law_cut_right) (fun cdv A outer s H E hr hG => ?_) hp
  have nd := sc_law_right.nd
  exact ls_cons (ls_set (i := 1) nd (le_fn c_runs_of hr (by decide) hG (la_cons (le_var (i := 0)) (la_nil))))
    (ls_cons (ls_if (lt_not (lt_val (le_fn c_law_cut_right hr (by decide) hG (la_cons (le_var (i := 1)) (la_cons (le_var (i := 0)) (la_nil)))))) (ls_one (ls_ret (le_bl))) (ls_nil))
    (ls_one (ls_ret (le_cmp (op_eqA (hu64 hr)) lf_eq (le_repr hG (hu66 hr) z_repr (la_cons (le_lst (la_cons (le_fnK0 (c_runs_of) hr (by decide) hG (ks := ["lines"]) rfl (fun _ _ _ _ _ _ us ws h1 h2 => match us, ws, h1, h2 with | [], [_], _, _ => rfl) (lk_cons (le_var (i := 0)) (lk_nil))) (la_cons (le_fn c_runs_of hr (by decide) hG (la_cons (le_var (i := 0)) (la_nil))) (la_nil)))) (la_nil))) (le_repr hG (hu66 hr) z_repr (la_cons (le_lst (la_cons (le_var (i := 1)) (la_cons (le_var (i := 1)) (la_nil)))) (la_nil))) (nomark _)))))
/-! ### law_near_right -/
abbrev N_law_near_right : List Str := ["_law_reel_here", "_law_rows", "_law_at", "_law_more", "_law_some", "_law_whole", "_law_behind", "_law_number", "_law_run"]
abbrev P_law_near_right : List Str := ["_law_reel_here", "_law_rows"]
theorem sc_law_near_right : FnScope N_law_near_right P_law_near_right (defScope s_law_near_right) := ⟨rfl, rfl, rfl, by decide +kernel, rfl, by decide +kernel, by decide +kernel⟩
def m_law_near_right (sp_law_next sp_law_line sp_law_right sp_runs_of : SpP) : MS :=
  mSeq (mAsg (mBlt sp_law_next (mCons (mVar 0) (mCons (mB rAdd (mBlt rLen (mCons (mVar 1) (mNil))) (mC (.int 1))) (mNil)))) (gN 2))
  (mSeq (mAsg (mBlt rTupOf (mCons (mBlt rSortSet (mCons (mB rAdd (mVar 1) (mTup (mCons (mBlt sp_law_line (mCons (mVar 0) (mCons (mBlt sp_law_next (mCons (mVar 0) (mCons (mC (.int 6)) (mNil)))) (mCons (mVar 2) (mNil))))) (mNil)))) (mNil))) (mNil))) (gN 3))
  (mSeq (mFor (mSeqs (mTup (mCons (mB rAdd (mSl (mVar 1) (mNoPart) (mPart (mVar 2))) (mSl (mVar 1) (mPart (mB rAdd (mVar 2) (mC (.int 1)))) (mNoPart))) (mCons (mVar 3) (mCons (mSl (mVar 1) (mPart (mVar 2)) (mNoPart)) (mNil)))))) (gN 4) (mIfS (mNotT (mTest (mBlt sp_law_right (mCons (mVar 4) (mNil))))) (mRet (mC (.bl false))) (mNx)))
  (mSeq (mPar 5 6 (mCons (mBlt sp_runs_of (mCons (mVar 1) (mNil))) (mCons (mVar 1) (mNil))))
  (mSeq (mFor (mEnumA (mCons (mVar 5) (mNil))) (gT 2 (gsCons (gN 7) (gsCons (gN 8) (gsNil)))) (mSeq (mIfS (mTest (mB rNe (mBlt rRepr (mCons (mBlt sp_runs_of (mCons (mVar 6) (mNil))) (mNil))) (mBlt rRepr (mCons (mSl (mVar 5) (mPart (mVar 7)) (mNoPart)) (mNil))))) (mRet (mC (.bl false))) (mNx))
  (mAsg (mSl (mVar 6) (mPart (mBlt rLen (mCons (mVar 8) (mNil)))) (mNoPart)) (gN 6))))
  (mRet (mC (.bl true)))))))
theorem ok_law_near_right {P : Program} {w : World} {K : PySem.W.Frag} {mg : Str → Option Value} {base : Heap} {f : Addr} {fd : FuncData} {sp_law_next sp_law_line sp_law_right sp_runs_of : SpP} {sp : SpP} (F : Fun K "_law_near_right" "_law_near_right" s_law_near_right f fd) (c_law_next : Fn P w K mg base 1 "_law_next" s_law_next P_law_next sp_law_next) (c_law_line : Fn P w K mg base 3 "_law_line" s_law_line P_law_line sp_law_line) (c_law_right : Fn P w K mg base 5 "_law_right" s_law_right P_law_right sp_law_right) (c_runs_of : Fn P w K mg base 4 "runs_of" s_runs_of P_runs_of sp_runs_of) (z_len : mg "len" = none) (z_tuple : mg "tuple" = none) (z_sorted : mg "sorted" = none) (z_set : mg "set" = none) (z_enumerate : mg "enumerate" = none) (z_repr : mg "repr" = none)
    (hp : ∀ (qs : List PV) (h : PH) (Q : N3.PK), qs.length = P_law_near_right.length → sp qs h Q → m_law_near_right sp_law_next sp_law_line sp_law_right sp_runs_of (ends Q) (sp0 N_law_near_right.length qs) h) : FnG P w K mg base (5 + 1) f fd P_law_near_right sp := by
  refine fn_ok (k := 5) F sc_law_near_right (m := m_law_near_right sp_law_next sp_law_line sp_law_right sp_runs_of) (fun cdv A outer s H E hr hG => ?_) hp
  have nd := sc_law_near_right.nd
  exact ls_cons (ls_set (i := 2) nd (le_fn c_law_next hr (by decide) hG (la_cons (le_var (i := 0)) (la_cons (le_op op_addA kf_add (le_len z_len (la_cons (le_var (i := 1)) (la_nil))) (le_int)) (la_nil)))))
    (ls_cons (ls_set (i := 3) nd (le_tuple z_tuple (la_cons (le_sortSet rfl (hu66 hr) z_sorted z_set (la_cons (le_op op_addA kf_add (le_var (i := 1)) (le_tup (la_cons (le_fn c_law_line hr (by decide) hG (la_cons (le_var (i := 0)) (la_cons (le_fn c_law_next hr (by decide) hG (la_cons (le_var (i := 0)) (la_cons (le_int) (la_nil)))) (la_cons (le_var (i := 2)) (la_nil))))) (la_nil)))) (la_nil))) (la_nil))))
    (ls_cons (ls_for (vs := [4]) PassesOwn.never rfl (li_seqs (le_tup (la_cons (le_op op_addA kf_add (le_sl (le_var (i := 1)) (lo_none) (lo_some (le_var (i := 2)))) (le_sl (le_var (i := 1)) (lo_some (le_op op_addA kf_add (le_var (i := 2)) (le_int))) (lo_none))) (la_cons (le_var (i := 3)) (la_cons (le_sl (le_var (i := 1)) (lo_some (le_var (i := 2))) (lo_none)) (la_nil)))))) (lg_name (i := 4) nd) (ls_one (ls_if (lt_not (lt_val (le_fn c_law_right hr (by decide) hG (la_cons (le_var (i := 4)) (la_nil))))) (ls_one (ls_ret (le_bl))) (ls_nil))))
    (ls_cons (ls_par (i := 5) (j := 6) rfl nd (la_cons (le_fn c_runs_of hr (by decide) hG (la_cons (le_var (i := 1)) (la_nil))) (la_cons (le_var (i := 1)) (la_nil))))
    (ls_cons (ls_for (vs := [7, 8]) PassesOwn.never rfl (li_enumA z_enumerate (la_cons (le_var (i := 5)) (la_nil))) (lg_tup rfl (lgs_cons (lg_name (i := 7) nd) (lgs_cons (lg_name (i := 8) nd) (lgs_nil)))) (ls_cons (ls_if (lt_cmp (op_neA (hu64 hr)) lf_ne (le_repr hG (hu66 hr) z_repr (la_cons (le_fn c_runs_of hr (by decide) hG (la_cons (le_var (i := 6)) (la_nil))) (la_nil))) (le_repr hG (hu66 hr) z_repr (la_cons (le_sl (le_var (i := 5)) (lo_some (le_var (i := 7))) (lo_none)) (la_nil))) (nomark _)) (ls_one (ls_ret (le_bl))) (ls_nil))
    (ls_one (ls_set (i := 6) nd (le_sl (le_var (i := 6)) (lo_some (le_len z_len (la_cons (le_var (i := 8)) (la_nil)))) (lo_none))))))
    (ls_one (ls_ret (le_bl)))))))
/-! ### law -/
abbrev N_law : List Str := ["_law_script", "_law_reel_here", "_law_turn", "_law_rows", "_law_kept"]
abbrev P_law : List Str := ["_law_script"]
theorem sc_law : FnScope N_law P_law (defScope s_law) := ⟨rfl, rfl, rfl, by decide +kernel, rfl, by decide +kernel, by decide +kernel⟩
def m_law (sp_law_reel sp_law_lines sp_law_many sp_law_near_right sp_law_right : SpP) : MS :=
  mSeq (mAsg (mBlt sp_law_reel (mCons (mVar 0) (mNil))) (gN 1))
  (mSeq (mFor (mRng1 (mCons (mC (.int 4)) (mNil))) (gN 2) (mSeq (mAsg (mBlt sp_law_lines (mCons (mVar 1) (mCons (mBlt sp_law_many (mCons (mVar 1) (mNil))) (mNil)))) (gN 3))
  (mSeq (mAsg (mBlt rRepr (mCons (mVar 3) (mNil))) (gN 4))
  (mIfS (mOrT (mNotT (mTest (mBlt sp_law_right (mCons (mVar 3) (mNil))))) (mOrT (mNotT (mTest (mBlt sp_law_near_right (mCons (mVar 1) (mCons (mVar 3) (mNil)))))) (mTest (mB rNe (mBlt rRepr (mCons (mVar 3) (mNil))) (mVar 4))))) (mRet (mC (.bl false))) (mNx)))))
  (mRet (mBlt sp_law_right (mCons (mTup (mNil)) (mNil)))))
theorem ok_law {P : Program} {w : World} {K : PySem.W.Frag} {mg : Str → Option Value} {base : Heap} {f : Addr} {fd : FuncData} {sp_law_reel sp_law_lines sp_law_many sp_law_near_right sp_law_right : SpP} {sp : SpP} (F : Fun K "law" "law" s_law f fd) (c_law_reel : Fn P w K mg base 1 "_law_reel" s_law_reel P_law_reel sp_law_reel) (c_law_lines : Fn P w K mg base 4 "_law_lines" s_law_lines P_law_lines sp_law_lines) (c_law_many : Fn P w K mg base 2 "_law_many" s_law_many P_law_many sp_law_many) (c_law_near_right : Fn P w K mg base 6 "_law_near_right" s_law_near_right P_law_near_right sp_law_near_right) (c_law_right : Fn P w K mg base 5 "_law_right" s_law_right P_law_right sp_law_right) (z_range : mg "range" = none) (z_repr : mg "repr" = none)
    (hp : ∀ (qs : List PV) (h : PH) (Q : N3.PK), qs.length = P_law.length → sp qs h Q → m_law sp_law_reel sp_law_lines sp_law_many sp_law_near_right sp_law_right (ends Q) (sp0 N_law.length qs) h) : FnG P w K mg base (6 + 1) f fd P_law sp := by
  refine fn_ok (k := 6) F sc_law (m := m_law sp_law_reel sp_law_lines sp_law_many sp_law_near_right sp_law_right) (fun cdv A outer s H E hr hG => ?_) hp
  have nd := sc_law.nd
  exact ls_cons (ls_set (i := 1) nd (le_fn c_law_reel hr (by decide) hG (la_cons (le_var (i := 0)) (la_nil))))
    (ls_cons (ls_for (vs := [2]) PassesOwn.never rfl (li_rng1 z_range (la_cons (le_int) (la_nil))) (lg_name (i := 2) nd) (ls_cons (ls_set (i := 3) nd (le_fn c_law_lines hr (by decide) hG (la_cons (le_var (i := 1)) (la_cons (le_fn c_law_many hr (by decide) hG (la_cons (le_var (i := 1)) (la_nil))) (la_nil)))))
    (ls_cons (ls_set (i := 4) nd (le_repr hG (hu66 hr) z_repr (la_cons (le_var (i := 3)) (la_nil))))
    (ls_one (ls_if (lt_w (lw_or (lt_not (lt_val (le_fn c_law_right hr (by decide) hG (la_cons (le_var (i := 3)) (la_nil))))) (lw_or (lt_not (lt_val (le_fn c_law_near_right hr (by decide) hG (la_cons (le_var (i := 1)) (la_cons (le_var (i := 3)) (la_nil)))))) (lw_or1 (lt_cmp (op_neA (hu64 hr)) lf_ne (le_repr hG (hu66 hr) z_repr (la_cons (le_var (i := 3)) (la_nil))) (le_var (i := 4)) (nomark _)))))) (ls_one (ls_ret (le_bl))) (ls_nil))))))
    (ls_one (ls_ret (le_fn c_law_right hr (by decide) hG (la_cons (le_tup (la_nil)) (la_nil))))))
/-! ### the head -/
section
variable {l : PySem.W.OpenLaw} {w : World} {K : PySem.W.Frag} {h : Heap} {mg : Str → Option Value} {fa : Addr}
theorem all_mk {sp_place_of sp_law_reel sp_law_next sp_law_mixed sp_mixed sp_law_one_of sp_law_many sp_law_ends sp_ends_run sp_law_line sp_law_cut_right sp_runs_of sp_law_lines sp_law_right sp_law_near_right : SpP} (X : K.In h) (G : h.Ns mainGlobals mg) (hfa : mg "law" = some (.ref fa))
    {f_place_of f_law_reel f_law_next f_law_mixed f_mixed f_law_one_of f_law_many f_law_ends f_ends_run f_law_line f_law_cut_right f_runs_of f_law_lines f_law_right f_law_near_right f_law : Addr}
    {od_place_of an_place_of od_law_reel an_law_reel od_law_next an_law_next od_law_mixed an_law_mixed od_mixed an_mixed od_law_one_of an_law_one_of od_law_many an_law_many od_law_ends an_law_ends od_ends_run an_ends_run od_law_line an_law_line od_law_cut_right an_law_cut_right od_runs_of an_runs_of od_law_lines an_law_lines od_law_right an_law_right od_law_near_right an_law_near_right od_law an_law : Option Addr}
    {sl_place_of sl_law_reel sl_law_next sl_law_mixed sl_mixed sl_law_one_of sl_law_many sl_law_ends sl_ends_run sl_law_line sl_law_cut_right sl_runs_of sl_law_lines sl_law_right sl_law_near_right sl_law : Array (Option Value)}
    {oc_place_of dc_place_of pm_place_of cd_place_of ct_place_of kV_place_of oc_law_reel dc_law_reel pm_law_reel cd_law_reel ct_law_reel kV_law_reel oc_law_next dc_law_next pm_law_next cd_law_next ct_law_next kV_law_next oc_law_mixed dc_law_mixed pm_law_mixed cd_law_mixed ct_law_mixed kV_law_mixed oc_mixed dc_mixed pm_mixed cd_mixed ct_mixed kV_mixed oc_law_one_of dc_law_one_of pm_law_one_of cd_law_one_of ct_law_one_of kV_law_one_of oc_law_many dc_law_many pm_law_many cd_law_many ct_law_many kV_law_many oc_law_ends dc_law_ends pm_law_ends cd_law_ends ct_law_ends kV_law_ends oc_ends_run dc_ends_run pm_ends_run cd_ends_run ct_ends_run kV_ends_run oc_law_line dc_law_line pm_law_line cd_law_line ct_law_line kV_law_line oc_law_cut_right dc_law_cut_right pm_law_cut_right cd_law_cut_right ct_law_cut_right kV_law_cut_right oc_runs_of dc_runs_of pm_runs_of cd_runs_of ct_runs_of kV_runs_of oc_law_lines dc_law_lines pm_law_lines cd_law_lines ct_law_lines kV_law_lines oc_law_right dc_law_right pm_law_right cd_law_right ct_law_right kV_law_right oc_law_near_right dc_law_near_right pm_law_near_right cd_law_near_right ct_law_near_right kV_law_near_right oc_law dc_law pm_law cd_law ct_law kV_law : Value}
    {t_SIGNS t_FIRST t_TIMES t_P t_MORE t_CUT_BY t_MOST_LINES : Tok}
    (a_place_of : PySem.W.nsIn K mainGlobals "place_of" = some (some (.ref f_place_of)))
    (l_place_of : K.lookup f_place_of = some ⟨oc_place_of, od_place_of, .func (PySem.W.fnOf "place_of" "place_of" (defArgs s_place_of) (defBody s_place_of) (defScope s_place_of) .none kV_place_of dc_place_of pm_place_of an_place_of cd_place_of ct_place_of), sl_place_of⟩)
    (c_place_of : PySem.W.codeIn K cd_place_of "place_of" = true)
    (k_place_of : PySem.W.keepIn K (.ref f_place_of) = true)
    (a_law_reel : PySem.W.nsIn K mainGlobals "_law_reel" = some (some (.ref f_law_reel)))
    (l_law_reel : K.lookup f_law_reel = some ⟨oc_law_reel, od_law_reel, .func (PySem.W.fnOf "_law_reel" "_law_reel" (defArgs s_law_reel) (defBody s_law_reel) (defScope s_law_reel) .none kV_law_reel dc_law_reel pm_law_reel an_law_reel cd_law_reel ct_law_reel), sl_law_reel⟩)
    (c_law_reel : PySem.W.codeIn K cd_law_reel "_law_reel" = true)
    (k_law_reel : PySem.W.keepIn K (.ref f_law_reel) = true)
    (a_law_next : PySem.W.nsIn K mainGlobals "_law_next" = some (some (.ref f_law_next)))
    (l_law_next : K.lookup f_law_next = some ⟨oc_law_next, od_law_next, .func (PySem.W.fnOf "_law_next" "_law_next" (defArgs s_law_next) (defBody s_law_next) (defScope s_law_next) .none kV_law_next dc_law_next pm_law_next an_law_next cd_law_next ct_law_next), sl_law_next⟩)
    (c_law_next : PySem.W.codeIn K cd_law_next "_law_next" = true)
    (k_law_next : PySem.W.keepIn K (.ref f_law_next) = true)
    (a_law_mixed : PySem.W.nsIn K mainGlobals "_law_mixed" = some (some (.ref f_law_mixed)))
    (l_law_mixed : K.lookup f_law_mixed = some ⟨oc_law_mixed, od_law_mixed, .func (PySem.W.fnOf "_law_mixed" "_law_mixed" (defArgs s_law_mixed) (defBody s_law_mixed) (defScope s_law_mixed) .none kV_law_mixed dc_law_mixed pm_law_mixed an_law_mixed cd_law_mixed ct_law_mixed), sl_law_mixed⟩)
    (c_law_mixed : PySem.W.codeIn K cd_law_mixed "_law_mixed" = true)
    (k_law_mixed : PySem.W.keepIn K (.ref f_law_mixed) = true)
    (a_mixed : PySem.W.nsIn K mainGlobals "mixed" = some (some (.ref f_mixed)))
    (l_mixed : K.lookup f_mixed = some ⟨oc_mixed, od_mixed, .func (PySem.W.fnOf "mixed" "mixed" (defArgs s_mixed) (defBody s_mixed) (defScope s_mixed) .none kV_mixed dc_mixed pm_mixed an_mixed cd_mixed ct_mixed), sl_mixed⟩)
    (c_mixed : PySem.W.codeIn K cd_mixed "mixed" = true)
    (k_mixed : PySem.W.keepIn K (.ref f_mixed) = true)
    (a_law_one_of : PySem.W.nsIn K mainGlobals "_law_one_of" = some (some (.ref f_law_one_of)))
    (l_law_one_of : K.lookup f_law_one_of = some ⟨oc_law_one_of, od_law_one_of, .func (PySem.W.fnOf "_law_one_of" "_law_one_of" (defArgs s_law_one_of) (defBody s_law_one_of) (defScope s_law_one_of) .none kV_law_one_of dc_law_one_of pm_law_one_of an_law_one_of cd_law_one_of ct_law_one_of), sl_law_one_of⟩)
    (c_law_one_of : PySem.W.codeIn K cd_law_one_of "_law_one_of" = true)
    (k_law_one_of : PySem.W.keepIn K (.ref f_law_one_of) = true)
    (a_law_many : PySem.W.nsIn K mainGlobals "_law_many" = some (some (.ref f_law_many)))
    (l_law_many : K.lookup f_law_many = some ⟨oc_law_many, od_law_many, .func (PySem.W.fnOf "_law_many" "_law_many" (defArgs s_law_many) (defBody s_law_many) (defScope s_law_many) .none kV_law_many dc_law_many pm_law_many an_law_many cd_law_many ct_law_many), sl_law_many⟩)
    (c_law_many : PySem.W.codeIn K cd_law_many "_law_many" = true)
    (k_law_many : PySem.W.keepIn K (.ref f_law_many) = true)
    (a_law_ends : PySem.W.nsIn K mainGlobals "_law_ends" = some (some (.ref f_law_ends)))
    (l_law_ends : K.lookup f_law_ends = some ⟨oc_law_ends, od_law_ends, .func (PySem.W.fnOf "_law_ends" "_law_ends" (defArgs s_law_ends) (defBody s_law_ends) (defScope s_law_ends) .none kV_law_ends dc_law_ends pm_law_ends an_law_ends cd_law_ends ct_law_ends), sl_law_ends⟩)
    (c_law_ends : PySem.W.codeIn K cd_law_ends "_law_ends" = true)
    (k_law_ends : PySem.W.keepIn K (.ref f_law_ends) = true)
    (a_ends_run : PySem.W.nsIn K mainGlobals "ends_run" = some (some (.ref f_ends_run)))
    (l_ends_run : K.lookup f_ends_run = some ⟨oc_ends_run, od_ends_run, .func (PySem.W.fnOf "ends_run" "ends_run" (defArgs s_ends_run) (defBody s_ends_run) (defScope s_ends_run) .none kV_ends_run dc_ends_run pm_ends_run an_ends_run cd_ends_run ct_ends_run), sl_ends_run⟩)
    (c_ends_run : PySem.W.codeIn K cd_ends_run "ends_run" = true)
    (k_ends_run : PySem.W.keepIn K (.ref f_ends_run) = true)
    (a_law_line : PySem.W.nsIn K mainGlobals "_law_line" = some (some (.ref f_law_line)))
    (l_law_line : K.lookup f_law_line = some ⟨oc_law_line, od_law_line, .func (PySem.W.fnOf "_law_line" "_law_line" (defArgs s_law_line) (defBody s_law_line) (defScope s_law_line) .none kV_law_line dc_law_line pm_law_line an_law_line cd_law_line ct_law_line), sl_law_line⟩)
    (c_law_line : PySem.W.codeIn K cd_law_line "_law_line" = true)
    (k_law_line : PySem.W.keepIn K (.ref f_law_line) = true)
    (a_law_cut_right : PySem.W.nsIn K mainGlobals "_law_cut_right" = some (some (.ref f_law_cut_right)))
    (l_law_cut_right : K.lookup f_law_cut_right = some ⟨oc_law_cut_right, od_law_cut_right, .func (PySem.W.fnOf "_law_cut_right" "_law_cut_right" (defArgs s_law_cut_right) (defBody s_law_cut_right) (defScope s_law_cut_right) .none kV_law_cut_right dc_law_cut_right pm_law_cut_right an_law_cut_right cd_law_cut_right ct_law_cut_right), sl_law_cut_right⟩)
    (c_law_cut_right : PySem.W.codeIn K cd_law_cut_right "_law_cut_right" = true)
    (k_law_cut_right : PySem.W.keepIn K (.ref f_law_cut_right) = true)
    (a_runs_of : PySem.W.nsIn K mainGlobals "runs_of" = some (some (.ref f_runs_of)))
    (l_runs_of : K.lookup f_runs_of = some ⟨oc_runs_of, od_runs_of, .func (PySem.W.fnOf "runs_of" "runs_of" (defArgs s_runs_of) (defBody s_runs_of) (defScope s_runs_of) .none kV_runs_of dc_runs_of pm_runs_of an_runs_of cd_runs_of ct_runs_of), sl_runs_of⟩)
    (c_runs_of : PySem.W.codeIn K cd_runs_of "runs_of" = true)
    (k_runs_of : PySem.W.keepIn K (.ref f_runs_of) = true)
    (a_law_lines : PySem.W.nsIn K mainGlobals "_law_lines" = some (some (.ref f_law_lines)))
    (l_law_lines : K.lookup f_law_lines = some ⟨oc_law_lines, od_law_lines, .func (PySem.W.fnOf "_law_lines" "_law_lines" (defArgs s_law_lines) (defBody s_law_lines) (defScope s_law_lines) .none kV_law_lines dc_law_lines pm_law_lines an_law_lines cd_law_lines ct_law_lines), sl_law_lines⟩)
    (c_law_lines : PySem.W.codeIn K cd_law_lines "_law_lines" = true)
    (k_law_lines : PySem.W.keepIn K (.ref f_law_lines) = true)
    (a_law_right : PySem.W.nsIn K mainGlobals "_law_right" = some (some (.ref f_law_right)))
    (l_law_right : K.lookup f_law_right = some ⟨oc_law_right, od_law_right, .func (PySem.W.fnOf "_law_right" "_law_right" (defArgs s_law_right) (defBody s_law_right) (defScope s_law_right) .none kV_law_right dc_law_right pm_law_right an_law_right cd_law_right ct_law_right), sl_law_right⟩)
    (c_law_right : PySem.W.codeIn K cd_law_right "_law_right" = true)
    (k_law_right : PySem.W.keepIn K (.ref f_law_right) = true)
    (a_law_near_right : PySem.W.nsIn K mainGlobals "_law_near_right" = some (some (.ref f_law_near_right)))
    (l_law_near_right : K.lookup f_law_near_right = some ⟨oc_law_near_right, od_law_near_right, .func (PySem.W.fnOf "_law_near_right" "_law_near_right" (defArgs s_law_near_right) (defBody s_law_near_right) (defScope s_law_near_right) .none kV_law_near_right dc_law_near_right pm_law_near_right an_law_near_right cd_law_near_right ct_law_near_right), sl_law_near_right⟩)
    (c_law_near_right : PySem.W.codeIn K cd_law_near_right "_law_near_right" = true)
    (k_law_near_right : PySem.W.keepIn K (.ref f_law_near_right) = true)
    (a_law : PySem.W.nsIn K mainGlobals "law" = some (some (.ref f_law)))
    (l_law : K.lookup f_law = some ⟨oc_law, od_law, .func (PySem.W.fnOf "law" "law" (defArgs s_law) (defBody s_law) (defScope s_law) .none kV_law dc_law pm_law an_law cd_law ct_law), sl_law⟩)
    (c_law : PySem.W.codeIn K cd_law "law" = true)
    (k_law : PySem.W.keepIn K (.ref f_law) = true)
    (z_len : PySem.W.nsIn K mainGlobals "len" = some none)
    (z_list : PySem.W.nsIn K mainGlobals "list" = some none)
    (z_range : PySem.W.nsIn K mainGlobals "range" = some none)
    (z_str : PySem.W.nsIn K mainGlobals "str" = some none)
    (z_isinstance : PySem.W.nsIn K mainGlobals "isinstance" = some none)
    (z_tuple : PySem.W.nsIn K mainGlobals "tuple" = some none)
    (z_enumerate : PySem.W.nsIn K mainGlobals "enumerate" = some none)
    (z_repr : PySem.W.nsIn K mainGlobals "repr" = some none)
    (z_sorted : PySem.W.nsIn K mainGlobals "sorted" = some none)
    (z_set : PySem.W.nsIn K mainGlobals "set" = some none)
    (g_SIGNS : PySem.W.nsIn K mainGlobals "SIGNS" = some (some (.str "abcdefghijklmnopqrstuvwxyz0123456789-: " t_SIGNS)))
    (g_FIRST : PySem.W.nsIn K mainGlobals "FIRST" = some (some (.int 11 t_FIRST)))
    (g_TIMES : PySem.W.nsIn K mainGlobals "TIMES" = some (some (.int 69621 t_TIMES)))
    (g_P : PySem.W.nsIn K mainGlobals "P" = some (some (.int 2147483647 t_P)))
    (g_MORE : PySem.W.nsIn K mainGlobals "MORE" = some (some (.int 48271 t_MORE)))
    (g_CUT_BY : PySem.W.nsIn K mainGlobals "CUT_BY" = some (some (.int 4 t_CUT_BY)))
    (g_MOST_LINES : PySem.W.nsIn K mainGlobals "MOST_LINES" = some (some (.int 6 t_MOST_LINES)))
    (p_place_of : ∀ (qs : List PV) (h : PH) (Q : N3.PK), qs.length = P_place_of.length → sp_place_of qs h Q → m_place_of (ends Q) (sp0 N_place_of.length qs) h)
    (p_law_reel : ∀ (qs : List PV) (h : PH) (Q : N3.PK), qs.length = P_law_reel.length → sp_law_reel qs h Q → m_law_reel (ends Q) (sp0 N_law_reel.length qs) h)
    (p_law_next : ∀ (qs : List PV) (h : PH) (Q : N3.PK), qs.length = P_law_next.length → sp_law_next qs h Q → m_law_next (ends Q) (sp0 N_law_next.length qs) h)
    (p_law_mixed : ∀ (qs : List PV) (h : PH) (Q : N3.PK), qs.length = P_law_mixed.length → sp_law_mixed qs h Q → m_law_mixed (ends Q) (sp0 N_law_mixed.length qs) h)
    (p_mixed : ∀ (qs : List PV) (h : PH) (Q : N3.PK), qs.length = P_mixed.length → sp_mixed qs h Q → m_mixed sp_place_of (ends Q) (sp0 N_mixed.length qs) h)
    (p_law_one_of : ∀ (qs : List PV) (h : PH) (Q : N3.PK), qs.length = P_law_one_of.length → sp_law_one_of qs h Q → m_law_one_of sp_law_next (ends Q) (sp0 N_law_one_of.length qs) h)
    (p_law_many : ∀ (qs : List PV) (h : PH) (Q : N3.PK), qs.length = P_law_many.length → sp_law_many qs h Q → m_law_many sp_law_next (ends Q) (sp0 N_law_many.length qs) h)
    (p_law_ends : ∀ (qs : List PV) (h : PH) (Q : N3.PK), qs.length = P_law_ends.length → sp_law_ends qs h Q → m_law_ends sp_law_mixed (ends Q) (sp0 N_law_ends.length qs) h)
    (p_ends_run : ∀ (qs : List PV) (h : PH) (Q : N3.PK), qs.length = P_ends_run.length → sp_ends_run qs h Q → m_ends_run sp_mixed (ends Q) (sp0 N_ends_run.length qs) h)
    (p_law_line : ∀ (qs : List PV) (h : PH) (Q : N3.PK), qs.length = P_law_line.length → sp_law_line qs h Q → m_law_line sp_law_next sp_law_one_of (ends Q) (sp0 N_law_line.length qs) h)
    (p_law_cut_right : ∀ (qs : List PV) (h : PH) (Q : N3.PK), qs.length = P_law_cut_right.length → sp_law_cut_right qs h Q → m_law_cut_right sp_law_ends (ends Q) (sp0 N_law_cut_right.length qs) h)
    (p_runs_of : ∀ (qs : List PV) (h : PH) (Q : N3.PK), qs.length = P_runs_of.length → sp_runs_of qs h Q → m_runs_of sp_ends_run (ends (frg Q)) (sp0 N_runs_of.length qs) h)
    (p_law_lines : ∀ (qs : List PV) (h : PH) (Q : N3.PK), qs.length = P_law_lines.length → sp_law_lines qs h Q → m_law_lines sp_law_next sp_law_line (ends (frg Q)) (sp0 N_law_lines.length qs) h)
    (p_law_right : ∀ (qs : List PV) (h : PH) (Q : N3.PK), qs.length = P_law_right.length → sp_law_right qs h Q → m_law_right sp_runs_of sp_law_cut_right (ends Q) (sp0 N_law_right.length qs) h)
    (p_law_near_right : ∀ (qs : List PV) (h : PH) (Q : N3.PK), qs.length = P_law_near_right.length → sp_law_near_right qs h Q → m_law_near_right sp_law_next sp_law_line sp_law_right sp_runs_of (ends Q) (sp0 N_law_near_right.length qs) h)
    (p_law : ∀ (qs : List PV) (h : PH) (Q : N3.PK), qs.length = P_law.length → spLaw 63 qs h Q → m_law sp_law_reel sp_law_lines sp_law_many sp_law_near_right sp_law_right (ends Q) (sp0 N_law.length qs) h)
    : ∃ fd : FuncData, (∀ (s : Shared) (v : Value), BindsTo s fd ⟨[v], []⟩ [("_law_script", v)]) ∧ ∀ base : Heap, K.In base → base.Ns mainGlobals mg → FnG l.prog w K mg base 7 fa fd ["_law_script"] (spLaw 63) := by
  have e := hfa.symm.trans (PySem.W.mg_of X G a_law)
  cases e
  have F_place_of := fun_mk (st := s_place_of) l_place_of c_place_of k_place_of
  have b_place_of := F_place_of.binds (ps := P_place_of) fun _ _ _ _ _ _ us hl => match us, hl with | [_], _ => rfl
  have F_law_reel := fun_mk (st := s_law_reel) l_law_reel c_law_reel k_law_reel
  have b_law_reel := F_law_reel.binds (ps := P_law_reel) fun _ _ _ _ _ _ us hl => match us, hl with | [_], _ => rfl
  have F_law_next := fun_mk (st := s_law_next) l_law_next c_law_next k_law_next
  have b_law_next := F_law_next.binds (ps := P_law_next) fun _ _ _ _ _ _ us hl => match us, hl with | [_, _], _ => rfl
  have F_law_mixed := fun_mk (st := s_law_mixed) l_law_mixed c_law_mixed k_law_mixed
  have b_law_mixed := F_law_mixed.binds (ps := P_law_mixed) fun _ _ _ _ _ _ us hl => match us, hl with | [_], _ => rfl
  have F_mixed := fun_mk (st := s_mixed) l_mixed c_mixed k_mixed
  have b_mixed := F_mixed.binds (ps := P_mixed) fun _ _ _ _ _ _ us hl => match us, hl with | [_], _ => rfl
  have F_law_one_of := fun_mk (st := s_law_one_of) l_law_one_of c_law_one_of k_law_one_of
  have b_law_one_of := F_law_one_of.binds (ps := P_law_one_of) fun _ _ _ _ _ _ us hl => match us, hl with | [_, _], _ => rfl
  have F_law_many := fun_mk (st := s_law_many) l_law_many c_law_many k_law_many
  have b_law_many := F_law_many.binds (ps := P_law_many) fun _ _ _ _ _ _ us hl => match us, hl with | [_], _ => rfl
  have F_law_ends := fun_mk (st := s_law_ends) l_law_ends c_law_ends k_law_ends
  have b_law_ends := F_law_ends.binds (ps := P_law_ends) fun _ _ _ _ _ _ us hl => match us, hl with | [_, _], _ => rfl
  have F_ends_run := fun_mk (st := s_ends_run) l_ends_run c_ends_run k_ends_run
  have b_ends_run := F_ends_run.binds (ps := P_ends_run) fun _ _ _ _ _ _ us hl => match us, hl with | [_], _ => rfl
  have F_law_line := fun_mk (st := s_law_line) l_law_line c_law_line k_law_line
  have b_law_line := F_law_line.binds (ps := P_law_line) fun _ _ _ _ _ _ us hl => match us, hl with | [_, _, _], _ => rfl
  have F_law_cut_right := fun_mk (st := s_law_cut_right) l_law_cut_right c_law_cut_right k_law_cut_right
  have b_law_cut_right := F_law_cut_right.binds (ps := P_law_cut_right) fun _ _ _ _ _ _ us hl => match us, hl with | [_, _], _ => rfl
  have F_runs_of := fun_mk (st := s_runs_of) l_runs_of c_runs_of k_runs_of
  have b_runs_of := F_runs_of.binds (ps := P_runs_of) fun _ _ _ _ _ _ us hl => match us, hl with | [_], _ => rfl
  have F_law_lines := fun_mk (st := s_law_lines) l_law_lines c_law_lines k_law_lines
  have b_law_lines := F_law_lines.binds (ps := P_law_lines) fun _ _ _ _ _ _ us hl => match us, hl with | [_, _], _ => rfl
  have F_law_right := fun_mk (st := s_law_right) l_law_right c_law_right k_law_right
  have b_law_right := F_law_right.binds (ps := P_law_right) fun _ _ _ _ _ _ us hl => match us, hl with | [_], _ => rfl
  have F_law_near_right := fun_mk (st := s_law_near_right) l_law_near_right c_law_near_right k_law_near_right
  have b_law_near_right := F_law_near_right.binds (ps := P_law_near_right) fun _ _ _ _ _ _ us hl => match us, hl with | [_, _], _ => rfl
  have F_law := fun_mk (st := s_law) l_law c_law k_law
  have b_law := F_law.binds (ps := P_law) fun _ _ _ _ _ _ us hl => match us, hl with | [_], _ => rfl
  refine ⟨PySem.W.fnOf "law" "law" (defArgs s_law) (defBody s_law) (defScope s_law) .none kV_law dc_law pm_law an_law cd_law ct_law, fun s v => .of_eq rfl, fun base _ _ => ?_⟩
  have C_place_of : Fn l.prog w K mg base 1 "place_of" s_place_of P_place_of sp_place_of := ⟨_, _, PySem.W.mg_of X G a_place_of, F_place_of, b_place_of, ok_place_of F_place_of (PySem.W.mg_none_of X G z_len) (PySem.W.mg_of X G g_SIGNS) p_place_of⟩
  have C_law_reel : Fn l.prog w K mg base 1 "_law_reel" s_law_reel P_law_reel sp_law_reel := ⟨_, _, PySem.W.mg_of X G a_law_reel, F_law_reel, b_law_reel, ok_law_reel F_law_reel (PySem.W.mg_none_of X G z_list) p_law_reel⟩
  have C_law_next : Fn l.prog w K mg base 1 "_law_next" s_law_next P_law_next sp_law_next := ⟨_, _, PySem.W.mg_of X G a_law_next, F_law_next, b_law_next, ok_law_next F_law_next p_law_next⟩
  have C_law_mixed : Fn l.prog w K mg base 1 "_law_mixed" s_law_mixed P_law_mixed sp_law_mixed := ⟨_, _, PySem.W.mg_of X G a_law_mixed, F_law_mixed, b_law_mixed, ok_law_mixed F_law_mixed p_law_mixed⟩
  have C_mixed : Fn l.prog w K mg base 2 "mixed" s_mixed P_mixed sp_mixed := ⟨_, _, PySem.W.mg_of X G a_mixed, F_mixed, b_mixed, ok_mixed F_mixed C_place_of (PySem.W.mg_of X G g_FIRST) (PySem.W.mg_of X G g_TIMES) (PySem.W.mg_of X G g_P) (PySem.W.mg_of X G g_MORE) p_mixed⟩
  have C_law_one_of : Fn l.prog w K mg base 2 "_law_one_of" s_law_one_of P_law_one_of sp_law_one_of := ⟨_, _, PySem.W.mg_of X G a_law_one_of, F_law_one_of, b_law_one_of, ok_law_one_of F_law_one_of C_law_next (PySem.W.mg_none_of X G z_len) p_law_one_of⟩
  have C_law_many : Fn l.prog w K mg base 2 "_law_many" s_law_many P_law_many sp_law_many := ⟨_, _, PySem.W.mg_of X G a_law_many, F_law_many, b_law_many, ok_law_many F_law_many C_law_next p_law_many⟩
  have C_law_ends : Fn l.prog w K mg base 2 "_law_ends" s_law_ends P_law_ends sp_law_ends := ⟨_, _, PySem.W.mg_of X G a_law_ends, F_law_ends, b_law_ends, ok_law_ends F_law_ends C_law_mixed p_law_ends⟩
  have C_ends_run : Fn l.prog w K mg base 3 "ends_run" s_ends_run P_ends_run sp_ends_run := ⟨_, _, PySem.W.mg_of X G a_ends_run, F_ends_run, b_ends_run, ok_ends_run F_ends_run C_mixed (PySem.W.mg_none_of X G z_len) (PySem.W.mg_of X G g_CUT_BY) (PySem.W.mg_of X G g_MOST_LINES) p_ends_run⟩
  have C_law_line : Fn l.prog w K mg base 3 "_law_line" s_law_line P_law_line sp_law_line := ⟨_, _, PySem.W.mg_of X G a_law_line, F_law_line, b_law_line, ok_law_line F_law_line C_law_next C_law_one_of (PySem.W.mg_none_of X G z_range) (PySem.W.mg_none_of X G z_str) p_law_line⟩
  have C_law_cut_right : Fn l.prog w K mg base 3 "_law_cut_right" s_law_cut_right P_law_cut_right sp_law_cut_right := ⟨_, _, PySem.W.mg_of X G a_law_cut_right, F_law_cut_right, b_law_cut_right, ok_law_cut_right F_law_cut_right C_law_ends (PySem.W.mg_none_of X G z_isinstance) (PySem.W.mg_none_of X G z_tuple) (PySem.W.mg_none_of X G z_enumerate) (PySem.W.mg_none_of X G z_range) (PySem.W.mg_none_of X G z_len) (PySem.W.mg_none_of X G z_repr) p_law_cut_right⟩
  have C_runs_of : Fn l.prog w K mg base 4 "runs_of" s_runs_of P_runs_of sp_runs_of := ⟨_, _, PySem.W.mg_of X G a_runs_of, F_runs_of, b_runs_of, ok_runs_of F_runs_of C_ends_run (PySem.W.mg_none_of X G z_tuple) p_runs_of⟩
  have C_law_lines : Fn l.prog w K mg base 4 "_law_lines" s_law_lines P_law_lines sp_law_lines := ⟨_, _, PySem.W.mg_of X G a_law_lines, F_law_lines, b_law_lines, ok_law_lines F_law_lines C_law_next C_law_line (PySem.W.mg_none_of X G z_range) (PySem.W.mg_none_of X G z_tuple) (PySem.W.mg_none_of X G z_sorted) p_law_lines⟩
  have C_law_right : Fn l.prog w K mg base 5 "_law_right" s_law_right P_law_right sp_law_right := ⟨_, _, PySem.W.mg_of X G a_law_right, F_law_right, b_law_right, ok_law_right F_law_right C_runs_of C_law_cut_right (PySem.W.mg_none_of X G z_repr) p_law_right⟩
  have C_law_near_right : Fn l.prog w K mg base 6 "_law_near_right" s_law_near_right P_law_near_right sp_law_near_right := ⟨_, _, PySem.W.mg_of X G a_law_near_right, F_law_near_right, b_law_near_right, ok_law_near_right F_law_near_right C_law_next C_law_line C_law_right C_runs_of (PySem.W.mg_none_of X G z_len) (PySem.W.mg_none_of X G z_tuple) (PySem.W.mg_none_of X G z_sorted) (PySem.W.mg_none_of X G z_set) (PySem.W.mg_none_of X G z_enumerate) (PySem.W.mg_none_of X G z_repr) p_law_near_right⟩
  exact ok_law F_law C_law_reel C_law_lines C_law_many C_law_near_right C_law_right (PySem.W.mg_none_of X G z_range) (PySem.W.mg_none_of X G z_repr) p_law
end
end Wneversaid_k25_runs

namespace Wneversaid_k25_runs
open PySem PySem.Spec PyProof.Rows L2 N3

/-! ### mixed numbers -/
def sgT : Str := "abcdefghijklmnopqrstuvwxyz0123456789-: \n"
def sg : List Nat := cl sgT
def sg0 : List Nat := cl "abcdefghijklmnopqrstuvwxyz0123456789-: "
theorem sg_split : sg = sg0 ++ [10] := by decide +kernel
theorem sg0_len : sg0.length = 39 := by decide +kernel
theorem sg_len : sg.length = 40 := by decide +kernel
theorem no10 : 10 ∉ sg0 := by decide +kernel
/-- a sign's place -/
def vl (c : Nat) : Int := (sg.idxOf c : Nat)
def Good (l : List Nat) : Prop := ∀ c ∈ l, c ∈ sg
abbrev PP : Int := 2147483647
def horn (n : Int) (l : List Nat) : Int := l.foldl (fun n c => (n * 69621 + vl c + 1) % PP) n
def mx (l : List Nat) : Int := (horn 11 l * horn 11 l + 48271) % PP
def spPlace : SpP := fun ps h Q => ∃ c, c ∈ sg ∧ ps = [.str (S [c])] ∧ Q (.int (vl c)) h
def spMixed : SpP := fun ps h Q => ∃ l, ps = [.str (S l)] ∧ Good l ∧ l.length ≤ 1000000 ∧ Q (.int (mx l)) h
theorem pure_place_of : ∀ qs h Q, qs.length = 1 → spPlace qs h Q → m_place_of (ends Q) (sp0 1 qs) h := by
  rintro _ h Q - ⟨c, hc, rfl, q⟩
  simp only [m_place_of, N3.mDput, N3.mB, N3.mU, N3.mVar, N3.mC, N3.sp0, N3.gt, N3.st, N3.rIx, N3.seqL, N3.dctL, N3.kOf, N3.rAdd, N3.mAsg, N3.gN, N3.mIfS, N3.mTest, N3.mPop, N3.mAppend, N3.mDrop, N3.mRet, N3.mRetN, N3.mNx, N3.mBrk, N3.mCnt, N3.mLst, N3.mLstM, N3.mCons, N3.mNil, N3.mTup, N3.mBlt, N3.mKw, N3.cat2, N3.cat2r, N3.gS, N3.gL, N3.mSlM, N3.rSlM, N3.mM1, N3.mSl, N3.mRev, N3.mStep, N3.mRevM, N3.mPart, N3.mNoPart, N3.rII, N3.rII0, N3.rIB, N3.rCmp, N3.rLt, N3.rLe, N3.rGt, N3.rGe, N3.mIsI, N3.tn, N3.isI, N3.mDisp, N3.mDct0, N3.mDct0M, N3.mPar3, N3.mAug, N3.rIAdd, N3.mExtend, N3.mInsert, N3.mPopAt, N3.rMin2, N3.rMax2, N3.rIntT, N3.rSplit, N3.rSplitM, N3.rAddM, N3.gPut, N3.mFmt, N3.mJs, N3.mJoin, N3.rDictP, N3.mRepM, N3.rListA, N3.rSortA, N3.mLc2, N3.lcI, N3.lcO, N3.rAllB, N3.rAnyB, N3.rStrI, N3.rIntO, N3.vwL, N3.rMul, N3.rMulT, N3.rNeg, N3.rSub, N3.rDiv, N3.rMod, N3.rPow, N3.mPar, N3.mAndT, N3.mOrT, N3.mNotT, N3.mAnd, N3.mOr, N3.mOrV, N3.mAndV, N3.trv, N3.mNot, N3.mIf, N3.mChn, N3.mKeep, N3.mRep, N3.mDispM, N3.mPs, N3.ends, N3.rLen, N3.rListOf, N3.rListOfM, N3.rTupOf, N3.rSumI, N3.listed, N3.rSl, N3.rRev, N3.rEq, N3.rNe, N3.rIsN, N3.rNotN, N3.isNon, N3.vw, N3.mYes, N3.gT, N3.gsCons, N3.gsNil, N3.mFor, N3.mSeqs, N3.mLc, N3.mLcM, N3.mRng1, N3.mRng2, N3.mEnum, N3.mEnumA, N3.mZip, N3.wp, N3.rJoin, N3.rSS, N3.rIdxS, N3.rRepr, N3.flat, N3.flats, N3.toD, N3.toDs, List.length_cons, List.length_nil, List.append_eq, List.cons_append, List.nil_append, List.map_cons, List.map_nil, if_true, if_false, Bool.false_eq_true, decide_eq_true_eq, Option.some.injEq, true_and, and_true, Bool.not_true, Bool.not_false, reduceCtorEq, Bool.and_self, Bool.and_true, Bool.true_and, ite_true, ite_false]
  refine ⟨by simp [PyData.depth], ?_⟩
  have key : ∀ (z : Bool), z = decide (c = 10) → if z = true then (("abcdefghijklmnopqrstuvwxyz0123456789-: " : Str).length ≤ SZ ∧ Q (PV.int (("abcdefghijklmnopqrstuvwxyz0123456789-: " : Str).length : Nat)) h) else
      ((∃ x, PV.str ("abcdefghijklmnopqrstuvwxyz0123456789-: " : Str) = PV.str x) ∧ Q (PV.int (Txt.find ("abcdefghijklmnopqrstuvwxyz0123456789-: " : Str) (S [c]))) h) := by
    rintro _ rfl
    by_cases e : c = 10
    · subst e
      rw [if_pos (by decide)]
      refine ⟨by decide +kernel, ?_⟩
      have : vl 10 = ((("abcdefghijklmnopqrstuvwxyz0123456789-: " : Str).length : Nat) : Int) := by decide +kernel
      rw [← this]; exact q
    · rw [if_neg (by simp [e])]
      refine ⟨⟨_, rfl⟩, ?_⟩
      have hm : c ∈ sg0 := by
        rw [sg_split, List.mem_append, List.mem_singleton] at hc
        exact hc.resolve_right e
      have : Txt.find ("abcdefghijklmnopqrstuvwxyz0123456789-: " : Str) (S [c]) = vl c := by
        have z := find_one sg0 c
        rw [if_pos hm] at z
        rw [show S sg0 = ("abcdefghijklmnopqrstuvwxyz0123456789-: " : Str) from S_cl _] at z
        rw [z]
        unfold vl
        rw [sg_split, List.idxOf_append, if_pos hm]
      rw [this]; exact q
  refine key _ ?_
  show (S [c] == ("\n" : Str)) = _
  rw [show ("\n" : Str) = S [10] from cl_inj (by decide +kernel)]
  by_cases e : c = 10
  · subst e; decide +kernel
  · rw [decide_eq_false e]
    exact beq_eq_false_iff_ne.mpr fun z => e (by have := congrArg cl z; simpa [cl_S] using this)
theorem pure_mixed : ∀ qs h Q, qs.length = 1 → spMixed qs h Q → m_mixed spPlace (ends Q) (sp0 3 qs) h := by
  rintro _ h Q - ⟨l, rfl, hg, hl, q⟩
  unfold m_mixed
  refine seq_step fun P hP => ?_
  simp only [N3.mDput, N3.mB, N3.mU, N3.mVar, N3.mC, N3.sp0, N3.gt, N3.st, N3.rIx, N3.seqL, N3.dctL, N3.kOf, N3.rAdd, N3.mAsg, N3.gN, N3.mIfS, N3.mTest, N3.mPop, N3.mAppend, N3.mDrop, N3.mRet, N3.mRetN, N3.mNx, N3.mBrk, N3.mCnt, N3.mLst, N3.mLstM, N3.mCons, N3.mNil, N3.mTup, N3.mBlt, N3.mKw, N3.cat2, N3.cat2r, N3.gS, N3.gL, N3.mSlM, N3.rSlM, N3.mM1, N3.mSl, N3.mRev, N3.mStep, N3.mRevM, N3.mPart, N3.mNoPart, N3.rII, N3.rII0, N3.rIB, N3.rCmp, N3.rLt, N3.rLe, N3.rGt, N3.rGe, N3.mIsI, N3.tn, N3.isI, N3.mDisp, N3.mDct0, N3.mDct0M, N3.mPar3, N3.mAug, N3.rIAdd, N3.mExtend, N3.mInsert, N3.mPopAt, N3.rMin2, N3.rMax2, N3.rIntT, N3.rSplit, N3.rSplitM, N3.rAddM, N3.gPut, N3.mFmt, N3.mJs, N3.mJoin, N3.rDictP, N3.mRepM, N3.rListA, N3.rSortA, N3.mLc2, N3.lcI, N3.lcO, N3.rAllB, N3.rAnyB, N3.rStrI, N3.rIntO, N3.vwL, N3.rMul, N3.rMulT, N3.rNeg, N3.rSub, N3.rDiv, N3.rMod, N3.rPow, N3.mPar, N3.mAndT, N3.mOrT, N3.mNotT, N3.mAnd, N3.mOr, N3.mOrV, N3.mAndV, N3.trv, N3.mNot, N3.mIf, N3.mChn, N3.mKeep, N3.mRep, N3.mDispM, N3.mPs, N3.ends, N3.rLen, N3.rListOf, N3.rListOfM, N3.rTupOf, N3.rSumI, N3.listed, N3.rSl, N3.rRev, N3.rEq, N3.rNe, N3.rIsN, N3.rNotN, N3.isNon, N3.vw, N3.mYes, N3.gT, N3.gsCons, N3.gsNil, N3.mFor, N3.mSeqs, N3.mLc, N3.mLcM, N3.mRng1, N3.mRng2, N3.mEnum, N3.mEnumA, N3.mZip, N3.wp, N3.rJoin, N3.rSS, N3.rIdxS, N3.rRepr, N3.flat, N3.flats, N3.toD, N3.toDs, List.length_cons, List.length_nil, List.append_eq, List.cons_append, List.nil_append, List.map_cons, List.map_nil, if_true, if_false, Bool.false_eq_true, decide_eq_true_eq, Option.some.injEq, true_and, and_true, Bool.not_true, Bool.not_false, reduceCtorEq, Bool.and_self, Bool.and_true, Bool.true_and, ite_true, ite_false]
  subst hP
  refine seq_step fun P hP => ?_
  simp only [N3.mDput, N3.mB, N3.mU, N3.mVar, N3.mC, N3.sp0, N3.gt, N3.st, N3.rIx, N3.seqL, N3.dctL, N3.kOf, N3.rAdd, N3.mAsg, N3.gN, N3.mIfS, N3.mTest, N3.mPop, N3.mAppend, N3.mDrop, N3.mRet, N3.mRetN, N3.mNx, N3.mBrk, N3.mCnt, N3.mLst, N3.mLstM, N3.mCons, N3.mNil, N3.mTup, N3.mBlt, N3.mKw, N3.cat2, N3.cat2r, N3.gS, N3.gL, N3.mSlM, N3.rSlM, N3.mM1, N3.mSl, N3.mRev, N3.mStep, N3.mRevM, N3.mPart, N3.mNoPart, N3.rII, N3.rII0, N3.rIB, N3.rCmp, N3.rLt, N3.rLe, N3.rGt, N3.rGe, N3.mIsI, N3.tn, N3.isI, N3.mDisp, N3.mDct0, N3.mDct0M, N3.mPar3, N3.mAug, N3.rIAdd, N3.mExtend, N3.mInsert, N3.mPopAt, N3.rMin2, N3.rMax2, N3.rIntT, N3.rSplit, N3.rSplitM, N3.rAddM, N3.gPut, N3.mFmt, N3.mJs, N3.mJoin, N3.rDictP, N3.mRepM, N3.rListA, N3.rSortA, N3.mLc2, N3.lcI, N3.lcO, N3.rAllB, N3.rAnyB, N3.rStrI, N3.rIntO, N3.vwL, N3.rMul, N3.rMulT, N3.rNeg, N3.rSub, N3.rDiv, N3.rMod, N3.rPow, N3.mPar, N3.mAndT, N3.mOrT, N3.mNotT, N3.mAnd, N3.mOr, N3.mOrV, N3.mAndV, N3.trv, N3.mNot, N3.mIf, N3.mChn, N3.mKeep, N3.mRep, N3.mDispM, N3.mPs, N3.ends, N3.rLen, N3.rListOf, N3.rListOfM, N3.rTupOf, N3.rSumI, N3.listed, N3.rSl, N3.rRev, N3.rEq, N3.rNe, N3.rIsN, N3.rNotN, N3.isNon, N3.vw, N3.mYes, N3.gT, N3.gsCons, N3.gsNil, N3.mFor, N3.mSeqs, N3.mLc, N3.mLcM, N3.mRng1, N3.mRng2, N3.mEnum, N3.mEnumA, N3.mZip, N3.wp, N3.rJoin, N3.rSS, N3.rIdxS, N3.rRepr, N3.flat, N3.flats, N3.toD, N3.toDs, List.length_cons, List.length_nil, List.append_eq, List.cons_append, List.nil_append, List.map_cons, List.map_nil, if_true, if_false, Bool.false_eq_true, decide_eq_true_eq, Option.some.injEq, true_and, and_true, Bool.not_true, Bool.not_false, reduceCtorEq, Bool.and_self, Bool.and_true, Bool.true_and, ite_true, ite_false]
  refine ⟨by rw [S_length]; show _ ≤ 16777216; omega, ?_⟩
  refine forL_of (W := fun ps τ h' => h' = h ∧ ∃ done l2 v, l = done ++ l2 ∧ ps = ones (S l2) ∧ τ = [some (.str (S l)), some (.int (horn 11 done)), v] ∧ 0 ≤ horn 11 done ∧ horn 11 done < PP) ?_ ?_ _ _ _ ⟨rfl, [], l, none, rfl, rfl, rfl, by decide, by decide⟩
  · rintro p ps τ _ ⟨rfl, done, l2, v, el, ep, rfl, h0, h1⟩
    refine ⟨trivial, fun P' hP' => ?_⟩
    cases l2 with
    | nil => cases ep
    | cons c l2 =>
      obtain ⟨rfl, rfl⟩ : p = .str (S [c]) ∧ ps = ones (S l2) := by
        have := ep
        simp only [ones, cl_S, List.map_cons, List.cons.injEq] at this
        exact this
      simp only [N3.mDput, N3.mB, N3.mU, N3.mVar, N3.mC, N3.sp0, N3.gt, N3.st, N3.rIx, N3.seqL, N3.dctL, N3.kOf, N3.rAdd, N3.mAsg, N3.gN, N3.mIfS, N3.mTest, N3.mPop, N3.mAppend, N3.mDrop, N3.mRet, N3.mRetN, N3.mNx, N3.mBrk, N3.mCnt, N3.mLst, N3.mLstM, N3.mCons, N3.mNil, N3.mTup, N3.mBlt, N3.mKw, N3.cat2, N3.cat2r, N3.gS, N3.gL, N3.mSlM, N3.rSlM, N3.mM1, N3.mSl, N3.mRev, N3.mStep, N3.mRevM, N3.mPart, N3.mNoPart, N3.rII, N3.rII0, N3.rIB, N3.rCmp, N3.rLt, N3.rLe, N3.rGt, N3.rGe, N3.mIsI, N3.tn, N3.isI, N3.mDisp, N3.mDct0, N3.mDct0M, N3.mPar3, N3.mAug, N3.rIAdd, N3.mExtend, N3.mInsert, N3.mPopAt, N3.rMin2, N3.rMax2, N3.rIntT, N3.rSplit, N3.rSplitM, N3.rAddM, N3.gPut, N3.mFmt, N3.mJs, N3.mJoin, N3.rDictP, N3.mRepM, N3.rListA, N3.rSortA, N3.mLc2, N3.lcI, N3.lcO, N3.rAllB, N3.rAnyB, N3.rStrI, N3.rIntO, N3.vwL, N3.rMul, N3.rMulT, N3.rNeg, N3.rSub, N3.rDiv, N3.rMod, N3.rPow, N3.mPar, N3.mAndT, N3.mOrT, N3.mNotT, N3.mAnd, N3.mOr, N3.mOrV, N3.mAndV, N3.trv, N3.mNot, N3.mIf, N3.mChn, N3.mKeep, N3.mRep, N3.mDispM, N3.mPs, N3.ends, N3.rLen, N3.rListOf, N3.rListOfM, N3.rTupOf, N3.rSumI, N3.listed, N3.rSl, N3.rRev, N3.rEq, N3.rNe, N3.rIsN, N3.rNotN, N3.isNon, N3.vw, N3.mYes, N3.gT, N3.gsCons, N3.gsNil, N3.mFor, N3.mSeqs, N3.mLc, N3.mLcM, N3.mRng1, N3.mRng2, N3.mEnum, N3.mEnumA, N3.mZip, N3.wp, N3.rJoin, N3.rSS, N3.rIdxS, N3.rRepr, N3.flat, N3.flats, N3.toD, N3.toDs, List.length_cons, List.length_nil, List.append_eq, List.cons_append, List.nil_append, List.map_cons, List.map_nil, if_true, if_false, Bool.false_eq_true, decide_eq_true_eq, Option.some.injEq, true_and, and_true, Bool.not_true, Bool.not_false, reduceCtorEq, Bool.and_self, Bool.and_true, Bool.true_and, ite_true, ite_false]
      have h1' : horn 11 done < 2147483647 := h1
      refine ⟨.inl ⟨by omega, by omega⟩, c, hg c (by rw [el]; simp), rfl, by show (0 : Int) < 2147483647; decide, ?_⟩
      refine hP' _ _ ⟨rfl, done ++ [c], l2, some (.str (S [c])), by rw [el]; simp, rfl, ?_, ?_, ?_⟩
      · unfold horn; rw [List.foldl_append]; rfl
      · unfold horn; rw [List.foldl_append]; exact Int.emod_nonneg _ (by decide)
      · unfold horn; rw [List.foldl_append]; exact Int.emod_lt_of_pos _ (by decide)
  · rintro τ _ ⟨rfl, done, l2, v, el, ep, rfl, h0, h1⟩
    have e2 : l2 = [] := by
      cases l2 with
      | nil => rfl
      | cons c l2 => simp [ones, cl_S] at ep
    subst e2
    rw [List.append_nil] at el
    subst el
    refine ⟨trivial, ?_⟩
    subst hP
    simp only [N3.mDput, N3.mB, N3.mU, N3.mVar, N3.mC, N3.sp0, N3.gt, N3.st, N3.rIx, N3.seqL, N3.dctL, N3.kOf, N3.rAdd, N3.mAsg, N3.gN, N3.mIfS, N3.mTest, N3.mPop, N3.mAppend, N3.mDrop, N3.mRet, N3.mRetN, N3.mNx, N3.mBrk, N3.mCnt, N3.mLst, N3.mLstM, N3.mCons, N3.mNil, N3.mTup, N3.mBlt, N3.mKw, N3.cat2, N3.cat2r, N3.gS, N3.gL, N3.mSlM, N3.rSlM, N3.mM1, N3.mSl, N3.mRev, N3.mStep, N3.mRevM, N3.mPart, N3.mNoPart, N3.rII, N3.rII0, N3.rIB, N3.rCmp, N3.rLt, N3.rLe, N3.rGt, N3.rGe, N3.mIsI, N3.tn, N3.isI, N3.mDisp, N3.mDct0, N3.mDct0M, N3.mPar3, N3.mAug, N3.rIAdd, N3.mExtend, N3.mInsert, N3.mPopAt, N3.rMin2, N3.rMax2, N3.rIntT, N3.rSplit, N3.rSplitM, N3.rAddM, N3.gPut, N3.mFmt, N3.mJs, N3.mJoin, N3.rDictP, N3.mRepM, N3.rListA, N3.rSortA, N3.mLc2, N3.lcI, N3.lcO, N3.rAllB, N3.rAnyB, N3.rStrI, N3.rIntO, N3.vwL, N3.rMul, N3.rMulT, N3.rNeg, N3.rSub, N3.rDiv, N3.rMod, N3.rPow, N3.mPar, N3.mAndT, N3.mOrT, N3.mNotT, N3.mAnd, N3.mOr, N3.mOrV, N3.mAndV, N3.trv, N3.mNot, N3.mIf, N3.mChn, N3.mKeep, N3.mRep, N3.mDispM, N3.mPs, N3.ends, N3.rLen, N3.rListOf, N3.rListOfM, N3.rTupOf, N3.rSumI, N3.listed, N3.rSl, N3.rRev, N3.rEq, N3.rNe, N3.rIsN, N3.rNotN, N3.isNon, N3.vw, N3.mYes, N3.gT, N3.gsCons, N3.gsNil, N3.mFor, N3.mSeqs, N3.mLc, N3.mLcM, N3.mRng1, N3.mRng2, N3.mEnum, N3.mEnumA, N3.mZip, N3.wp, N3.rJoin, N3.rSS, N3.rIdxS, N3.rRepr, N3.flat, N3.flats, N3.toD, N3.toDs, List.length_cons, List.length_nil, List.append_eq, List.cons_append, List.nil_append, List.map_cons, List.map_nil, if_true, if_false, Bool.false_eq_true, decide_eq_true_eq, Option.some.injEq, true_and, and_true, Bool.not_true, Bool.not_false, reduceCtorEq, Bool.and_self, Bool.and_true, Bool.true_and, ite_true, ite_false]
    have h1' : horn 11 l < 2147483647 := h1
    exact ⟨.inl ⟨by omega, by omega⟩, by show (0 : Int) < 2147483647; decide, q⟩
theorem idx_one {c : Nat} (hc : c ∈ sg) : Txt.index0 sgT (S [c]) = some (sg.idxOf c) := by
  have z := index_one sg c
  rw [if_pos hc] at z
  rwa [show S sg = sgT from S_cl _] at z
theorem mx_lo (l : List Nat) : 0 ≤ mx l := Int.emod_nonneg _ (by decide)
theorem mx_hi (l : List Nat) : mx l < 2147483647 := Int.emod_lt_of_pos _ (by decide)
theorem good_rep {l : List Nat} (g : Good l) (k : Nat) : Good (List.replicate k l).flatten := fun c hc => by
  obtain ⟨x, hx, h⟩ := List.mem_flatten.mp hc
  rw [(List.mem_replicate.mp hx).2] at h
  exact g c h
theorem good_cut {l : List Nat} (g : Good l) (lo hi : Option Int) : Good (cut l lo hi) := fun c hc => g c (by
  unfold cut at hc
  exact List.mem_of_mem_drop (List.mem_of_mem_take hc))
theorem good_append {l k : List Nat} (g : Good l) (g' : Good k) : Good (l ++ k) := fun c hc => by
  rcases List.mem_append.mp hc with h | h
  · exact g c h
  · exact g' c h
theorem mem_ones {v : PV} (h : v ∈ ones sgT) : ∃ c ∈ sg, v = .str (S [c]) := by
  obtain ⟨c, hc, e⟩ := List.mem_map.mp h
  exact ⟨c, hc, e.symm⟩
theorem pure_law_mixed : ∀ qs h Q, qs.length = 1 → spMixed qs h Q → m_law_mixed (ends Q) (sp0 4 qs) h := by
  rintro _ h Q - ⟨l, rfl, hg, hl, q⟩
  unfold m_law_mixed
  refine seq_step fun P hP => ?_
  simp only [N3.mDput, N3.mB, N3.mU, N3.mVar, N3.mC, N3.sp0, N3.gt, N3.st, N3.rIx, N3.seqL, N3.dctL, N3.kOf, N3.rAdd, N3.mAsg, N3.gN, N3.mIfS, N3.mTest, N3.mPop, N3.mAppend, N3.mDrop, N3.mRet, N3.mRetN, N3.mNx, N3.mBrk, N3.mCnt, N3.mLst, N3.mLstM, N3.mCons, N3.mNil, N3.mTup, N3.mBlt, N3.mKw, N3.cat2, N3.cat2r, N3.gS, N3.gL, N3.mSlM, N3.rSlM, N3.mM1, N3.mSl, N3.mRev, N3.mStep, N3.mRevM, N3.mPart, N3.mNoPart, N3.rII, N3.rII0, N3.rIB, N3.rCmp, N3.rLt, N3.rLe, N3.rGt, N3.rGe, N3.mIsI, N3.tn, N3.isI, N3.mDisp, N3.mDct0, N3.mDct0M, N3.mPar3, N3.mAug, N3.rIAdd, N3.mExtend, N3.mInsert, N3.mPopAt, N3.rMin2, N3.rMax2, N3.rIntT, N3.rSplit, N3.rSplitM, N3.rAddM, N3.gPut, N3.mFmt, N3.mJs, N3.mJoin, N3.rDictP, N3.mRepM, N3.rListA, N3.rSortA, N3.mLc2, N3.lcI, N3.lcO, N3.rAllB, N3.rAnyB, N3.rStrI, N3.rIntO, N3.vwL, N3.rMul, N3.rMulT, N3.rNeg, N3.rSub, N3.rDiv, N3.rMod, N3.rPow, N3.mPar, N3.mAndT, N3.mOrT, N3.mNotT, N3.mAnd, N3.mOr, N3.mOrV, N3.mAndV, N3.trv, N3.mNot, N3.mIf, N3.mChn, N3.mKeep, N3.mRep, N3.mDispM, N3.mPs, N3.ends, N3.rLen, N3.rListOf, N3.rListOfM, N3.rTupOf, N3.rSumI, N3.listed, N3.rSl, N3.rRev, N3.rEq, N3.rNe, N3.rIsN, N3.rNotN, N3.isNon, N3.vw, N3.mYes, N3.gT, N3.gsCons, N3.gsNil, N3.mFor, N3.mSeqs, N3.mLc, N3.mLcM, N3.mRng1, N3.mRng2, N3.mEnum, N3.mEnumA, N3.mZip, N3.wp, N3.rJoin, N3.rSS, N3.rIdxS, N3.rRepr, N3.flat, N3.flats, N3.toD, N3.toDs, List.length_cons, List.length_nil, List.append_eq, List.cons_append, List.nil_append, List.map_cons, List.map_nil, if_true, if_false, Bool.false_eq_true, decide_eq_true_eq, Option.some.injEq, true_and, and_true, Bool.not_true, Bool.not_false, reduceCtorEq, Bool.and_self, Bool.and_true, Bool.true_and, ite_true, ite_false]
  subst hP
  refine seq_step fun P hP => ?_
  simp only [N3.mDput, N3.mB, N3.mU, N3.mVar, N3.mC, N3.sp0, N3.gt, N3.st, N3.rIx, N3.seqL, N3.dctL, N3.kOf, N3.rAdd, N3.mAsg, N3.gN, N3.mIfS, N3.mTest, N3.mPop, N3.mAppend, N3.mDrop, N3.mRet, N3.mRetN, N3.mNx, N3.mBrk, N3.mCnt, N3.mLst, N3.mLstM, N3.mCons, N3.mNil, N3.mTup, N3.mBlt, N3.mKw, N3.cat2, N3.cat2r, N3.gS, N3.gL, N3.mSlM, N3.rSlM, N3.mM1, N3.mSl, N3.mRev, N3.mStep, N3.mRevM, N3.mPart, N3.mNoPart, N3.rII, N3.rII0, N3.rIB, N3.rCmp, N3.rLt, N3.rLe, N3.rGt, N3.rGe, N3.mIsI, N3.tn, N3.isI, N3.mDisp, N3.mDct0, N3.mDct0M, N3.mPar3, N3.mAug, N3.rIAdd, N3.mExtend, N3.mInsert, N3.mPopAt, N3.rMin2, N3.rMax2, N3.rIntT, N3.rSplit, N3.rSplitM, N3.rAddM, N3.gPut, N3.mFmt, N3.mJs, N3.mJoin, N3.rDictP, N3.mRepM, N3.rListA, N3.rSortA, N3.mLc2, N3.lcI, N3.lcO, N3.rAllB, N3.rAnyB, N3.rStrI, N3.rIntO, N3.vwL, N3.rMul, N3.rMulT, N3.rNeg, N3.rSub, N3.rDiv, N3.rMod, N3.rPow, N3.mPar, N3.mAndT, N3.mOrT, N3.mNotT, N3.mAnd, N3.mOr, N3.mOrV, N3.mAndV, N3.trv, N3.mNot, N3.mIf, N3.mChn, N3.mKeep, N3.mRep, N3.mDispM, N3.mPs, N3.ends, N3.rLen, N3.rListOf, N3.rListOfM, N3.rTupOf, N3.rSumI, N3.listed, N3.rSl, N3.rRev, N3.rEq, N3.rNe, N3.rIsN, N3.rNotN, N3.isNon, N3.vw, N3.mYes, N3.gT, N3.gsCons, N3.gsNil, N3.mFor, N3.mSeqs, N3.mLc, N3.mLcM, N3.mRng1, N3.mRng2, N3.mEnum, N3.mEnumA, N3.mZip, N3.wp, N3.rJoin, N3.rSS, N3.rIdxS, N3.rRepr, N3.flat, N3.flats, N3.toD, N3.toDs, List.length_cons, List.length_nil, List.append_eq, List.cons_append, List.nil_append, List.map_cons, List.map_nil, if_true, if_false, Bool.false_eq_true, decide_eq_true_eq, Option.some.injEq, true_and, and_true, Bool.not_true, Bool.not_false, reduceCtorEq, Bool.and_self, Bool.and_true, Bool.true_and, ite_true, ite_false]
  refine ⟨by rw [S_length]; show _ ≤ 16777216; omega, ?_⟩
  refine forL_of (W := fun ps τ h' => h' = h ∧ ∃ done l2 v, l = done ++ l2 ∧ ps = ones (S l2) ∧ τ = [some (.str (S l)), some (.str sgT), some (.int (horn 11 done)), v] ∧ 0 ≤ horn 11 done ∧ horn 11 done < PP) ?_ ?_ _ _ _ ⟨rfl, [], l, none, rfl, rfl, rfl, by decide, by decide⟩
  · rintro p ps τ _ ⟨rfl, done, l2, v, el, ep, rfl, h0, h1⟩
    refine ⟨trivial, fun P' hP' => ?_⟩
    cases l2 with
    | nil => cases ep
    | cons c l2 =>
      obtain ⟨rfl, rfl⟩ : p = .str (S [c]) ∧ ps = ones (S l2) := by
        have := ep
        simp only [ones, cl_S, List.map_cons, List.cons.injEq] at this
        exact this
      have h1' : horn 11 done < 2147483647 := h1
      have hc : c ∈ sg := hg c (by rw [el]; simp)
      simp only [N3.mDput, N3.mB, N3.mU, N3.mVar, N3.mC, N3.sp0, N3.gt, N3.st, N3.rIx, N3.seqL, N3.dctL, N3.kOf, N3.rAdd, N3.mAsg, N3.gN, N3.mIfS, N3.mTest, N3.mPop, N3.mAppend, N3.mDrop, N3.mRet, N3.mRetN, N3.mNx, N3.mBrk, N3.mCnt, N3.mLst, N3.mLstM, N3.mCons, N3.mNil, N3.mTup, N3.mBlt, N3.mKw, N3.cat2, N3.cat2r, N3.gS, N3.gL, N3.mSlM, N3.rSlM, N3.mM1, N3.mSl, N3.mRev, N3.mStep, N3.mRevM, N3.mPart, N3.mNoPart, N3.rII, N3.rII0, N3.rIB, N3.rCmp, N3.rLt, N3.rLe, N3.rGt, N3.rGe, N3.mIsI, N3.tn, N3.isI, N3.mDisp, N3.mDct0, N3.mDct0M, N3.mPar3, N3.mAug, N3.rIAdd, N3.mExtend, N3.mInsert, N3.mPopAt, N3.rMin2, N3.rMax2, N3.rIntT, N3.rSplit, N3.rSplitM, N3.rAddM, N3.gPut, N3.mFmt, N3.mJs, N3.mJoin, N3.rDictP, N3.mRepM, N3.rListA, N3.rSortA, N3.mLc2, N3.lcI, N3.lcO, N3.rAllB, N3.rAnyB, N3.rStrI, N3.rIntO, N3.vwL, N3.rMul, N3.rMulT, N3.rNeg, N3.rSub, N3.rDiv, N3.rMod, N3.rPow, N3.mPar, N3.mAndT, N3.mOrT, N3.mNotT, N3.mAnd, N3.mOr, N3.mOrV, N3.mAndV, N3.trv, N3.mNot, N3.mIf, N3.mChn, N3.mKeep, N3.mRep, N3.mDispM, N3.mPs, N3.ends, N3.rLen, N3.rListOf, N3.rListOfM, N3.rTupOf, N3.rSumI, N3.listed, N3.rSl, N3.rRev, N3.rEq, N3.rNe, N3.rIsN, N3.rNotN, N3.isNon, N3.vw, N3.mYes, N3.gT, N3.gsCons, N3.gsNil, N3.mFor, N3.mSeqs, N3.mLc, N3.mLcM, N3.mRng1, N3.mRng2, N3.mEnum, N3.mEnumA, N3.mZip, N3.wp, N3.rJoin, N3.rSS, N3.rIdxS, N3.rRepr, N3.flat, N3.flats, N3.toD, N3.toDs, List.length_cons, List.length_nil, List.append_eq, List.cons_append, List.nil_append, List.map_cons, List.map_nil, if_true, if_false, Bool.false_eq_true, decide_eq_true_eq, Option.some.injEq, true_and, and_true, Bool.not_true, Bool.not_false, reduceCtorEq, Bool.and_self, Bool.and_true, Bool.true_and, ite_true, ite_false, idx_one hc]
      refine ⟨.inl ⟨by omega, by omega⟩, ⟨_, rfl⟩, by decide, ?_⟩
      refine hP' _ _ ⟨rfl, done ++ [c], l2, some (.str (S [c])), by rw [el]; simp, rfl, ?_, ?_, ?_⟩
      · unfold horn; rw [List.foldl_append]; rfl
      · unfold horn; rw [List.foldl_append]; exact Int.emod_nonneg _ (by decide)
      · unfold horn; rw [List.foldl_append]; exact Int.emod_lt_of_pos _ (by decide)
  · rintro τ _ ⟨rfl, done, l2, v, el, ep, rfl, h0, h1⟩
    have e2 : l2 = [] := by
      cases l2 with
      | nil => rfl
      | cons c l2 => simp [ones, cl_S] at ep
    subst e2
    rw [List.append_nil] at el
    subst el
    refine ⟨trivial, ?_⟩
    subst hP
    simp only [N3.mDput, N3.mB, N3.mU, N3.mVar, N3.mC, N3.sp0, N3.gt, N3.st, N3.rIx, N3.seqL, N3.dctL, N3.kOf, N3.rAdd, N3.mAsg, N3.gN, N3.mIfS, N3.mTest, N3.mPop, N3.mAppend, N3.mDrop, N3.mRet, N3.mRetN, N3.mNx, N3.mBrk, N3.mCnt, N3.mLst, N3.mLstM, N3.mCons, N3.mNil, N3.mTup, N3.mBlt, N3.mKw, N3.cat2, N3.cat2r, N3.gS, N3.gL, N3.mSlM, N3.rSlM, N3.mM1, N3.mSl, N3.mRev, N3.mStep, N3.mRevM, N3.mPart, N3.mNoPart, N3.rII, N3.rII0, N3.rIB, N3.rCmp, N3.rLt, N3.rLe, N3.rGt, N3.rGe, N3.mIsI, N3.tn, N3.isI, N3.mDisp, N3.mDct0, N3.mDct0M, N3.mPar3, N3.mAug, N3.rIAdd, N3.mExtend, N3.mInsert, N3.mPopAt, N3.rMin2, N3.rMax2, N3.rIntT, N3.rSplit, N3.rSplitM, N3.rAddM, N3.gPut, N3.mFmt, N3.mJs, N3.mJoin, N3.rDictP, N3.mRepM, N3.rListA, N3.rSortA, N3.mLc2, N3.lcI, N3.lcO, N3.rAllB, N3.rAnyB, N3.rStrI, N3.rIntO, N3.vwL, N3.rMul, N3.rMulT, N3.rNeg, N3.rSub, N3.rDiv, N3.rMod, N3.rPow, N3.mPar, N3.mAndT, N3.mOrT, N3.mNotT, N3.mAnd, N3.mOr, N3.mOrV, N3.mAndV, N3.trv, N3.mNot, N3.mIf, N3.mChn, N3.mKeep, N3.mRep, N3.mDispM, N3.mPs, N3.ends, N3.rLen, N3.rListOf, N3.rListOfM, N3.rTupOf, N3.rSumI, N3.listed, N3.rSl, N3.rRev, N3.rEq, N3.rNe, N3.rIsN, N3.rNotN, N3.isNon, N3.vw, N3.mYes, N3.gT, N3.gsCons, N3.gsNil, N3.mFor, N3.mSeqs, N3.mLc, N3.mLcM, N3.mRng1, N3.mRng2, N3.mEnum, N3.mEnumA, N3.mZip, N3.wp, N3.rJoin, N3.rSS, N3.rIdxS, N3.rRepr, N3.flat, N3.flats, N3.toD, N3.toDs, List.length_cons, List.length_nil, List.append_eq, List.cons_append, List.nil_append, List.map_cons, List.map_nil, if_true, if_false, Bool.false_eq_true, decide_eq_true_eq, Option.some.injEq, true_and, and_true, Bool.not_true, Bool.not_false, reduceCtorEq, Bool.and_self, Bool.and_true, Bool.true_and, ite_true, ite_false]
    have h1' : horn 11 l < 2147483647 := h1
    exact ⟨.inl ⟨by omega, by omega⟩, by decide, q⟩
def dg (i : Nat) : List Nat := cl (Str.ofString (toString (i : Int)))
def digit (c : Nat) : Prop := 48 ≤ c ∧ c ≤ 57
theorem dg_digits (i : Nat) : ∀ c ∈ dg i, digit c := by
  intro c hc
  have e : dg i = (Nat.toDigits 10 i).map Char.toNat := PySem.W.KIN.signs_num i
  rw [e] at hc
  obtain ⟨ch, hm, rfl⟩ := List.mem_map.mp hc
  have := Nat.isDigit_of_mem_toDigits (b := 10) (by decide) (by decide) hm
  unfold Char.isDigit at this
  simp only [Bool.and_eq_true, decide_eq_true_eq] at this
  exact ⟨UInt32.le_iff_toNat_le.mp this.1, UInt32.le_iff_toNat_le.mp this.2⟩
theorem dg_read {i : Nat} (h : i < 10 ^ 10) : PySem.intText? (S (dg i)) = some (i : Int) := by
  unfold dg
  rw [S_cl]
  exact PySem.W.KIN.num_reads (by omega) (by omega)
theorem dg_inj {i j : Nat} (hi : i < 10 ^ 10) (hj : j < 10 ^ 10) (e : dg i = dg j) : i = j := by
  have h1 := dg_read hi
  rw [e, dg_read hj] at h1
  have := Option.some.inj h1
  omega
theorem dg_ne (i : Nat) : dg i ≠ [] := fun e => by
  have h : (dg i) = (Nat.toDigits 10 i).map Char.toNat := PySem.W.KIN.signs_num i
  rw [e] at h
  exact Nat.toDigits_ne_nil (List.map_eq_nil_iff.mp h.symm)
theorem dg_sg (c : Nat) (h : digit c) : c ∈ sg := by
  have z : ∀ i, i < 10 → 48 + i ∈ sg := by decide +kernel
  have := z (c - 48) (by have := h.1; have := h.2; omega)
  rwa [show 48 + (c - 48) = c from by have := h.1; omega] at this
theorem dg_tx {i : Nat} (h : i < 10 ^ 5) : Tx 6 (dg i) := tx_num (by decide) (by omega)
def letter (c : Nat) : Prop := 97 ≤ c ∧ c ≤ 122
theorem let_sg (c : Nat) (h : letter c) : c ∈ sg := by
  have z : ∀ i, i < 26 → 97 + i ∈ sg := by decide +kernel
  have := z (c - 97) (by have := h.1; have := h.2; omega)
  rwa [show 97 + (c - 97) = c from by have := h.1; omega] at this
abbrev Ln := List Nat
abbrev stz (ks : List Ln) : List PV := ks.map fun k => PV.str (S k)
def tupS (ks : List Ln) : PV := .tup (stz ks)
def endsR (run : List Ln) (l : Ln) : Bool := decide (run.length + 1 = 6) || (decide (1 < run.length + 1) && decide (mx l % 4 = 0))
def rgo : List Ln → List Ln → List (List Ln)
  | run, [] => if run = [] then [] else [run]
  | run, l :: ls => if endsR run l = true then (run ++ [l]) :: rgo [] ls else rgo (run ++ [l]) ls
def runsL (ls : List Ln) : List (List Ln) := rgo [] ls
structure LnOk (l : Ln) : Prop where
  g : Good l
  t : Tx 50 l
def LsOk (ls : List Ln) : Prop := (∀ l ∈ ls, LnOk l) ∧ ls.length ≤ 80
theorem rgo_len : ∀ (ls run : List Ln), 2 * (rgo run ls).length ≤ run.length + ls.length + 1
  | [], run => by
    unfold rgo
    by_cases h : run = []
    · rw [if_pos h]; simp
    · rw [if_neg h]
      have := List.length_pos_iff.mpr h
      simp; omega
  | l :: ls, run => by
    unfold rgo
    by_cases h : endsR run l = true
    · rw [if_pos h]
      have := rgo_len ls []
      have h1 : 1 ≤ run.length := by
        unfold endsR at h
        rw [Bool.or_eq_true, Bool.and_eq_true, decide_eq_true_eq, decide_eq_true_eq, decide_eq_true_eq] at h
        omega
      simp only [List.length_cons, List.length_nil] at this ⊢
      omega
    · rw [if_neg h]
      have := rgo_len ls (run ++ [l])
      simp only [List.length_append, List.length_cons, List.length_nil] at this ⊢
      omega
theorem rgo_mem {Z : Ln → Prop} : ∀ (ls run : List Ln), (∀ l ∈ ls, Z l) → (∀ l ∈ run, Z l) → run.length < 6 → ∀ r ∈ rgo run ls, r ≠ [] ∧ r.length ≤ 6 ∧ ∀ l ∈ r, Z l
  | [], run, _, h2, h6, r, hr => by
    unfold rgo at hr
    by_cases h : run = []
    · rw [if_pos h] at hr; cases hr
    · rw [if_neg h, List.mem_singleton] at hr
      subst hr
      exact ⟨h, by omega, h2⟩
  | l :: ls, run, h1, h2, h6, r, hr => by
    have h3 : ∀ x ∈ run ++ [l], Z x := fun x hx => by
      rcases List.mem_append.mp hx with h | h
      · exact h2 x h
      · rw [List.mem_singleton] at h; subst h; exact h1 x List.mem_cons_self
    unfold rgo at hr
    by_cases h : endsR run l = true
    · rw [if_pos h] at hr
      rcases List.mem_cons.mp hr with rfl | hr
      · exact ⟨by simp, by rw [List.length_append]; simp; omega, h3⟩
      · exact rgo_mem ls [] (fun x hx => h1 x (List.mem_cons_of_mem _ hx)) (fun x hx => (List.not_mem_nil hx).elim) (by decide) r hr
    · rw [if_neg h] at hr
      refine rgo_mem ls (run ++ [l]) (fun x hx => h1 x (List.mem_cons_of_mem _ hx)) h3 ?_ r hr
      unfold endsR at h
      rw [Bool.or_eq_true, decide_eq_true_eq] at h
      rw [List.length_append, List.length_singleton]
      omega
def spEnds : SpP := fun ps h Q => ∃ (run : List Ln) (l : Ln), ps = [tupS (run ++ [l])] ∧ run.length < 6 ∧ LnOk l ∧ Q (.bl (endsR run l)) h
def spRuns : SpP := fun ps h Q => ∃ ls : List Ln, ps = [tupS ls] ∧ LsOk ls ∧ Q (.tup ((runsL ls).map tupS)) h
def spLRuns : SpP := fun ps h Q => ∃ ls : List Ln, ps = [tupS ls] ∧ LsOk ls ∧ Q (.lst ((runsL ls).map tupS)) h
theorem atI_last {α : Type} (xs : List α) (x : α) : atI (xs ++ [x]) (-1) = some x := by
  unfold atI ixN
  rw [if_neg (by decide), if_pos (by rw [List.length_append, List.length_singleton]; omega)]
  show (xs ++ [x])[_]? = _
  rw [List.length_append, List.length_singleton]
  have e : ((-1 : Int) + ((xs.length + 1 : Nat) : Int)).toNat = xs.length := by omega
  rw [e, List.getElem?_append_right (Nat.le_refl _), Nat.sub_self]; rfl
theorem stz_app (a b : List Ln) : stz (a ++ b) = stz a ++ stz b := by simp [stz]
theorem tup_snoc (run : List Ln) (l : Ln) : tupS (run ++ [l]) = .tup (stz run ++ [PV.str (S l)]) := by rw [tupS, stz_app]; rfl
theorem pure_ends_run : ∀ qs h Q, qs.length = 1 → spEnds qs h Q → m_ends_run spMixed (ends Q) (sp0 1 qs) h := by
  rintro _ h Q - ⟨run, l, rfl, h6, ok, q⟩
  have e1 : (stz (run ++ [l])) = stz run ++ [PV.str (S l)] := by simp [stz]
  unfold tupS
  rw [e1]
  simp only [m_ends_run, N3.mDput, N3.mB, N3.mU, N3.mVar, N3.mC, N3.sp0, N3.gt, N3.st, N3.rIx, N3.seqL, N3.dctL, N3.kOf, N3.rAdd, N3.mAsg, N3.gN, N3.mIfS, N3.mTest, N3.mPop, N3.mAppend, N3.mDrop, N3.mRet, N3.mRetN, N3.mNx, N3.mBrk, N3.mCnt, N3.mLst, N3.mLstM, N3.mCons, N3.mNil, N3.mTup, N3.mBlt, N3.mKw, N3.cat2, N3.cat2r, N3.gS, N3.gL, N3.mSlM, N3.rSlM, N3.mM1, N3.mSl, N3.mRev, N3.mStep, N3.mRevM, N3.mPart, N3.mNoPart, N3.rII, N3.rII0, N3.rIB, N3.rCmp, N3.rLt, N3.rLe, N3.rGt, N3.rGe, N3.mIsI, N3.tn, N3.isI, N3.mDisp, N3.mDct0, N3.mDct0M, N3.mPar3, N3.mAug, N3.rIAdd, N3.mExtend, N3.mInsert, N3.mPopAt, N3.rMin2, N3.rMax2, N3.rIntT, N3.rSplit, N3.rSplitM, N3.rAddM, N3.gPut, N3.mFmt, N3.mJs, N3.mJoin, N3.rDictP, N3.mRepM, N3.rListA, N3.rSortA, N3.mLc2, N3.lcI, N3.lcO, N3.rAllB, N3.rAnyB, N3.rStrI, N3.rIntO, N3.vwL, N3.rMul, N3.rMulT, N3.rNeg, N3.rSub, N3.rDiv, N3.rMod, N3.rPow, N3.mPar, N3.mAndT, N3.mOrT, N3.mNotT, N3.mAnd, N3.mOr, N3.mOrV, N3.mAndV, N3.trv, N3.mNot, N3.mIf, N3.mChn, N3.mKeep, N3.mRep, N3.mDispM, N3.mPs, N3.ends, N3.rLen, N3.rListOf, N3.rListOfM, N3.rTupOf, N3.rSumI, N3.listed, N3.rSl, N3.rRev, N3.rEq, N3.rNe, N3.rIsN, N3.rNotN, N3.isNon, N3.vw, N3.mYes, N3.gT, N3.gsCons, N3.gsNil, N3.mFor, N3.mSeqs, N3.mLc, N3.mLcM, N3.mRng1, N3.mRng2, N3.mEnum, N3.mEnumA, N3.mZip, N3.wp, N3.rJoin, N3.rSS, N3.rIdxS, N3.rRepr, N3.flat, N3.flats, N3.toD, N3.toDs, List.length_cons, List.length_nil, List.append_eq, List.cons_append, List.nil_append, List.map_cons, List.map_nil, if_true, if_false, Bool.false_eq_true, decide_eq_true_eq, Option.some.injEq, true_and, and_true, Bool.not_true, Bool.not_false, reduceCtorEq, Bool.and_self, Bool.and_true, Bool.true_and, ite_true, ite_false, List.length_append, atI_last, List.length_map, eqv_int, decide_eq_true_eq]
  refine ⟨by simp [PyData.depth], ite2 (fun c => ?_) (fun c => ite2 (fun c2 => ?_) (fun c2 => ?_))⟩
  · have : endsR run l = true := by
      unfold endsR
      rw [decide_eq_true (show run.length + 1 = 6 by omega)]; rfl
    rw [this] at q; exact q
  · refine ⟨l, rfl, ok.g, Nat.le_trans ok.t.n (by decide), ?_⟩
    refine ⟨by decide, by simp [PyData.depth], ?_⟩
    have : endsR run l = decide (mx l % 4 = 0) := by
      unfold endsR
      rw [decide_eq_false (show ¬ run.length + 1 = 6 by omega), decide_eq_true (show 1 < run.length + 1 by omega)]; rfl
    rw [this] at q; exact q
  · have : endsR run l = false := by
      unfold endsR
      rw [decide_eq_false (show ¬ run.length + 1 = 6 by omega), decide_eq_false (show ¬ 1 < run.length + 1 by omega)]; rfl
    rw [this] at q; exact q
theorem flat_stz (ks : List Ln) : flats (stz ks) = true := flats_of fun p hp => by
  obtain ⟨r, -, rfl⟩ := List.mem_map.mp hp
  rfl
theorem depth_stz : ∀ ks : List Ln, PyData.depthAll (toDs (stz ks)) = 0
  | [] => rfl
  | k :: ks => by
    have := depth_stz ks
    simp only [stz] at this
    simp only [stz, List.map_cons, toDs, toD, PyData.depthAll, PyData.depth, this]; rfl
theorem eqv_tnil (xs : List PV) : PyData.eqv (.tuple (toDs xs)) (.tuple []) = xs.isEmpty := by cases xs <;> rfl
/-- a tuple of texts is not the empty one -/
theorem ne_tnil {ks : List Ln} {h : PH} {Q : PK} (q : Q (.bl (!ks.isEmpty)) h) : N3.rNe (tupS ks) (.tup []) h Q := by
  refine ⟨flat_stz ks, rfl, ?_, ?_⟩
  · show PyData.depthAll (toDs (stz ks)) + 1 ≤ 64
    rw [depth_stz]; decide
  · rw [show toD (vw h (tupS ks)) = .tuple (toDs (stz ks)) from rfl, show toD (vw h (.tup [])) = .tuple [] from rfl, eqv_tnil, List.isEmpty_map]
    exact q
theorem runs_few {ls : List Ln} (ok : LsOk ls) {done more : List (List Ln)} (e : done ++ more = runsL ls) : done.length ≤ 40 := by
  have h1 := rgo_len ls []
  have h2 := congrArg List.length e
  have h3 := ok.2
  rw [List.length_append] at h2
  unfold runsL at h2
  simp only [List.length_nil] at h1
  omega
theorem pure_runs_of : ∀ qs h Q, qs.length = 1 → spRuns qs h Q → m_runs_of spEnds (ends (frg Q)) (sp0 4 qs) h := by
  rintro _ h Q - ⟨ls, rfl, ok, k⟩
  unfold m_runs_of
  refine seq_step fun P hP => ?_
  simp only [N3.mDput, N3.mB, N3.mU, N3.mVar, N3.mC, N3.sp0, N3.gt, N3.st, N3.rIx, N3.seqL, N3.dctL, N3.kOf, N3.rAdd, N3.mAsg, N3.gN, N3.mIfS, N3.mTest, N3.mPop, N3.mAppend, N3.mDrop, N3.mRet, N3.mRetN, N3.mNx, N3.mBrk, N3.mCnt, N3.mLst, N3.mLstM, N3.mCons, N3.mNil, N3.mTup, N3.mBlt, N3.mKw, N3.cat2, N3.cat2r, N3.gS, N3.gL, N3.mSlM, N3.rSlM, N3.mM1, N3.mSl, N3.mRev, N3.mStep, N3.mRevM, N3.mPart, N3.mNoPart, N3.rII, N3.rII0, N3.rIB, N3.rCmp, N3.rLt, N3.rLe, N3.rGt, N3.rGe, N3.mIsI, N3.tn, N3.isI, N3.mDisp, N3.mDct0, N3.mDct0M, N3.mPar3, N3.mAug, N3.rIAdd, N3.mExtend, N3.mInsert, N3.mPopAt, N3.rMin2, N3.rMax2, N3.rIntT, N3.rSplit, N3.rSplitM, N3.rAddM, N3.gPut, N3.mFmt, N3.mJs, N3.mJoin, N3.rDictP, N3.mRepM, N3.rListA, N3.rSortA, N3.mLc2, N3.lcI, N3.lcO, N3.rAllB, N3.rAnyB, N3.rStrI, N3.rIntO, N3.vwL, N3.rMul, N3.rMulT, N3.rNeg, N3.rSub, N3.rDiv, N3.rMod, N3.rPow, N3.mPar, N3.mAndT, N3.mOrT, N3.mNotT, N3.mAnd, N3.mOr, N3.mOrV, N3.mAndV, N3.trv, N3.mNot, N3.mIf, N3.mChn, N3.mKeep, N3.mRep, N3.mDispM, N3.mPs, N3.ends, N3.rLen, N3.rListOf, N3.rListOfM, N3.rTupOf, N3.rSumI, N3.listed, N3.rSl, N3.rRev, N3.rEq, N3.rNe, N3.rIsN, N3.rNotN, N3.isNon, N3.vw, N3.mYes, N3.gT, N3.gsCons, N3.gsNil, N3.mFor, N3.mSeqs, N3.mLc, N3.mLcM, N3.mRng1, N3.mRng2, N3.mEnum, N3.mEnumA, N3.mZip, N3.wp, N3.rJoin, N3.rSS, N3.rIdxS, N3.rRepr, N3.flat, N3.flats, N3.toD, N3.toDs, List.length_cons, List.length_nil, List.append_eq, List.cons_append, List.nil_append, List.map_cons, List.map_nil, if_true, if_false, Bool.false_eq_true, decide_eq_true_eq, Option.some.injEq, true_and, and_true, Bool.not_true, Bool.not_false, reduceCtorEq, Bool.and_self, Bool.and_true, Bool.true_and, ite_true, ite_false]
  intro a ha
  subst hP
  refine seq_step fun P hP => ?_
  simp only [mFor, mSeqs, mVar, gt, tupS]
  refine forL_of (W := fun ps τ h' => ∃ (done : List (List Ln)) (run rest : List Ln) (v3 : Option PV), ps = stz rest ∧ run.length < 6 ∧ (∀ l ∈ rest, LnOk l) ∧ done ++ rgo run rest = runsL ls ∧ τ = [some (tupS ls), some (.ref a), some (tupS run), v3] ∧ h' = up h a (.lst (done.map tupS))) ?_ ?_ _ _ _
    ⟨[], [], ls, none, rfl, by decide, ok.1, rfl, rfl, rfl⟩
  · rintro p ps τ _ ⟨done, run, rest, v3, ep, h6, hr, e, rfl, rfl⟩
    refine ⟨trivial, fun P' hP' => ?_⟩
    cases rest with
    | nil => cases ep
    | cons l rest =>
      obtain ⟨rfl, rfl⟩ := List.cons.inj ep
      have few := runs_few ok e
      simp only [gN, N3.st]
      refine seq_step fun P hP => ?_
      simp only [N3.mDput, N3.mB, N3.mU, N3.mVar, N3.mC, N3.sp0, N3.gt, N3.st, N3.rIx, N3.seqL, N3.dctL, N3.kOf, N3.rAdd, N3.mAsg, N3.gN, N3.mIfS, N3.mTest, N3.mPop, N3.mAppend, N3.mDrop, N3.mRet, N3.mRetN, N3.mNx, N3.mBrk, N3.mCnt, N3.mLst, N3.mLstM, N3.mCons, N3.mNil, N3.mTup, N3.mBlt, N3.mKw, N3.cat2, N3.cat2r, N3.gS, N3.gL, N3.mSlM, N3.rSlM, N3.mM1, N3.mSl, N3.mRev, N3.mStep, N3.mRevM, N3.mPart, N3.mNoPart, N3.rII, N3.rII0, N3.rIB, N3.rCmp, N3.rLt, N3.rLe, N3.rGt, N3.rGe, N3.mIsI, N3.tn, N3.isI, N3.mDisp, N3.mDct0, N3.mDct0M, N3.mPar3, N3.mAug, N3.rIAdd, N3.mExtend, N3.mInsert, N3.mPopAt, N3.rMin2, N3.rMax2, N3.rIntT, N3.rSplit, N3.rSplitM, N3.rAddM, N3.gPut, N3.mFmt, N3.mJs, N3.mJoin, N3.rDictP, N3.mRepM, N3.rListA, N3.rSortA, N3.mLc2, N3.lcI, N3.lcO, N3.rAllB, N3.rAnyB, N3.rStrI, N3.rIntO, N3.vwL, N3.rMul, N3.rMulT, N3.rNeg, N3.rSub, N3.rDiv, N3.rMod, N3.rPow, N3.mPar, N3.mAndT, N3.mOrT, N3.mNotT, N3.mAnd, N3.mOr, N3.mOrV, N3.mAndV, N3.trv, N3.mNot, N3.mIf, N3.mChn, N3.mKeep, N3.mRep, N3.mDispM, N3.mPs, N3.ends, N3.rLen, N3.rListOf, N3.rListOfM, N3.rTupOf, N3.rSumI, N3.listed, N3.rSl, N3.rRev, N3.rEq, N3.rNe, N3.rIsN, N3.rNotN, N3.isNon, N3.vw, N3.mYes, N3.gT, N3.gsCons, N3.gsNil, N3.mFor, N3.mSeqs, N3.mLc, N3.mLcM, N3.mRng1, N3.mRng2, N3.mEnum, N3.mEnumA, N3.mZip, N3.wp, N3.rJoin, N3.rSS, N3.rIdxS, N3.rRepr, N3.flat, N3.flats, N3.toD, N3.toDs, List.length_cons, List.length_nil, List.append_eq, List.cons_append, List.nil_append, List.map_cons, List.map_nil, if_true, if_false, Bool.false_eq_true, decide_eq_true_eq, Option.some.injEq, true_and, and_true, Bool.not_true, Bool.not_false, reduceCtorEq, Bool.and_self, Bool.and_true, Bool.true_and, ite_true, ite_false, tupS]
      refine ⟨by rw [List.length_map]; show _ ≤ 16777216; omega, ?_⟩
      subst hP
      simp only [mIfS, mTest, mBlt, mCons, mNil, mVar, gt]
      refine ⟨run, l, by rw [tupS, stz_app]; rfl, h6, hr l List.mem_cons_self, ?_⟩
      unfold rgo at e
      simp only
      refine ite2 (fun c => ?_) (fun c => ?_)
      · rw [if_pos c] at e
        refine seq_step fun P hP => ?_
        simp only [N3.mDput, N3.mB, N3.mU, N3.mVar, N3.mC, N3.sp0, N3.gt, N3.st, N3.rIx, N3.seqL, N3.dctL, N3.kOf, N3.rAdd, N3.mAsg, N3.gN, N3.mIfS, N3.mTest, N3.mPop, N3.mAppend, N3.mDrop, N3.mRet, N3.mRetN, N3.mNx, N3.mBrk, N3.mCnt, N3.mLst, N3.mLstM, N3.mCons, N3.mNil, N3.mTup, N3.mBlt, N3.mKw, N3.cat2, N3.cat2r, N3.gS, N3.gL, N3.mSlM, N3.rSlM, N3.mM1, N3.mSl, N3.mRev, N3.mStep, N3.mRevM, N3.mPart, N3.mNoPart, N3.rII, N3.rII0, N3.rIB, N3.rCmp, N3.rLt, N3.rLe, N3.rGt, N3.rGe, N3.mIsI, N3.tn, N3.isI, N3.mDisp, N3.mDct0, N3.mDct0M, N3.mPar3, N3.mAug, N3.rIAdd, N3.mExtend, N3.mInsert, N3.mPopAt, N3.rMin2, N3.rMax2, N3.rIntT, N3.rSplit, N3.rSplitM, N3.rAddM, N3.gPut, N3.mFmt, N3.mJs, N3.mJoin, N3.rDictP, N3.mRepM, N3.rListA, N3.rSortA, N3.mLc2, N3.lcI, N3.lcO, N3.rAllB, N3.rAnyB, N3.rStrI, N3.rIntO, N3.vwL, N3.rMul, N3.rMulT, N3.rNeg, N3.rSub, N3.rDiv, N3.rMod, N3.rPow, N3.mPar, N3.mAndT, N3.mOrT, N3.mNotT, N3.mAnd, N3.mOr, N3.mOrV, N3.mAndV, N3.trv, N3.mNot, N3.mIf, N3.mChn, N3.mKeep, N3.mRep, N3.mDispM, N3.mPs, N3.ends, N3.rLen, N3.rListOf, N3.rListOfM, N3.rTupOf, N3.rSumI, N3.listed, N3.rSl, N3.rRev, N3.rEq, N3.rNe, N3.rIsN, N3.rNotN, N3.isNon, N3.vw, N3.mYes, N3.gT, N3.gsCons, N3.gsNil, N3.mFor, N3.mSeqs, N3.mLc, N3.mLcM, N3.mRng1, N3.mRng2, N3.mEnum, N3.mEnumA, N3.mZip, N3.wp, N3.rJoin, N3.rSS, N3.rIdxS, N3.rRepr, N3.flat, N3.flats, N3.toD, N3.toDs, List.length_cons, List.length_nil, List.append_eq, List.cons_append, List.nil_append, List.map_cons, List.map_nil, if_true, if_false, Bool.false_eq_true, decide_eq_true_eq, Option.some.injEq, true_and, and_true, Bool.not_true, Bool.not_false, reduceCtorEq, Bool.and_self, Bool.and_true, Bool.true_and, ite_true, ite_false, up_same, up_up]
        refine ⟨⟨a, _, rfl, up_same⟩, by rw [List.length_map]; show _ < 16777216; omega, ?_⟩
        subst hP
        simp only [N3.mDput, N3.mB, N3.mU, N3.mVar, N3.mC, N3.sp0, N3.gt, N3.st, N3.rIx, N3.seqL, N3.dctL, N3.kOf, N3.rAdd, N3.mAsg, N3.gN, N3.mIfS, N3.mTest, N3.mPop, N3.mAppend, N3.mDrop, N3.mRet, N3.mRetN, N3.mNx, N3.mBrk, N3.mCnt, N3.mLst, N3.mLstM, N3.mCons, N3.mNil, N3.mTup, N3.mBlt, N3.mKw, N3.cat2, N3.cat2r, N3.gS, N3.gL, N3.mSlM, N3.rSlM, N3.mM1, N3.mSl, N3.mRev, N3.mStep, N3.mRevM, N3.mPart, N3.mNoPart, N3.rII, N3.rII0, N3.rIB, N3.rCmp, N3.rLt, N3.rLe, N3.rGt, N3.rGe, N3.mIsI, N3.tn, N3.isI, N3.mDisp, N3.mDct0, N3.mDct0M, N3.mPar3, N3.mAug, N3.rIAdd, N3.mExtend, N3.mInsert, N3.mPopAt, N3.rMin2, N3.rMax2, N3.rIntT, N3.rSplit, N3.rSplitM, N3.rAddM, N3.gPut, N3.mFmt, N3.mJs, N3.mJoin, N3.rDictP, N3.mRepM, N3.rListA, N3.rSortA, N3.mLc2, N3.lcI, N3.lcO, N3.rAllB, N3.rAnyB, N3.rStrI, N3.rIntO, N3.vwL, N3.rMul, N3.rMulT, N3.rNeg, N3.rSub, N3.rDiv, N3.rMod, N3.rPow, N3.mPar, N3.mAndT, N3.mOrT, N3.mNotT, N3.mAnd, N3.mOr, N3.mOrV, N3.mAndV, N3.trv, N3.mNot, N3.mIf, N3.mChn, N3.mKeep, N3.mRep, N3.mDispM, N3.mPs, N3.ends, N3.rLen, N3.rListOf, N3.rListOfM, N3.rTupOf, N3.rSumI, N3.listed, N3.rSl, N3.rRev, N3.rEq, N3.rNe, N3.rIsN, N3.rNotN, N3.isNon, N3.vw, N3.mYes, N3.gT, N3.gsCons, N3.gsNil, N3.mFor, N3.mSeqs, N3.mLc, N3.mLcM, N3.mRng1, N3.mRng2, N3.mEnum, N3.mEnumA, N3.mZip, N3.wp, N3.rJoin, N3.rSS, N3.rIdxS, N3.rRepr, N3.flat, N3.flats, N3.toD, N3.toDs, List.length_cons, List.length_nil, List.append_eq, List.cons_append, List.nil_append, List.map_cons, List.map_nil, if_true, if_false, Bool.false_eq_true, decide_eq_true_eq, Option.some.injEq, true_and, and_true, Bool.not_true, Bool.not_false, reduceCtorEq, Bool.and_self, Bool.and_true, Bool.true_and, ite_true, ite_false]
        refine hP' _ _ ⟨done ++ [run ++ [l]], [], rest, some (.str (S l)), rfl, by decide, fun x hx => hr x (List.mem_cons_of_mem _ hx), by rw [List.append_assoc]; exact e, rfl, ?_⟩
        rw [List.map_append]
        show _ = up h a (.lst (_ ++ [tupS (run ++ [l])]))
        rw [tupS, stz_app]; rfl
      · rw [if_neg c] at e
        simp only [N3.mDput, N3.mB, N3.mU, N3.mVar, N3.mC, N3.sp0, N3.gt, N3.st, N3.rIx, N3.seqL, N3.dctL, N3.kOf, N3.rAdd, N3.mAsg, N3.gN, N3.mIfS, N3.mTest, N3.mPop, N3.mAppend, N3.mDrop, N3.mRet, N3.mRetN, N3.mNx, N3.mBrk, N3.mCnt, N3.mLst, N3.mLstM, N3.mCons, N3.mNil, N3.mTup, N3.mBlt, N3.mKw, N3.cat2, N3.cat2r, N3.gS, N3.gL, N3.mSlM, N3.rSlM, N3.mM1, N3.mSl, N3.mRev, N3.mStep, N3.mRevM, N3.mPart, N3.mNoPart, N3.rII, N3.rII0, N3.rIB, N3.rCmp, N3.rLt, N3.rLe, N3.rGt, N3.rGe, N3.mIsI, N3.tn, N3.isI, N3.mDisp, N3.mDct0, N3.mDct0M, N3.mPar3, N3.mAug, N3.rIAdd, N3.mExtend, N3.mInsert, N3.mPopAt, N3.rMin2, N3.rMax2, N3.rIntT, N3.rSplit, N3.rSplitM, N3.rAddM, N3.gPut, N3.mFmt, N3.mJs, N3.mJoin, N3.rDictP, N3.mRepM, N3.rListA, N3.rSortA, N3.mLc2, N3.lcI, N3.lcO, N3.rAllB, N3.rAnyB, N3.rStrI, N3.rIntO, N3.vwL, N3.rMul, N3.rMulT, N3.rNeg, N3.rSub, N3.rDiv, N3.rMod, N3.rPow, N3.mPar, N3.mAndT, N3.mOrT, N3.mNotT, N3.mAnd, N3.mOr, N3.mOrV, N3.mAndV, N3.trv, N3.mNot, N3.mIf, N3.mChn, N3.mKeep, N3.mRep, N3.mDispM, N3.mPs, N3.ends, N3.rLen, N3.rListOf, N3.rListOfM, N3.rTupOf, N3.rSumI, N3.listed, N3.rSl, N3.rRev, N3.rEq, N3.rNe, N3.rIsN, N3.rNotN, N3.isNon, N3.vw, N3.mYes, N3.gT, N3.gsCons, N3.gsNil, N3.mFor, N3.mSeqs, N3.mLc, N3.mLcM, N3.mRng1, N3.mRng2, N3.mEnum, N3.mEnumA, N3.mZip, N3.wp, N3.rJoin, N3.rSS, N3.rIdxS, N3.rRepr, N3.flat, N3.flats, N3.toD, N3.toDs, List.length_cons, List.length_nil, List.append_eq, List.cons_append, List.nil_append, List.map_cons, List.map_nil, if_true, if_false, Bool.false_eq_true, decide_eq_true_eq, Option.some.injEq, true_and, and_true, Bool.not_true, Bool.not_false, reduceCtorEq, Bool.and_self, Bool.and_true, Bool.true_and, ite_true, ite_false]
        refine hP' _ _ ⟨done, run ++ [l], rest, some (.str (S l)), rfl, ?_, fun x hx => hr x (List.mem_cons_of_mem _ hx), e, ?_, rfl⟩
        · unfold endsR at c
          rw [Bool.or_eq_true, decide_eq_true_eq] at c
          rw [List.length_append, List.length_singleton]; omega
        · rw [tup_snoc]; rfl
  · rintro τ _ ⟨done, run, rest, v3, ep, h6, hr, e, rfl, rfl⟩
    refine ⟨trivial, ?_⟩
    cases rest with
    | cons l rest => cases ep
    | nil =>
      have few := runs_few ok e
      subst hP
      dsimp only
      refine seq_step fun P hP => ?_
      simp only [mIfS, mTest, mB, mVar, mTup, mNil, gt]
      unfold rgo at e
      refine ne_tnil ?_
      simp only
      refine ite2 (fun c => ?_) (fun c => ?_)
      · have hne : run ≠ [] := fun z => by rw [z] at c; exact absurd c (by decide)
        rw [if_neg hne] at e
        simp only [N3.mDput, N3.mB, N3.mU, N3.mVar, N3.mC, N3.sp0, N3.gt, N3.st, N3.rIx, N3.seqL, N3.dctL, N3.kOf, N3.rAdd, N3.mAsg, N3.gN, N3.mIfS, N3.mTest, N3.mPop, N3.mAppend, N3.mDrop, N3.mRet, N3.mRetN, N3.mNx, N3.mBrk, N3.mCnt, N3.mLst, N3.mLstM, N3.mCons, N3.mNil, N3.mTup, N3.mBlt, N3.mKw, N3.cat2, N3.cat2r, N3.gS, N3.gL, N3.mSlM, N3.rSlM, N3.mM1, N3.mSl, N3.mRev, N3.mStep, N3.mRevM, N3.mPart, N3.mNoPart, N3.rII, N3.rII0, N3.rIB, N3.rCmp, N3.rLt, N3.rLe, N3.rGt, N3.rGe, N3.mIsI, N3.tn, N3.isI, N3.mDisp, N3.mDct0, N3.mDct0M, N3.mPar3, N3.mAug, N3.rIAdd, N3.mExtend, N3.mInsert, N3.mPopAt, N3.rMin2, N3.rMax2, N3.rIntT, N3.rSplit, N3.rSplitM, N3.rAddM, N3.gPut, N3.mFmt, N3.mJs, N3.mJoin, N3.rDictP, N3.mRepM, N3.rListA, N3.rSortA, N3.mLc2, N3.lcI, N3.lcO, N3.rAllB, N3.rAnyB, N3.rStrI, N3.rIntO, N3.vwL, N3.rMul, N3.rMulT, N3.rNeg, N3.rSub, N3.rDiv, N3.rMod, N3.rPow, N3.mPar, N3.mAndT, N3.mOrT, N3.mNotT, N3.mAnd, N3.mOr, N3.mOrV, N3.mAndV, N3.trv, N3.mNot, N3.mIf, N3.mChn, N3.mKeep, N3.mRep, N3.mDispM, N3.mPs, N3.ends, N3.rLen, N3.rListOf, N3.rListOfM, N3.rTupOf, N3.rSumI, N3.listed, N3.rSl, N3.rRev, N3.rEq, N3.rNe, N3.rIsN, N3.rNotN, N3.isNon, N3.vw, N3.mYes, N3.gT, N3.gsCons, N3.gsNil, N3.mFor, N3.mSeqs, N3.mLc, N3.mLcM, N3.mRng1, N3.mRng2, N3.mEnum, N3.mEnumA, N3.mZip, N3.wp, N3.rJoin, N3.rSS, N3.rIdxS, N3.rRepr, N3.flat, N3.flats, N3.toD, N3.toDs, List.length_cons, List.length_nil, List.append_eq, List.cons_append, List.nil_append, List.map_cons, List.map_nil, if_true, if_false, Bool.false_eq_true, decide_eq_true_eq, Option.some.injEq, true_and, and_true, Bool.not_true, Bool.not_false, reduceCtorEq, Bool.and_self, Bool.and_true, Bool.true_and, ite_true, ite_false, up_same, up_up]
        refine ⟨⟨a, _, rfl, up_same⟩, by rw [List.length_map]; show _ < 16777216; omega, ?_⟩
        subst hP
        simp only [N3.mDput, N3.mB, N3.mU, N3.mVar, N3.mC, N3.sp0, N3.gt, N3.st, N3.rIx, N3.seqL, N3.dctL, N3.kOf, N3.rAdd, N3.mAsg, N3.gN, N3.mIfS, N3.mTest, N3.mPop, N3.mAppend, N3.mDrop, N3.mRet, N3.mRetN, N3.mNx, N3.mBrk, N3.mCnt, N3.mLst, N3.mLstM, N3.mCons, N3.mNil, N3.mTup, N3.mBlt, N3.mKw, N3.cat2, N3.cat2r, N3.gS, N3.gL, N3.mSlM, N3.rSlM, N3.mM1, N3.mSl, N3.mRev, N3.mStep, N3.mRevM, N3.mPart, N3.mNoPart, N3.rII, N3.rII0, N3.rIB, N3.rCmp, N3.rLt, N3.rLe, N3.rGt, N3.rGe, N3.mIsI, N3.tn, N3.isI, N3.mDisp, N3.mDct0, N3.mDct0M, N3.mPar3, N3.mAug, N3.rIAdd, N3.mExtend, N3.mInsert, N3.mPopAt, N3.rMin2, N3.rMax2, N3.rIntT, N3.rSplit, N3.rSplitM, N3.rAddM, N3.gPut, N3.mFmt, N3.mJs, N3.mJoin, N3.rDictP, N3.mRepM, N3.rListA, N3.rSortA, N3.mLc2, N3.lcI, N3.lcO, N3.rAllB, N3.rAnyB, N3.rStrI, N3.rIntO, N3.vwL, N3.rMul, N3.rMulT, N3.rNeg, N3.rSub, N3.rDiv, N3.rMod, N3.rPow, N3.mPar, N3.mAndT, N3.mOrT, N3.mNotT, N3.mAnd, N3.mOr, N3.mOrV, N3.mAndV, N3.trv, N3.mNot, N3.mIf, N3.mChn, N3.mKeep, N3.mRep, N3.mDispM, N3.mPs, N3.ends, N3.rLen, N3.rListOf, N3.rListOfM, N3.rTupOf, N3.rSumI, N3.listed, N3.rSl, N3.rRev, N3.rEq, N3.rNe, N3.rIsN, N3.rNotN, N3.isNon, N3.vw, N3.mYes, N3.gT, N3.gsCons, N3.gsNil, N3.mFor, N3.mSeqs, N3.mLc, N3.mLcM, N3.mRng1, N3.mRng2, N3.mEnum, N3.mEnumA, N3.mZip, N3.wp, N3.rJoin, N3.rSS, N3.rIdxS, N3.rRepr, N3.flat, N3.flats, N3.toD, N3.toDs, List.length_cons, List.length_nil, List.append_eq, List.cons_append, List.nil_append, List.map_cons, List.map_nil, if_true, if_false, Bool.false_eq_true, decide_eq_true_eq, Option.some.injEq, true_and, and_true, Bool.not_true, Bool.not_false, reduceCtorEq, Bool.and_self, Bool.and_true, Bool.true_and, ite_true, ite_false, listed, up_same]
        rw [← e, List.map_append] at k
        exact ⟨h, sub_up ha, k⟩
      · have hne : run = [] := by
          cases run with
          | nil => rfl
          | cons x r => exact absurd rfl c
        rw [if_pos hne, List.append_nil] at e
        subst hP
        simp only [N3.mDput, N3.mB, N3.mU, N3.mVar, N3.mC, N3.sp0, N3.gt, N3.st, N3.rIx, N3.seqL, N3.dctL, N3.kOf, N3.rAdd, N3.mAsg, N3.gN, N3.mIfS, N3.mTest, N3.mPop, N3.mAppend, N3.mDrop, N3.mRet, N3.mRetN, N3.mNx, N3.mBrk, N3.mCnt, N3.mLst, N3.mLstM, N3.mCons, N3.mNil, N3.mTup, N3.mBlt, N3.mKw, N3.cat2, N3.cat2r, N3.gS, N3.gL, N3.mSlM, N3.rSlM, N3.mM1, N3.mSl, N3.mRev, N3.mStep, N3.mRevM, N3.mPart, N3.mNoPart, N3.rII, N3.rII0, N3.rIB, N3.rCmp, N3.rLt, N3.rLe, N3.rGt, N3.rGe, N3.mIsI, N3.tn, N3.isI, N3.mDisp, N3.mDct0, N3.mDct0M, N3.mPar3, N3.mAug, N3.rIAdd, N3.mExtend, N3.mInsert, N3.mPopAt, N3.rMin2, N3.rMax2, N3.rIntT, N3.rSplit, N3.rSplitM, N3.rAddM, N3.gPut, N3.mFmt, N3.mJs, N3.mJoin, N3.rDictP, N3.mRepM, N3.rListA, N3.rSortA, N3.mLc2, N3.lcI, N3.lcO, N3.rAllB, N3.rAnyB, N3.rStrI, N3.rIntO, N3.vwL, N3.rMul, N3.rMulT, N3.rNeg, N3.rSub, N3.rDiv, N3.rMod, N3.rPow, N3.mPar, N3.mAndT, N3.mOrT, N3.mNotT, N3.mAnd, N3.mOr, N3.mOrV, N3.mAndV, N3.trv, N3.mNot, N3.mIf, N3.mChn, N3.mKeep, N3.mRep, N3.mDispM, N3.mPs, N3.ends, N3.rLen, N3.rListOf, N3.rListOfM, N3.rTupOf, N3.rSumI, N3.listed, N3.rSl, N3.rRev, N3.rEq, N3.rNe, N3.rIsN, N3.rNotN, N3.isNon, N3.vw, N3.mYes, N3.gT, N3.gsCons, N3.gsNil, N3.mFor, N3.mSeqs, N3.mLc, N3.mLcM, N3.mRng1, N3.mRng2, N3.mEnum, N3.mEnumA, N3.mZip, N3.wp, N3.rJoin, N3.rSS, N3.rIdxS, N3.rRepr, N3.flat, N3.flats, N3.toD, N3.toDs, List.length_cons, List.length_nil, List.append_eq, List.cons_append, List.nil_append, List.map_cons, List.map_nil, if_true, if_false, Bool.false_eq_true, decide_eq_true_eq, Option.some.injEq, true_and, and_true, Bool.not_true, Bool.not_false, reduceCtorEq, Bool.and_self, Bool.and_true, Bool.true_and, ite_true, ite_false, listed, up_same]
        rw [← e] at k
        exact ⟨h, sub_up ha, k⟩
end Wneversaid_k25_runs

namespace Wneversaid_k25_runs
open PySem PySem.Spec PyProof.Rows L2 N3
theorem join2 (sep x y : Ln) (r : List Ln) : TL.joinL sep (x :: y :: r) = x ++ sep ++ TL.joinL sep (y :: r) := by
  simp [TL.joinL]
theorem tx_join {n : Nat} {sep : Ln} (ts : Tx 1 sep) : ∀ {zs : List Ln} {m : Nat}, (∀ z ∈ zs, Tx n z) → zs.length ≤ m → Tx (m * (n + 1)) (TL.joinL sep zs)
  | [], m, _, _ => Tx.nil
  | [x], m, h, hm => by
    have hx := h x List.mem_cons_self
    refine hx.mono ?_
    simp only [List.length_cons, List.length_nil] at hm
    have : 1 * (n + 1) ≤ m * (n + 1) := Nat.mul_le_mul_right _ (by omega)
    omega
  | x :: y :: r, m, h, hm => by
    have hx := h x List.mem_cons_self
    cases m with
    | zero => simp at hm
    | succ m =>
      have ih := tx_join ts (zs := y :: r) (m := m) (fun z hz => h z (List.mem_cons_of_mem _ hz)) (by simpa using hm)
      rw [join2]
      refine ((hx.app ts).app ih).mono ?_
      rw [Nat.add_mul]; omega
theorem sum_le {n : Nat} : ∀ {zs : List Ln}, (∀ z ∈ zs, Tx n z) → (zs.map (·.length)).sum ≤ zs.length * n
  | [], _ => Nat.zero_le _
  | z :: zs, h => by
    have h1 := (h z List.mem_cons_self).n
    have h2 := sum_le fun y hy => h y (List.mem_cons_of_mem _ hy)
    rw [List.map_cons, List.sum_cons, List.length_cons, Nat.add_mul]; omega
/-! ### what is drawn: a number of lines, a line, lines -/
def spMany : SpP := fun ps h Q => ∃ (D : Dk) (n : Nat), ps = [.ref D.d] ∧ D.At n h ∧ n < 90000000 ∧ ∀ (m : Int) h', 0 ≤ m → m ≤ 72 → D.At (n + 2) h' → Q (.int m) h'
theorem pure_law_many : ∀ qs h Q, qs.length = 1 → spMany qs h Q → m_law_many spDraw (ends Q) (sp0 1 qs) h := by
  rintro _ h Q - ⟨D, n, rfl, a, hn, k⟩
  simp only [m_law_many, mRet, mB, mLst, mBlt, mCons, mNil, mVar, mC, gt, N3.sp0]
  refine draw_to a (by omega) (by decide) (by decide) fun r h1 r0 r1 a1 => ?_
  refine ix_lst r0 r1 fun v hv => ?_
  have hv2 : ∃ m : Int, v = .int m ∧ 0 ≤ m ∧ m ≤ 70 := by
    simp only [List.mem_cons, List.not_mem_nil, or_false] at hv
    rcases hv with rfl | rfl | rfl | rfl | rfl | rfl | rfl | rfl <;> exact ⟨_, rfl, by decide, by decide⟩
  obtain ⟨m, rfl, m0, m1⟩ := hv2
  refine draw_to a1 (by omega) (by decide) (by decide) fun r2 h2 r20 r21 a2 => ?_
  exact k _ _ (by omega) (by omega) a2
def okW (x : Str) : Bool := (cl x).all (fun c => decide (c ∈ sg) && decide (c < 128)) && decide ((cl x).length ≤ 6)
theorem okW_of {x : Str} (h : okW x = true) : Good (cl x) ∧ Tx 6 (cl x) := by
  unfold okW at h
  rw [Bool.and_eq_true, List.all_eq_true, decide_eq_true_eq] at h
  refine ⟨fun c hc => ?_, fun c hc => ?_, h.2⟩
  · have := h.1 c hc
    rw [Bool.and_eq_true, decide_eq_true_eq] at this; exact this.1
  · have := h.1 c hc
    rw [Bool.and_eq_true, decide_eq_true_eq, decide_eq_true_eq] at this; exact this.2
theorem pick_ws {D : Dk} {n : Nat} {h : PH} {Q : PK} {ws : List Str} (hw : ws.all okW = true) (h1 : ws ≠ []) (h2 : ws.length ≤ 1000) (ha : D.At n h) (hn : n < 900000000) (k : ∀ l h', Good l ∧ Tx 6 l → D.At (n + 1) h' → Q (.str (S l)) h') : spPick [.ref D.d, .lst (ws.map PV.str)] h Q := by
  refine pick_lst ha hn (by simpa using h1) (by rw [List.length_map]; omega) fun v hv h' a' => ?_
  obtain ⟨x, hx, rfl⟩ := List.mem_map.mp hv
  have := k (cl x) h' (okW_of (List.all_eq_true.mp hw x hx)) a'
  rwa [S_cl] at this
theorem sg0_asc : sg0.all (fun c => decide (c ∈ sg) && decide (c < 128)) = true := by decide +kernel
theorem pick_sg {D : Dk} {n : Nat} {h : PH} {Q : PK} (ha : D.At n h) (hn : n < 900000000) (k : ∀ l h', Good l ∧ Tx 1 l → D.At (n + 1) h' → Q (.str (S l)) h') : spPick [.ref D.d, .str "abcdefghijklmnopqrstuvwxyz0123456789-: "] h Q := by
  refine pick_str ha hn (by decide +kernel) (by decide +kernel) fun c hc h' a' => k [c] h' ?_ a'
  have := List.all_eq_true.mp sg0_asc c hc
  rw [Bool.and_eq_true, decide_eq_true_eq, decide_eq_true_eq] at this
  exact ⟨fun d hd => by rw [List.mem_singleton] at hd; subst hd; exact this.1, Tx.one this.2⟩
theorem lc_draws {Z : Ln → Prop} {D : Dk} {τ : PSt} {i : Nat} {m : ME} {Q : List PV → PH → Prop}
    (hm : ∀ p n h (P : PK), D.At n h → n < 90000100 → (∀ l h', Z l → D.At (n + 1) h' → P (.str (S l)) h') → m (st τ i (some p)) h P) :
    ∀ (ps : List PV) (acc : List Ln) (n : Nat) (h : PH), D.At n h → n + ps.length < 90000100 → (∀ l ∈ acc, Z l) → (∀ (ls : List Ln) h', (∀ l ∈ ls, Z l) → ls.length = acc.length + ps.length → D.At (n + ps.length) h' → Q (stz ls) h') →
      lcL (fun _ => True) τ (gN i) mYes m ps (stz acc) h Q
  | [], acc, n, h, a, _, ha, k => ⟨trivial, k acc h ha rfl a⟩
  | p :: ps, acc, n, h, a, hn, ha, k => by
    rw [List.length_cons] at hn
    refine ⟨trivial, ?_⟩
    simp only [gN, mYes, if_true]
    refine hm p n h _ a (by omega) fun l h' hl a' => ?_
    have e : stz acc ++ [PV.str (S l)] = stz (acc ++ [l]) := (stz_app acc [l]).symm
    rw [e]
    refine lc_draws hm ps (acc ++ [l]) (n + 1) h' a' (by omega) (fun x hx => ?_) fun ls h2 h3 h4 h5 => k ls h2 h3 ?_ ?_
    · rcases List.mem_append.mp hx with hx | hx
      · exact ha x hx
      · rw [List.mem_singleton] at hx; subst hx; exact hl
    · rw [List.length_append, List.length_singleton] at h4
      rw [List.length_cons]; omega
    · rw [List.length_cons]
      exact h5.mono (by omega)
theorem good_join {sep : Ln} (gs : Good sep) : ∀ {zs : List Ln}, (∀ z ∈ zs, Good z) → Good (TL.joinL sep zs)
  | [], _ => fun c hc => (List.not_mem_nil hc).elim
  | [x], h => h x List.mem_cons_self
  | x :: y :: r, h => by
    rw [join2]
    exact good_append (good_append (h x List.mem_cons_self) gs) (good_join gs fun z hz => h z (List.mem_cons_of_mem _ hz))
theorem join_lst {sep : Str} {n m : Nat} {ls : List Ln} {h : PH} {Q : PK} (hs : Tx 1 (cl sep)) (gs : Good (cl sep)) (ht : ∀ l ∈ ls, Good l ∧ Tx n l) (hm : ls.length ≤ m) (hb : m * (n + 1) ≤ 50) (q : ∀ l, LnOk l → Q (.str (S l)) h) : N3.rJoin (.str sep) [.lst (stz ls)] h Q := by
  have e1 := sum_le fun z hz => (ht z hz).2
  have e2 : sep.length ≤ 1 := by rw [cl_length]; exact hs.n
  have e3 : ls.length * sep.length ≤ ls.length * 1 := Nat.mul_le_mul_left _ e2
  have e4 : ls.length * (n + 1) ≤ m * (n + 1) := Nat.mul_le_mul_right _ hm
  rw [Nat.mul_add] at e4
  have e5 : (ls.map (·.length)).sum + ls.length * sep.length ≤ 16777216 := by omega
  refine ⟨ls, rfl, e5, q _ ⟨good_join gs fun z hz => (ht z hz).1, (tx_join hs (fun z hz => (ht z hz).2) hm).mono hb⟩⟩
theorem eq_ii {i j : Int} {h : PH} {Q : PK} (q : Q (.bl (decide (i = j))) h) : N3.rEq (.int i) (.int j) h Q := by
  refine ⟨rfl, rfl, by simp [toD, vw, PyData.depth], ?_⟩
  rw [show PyData.eqv (toD (vw h (.int i))) (toD (vw h (.int j))) = _ from eqv_int i j]
  exact q
theorem dig_ok {r : Int} (h0 : 0 ≤ r) (h1 : r < 1000) : ∃ l, (Str.ofString (toString r)) = S l ∧ Good l ∧ Tx 4 l := by
  refine ⟨dg r.toNat, ?_, fun c hc => dg_sg c (dg_digits _ c hc), ?_⟩
  · have e : ((r.toNat : Nat) : Int) = r := by omega
    show _ = S (cl (Str.ofString (toString ((r.toNat : Nat) : Int))))
    rw [e, S_cl]
  · exact tx_num (k := 3) (by decide) (by omega)
theorem str_i {r : Int} {h : PH} {Q : PK} (h0 : 0 ≤ r) (h1 : r < 1000) (q : ∀ l, Good l ∧ Tx 4 l → Q (.str (S l)) h) : N3.rStrI [.int r] h Q := by
  obtain ⟨l, e, g⟩ := dig_ok h0 h1
  refine ⟨?_, ?_⟩
  · have := log_lt (i := r) (k := 20) (by omega); omega
  · have e' : PV.str (toString r : Str) = .str (S l) := by rw [← e]
    rw [e']
    exact q l g
def spLine : SpP := fun ps h Q => ∃ (D : Dk) (n : Nat) (sort k : Int), ps = [.ref D.d, .int sort, .int k] ∧ D.At n h ∧ n < 90000000 ∧ 0 ≤ k ∧ k < 100 ∧ ∀ l h', LnOk l → D.At (n + 10) h' → Q (.str (S l)) h'
theorem pure_law_line : ∀ qs h Q, qs.length = 3 → spLine qs h Q → m_law_line spDraw spPick (ends Q) (sp0 7 qs) h := by
  rintro _ h Q - ⟨D, n, sort, k, rfl, a, hn, k0, k1, q⟩
  unfold m_law_line
  refine seq_step fun P hP => ?_
  simp only [N3.mDput, N3.mB, N3.mU, N3.mVar, N3.mC, N3.sp0, N3.gt, N3.st, N3.rIx, N3.seqL, N3.dctL, N3.kOf, N3.rAdd, N3.mAsg, N3.gN, N3.mIfS, N3.mTest, N3.mPop, N3.mAppend, N3.mDrop, N3.mRet, N3.mRetN, N3.mNx, N3.mBrk, N3.mCnt, N3.mLst, N3.mLstM, N3.mCons, N3.mNil, N3.mTup, N3.mBlt, N3.mKw, N3.cat2, N3.cat2r, N3.gS, N3.gL, N3.mSlM, N3.rSlM, N3.mM1, N3.mSl, N3.mRev, N3.mStep, N3.mRevM, N3.mPart, N3.mNoPart, N3.rII, N3.rII0, N3.rIB, N3.rCmp, N3.rLt, N3.rLe, N3.rGt, N3.rGe, N3.mIsI, N3.tn, N3.isI, N3.mDisp, N3.mDct0, N3.mDct0M, N3.mPar3, N3.mAug, N3.rIAdd, N3.mExtend, N3.mInsert, N3.mPopAt, N3.rMin2, N3.rMax2, N3.rIntT, N3.rSplit, N3.rSplitM, N3.rAddM, N3.gPut, N3.mFmt, N3.mJs, N3.mJoin, N3.rDictP, N3.mRepM, N3.rListA, N3.rSortA, N3.mLc2, N3.lcI, N3.lcO, N3.rAllB, N3.rAnyB, N3.rStrI, N3.rIntO, N3.vwL, N3.rMul, N3.rMulT, N3.rNeg, N3.rSub, N3.rDiv, N3.rMod, N3.rPow, N3.mPar, N3.mAndT, N3.mOrT, N3.mNotT, N3.mAnd, N3.mOr, N3.mOrV, N3.mAndV, N3.trv, N3.mNot, N3.mIf, N3.mChn, N3.mKeep, N3.mRep, N3.mDispM, N3.mPs, N3.ends, N3.rLen, N3.rListOf, N3.rListOfM, N3.rTupOf, N3.rSumI, N3.listed, N3.rSl, N3.rRev, N3.rEq, N3.rNe, N3.rIsN, N3.rNotN, N3.isNon, N3.vw, N3.mYes, N3.gT, N3.gsCons, N3.gsNil, N3.mFor, N3.mSeqs, N3.mLc, N3.mLcM, N3.mRng1, N3.mRng2, N3.mEnum, N3.mEnumA, N3.mZip, N3.wp, N3.rJoin, N3.rSS, N3.rIdxS, N3.rRepr, N3.flat, N3.flats, N3.toD, N3.toDs, List.length_cons, List.length_nil, List.append_eq, List.cons_append, List.nil_append, List.map_cons, List.map_nil, if_true, if_false, Bool.false_eq_true, decide_eq_true_eq, Option.some.injEq, true_and, and_true, Bool.not_true, Bool.not_false, reduceCtorEq, Bool.and_self, Bool.and_true, Bool.true_and, ite_true, ite_false]
  subst hP
  refine seq_step fun P hP => ?_
  simp only [N3.mDput, N3.mB, N3.mU, N3.mVar, N3.mC, N3.sp0, N3.gt, N3.st, N3.rIx, N3.seqL, N3.dctL, N3.kOf, N3.rAdd, N3.mAsg, N3.gN, N3.mIfS, N3.mTest, N3.mPop, N3.mAppend, N3.mDrop, N3.mRet, N3.mRetN, N3.mNx, N3.mBrk, N3.mCnt, N3.mLst, N3.mLstM, N3.mCons, N3.mNil, N3.mTup, N3.mBlt, N3.mKw, N3.cat2, N3.cat2r, N3.gS, N3.gL, N3.mSlM, N3.rSlM, N3.mM1, N3.mSl, N3.mRev, N3.mStep, N3.mRevM, N3.mPart, N3.mNoPart, N3.rII, N3.rII0, N3.rIB, N3.rCmp, N3.rLt, N3.rLe, N3.rGt, N3.rGe, N3.mIsI, N3.tn, N3.isI, N3.mDisp, N3.mDct0, N3.mDct0M, N3.mPar3, N3.mAug, N3.rIAdd, N3.mExtend, N3.mInsert, N3.mPopAt, N3.rMin2, N3.rMax2, N3.rIntT, N3.rSplit, N3.rSplitM, N3.rAddM, N3.gPut, N3.mFmt, N3.mJs, N3.mJoin, N3.rDictP, N3.mRepM, N3.rListA, N3.rSortA, N3.mLc2, N3.lcI, N3.lcO, N3.rAllB, N3.rAnyB, N3.rStrI, N3.rIntO, N3.vwL, N3.rMul, N3.rMulT, N3.rNeg, N3.rSub, N3.rDiv, N3.rMod, N3.rPow, N3.mPar, N3.mAndT, N3.mOrT, N3.mNotT, N3.mAnd, N3.mOr, N3.mOrV, N3.mAndV, N3.trv, N3.mNot, N3.mIf, N3.mChn, N3.mKeep, N3.mRep, N3.mDispM, N3.mPs, N3.ends, N3.rLen, N3.rListOf, N3.rListOfM, N3.rTupOf, N3.rSumI, N3.listed, N3.rSl, N3.rRev, N3.rEq, N3.rNe, N3.rIsN, N3.rNotN, N3.isNon, N3.vw, N3.mYes, N3.gT, N3.gsCons, N3.gsNil, N3.mFor, N3.mSeqs, N3.mLc, N3.mLcM, N3.mRng1, N3.mRng2, N3.mEnum, N3.mEnumA, N3.mZip, N3.wp, N3.rJoin, N3.rSS, N3.rIdxS, N3.rRepr, N3.flat, N3.flats, N3.toD, N3.toDs, List.length_cons, List.length_nil, List.append_eq, List.cons_append, List.nil_append, List.map_cons, List.map_nil, if_true, if_false, Bool.false_eq_true, decide_eq_true_eq, Option.some.injEq, true_and, and_true, Bool.not_true, Bool.not_false, reduceCtorEq, Bool.and_self, Bool.and_true, Bool.true_and, ite_true, ite_false]
  subst hP
  have gsp : Good (cl (" " : Str)) ∧ Tx 1 (cl (" " : Str)) := by
    have := okW_of (x := " ") (by decide +kernel)
    exact ⟨this.1, ⟨this.2.c, by decide +kernel⟩⟩
  refine seq_step fun P hP => ?_
  simp only [mIfS, mTest, mB, mVar, mC, gt]
  refine eq_ii (ite2 (fun c => ?_) (fun c => ?_))
  · simp only [mRet, mM1, mB, mLc, mRng1, mBlt, mCons, mNil, mVar, mC, gt, N3.rAdd, N3.wp, N3.st]
    refine ⟨⟨_, rfl⟩, draw_to a (by omega) (by decide) (by decide) fun r h1 r0 r1 a1 => ?_⟩
    refine ⟨⟨by omega, by omega⟩, ?_⟩
    have lr : (rng 0 (1 + r).toNat).length = (1 + r).toNat := rng_len ..
    refine lc_draws (Z := fun l => Good l ∧ Tx 6 l) (fun p n' h' P' a' hn' z => ?_) _ [] (n + 1) h1 a1 (by rw [lr]; omega) (fun _ h => (List.not_mem_nil h).elim) fun ls h2 hl el a2 => ?_
    · simp only [mBlt, mCons, mNil, mVar, gt, N3.st]
      exact pick_ws (ws := ["a", "row", ":", "now", "0", "-7", "17", "to", "for", "stands", "gone", "-", "999"]) (by decide +kernel) (by decide) (by decide) a' (by omega) z
    · rw [lr, List.length_nil, Nat.zero_add] at el
      refine join_lst (m := 5) gsp.2 gsp.1 hl (by omega) (by decide) fun l ok => q l h2 ok (a2.mono (by rw [lr]; omega))
  subst hP
  dsimp only [mNx]
  refine seq_step fun P hP => ?_
  simp only [mIfS, mTest, mB, mVar, mC, gt]
  refine eq_ii (ite2 (fun c => ?_) (fun c => ?_))
  · simp only [mRet, mB, mBlt, mCons, mNil, mVar, mC, gt]
    refine draw_to a (by omega) (by decide) (by decide) fun r h1 r0 r1 a1 => ?_
    refine str_i r0 (by omega) fun l hl => ?_
    have g0 : (cl ("stands ann 4 own " : Str)).all (fun c => decide (c ∈ sg) && decide (c < 128)) = true := by decide +kernel
    have g1 : Good (cl ("stands ann 4 own " : Str)) ∧ Tx 17 (cl ("stands ann 4 own " : Str)) := by
      refine ⟨fun c hc => ?_, fun c hc => ?_, by decide +kernel⟩ <;>
      · have := List.all_eq_true.mp g0 c hc
        rw [Bool.and_eq_true, decide_eq_true_eq, decide_eq_true_eq] at this
        first | exact this.1 | exact this.2
    have := q (cl ("stands ann 4 own " : Str) ++ l) h1 ⟨good_append g1.1 hl.1, (g1.2.app hl.2).mono (by decide)⟩ (a1.mono (by omega))
    rw [← S_append, S_cl] at this
    exact ⟨by rw [S_length]; have := hl.2.n; show 17 + _ ≤ 16777216; omega, this⟩
  subst hP
  dsimp only [mNx]
  refine seq_step fun P hP => ?_
  simp only [mIfS, mTest, mB, mVar, mC, gt]
  refine eq_ii (ite2 (fun c => ?_) (fun c => ?_))
  · simp only [mRet, mB, mBlt, mCons, mNil, mVar, mC, gt]
    refine ⟨show (0 : Int) < 3 by decide, ?_⟩
    have hm0 : 0 ≤ k % 3 := by omega
    have hm1 : k % 3 < sg0.length := by rw [sg0_len]; omega
    obtain ⟨v, hv, e⟩ := atI_nat (xs := sg0) hm0 hm1
    have ok := List.all_eq_true.mp sg0_asc v hv
    rw [Bool.and_eq_true, decide_eq_true_eq, decide_eq_true_eq] at ok
    refine ⟨by decide +kernel, ?_⟩
    have e' : atI (cl ("abcdefghijklmnopqrstuvwxyz0123456789-: " : Str)) (k % 3) = some v := e
    rw [e']
    refine ⟨show CDiv k 3 by unfold CDiv; omega, ?_⟩
    show (1 + k / 3 < 16777216) ∧ (_ * (1 + k / 3).toNat ≤ 16777216) ∧ (-16777216 ≤ 1 + k / 3) ∧ (ends Q).rt (.str (S (List.replicate (1 + k / 3).toNat (cl (S [v]))).flatten)) h
    have g1 : Good [v] := fun d hd => by rw [List.mem_singleton] at hd; subst hd; exact ok.1
    have t1 : Tx 1 [v] := Tx.one ok.2
    have tr := t1.rep (1 + k / 3).toNat
    refine ⟨by omega, by rw [S_length]; show 1 * _ ≤ 16777216; omega, by omega, ?_⟩
    rw [cl_S]
    exact q _ h ⟨good_rep g1 _, tr.mono (by omega)⟩ (a.mono (by omega))
  subst hP
  dsimp only [mNx]
  refine seq_step fun P hP => ?_
  simp only [mIfS, mTest, mB, mVar, mC, gt]
  refine eq_ii (ite2 (fun c => ?_) (fun c => ?_))
  · simp only [mRet, mM1, mB, mLc, mRng1, mBlt, mCons, mNil, mVar, mC, gt, N3.rAdd, N3.wp, N3.st]
    refine ⟨⟨_, rfl⟩, draw_to a (by omega) (by decide) (by decide) fun r h1 r0 r1 a1 => ?_⟩
    refine ⟨⟨by omega, by omega⟩, ?_⟩
    have lr : (rng 0 (1 + r).toNat).length = (1 + r).toNat := rng_len ..
    refine lc_draws (Z := fun l => Good l ∧ Tx 1 l) (fun p n' h' P' a' hn' z => ?_) _ [] (n + 1) h1 a1 (by rw [lr]; omega) (fun _ h => (List.not_mem_nil h).elim) fun ls h2 hl el a2 => ?_
    · simp only [mBlt, mCons, mNil, mVar, gt, N3.st]
      exact pick_sg a' (by omega) z
    · rw [lr, List.length_nil, Nat.zero_add] at el
      have c0 : cl ("" : Str) = [] := by decide +kernel
      refine join_lst (m := 8) (by rw [c0]; exact Tx.nil) (by rw [c0]; exact fun _ h => (List.not_mem_nil h).elim) hl (by omega) (by decide) fun l ok => q l h2 ok (a2.mono (by rw [lr]; omega))
  subst hP
  dsimp only [mNx]
  refine seq_step fun P hP => ?_
  simp only [mIfS, mTest, mB, mVar, mC, gt]
  refine eq_ii (ite2 (fun c => ?_) (fun c => ?_))
  · refine seq_step fun P2 hP2 => ?_
    simp only [mAsg, mBlt, mLst, mCons, mNil, mVar, mC, gt, gN, N3.st]
    refine pick_ws (ws := ["a", "b", "ab", "rows"]) (by decide +kernel) (by decide) (by decide) a (by omega) fun l h1 hl a1 => ?_
    subst hP2
    simp only [mRet, mM1, mB, mBlt, mLst, mCons, mNil, mVar, mC, gt]
    refine ⟨⟨_, rfl⟩, draw_to a1 (by omega) (by decide) (by decide) fun r h2 r0 r1 a2 => ?_⟩
    refine str_i r0 (by omega) fun l2 hl2 => ?_
    refine draw_to a2 (by omega) (by decide) (by decide) fun r3 h3 r30 r31 a3 => ?_
    refine str_i r30 (by omega) fun l3 hl3 => ?_
    refine join_lst (ls := [l, l2, l3]) (n := 6) (m := 3) gsp.2 gsp.1 (fun x hx => ?_) (by simp) (by decide) fun l ok => q l h3 ok (a3.mono (by omega))
    simp only [List.mem_cons, List.not_mem_nil, or_false] at hx
    rcases hx with rfl | rfl | rfl
    · exact hl
    · exact ⟨hl2.1, hl2.2.mono (by decide)⟩
    · exact ⟨hl3.1, hl3.2.mono (by decide)⟩
  subst hP
  simp only [mNx, mRet, mB, mBlt, mCons, mNil, mVar, mC, gt]
  refine pick_sg a (by omega) fun l h1 hl a1 => ?_
  have lt := hl.2.n
  refine ⟨by decide, by rw [S_length]; show _ * 40 ≤ 16777216; omega, by decide, ?_⟩
  refine draw_to a1 (by omega) (by decide) (by decide) fun r h2 r0 r1 a2 => ?_
  refine str_i r0 (by omega) fun l2 hl2 => ?_
  have l4 := hl2.2.n
  have tr : Tx 40 (List.replicate 40 l).flatten := (hl.2.rep 40).mono (by decide)
  have := q ((List.replicate 40 l).flatten ++ l2) h2 ⟨good_append (good_rep hl.1 40) hl2.1, (tr.app hl2.2).mono (by decide)⟩ (a2.mono (by omega))
  rw [← S_append] at this
  refine ⟨?_, ?_⟩
  · rw [S_length, S_length, cl_S]
    have := tr.n
    show _ ≤ 16777216
    have e : (Int.toNat 40) = 40 := rfl
    rw [e]
    omega
  · rw [cl_S]; exact this
theorem depth_strs (ks : List Ln) : PyData.depthAll (toDs (stz ks)) ≤ 64 := by rw [depth_stz]; decide
theorem any_strs (ks : List Ln) (k : Ln) : (toDs (stz ks)).any (fun d => PyData.eqv d (.str (S k))) = decide (k ∈ ks) := by
  induction ks with
  | nil => simp [toDs]
  | cons x ks ih =>
    show (PyData.eqv (.str (S x)) (.str (S k)) || (toDs (stz ks)).any _) = _
    rw [ih, eqv_S]
    by_cases h : x = k
    · subst h; simp
    · rw [decide_eq_false h, Bool.false_or]
      have : k ≠ x := fun z => h z.symm
      simp [this]
theorem srtb_stz (ks : List Ln) : Srtb ((stz ks).map toD) := by
  rw [List.map_map]
  refine ⟨PySem.W.AllAlike.of fun a b => ?_, PySem.W.Sortable.others fun a => ⟨PyData.noConfusion, fun _ => PyData.noConfusion⟩, fun b hb => ?_, fun b hb => ?_⟩
  · simp [toD, PySem.W.alike]
  · obtain ⟨r, -, rfl⟩ := List.mem_map.mp hb
    rfl
  · obtain ⟨r, -, rfl⟩ := List.mem_map.mp hb
    simp [toD, PyData.depth]
theorem sort_stz (ks : List Ln) : ∃ qs : List Ln, qs.Perm ks ∧ (stz ks).mergeSort (PySem.W.dataLe false toD) = stz qs :=
  ⟨ks.mergeSort (PySem.W.dataLe false fun r => toD (.str (S r))), List.mergeSort_perm _ _, (PySem.W.sort_maps (r := PySem.W.dataLe false fun r => toD (.str (S r))) (fun r => PV.str (S r)) fun _ _ _ _ => rfl).symm⟩
def spLines : SpP := fun ps h Q => ∃ (D : Dk) (n : Nat) (many : Int), ps = [.ref D.d, .int many] ∧ D.At n h ∧ n < 80000000 ∧ 0 ≤ many ∧ many ≤ 72 ∧ ∀ ls h', LsOk ls → (ls.length : Int) ≤ many → D.At (n + 1000) h' → Q (tupS ls) h'
theorem pure_law_lines : ∀ qs h Q, qs.length = 2 → spLines qs h Q → m_law_lines spDraw spLine (ends (frg Q)) (sp0 6 qs) h := by
  rintro _ h Q - ⟨D, n, many, rfl, a, hn, hm0, hm, q⟩
  unfold m_law_lines
  refine seq_step fun P hP => ?_
  simp only [mPar, mBlt, mLstM, mCons, mNil, mVar, mC, gt, N3.st, N3.sp0]
  refine draw_to a (by omega) (by decide) (by decide) fun sort h1 s0 s1 a1 => ?_
  intro e he
  have e1 := he
  obtain ⟨n1, n2⟩ := a1.ne he
  have hD := a1.none he
  subst hP
  refine seq_step fun P hP => ?_
  simp only [mFor, mRng1, mCons, mNil, mVar, gt]
  refine ⟨⟨by omega, by omega⟩, ?_⟩
  have lr : (rng 0 many.toNat).length = many.toNat := rng_len ..
  refine forL_of (W := fun ps τ h' => (∀ p ∈ ps, ∃ i : Int, p = .int i ∧ 0 ≤ i ∧ i < 72) ∧ ps.length ≤ 72 ∧ ∃ (fs : List Ln) (v4 v5 : Option PV), (∀ l ∈ fs, LnOk l) ∧ fs.length + ps.length ≤ many.toNat ∧ τ = [some (.ref D.d), some (.int many), some (.int sort), some (.ref e), v4, v5] ∧ (D.wr e (.lst (stz fs))).At (n + 1 + 10 * (72 - ps.length)) h') ?_ ?_ _ _ _
    ⟨fun p hp => ?_, by rw [lr]; omega, [], none, none, fun _ h => (List.not_mem_nil h).elim, by rw [lr]; simp, rfl, (a1.wr (.lst []) n1 n2).mono (by omega)⟩
  · rintro p ps τ h2 ⟨hp, hl, fs, v4, v5, hf, hl2, rfl, a2⟩
    obtain ⟨i, rfl, i0, i1⟩ := hp p List.mem_cons_self
    rw [List.length_cons] at hl hl2 a2
    refine ⟨trivial, fun P' hP' => ?_⟩
    simp only [gN, N3.st]
    refine seq_step fun P2 hP2 => ?_
    simp only [mAsg, mBlt, mCons, mNil, mVar, gt, gN, N3.st]
    refine ⟨D.wr e (.lst (stz fs)), _, sort, i, rfl, a2, by omega, i0, by omega, fun l h3 ok a3 => ?_⟩
    subst hP2
    have at3 : h3 e = some (.lst (stz fs)) := by
      rw [a3.rd n1 n2]
      exact up_same
    simp only [mIfS, mTest, mB, mVar, gt]
    have hin : ∀ (Q2 : PK), Q2 (.bl (!decide (l ∈ fs))) h3 → rInP true (.str (S l)) (.ref e) h3 Q2 := fun Q2 z => by
      simp only [rInP, listed, seqL, at3]
      refine ⟨rfl, flat_stz _, depth_strs _, ?_⟩
      rw [show toD (vw h3 (.str (S l))) = .str (S l) from rfl, any_strs, Bool.bne_true]
      exact z
    refine hin _ (ite2 (fun c => ?_) (fun c => ?_))
    · simp only [mDrop, mAppend, mCons, mNil, mVar, gt, at3]
      refine ⟨⟨e, _, rfl, at3⟩, by rw [List.length_map]; show _ < 16777216; omega, ?_⟩
      have a4 := a3.wr (.lst (stz (fs ++ [l]))) n1 n2
      rw [Dk.wr_wr] at a4
      have es : stz fs ++ [PV.str (S l)] = stz (fs ++ [l]) := (stz_app fs [l]).symm
      rw [es]
      refine hP' _ _ ⟨fun p hp2 => hp p (List.mem_cons_of_mem _ hp2), by omega, fs ++ [l], _, _, fun x hx => ?_, by rw [List.length_append, List.length_singleton]; omega, rfl, a4.mono (by omega)⟩
      rcases List.mem_append.mp hx with hx | hx
      · exact hf x hx
      · rw [List.mem_singleton] at hx; subst hx; exact ok
    · exact hP' _ _ ⟨fun p hp2 => hp p (List.mem_cons_of_mem _ hp2), by omega, fs, _, _, hf, by omega, rfl, a3.mono (by omega)⟩
  · rintro τ h2 ⟨-, -, fs, v4, v5, hf, hl2, rfl, a2⟩
    refine ⟨trivial, ?_⟩
    have at2 : h2 e = some (.lst (stz fs)) := by
      rw [a2.rd n1 n2]
      exact up_same
    obtain ⟨h0, s0', e0, A0⟩ := Dk.At.back a2 hD n1 n2
    obtain ⟨qs, pq, eq⟩ := sort_stz fs
    subst hP
    simp only [mRet, mBlt, mCons, mNil, mVar, gt, rSortA, listed, seqL, at2]
    refine ⟨flat_stz _, srtb_stz _, ?_⟩
    rw [eq]
    simp only [N3.rTupOf, listed, seqL]
    have := q qs h0 ⟨fun l hl => hf l (pq.mem_iff.mp hl), by rw [pq.length_eq]; simp at hl2; omega⟩ (by rw [pq.length_eq]; simp at hl2; omega) (A0.mono (by omega))
    exact ⟨h0, s0', this⟩
  · obtain ⟨i, hi, rfl⟩ := List.mem_map.mp hp
    have := List.mem_range.mp hi
    exact ⟨_, rfl, by omega, by omega⟩
end Wneversaid_k25_runs

namespace Wneversaid_k25_runs
open PySem PySem.Spec PyProof.Rows L2 N3
theorem cut_nat {α : Type} (xs : List α) (i : Int) (h : 0 ≤ i) : cut xs none (some i) = xs.take i.toNat := by
  unfold N3.cut HT.sIx
  simp only [if_neg (show ¬ i < 0 by omega), Nat.sub_zero, List.drop_zero]
  rw [List.take_eq_take_iff]
  omega
theorem cut_up {α : Type} (xs : List α) (i : Int) (h : 0 ≤ i) : cut xs (some i) none = xs.drop i.toNat := by
  unfold N3.cut HT.sIx
  simp only [if_neg (show ¬ i < 0 by omega)]
  by_cases c : i.toNat ≤ xs.length
  · rw [Nat.min_eq_left (by omega)]
    exact List.take_of_length_le (by rw [List.length_drop]; omega)
  · rw [Nat.min_eq_right (by omega), List.drop_of_length_le (by omega), List.drop_of_length_le (by omega), List.take_nil]
/-! ### what runs are: the plain law -/
def endsAt (run : List Ln) (i : Nat) : Bool := decide (i = 5) || (decide (0 < i) && decide (mx (run.getD i []) % 4 = 0))
theorem ends_at (run : List Ln) (l : Ln) : endsAt (run ++ [l]) run.length = endsR run l := by
  unfold endsAt endsR
  have e : (run ++ [l]).getD run.length [] = l := by
    rw [List.getD_eq_getElem?_getD, List.getElem?_append_right (Nat.le_refl _), Nat.sub_self]; rfl
  rw [e, decide_eq_decide.mpr (show run.length = 5 ↔ run.length + 1 = 6 by omega), decide_eq_decide.mpr (show 0 < run.length ↔ 1 < run.length + 1 by omega)]
theorem ends_pre {run more : List Ln} {i : Nat} (h : i < run.length) : endsAt (run ++ more) i = endsAt run i := by
  unfold endsAt
  rw [List.getD_eq_getElem?_getD, List.getD_eq_getElem?_getD, List.getElem?_append_left h]
/-- no line amid a run ends it -/
def amidOk (r : List Ln) : Prop := ∀ i, i + 1 < r.length → endsAt r i = false
theorem rgo_amid : ∀ (ls run : List Ln), (∀ i, i < run.length → endsAt run i = false) → ∀ r ∈ rgo run ls, amidOk r
  | [], run, h, r, hr => by
    unfold rgo at hr
    split at hr
    · cases hr
    · rw [List.mem_singleton] at hr
      subst hr
      exact fun i hi => h i (by omega)
  | l :: ls, run, h, r, hr => by
    unfold rgo at hr
    split at hr
    · rcases List.mem_cons.mp hr with rfl | hr
      · intro i hi
        rw [List.length_append, List.length_singleton] at hi
        rw [ends_pre (by omega)]
        exact h i (by omega)
      · exact rgo_amid ls [] (fun i hi => absurd hi (Nat.not_lt_zero _)) r hr
    · rename_i c
      refine rgo_amid ls _ (fun i hi => ?_) r hr
      rw [List.length_append, List.length_singleton] at hi
      by_cases e : i < run.length
      · rw [ends_pre e]; exact h i e
      · have : i = run.length := by omega
        rw [this, ends_at]
        exact Bool.eq_false_iff.mpr c
theorem rgo_last : ∀ (ls run : List Ln) (rs : List (List Ln)) (r : List Ln), rgo run ls = rs ++ [r] → ∀ x ∈ rs, endsAt x (x.length - 1) = true
  | [], run, rs, r, e, x, hx => by
    unfold rgo at e
    split at e
    · cases rs <;> cases e
    · cases rs with
      | nil => cases hx
      | cons a t => cases t <;> cases e
  | l :: ls, run, rs, r, e, x, hx => by
    unfold rgo at e
    split at e
    · rename_i c
      cases rs with
      | nil => cases hx
      | cons a t =>
        obtain ⟨rfl, e2⟩ := List.cons.inj e
        rcases List.mem_cons.mp hx with rfl | hx
        · rw [List.length_append, List.length_singleton, Nat.add_sub_cancel, ends_at]; exact c
        · exact rgo_last ls [] t r e2 x hx
    · exact rgo_last ls _ rs r e x hx
theorem rgo_flat : ∀ (ls run : List Ln), (rgo run ls).flatten = run ++ ls
  | [], run => by
    unfold rgo
    split
    · rename_i c; rw [c]; rfl
    · simp
  | l :: ls, run => by
    unfold rgo
    split
    · rw [List.flatten_cons, rgo_flat ls []]; simp
    · rw [rgo_flat ls]; simp
theorem rgo_rest : ∀ (ls run : List Ln) (r : List Ln) (rest : List (List Ln)), rgo run ls = r :: rest → run.length ≤ r.length ∧ rgo [] (ls.drop (r.length - run.length)) = rest
  | [], run, r, rest, e => by
    unfold rgo at e
    split at e
    · cases e
    · obtain ⟨rfl, rfl⟩ := List.cons.inj e
      refine ⟨Nat.le_refl _, ?_⟩
      rw [List.drop_nil]
      unfold rgo
      rw [if_pos rfl]
  | l :: ls, run, r, rest, e => by
    unfold rgo at e
    split at e
    · obtain ⟨rfl, rfl⟩ := List.cons.inj e
      rw [List.length_append, List.length_singleton]
      refine ⟨by omega, ?_⟩
      rw [show run.length + 1 - run.length = 1 by omega]; rfl
    · obtain ⟨h1, h2⟩ := rgo_rest ls _ r rest e
      rw [List.length_append, List.length_singleton] at h1 h2
      refine ⟨by omega, ?_⟩
      rw [show r.length - run.length = (r.length - (run.length + 1)) + 1 by omega, List.drop_succ_cons]
      exact h2
/-! ### the law's parts -/
def spLMixed : SpP := spMixed
def spEndsAt : SpP := fun ps h Q => ∃ (run : List Ln) (i : Nat), ps = [tupS run, .int (i : Int)] ∧ i < run.length ∧ run.length ≤ 6 ∧ (∀ l ∈ run, LnOk l) ∧ Q (.bl (endsAt run i)) h
theorem at_stz {run : List Ln} {i : Nat} (h : i < run.length) : atI (stz run) (i : Int) = some (.str (S (run.getD i []))) := by
  unfold atI
  rw [ixN_nat (by rw [List.length_map]; exact h)]
  show (stz run)[i]? = _
  rw [List.getElem?_map, List.getD_eq_getElem?_getD, List.getElem?_eq_getElem h]; rfl
theorem pure_law_ends : ∀ qs h Q, qs.length = 2 → spEndsAt qs h Q → m_law_ends spMixed (ends Q) (sp0 2 qs) h := by
  rintro _ h Q - ⟨run, i, rfl, hi, h6, ok, q⟩
  have okl : LnOk (run.getD i []) := by
    rw [List.getD_eq_getElem?_getD, List.getElem?_eq_getElem hi]
    exact ok _ (List.getElem_mem hi)
  unfold endsAt at q
  simp only [m_law_ends, N3.mDput, N3.mB, N3.mU, N3.mVar, N3.mC, N3.sp0, N3.gt, N3.st, N3.rIx, N3.seqL, N3.dctL, N3.kOf, N3.rAdd, N3.mAsg, N3.gN, N3.mIfS, N3.mTest, N3.mPop, N3.mAppend, N3.mDrop, N3.mRet, N3.mRetN, N3.mNx, N3.mBrk, N3.mCnt, N3.mLst, N3.mLstM, N3.mCons, N3.mNil, N3.mTup, N3.mBlt, N3.mKw, N3.cat2, N3.cat2r, N3.gS, N3.gL, N3.mSlM, N3.rSlM, N3.mM1, N3.mSl, N3.mRev, N3.mStep, N3.mRevM, N3.mPart, N3.mNoPart, N3.rII, N3.rII0, N3.rIB, N3.rCmp, N3.rLt, N3.rLe, N3.rGt, N3.rGe, N3.mIsI, N3.tn, N3.isI, N3.mDisp, N3.mDct0, N3.mDct0M, N3.mPar3, N3.mAug, N3.rIAdd, N3.mExtend, N3.mInsert, N3.mPopAt, N3.rMin2, N3.rMax2, N3.rIntT, N3.rSplit, N3.rSplitM, N3.rAddM, N3.gPut, N3.mFmt, N3.mJs, N3.mJoin, N3.rDictP, N3.mRepM, N3.rListA, N3.rSortA, N3.mLc2, N3.lcI, N3.lcO, N3.rAllB, N3.rAnyB, N3.rStrI, N3.rIntO, N3.vwL, N3.rMul, N3.rMulT, N3.rNeg, N3.rSub, N3.rDiv, N3.rMod, N3.rPow, N3.mPar, N3.mAndT, N3.mOrT, N3.mNotT, N3.mAnd, N3.mOr, N3.mOrV, N3.mAndV, N3.trv, N3.mNot, N3.mIf, N3.mChn, N3.mKeep, N3.mRep, N3.mDispM, N3.mPs, N3.ends, N3.rLen, N3.rListOf, N3.rListOfM, N3.rTupOf, N3.rSumI, N3.listed, N3.rSl, N3.rRev, N3.rEq, N3.rNe, N3.rIsN, N3.rNotN, N3.isNon, N3.vw, N3.mYes, N3.gT, N3.gsCons, N3.gsNil, N3.mFor, N3.mSeqs, N3.mLc, N3.mLcM, N3.mRng1, N3.mRng2, N3.mEnum, N3.mEnumA, N3.mZip, N3.wp, N3.rJoin, N3.rSS, N3.rIdxS, N3.rRepr, N3.flat, N3.flats, N3.toD, N3.toDs, List.length_cons, List.length_nil, List.append_eq, List.cons_append, List.nil_append, List.map_cons, List.map_nil, if_true, if_false, Bool.false_eq_true, decide_eq_true_eq, Option.some.injEq, true_and, and_true, Bool.not_true, Bool.not_false, reduceCtorEq, Bool.and_self, Bool.and_true, Bool.true_and, ite_true, ite_false, tupS, at_stz hi, eqv_int, decide_eq_true_eq]
  refine ⟨by simp [PyData.depth], ite2 (fun c => ?_) (fun c => ite2 (fun c2 => ?_) (fun c2 => ?_))⟩
  · rw [decide_eq_true (show i = 5 by omega)] at q; exact q
  · refine ⟨_, rfl, okl.g, Nat.le_trans okl.t.n (by decide), ?_⟩
    refine ⟨by decide, by simp [PyData.depth], ?_⟩
    rw [decide_eq_false (show ¬ i = 5 by omega), decide_eq_true (show 0 < i by omega)] at q
    exact q
  · rw [decide_eq_false (show ¬ i = 5 by omega), decide_eq_false (show ¬ 0 < i by omega)] at q
    exact q
/-! ### shown -/
theorem th_line {l : Ln} (h : LnOk l) : TH 0 502 (.str (S l)) := TH.str h.t
theorem th_lines {ls : List Ln} (h : ∀ l ∈ ls, LnOk l) {n : Nat} (hn : ls.length ≤ n) : TH 1 (n * 504 + 3) (tupS ls) := by
  refine (TH.tup (n := 0) (z := 502) fun x hx => ?_).mono (Nat.le_refl _) (by rw [List.length_map]; have := Nat.mul_le_mul_right 504 hn; omega)
  obtain ⟨l, hl, rfl⟩ := List.mem_map.mp hx
  exact th_line (h l hl)
theorem runs_ok {ls : List Ln} (ok : LsOk ls) : ∀ r ∈ runsL ls, r ≠ [] ∧ r.length ≤ 6 ∧ ∀ l ∈ r, LnOk l := rgo_mem ls [] ok.1 (fun l h => (List.not_mem_nil h).elim) (by decide)
theorem runs_forty {ls : List Ln} (ok : LsOk ls) : (runsL ls).length ≤ 40 := runs_few ok (done := runsL ls) (more := []) (List.append_nil _)
theorem th_runs {ls : List Ln} (ok : LsOk ls) {rs : List (List Ln)} (h : ∀ r ∈ rs, r ∈ runsL ls) (hl : rs.length ≤ 40) : TH 2 121163 (.tup (rs.map tupS)) := by
  refine (TH.tup (n := 1) (z := 3027) fun x hx => ?_).mono (Nat.le_refl _) (by rw [List.length_map]; omega)
  obtain ⟨r, hr, rfl⟩ := List.mem_map.mp hx
  have := runs_ok ok r (h r hr)
  exact th_lines this.2.2 this.2.1
theorem th_both {p : PV} (h : TH 2 121163 p) : TH 3 242332 (.lst [p, p]) := by
  refine (TH.lst (n := 2) (z := 121163) fun x hx => ?_).mono (Nat.le_refl _) (by show 2 * (121163 + 2) + 2 ≤ 242332; decide)
  simp only [List.mem_cons, List.not_mem_nil, or_false, or_self] at hx
  subst hx; exact h
theorem eqs_same {x : Str} {h : PH} {Q : PK} (q : Q (.bl true) h) : N3.rEq (.str x) (.str x) h Q := by
  refine ⟨rfl, rfl, by simp [vw, toD, PyData.depth], ?_⟩
  rw [show PyData.eqv (toD (vw h (.str x))) (toD (vw h (.str x))) = true from eqv_str x]
  exact q
theorem nes_same {x : Str} {h : PH} {Q : PK} (q : Q (.bl false) h) : N3.rNe (.str x) (.str x) h Q := by
  refine ⟨rfl, rfl, by simp [vw, toD, PyData.depth], ?_⟩
  rw [show PyData.eqv (toD (vw h (.str x))) (toD (vw h (.str x))) = true from eqv_str x]
  exact q
theorem lcF {α : Type} {gd : PH → Prop} {τ : PSt} {g : MG} {t : MT} {m : ME} {h : PH} {Q : List PV → PH → Prop} (enc : α → PV) (hg : gd h) :
    ∀ (xs : List α), (∀ x ∈ xs, ∀ (P : List PV → PH → Prop), P [] h → g (enc x) τ h fun τ1 h1 => t τ1 h1 fun b h2 => if b = true then m τ1 h2 fun v h3 => P ([] ++ [v]) h3 else P [] h2) → Q [] h → lcL gd τ g t m (xs.map enc) [] h Q
  | [], _, q => ⟨hg, q⟩
  | x :: xs, hs, q => ⟨hg, hs x List.mem_cons_self (fun acc h3 => lcL gd τ g t m (xs.map enc) acc h3 Q) (lcF enc hg xs (fun y hy => hs y (List.mem_cons_of_mem _ hy)) q)⟩
/-- cut as a hand would find it -/
def spCutRight : SpP := fun ps h Q => ∃ ls : List Ln, ps = [.tup ((runsL ls).map tupS), tupS ls] ∧ LsOk ls ∧ Q (.bl true) h
theorem eq_tnil {ks : List Ln} {h : PH} {Q : PK} (q : Q (.bl ks.isEmpty) h) : N3.rEq (tupS ks) (.tup []) h Q := by
  refine ⟨flat_stz ks, rfl, ?_, ?_⟩
  · show PyData.depthAll (toDs (stz ks)) + 1 ≤ 64
    rw [depth_stz]; decide
  · rw [show toD (vw h (tupS ks)) = .tuple (toDs (stz ks)) from rfl, show toD (vw h (.tup [])) = .tuple [] from rfl, eqv_tnil, List.isEmpty_map]
    exact q
theorem tup_add {a b : List Ln} {h : PH} {Q : PK} (hz : a.length + b.length ≤ 1000) (q : Q (tupS (a ++ b)) h) : N3.rAdd (tupS a) (tupS b) h Q := by
  unfold tupS at q ⊢
  rw [stz_app] at q
  exact ⟨by rw [List.length_map, List.length_map]; show _ ≤ 16777216; omega, q⟩
theorem tn_tup (h : PH) (r : List Ln) : N3.tn h (tupS r) = some .tup := rfl
theorem len_tupS {ks : List Ln} {h : PH} {Q : PK} (hz : ks.length ≤ 1000) (q : Q (.int (ks.length : Nat)) h) : N3.rLen [tupS ks] h Q := by
  show Q (.int ((stz ks).length : Nat)) h
  rw [List.length_map]; exact q
theorem len_tup {xs : List PV} {h : PH} {Q : PK} (hz : xs.length ≤ 1000) (q : Q (.int (xs.length : Nat)) h) : N3.rLen [.tup xs] h Q :=
  q
theorem nel_nil {h : PH} {Q : PK} (q : Q (.bl false) h) : N3.rNe (.lst []) (.lst []) h Q := ⟨rfl, rfl, by simp [vw, toD, toDs, PyData.depth, PyData.depthAll], q⟩
theorem cut_stz (ks : List Ln) (lo hi : Option Int) : cut (stz ks) lo hi = stz (cut ks lo hi) := by
  unfold cut; simp only [stz, List.length_map, List.map_take, List.map_drop]
theorem pure_law_cut_right : ∀ qs h Q, qs.length = 2 → spCutRight qs h Q → m_law_cut_right spEndsAt (ends Q) (sp0 7 qs) h := by
  rintro _ h Q - ⟨ls, rfl, ok, q⟩
  have R := runs_ok ok
  have few := runs_forty ok
  have A : ∀ r ∈ runsL ls, amidOk r := rgo_amid ls [] fun i hi => absurd hi (Nat.not_lt_zero _)
  have F : (runsL ls).flatten = ls := by unfold runsL; rw [rgo_flat]; rfl
  unfold m_law_cut_right
  refine seq_step fun P hP => ?_
  simp only [N3.mDput, N3.mB, N3.mU, N3.mVar, N3.mC, N3.sp0, N3.gt, N3.st, N3.rIx, N3.seqL, N3.dctL, N3.kOf, N3.rAdd, N3.mAsg, N3.gN, N3.mIfS, N3.mTest, N3.mPop, N3.mAppend, N3.mDrop, N3.mRet, N3.mRetN, N3.mNx, N3.mBrk, N3.mCnt, N3.mLst, N3.mLstM, N3.mCons, N3.mNil, N3.mTup, N3.mBlt, N3.mKw, N3.cat2, N3.cat2r, N3.gS, N3.gL, N3.mSlM, N3.rSlM, N3.mM1, N3.mSl, N3.mRev, N3.mStep, N3.mRevM, N3.mPart, N3.mNoPart, N3.rII, N3.rII0, N3.rIB, N3.rCmp, N3.rLt, N3.rLe, N3.rGt, N3.rGe, N3.mIsI, N3.tn, N3.isI, N3.mDisp, N3.mDct0, N3.mDct0M, N3.mPar3, N3.mAug, N3.rIAdd, N3.mExtend, N3.mInsert, N3.mPopAt, N3.rMin2, N3.rMax2, N3.rIntT, N3.rSplit, N3.rSplitM, N3.rAddM, N3.gPut, N3.mFmt, N3.mJs, N3.mJoin, N3.rDictP, N3.mRepM, N3.rListA, N3.rSortA, N3.mLc2, N3.lcI, N3.lcO, N3.rAllB, N3.rAnyB, N3.rStrI, N3.rIntO, N3.vwL, N3.rMul, N3.rMulT, N3.rNeg, N3.rSub, N3.rDiv, N3.rMod, N3.rPow, N3.mPar, N3.mAndT, N3.mOrT, N3.mNotT, N3.mAnd, N3.mOr, N3.mOrV, N3.mAndV, N3.trv, N3.mNot, N3.mIf, N3.mChn, N3.mKeep, N3.mRep, N3.mDispM, N3.mPs, N3.ends, N3.rLen, N3.rListOf, N3.rListOfM, N3.rTupOf, N3.rSumI, N3.listed, N3.rSl, N3.rRev, N3.rEq, N3.rNe, N3.rIsN, N3.rNotN, N3.isNon, N3.vw, N3.mYes, N3.gT, N3.gsCons, N3.gsNil, N3.mFor, N3.mSeqs, N3.mLc, N3.mLcM, N3.mRng1, N3.mRng2, N3.mEnum, N3.mEnumA, N3.mZip, N3.wp, N3.rJoin, N3.rSS, N3.rIdxS, N3.rRepr, N3.flat, N3.flats, N3.toD, N3.toDs, List.length_cons, List.length_nil, List.append_eq, List.cons_append, List.nil_append, List.map_cons, List.map_nil, if_true, if_false, Bool.false_eq_true, decide_eq_true_eq, Option.some.injEq, true_and, and_true, Bool.not_true, Bool.not_false, reduceCtorEq, Bool.and_self, Bool.and_true, Bool.true_and, ite_true, ite_false]
  subst hP
  refine seq_step fun P hP => ?_
  simp only [N3.mDput, N3.mB, N3.mU, N3.mVar, N3.mC, N3.sp0, N3.gt, N3.st, N3.rIx, N3.seqL, N3.dctL, N3.kOf, N3.rAdd, N3.mAsg, N3.gN, N3.mIfS, N3.mTest, N3.mPop, N3.mAppend, N3.mDrop, N3.mRet, N3.mRetN, N3.mNx, N3.mBrk, N3.mCnt, N3.mLst, N3.mLstM, N3.mCons, N3.mNil, N3.mTup, N3.mBlt, N3.mKw, N3.cat2, N3.cat2r, N3.gS, N3.gL, N3.mSlM, N3.rSlM, N3.mM1, N3.mSl, N3.mRev, N3.mStep, N3.mRevM, N3.mPart, N3.mNoPart, N3.rII, N3.rII0, N3.rIB, N3.rCmp, N3.rLt, N3.rLe, N3.rGt, N3.rGe, N3.mIsI, N3.tn, N3.isI, N3.mDisp, N3.mDct0, N3.mDct0M, N3.mPar3, N3.mAug, N3.rIAdd, N3.mExtend, N3.mInsert, N3.mPopAt, N3.rMin2, N3.rMax2, N3.rIntT, N3.rSplit, N3.rSplitM, N3.rAddM, N3.gPut, N3.mFmt, N3.mJs, N3.mJoin, N3.rDictP, N3.mRepM, N3.rListA, N3.rSortA, N3.mLc2, N3.lcI, N3.lcO, N3.rAllB, N3.rAnyB, N3.rStrI, N3.rIntO, N3.vwL, N3.rMul, N3.rMulT, N3.rNeg, N3.rSub, N3.rDiv, N3.rMod, N3.rPow, N3.mPar, N3.mAndT, N3.mOrT, N3.mNotT, N3.mAnd, N3.mOr, N3.mOrV, N3.mAndV, N3.trv, N3.mNot, N3.mIf, N3.mChn, N3.mKeep, N3.mRep, N3.mDispM, N3.mPs, N3.ends, N3.rLen, N3.rListOf, N3.rListOfM, N3.rTupOf, N3.rSumI, N3.listed, N3.rSl, N3.rRev, N3.rEq, N3.rNe, N3.rIsN, N3.rNotN, N3.isNon, N3.vw, N3.mYes, N3.gT, N3.gsCons, N3.gsNil, N3.mFor, N3.mSeqs, N3.mLc, N3.mLcM, N3.mRng1, N3.mRng2, N3.mEnum, N3.mEnumA, N3.mZip, N3.wp, N3.rJoin, N3.rSS, N3.rIdxS, N3.rRepr, N3.flat, N3.flats, N3.toD, N3.toDs, List.length_cons, List.length_nil, List.append_eq, List.cons_append, List.nil_append, List.map_cons, List.map_nil, if_true, if_false, Bool.false_eq_true, decide_eq_true_eq, Option.some.injEq, true_and, and_true, Bool.not_true, Bool.not_false, reduceCtorEq, Bool.and_self, Bool.and_true, Bool.true_and, ite_true, ite_false]
  subst hP
  refine seq_step fun P hP => ?_
  simp only [mFor, mEnumA, mCons, mNil, mVar, gt, N3.listed]
  refine ⟨by rw [List.length_map]; show _ ≤ 16777216; omega, ?_⟩
  refine forL_of (W := fun ps τ h' => h' = h ∧ ∃ (ds r : List (List Ln)) (v3 v4 v5 v6 : Option PV), runsL ls = ds ++ r ∧ ps = (r.zipIdx ds.length).map (fun x => PV.tup [.int (x.2 : Nat), tupS x.1]) ∧
    τ = [some (.tup ((runsL ls).map tupS)), some (tupS ls), some (tupS ds.flatten), v3, v4, v5, v6]) ?_ ?_ _ _ _ ⟨rfl, [], runsL ls, none, none, none, none, rfl, ?_, rfl⟩
  · rintro p ps τ h' ⟨rfl, ds, r, v3, v4, v5, v6, er, ee, rfl⟩
    obtain ⟨x, r, rfl⟩ : ∃ x r', r = x :: r' := by
      cases r with
      | nil => cases ee
      | cons x r => exact ⟨x, r, rfl⟩
    rw [List.zipIdx_cons, List.map_cons] at ee
    obtain ⟨rfl, rfl⟩ := List.cons.inj ee
    have hx : x ∈ runsL ls := by rw [er]; simp
    obtain ⟨ne, l6, okx⟩ := R x hx
    have fl : ds.flatten.length + x.length ≤ 80 := by
      have := congrArg (fun z => (List.flatten z).length) er
      simp only [List.flatten_append, List.flatten_cons, List.length_append] at this
      have e2 := congrArg List.length F
      have := ok.2
      omega
    refine ⟨trivial, fun P' hP' => ?_⟩
    simp only [gT, gsCons, gsNil, gN, N3.st]
    refine ⟨rfl, trivial, ?_⟩
    refine seq_step fun P2 hP2 => ?_
    simp only [mIfS, mOrT, mNotT, mTest, mIsI, mB, mTup, mNil, mVar, gt, tn_tup, N3.isI, Bool.not_true, Bool.false_eq_true, if_false]
    refine eq_tnil ?_
    have e0 : x.isEmpty = false := by cases x with
      | nil => exact absurd rfl ne
      | cons a t => rfl
    simp only [e0, Bool.false_eq_true, if_false, mNx]
    subst hP2
    refine seq_step fun P2 hP2 => ?_
    simp only [mAsg, mB, mVar, gt, gN, N3.st]
    refine tup_add (by omega) ?_
    subst hP2
    refine seq_step fun P2 hP2 => ?_
    simp only [mAsg, mLc, mRng1, mB, mBlt, mCons, mNil, mVar, mC, gt, N3.rSub, N3.rII0, N3.wp, N3.st]
    refine len_tupS (by omega) ?_
    simp only []
    refine ⟨⟨by omega, by omega⟩, ?_⟩
    unfold N3.rng
    refine lcF (enc := fun i : Nat => PV.int (0 + (i : Int))) trivial _ (fun i hi P3 z => ?_) ?_
    · have hi : i < ((x.length : Int) - 1).toNat := List.mem_range.mp hi
      simp only [gN, N3.st, mTest, mBlt, mCons, mNil, mVar, gt]
      refine ⟨x, i, by rw [Int.zero_add], by omega, l6, okx, ?_⟩
      rw [A x hx i (by omega)]
      simp only [Bool.false_eq_true, if_false]
      exact z
    · simp only [gN, N3.st]
      subst hP2
      simp only [mIfS, mOrT, mAndT, mNotT, mTest, mB, mBlt, mLst, mCons, mNil, mVar, mC, gt]
      refine nel_nil ?_
      simp only [Bool.false_eq_true, if_false, N3.rSub, N3.rII0, N3.rLt, N3.rCmp]
      refine len_tup (by rw [List.length_map]; omega) ?_
      rw [List.length_map]
      simp only []
      have fin : P' [some (.tup ((runsL ls).map tupS)), some (tupS ls), some (tupS (ds.flatten ++ x)), some (.int (ds.length : Nat)), some (tupS x), some (.lst []), v6] h' := by
        refine hP' _ _ ⟨rfl, ds ++ [x], r, some (.int (ds.length : Nat)), some (tupS x), some (.lst []), v6, by rw [er, List.append_assoc]; rfl, by rw [List.length_append]; rfl, ?_⟩
        rw [List.flatten_append, List.flatten_singleton]
      refine ite2 (fun c => ?_) (fun c => ?_)
      · have c : ((ds.length : Nat) : Int) < ((runsL ls).length : Int) - 1 := by simpa using c
        refine len_tupS (by omega) ?_
        simp only []
        have xl : 0 < x.length := List.length_pos_iff.mpr ne
        refine ⟨x, x.length - 1, by rw [show ((x.length : Nat) : Int) - 1 = ((x.length - 1 : Nat) : Int) by omega], by omega, l6, okx, ?_⟩
        have el : endsAt x (x.length - 1) = true := by
          have rl : r ≠ [] := fun z => by
            rw [z] at er
            have := congrArg List.length er
            simp only [List.length_append, List.length_singleton] at this
            omega
          have e1 : runsL ls = (ds ++ x :: r.dropLast) ++ [r.getLast rl] := by
            rw [er, List.append_assoc, List.cons_append, List.dropLast_concat_getLast]
          exact rgo_last ls [] _ _ e1 x (by simp)
        rw [el]
        simp only [Bool.not_true, Bool.false_eq_true, if_false, mNx]
        exact fin
      · simp only [Bool.false_eq_true, if_false, mNx]
        exact fin
  · rintro τ h' ⟨rfl, ds, r, v3, v4, v5, v6, er, ee, rfl⟩
    refine ⟨trivial, ?_⟩
    cases r with
    | cons x r => rw [List.zipIdx_cons] at ee; cases ee
    | nil =>
      rw [List.append_nil] at er
      rw [← er, F]
      subst hP
      simp only [mRet, mB, mBlt, mCons, mNil, mVar, gt]
      have t : TH 1 (80 * 504 + 3) (tupS ls) := th_lines ok.1 ok.2
      refine TH.repr t (by decide) (by decide) (TH.repr t (by decide) (by decide) (eqs_same ?_))
      exact q
  · unfold enm
    rw [List.zipIdx_map, List.map_map]; rfl
/-- a law of rows: cut right, and alike each time -/
def spRight : SpP := fun ps h Q => ∃ ls : List Ln, ps = [tupS ls] ∧ LsOk ls ∧ Q (.bl true) h
theorem pure_law_right : ∀ qs h Q, qs.length = 1 → spRight qs h Q → m_law_right spRuns spCutRight (ends Q) (sp0 2 qs) h := by
  rintro _ h Q - ⟨ls, rfl, ok, q⟩
  unfold m_law_right
  refine seq_step fun P hP => ?_
  simp only [mAsg, mBlt, mCons, mNil, mVar, gt, gN, N3.st, N3.sp0]
  refine ⟨ls, rfl, ok, ?_⟩
  subst hP
  refine seq_step fun P hP => ?_
  simp only [mIfS, mNotT, mTest, mBlt, mCons, mNil, mVar, gt]
  refine ⟨ls, rfl, ok, ?_⟩
  simp only [Bool.not_true, Bool.false_eq_true, if_false, mNx]
  subst hP
  simp only [mRet, mB, mBlt, mLst, mKw, cat2, mCons, mNil, mVar, gt, List.nil_append]
  refine ⟨ls, rfl, ok, ls, rfl, ok, ?_⟩
  have t := th_both (th_runs ok (fun r hr => hr) (runs_forty ok))
  refine TH.repr (p := .lst [_, _]) t (by decide) (by decide) (TH.repr (p := .lst [_, _]) t (by decide) (by decide) (eqs_same ?_))
  exact q
def spNear : SpP := fun ps h Q => ∃ (D : Dk) (n : Nat) (ls : List Ln), ps = [.ref D.d, tupS ls] ∧ D.At n h ∧ n < 80000000 ∧ LsOk ls ∧ ls.length ≤ 72 ∧ ∀ h', D.At (n + 20) h' → Q (.bl true) h'
theorem pure_law_near_right : ∀ qs h Q, qs.length = 2 → spNear qs h Q → m_law_near_right spDraw spLine spRight spRuns (ends Q) (sp0 9 qs) h := by
  rintro _ h Q - ⟨D, n, ls, rfl, a, hn, ok, l72, q⟩
  have few := runs_forty ok
  unfold m_law_near_right
  refine seq_step fun P hP => ?_
  simp only [mAsg, mBlt, mCons, mNil, mB, mVar, mC, gt, gN, N3.st, N3.sp0]
  refine len_tupS (by omega) ?_
  simp only [N3.rAdd]
  refine draw_to a (by omega) (by omega) (by omega) fun at_ h1 a0 a1 A1 => ?_
  subst hP
  refine seq_step fun P hP => ?_
  simp only [mAsg, mBlt, mTup, mCons, mNil, mB, mVar, mC, gt, gN, N3.st]
  refine draw_to A1 (by omega) (by decide) (by decide) fun sort h2 s0 s1 A2 => ?_
  refine ⟨D, _, sort, at_, rfl, A2, by omega, a0, by omega, fun l h3 okl A3 => ?_⟩
  have e1 : PV.tup [.str (S l)] = tupS [l] := rfl
  show N3.rAdd (tupS ls) (tupS [l]) h3 _
  refine tup_add (by show _ + 1 ≤ 1000; omega) ?_
  have okm : ∀ x ∈ ls ++ [l], LnOk x := fun x hx => by
    rcases List.mem_append.mp hx with z | z
    · exact ok.1 x z
    · rw [List.mem_singleton] at z; rw [z]; exact okl
  simp only [N3.rSortSet, tupS, N3.listed]
  refine ⟨(ls ++ [l]).map S, by rw [List.map_map]; rfl, by rw [List.length_map, List.length_append, List.length_singleton]; omega, fun bs nd mm ll => ?_⟩
  rw [List.length_map, List.length_append, List.length_singleton] at ll
  obtain ⟨us, eu, hu, ul⟩ : ∃ us : List Ln, ((bs.mergeSort (PySem.W.dataLe false PyData.str)).map PV.str) = stz us ∧ (∀ x ∈ us, LnOk x) ∧ us.length ≤ 73 := by
    refine ⟨(bs.mergeSort (PySem.W.dataLe false PyData.str)).map cl, ?_, fun x hx => ?_, by rw [List.length_map, List.length_mergeSort]; omega⟩
    · unfold stz
      rw [List.map_map]
      exact List.map_congr_left fun x _ => by show PV.str x = PV.str (S (cl x)); rw [S_cl]
    · obtain ⟨b, hb, rfl⟩ := List.mem_map.mp hx
      obtain ⟨y, hy, rfl⟩ := List.mem_map.mp ((mm b).mp (List.mem_mergeSort.mp hb))
      rw [cl_S]; exact okm y hy
  rw [eu]
  simp only [N3.rTupOf, N3.listed, seqL]
  subst hP
  refine seq_step fun P hP => ?_
  simp only [mFor, mSeqs, mTup, mCons, mNil, mB, mSl, mNoPart, mPart, mVar, mC, gt, N3.rSl, N3.rAdd, cut_nat _ at_ a0, cut_up _ at_ a0, cut_up _ (at_ + 1) (show (0 : Int) ≤ at_ + 1 by omega)]
  refine ⟨by rw [List.length_take, List.length_drop, show (stz ls).length = ls.length from List.length_map ..]; show _ ≤ 16777216; omega, ?_⟩
  have sub : ∀ ks : List Ln, (∀ x ∈ ks, x ∈ ls ∨ x ∈ us) → ks.length ≤ 80 → LsOk ks := fun ks hk hl => ⟨fun x hx => (hk x hx).elim (ok.1 x) (hu x), hl⟩
  refine forL_of (W := fun ps τ h' => h' = h3 ∧ (∀ p ∈ ps, ∃ ks, p = tupS ks ∧ LsOk ks) ∧ ∃ v4, τ = [some (.ref D.d), some (tupS ls), some (.int at_), some (tupS us), v4, none, none, none, none]) ?_ ?_ _ _ _ ⟨rfl, fun p hp => ?_, none, rfl⟩
  · rintro p ps τ h' ⟨rfl, hp, v4, rfl⟩
    refine ⟨trivial, fun P' hP' => ?_⟩
    obtain ⟨ks, rfl, okk⟩ := hp p List.mem_cons_self
    simp only [gN, N3.st, mIfS, mNotT, mTest, mBlt, mCons, mNil, mVar, gt]
    refine ⟨ks, rfl, okk, ?_⟩
    simp only [Bool.not_true, Bool.false_eq_true, if_false, mNx]
    exact hP' _ _ ⟨rfl, fun p hp2 => hp p (List.mem_cons_of_mem _ hp2), _, rfl⟩
  · rintro τ h' ⟨rfl, -, v4, rfl⟩
    refine ⟨trivial, ?_⟩
    subst hP
    dsimp only
    refine seq_step fun P hP => ?_
    simp only [mPar, mBlt, mCons, mNil, mVar, gt, N3.st]
    refine ⟨ls, rfl, ok, ?_⟩
    subst hP
    refine seq_step fun P hP => ?_
    simp only [mFor, mEnumA, mCons, mNil, mVar, gt, N3.listed]
    refine ⟨by rw [List.length_map]; show _ ≤ 16777216; omega, ?_⟩
    refine forL_of (W := fun ps τ h'' => h'' = h' ∧ ∃ (ds r : List (List Ln)) (be : List Ln) (v7 v8 : Option PV), runsL ls = ds ++ r ∧ ps = (r.zipIdx ds.length).map (fun x => PV.tup [.int (x.2 : Nat), tupS x.1]) ∧ rgo [] be = r ∧ LsOk be ∧
      τ = [some (.ref D.d), some (tupS ls), some (.int at_), some (tupS us), v4, some (.tup ((runsL ls).map tupS)), some (tupS be), v7, v8]) ?_ ?_ _ _ _ ⟨rfl, [], runsL ls, ls, none, none, rfl, ?_, rfl, ok, rfl⟩
    · rintro p ps τ h'' ⟨rfl, ds, r, be, v7, v8, er, ee, eb, okb, rfl⟩
      obtain ⟨x, r, rfl⟩ : ∃ x r', r = x :: r' := by
        cases r with
        | nil => cases ee
        | cons x r => exact ⟨x, r, rfl⟩
      rw [List.zipIdx_cons, List.map_cons] at ee
      obtain ⟨rfl, rfl⟩ := List.cons.inj ee
      have hx : x ∈ runsL ls := by rw [er]; simp
      have x6 := (runs_ok ok x hx).2.1
      refine ⟨trivial, fun P' hP' => ?_⟩
      simp only [gT, gsCons, gsNil, gN, N3.st]
      refine ⟨rfl, trivial, ?_⟩
      refine seq_step fun P2 hP2 => ?_
      simp only [mIfS, mTest, mB, mBlt, mSl, mPart, mNoPart, mCons, mNil, mVar, gt]
      refine ⟨be, rfl, okb, ?_⟩
      have e2 : runsL be = x :: r := eb
      rw [e2]
      have t : TH 2 121163 (.tup ((x :: r).map tupS)) := th_runs ok (fun y hy => by rw [er]; exact List.mem_append_right _ hy) (by have := congrArg List.length er; rw [List.length_append] at this; omega)
      refine TH.repr t (by decide) (by decide) ?_
      simp only [N3.rSl]
      have e3 : N3.cut ((runsL ls).map tupS) (some ((ds.length : Nat) : Int)) none = (x :: r).map tupS := by
        rw [cut_up _ _ (by omega), er, List.map_append, show (((ds.length : Nat) : Int)).toNat = (ds.map tupS).length by rw [List.length_map]; omega, List.drop_left]
      rw [e3]
      refine TH.repr t (by decide) (by decide) (nes_same ?_)
      simp only [Bool.false_eq_true, if_false, mNx]
      subst hP2
      simp only [mAsg, mSl, mBlt, mPart, mNoPart, mCons, mNil, mVar, gt, gN, N3.st]
      refine len_tupS (by omega) ?_
      simp only [tupS, N3.rSl, cut_up _ ((x.length : Nat) : Int) (show (0 : Int) ≤ ((x.length : Nat) : Int) by omega)]
      obtain ⟨-, e4⟩ := rgo_rest be [] x r eb
      refine hP' _ _ ⟨rfl, ds ++ [x], r, be.drop x.length, some (.int (ds.length : Nat)), some (tupS x), by rw [er, List.append_assoc]; rfl, by rw [List.length_append]; rfl, e4, ⟨fun y hy => okb.1 y (List.mem_of_mem_drop hy), by rw [List.length_drop]; have := okb.2; omega⟩, ?_⟩
      rw [show (((x.length : Nat) : Int)).toNat = x.length by omega]
      unfold tupS stz
      rw [List.map_drop]
    · rintro τ h'' ⟨rfl, ds, r, be, v7, v8, er, ee, eb, okb, rfl⟩
      refine ⟨trivial, ?_⟩
      subst hP
      dsimp only
      simp only [mRet, mC]
      exact q _ (A3.mono (by omega))
    · unfold enm
      rw [List.zipIdx_map, List.map_map]; rfl
  · simp only [List.mem_cons, List.not_mem_nil, or_false] at hp
    rcases hp with rfl | rfl | rfl
    · refine ⟨ls.take at_.toNat ++ ls.drop (at_ + 1).toNat, by unfold tupS stz; rw [List.map_append, List.map_take, List.map_drop], sub _ (fun x hx => .inl ?_) ?_⟩
      · rcases List.mem_append.mp hx with z | z
        · exact List.mem_of_mem_take z
        · exact List.mem_of_mem_drop z
      · rw [List.length_append, List.length_take, List.length_drop]; omega
    · exact ⟨us, rfl, sub _ (fun x hx => .inr hx) (by omega)⟩
    · exact ⟨ls.drop at_.toNat, by unfold tupS stz; rw [List.map_drop], sub _ (fun x hx => .inl (List.mem_of_mem_drop hx)) (by rw [List.length_drop]; omega)⟩
theorem pure_law_reel : ∀ qs h Q, qs.length = 1 → spDeck qs h Q → m_law_reel (ends Q) (sp0 4 qs) h := pure_deck
theorem pure_law_next : ∀ qs h Q, qs.length = 2 → spDraw qs h Q → m_law_next (ends Q) (sp0 5 qs) h := pure_draw
theorem pure_law_one_of : ∀ qs h Q, qs.length = 2 → spPick qs h Q → m_law_one_of spDraw (ends Q) (sp0 2 qs) h := pure_pick
theorem pure_law : ∀ qs h Q, qs.length = 1 → spLaw 63 qs h Q → m_law spDeck spLines spMany spNear spRight (ends Q) (sp0 5 qs) h := by
  rintro _ h Q - ⟨ns, rfl, hn, -, rfl, k⟩
  unfold m_law
  refine seq_step fun P hP => ?_
  simp only [mAsg, mBlt, mCons, mNil, mVar, gt, gN, N3.st, N3.sp0]
  refine ⟨ns, rfl, hn, fun D h0 _ a0 => ?_⟩
  subst hP
  refine seq_step fun P hP => ?_
  simp only [mFor, mRng1, mCons, mNil, mVar, mC, gt]
  refine ⟨⟨by decide, by decide⟩, ?_⟩
  refine forL_of (W := fun ps τ h' => ∃ (j : Nat) (v2 v3 v4 : Option PV), ps.length + j = 4 ∧ D.At (2000 * j) h' ∧ τ = [some (.lst (ns.map PV.int)), some (.ref D.d), v2, v3, v4]) ?_ ?_ _ _ _ ⟨0, none, none, none, by rw [rng_len]; rfl, a0, rfl⟩
  · rintro p ps τ h1 ⟨j, v2, v3, v4, jl, A1, rfl⟩
    refine ⟨trivial, fun P' hP' => ?_⟩
    rw [List.length_cons] at jl
    simp only [gN, N3.st]
    refine seq_step fun P2 hP2 => ?_
    simp only [mAsg, mBlt, mCons, mNil, mVar, gt, gN, N3.st]
    refine ⟨D, _, rfl, A1, by omega, fun m h2 m0 m1 A2 => ?_⟩
    refine ⟨D, _, m, rfl, A2, by omega, m0, m1, fun ls h3 ok lm A3 => ?_⟩
    have t : TH 1 (80 * 504 + 3) (tupS ls) := th_lines ok.1 ok.2
    subst hP2
    refine seq_step fun P2 hP2 => ?_
    simp only [mAsg, mBlt, mCons, mNil, mVar, gt, gN, N3.st]
    refine TH.repr t (by decide) (by decide) ?_
    subst hP2
    simp only [mIfS, mOrT, mNotT, mTest, mB, mBlt, mCons, mNil, mVar, gt]
    refine ⟨ls, rfl, ok, ?_⟩
    simp only [Bool.not_true, Bool.false_eq_true, if_false]
    refine ⟨D, _, ls, rfl, A3, by omega, ok, by omega, fun h4 A4 => ?_⟩
    simp only [Bool.not_true, Bool.false_eq_true, if_false]
    refine TH.repr t (by decide) (by decide) (nes_same ?_)
    simp only [Bool.false_eq_true, if_false, mNx]
    exact hP' _ _ ⟨j + 1, _, _, _, by omega, A4.mono (by omega), rfl⟩
  · rintro τ h1 ⟨j, v2, v3, v4, jl, A1, rfl⟩
    refine ⟨trivial, ?_⟩
    subst hP
    dsimp only
    simp only [mRet, mBlt, mTup, mCons, mNil]
    refine ⟨[], rfl, ⟨fun l hl => (List.not_mem_nil hl).elim, Nat.zero_le _⟩, ?_⟩
    exact k _
end Wneversaid_k25_runs

open PySem PySem.W PyProof.Rows
set_option maxRecDepth 100000 in
set_option maxHeartbeats 0 in
theorem PySem.Challenge.cw_neversaid_k25_runs_holds : PySem.Challenge.rw_neversaid_k25_runs.Holds := by
  w_on; o_law; k_head; (case hw => w_witness2)
  k_fill
  refine N3.walk_g (l := PySem.Challenge.rw_neversaid_k25_runs) (k := 7) (x := "_law_script") rfl (by decide) rfl ⟨rfl, by decide, by decide⟩ (fun w h Y => PySem.W.kIn_of Y) ?F
  case F =>
    intro w mg fa h KX G hmg
    refine' Wneversaid_k25_runs.all_mk KX G hmg ?a_place_of ?l_place_of ?c_place_of ?k_place_of ?a_law_reel ?l_law_reel ?c_law_reel ?k_law_reel ?a_law_next ?l_law_next ?c_law_next ?k_law_next ?a_law_mixed ?l_law_mixed ?c_law_mixed ?k_law_mixed ?a_mixed ?l_mixed ?c_mixed ?k_mixed ?a_law_one_of ?l_law_one_of ?c_law_one_of ?k_law_one_of ?a_law_many ?l_law_many ?c_law_many ?k_law_many ?a_law_ends ?l_law_ends ?c_law_ends ?k_law_ends ?a_ends_run ?l_ends_run ?c_ends_run ?k_ends_run ?a_law_line ?l_law_line ?c_law_line ?k_law_line ?a_law_cut_right ?l_law_cut_right ?c_law_cut_right ?k_law_cut_right ?a_runs_of ?l_runs_of ?c_runs_of ?k_runs_of ?a_law_lines ?l_law_lines ?c_law_lines ?k_law_lines ?a_law_right ?l_law_right ?c_law_right ?k_law_right ?a_law_near_right ?l_law_near_right ?c_law_near_right ?k_law_near_right ?a_law ?l_law ?c_law ?k_law ?z_len ?z_list ?z_range ?z_str ?z_isinstance ?z_tuple ?z_enumerate ?z_repr ?z_sorted ?z_set ?g_SIGNS ?g_FIRST ?g_TIMES ?g_P ?g_MORE ?g_CUT_BY ?g_MOST_LINES Wneversaid_k25_runs.pure_place_of Wneversaid_k25_runs.pure_law_reel Wneversaid_k25_runs.pure_law_next Wneversaid_k25_runs.pure_law_mixed Wneversaid_k25_runs.pure_mixed Wneversaid_k25_runs.pure_law_one_of Wneversaid_k25_runs.pure_law_many Wneversaid_k25_runs.pure_law_ends Wneversaid_k25_runs.pure_ends_run Wneversaid_k25_runs.pure_law_line Wneversaid_k25_runs.pure_law_cut_right Wneversaid_k25_runs.pure_runs_of Wneversaid_k25_runs.pure_law_lines Wneversaid_k25_runs.pure_law_right Wneversaid_k25_runs.pure_law_near_right Wneversaid_k25_runs.pure_law
    (case a_place_of => k_is)
    (case l_place_of => k_is)
    (case c_place_of => k_is)
    (case k_place_of => k_is)
    (case a_law_reel => k_is)
    (case l_law_reel => k_is)
    (case c_law_reel => k_is)
    (case k_law_reel => k_is)
    (case a_law_next => k_is)
    (case l_law_next => k_is)
    (case c_law_next => k_is)
    (case k_law_next => k_is)
    (case a_law_mixed => k_is)
    (case l_law_mixed => k_is)
    (case c_law_mixed => k_is)
    (case k_law_mixed => k_is)
    (case a_mixed => k_is)
    (case l_mixed => k_is)
    (case c_mixed => k_is)
    (case k_mixed => k_is)
    (case a_law_one_of => k_is)
    (case l_law_one_of => k_is)
    (case c_law_one_of => k_is)
    (case k_law_one_of => k_is)
    (case a_law_many => k_is)
    (case l_law_many => k_is)
    (case c_law_many => k_is)
    (case k_law_many => k_is)
    (case a_law_ends => k_is)
    (case l_law_ends => k_is)
    (case c_law_ends => k_is)
    (case k_law_ends => k_is)
    (case a_ends_run => k_is)
    (case l_ends_run => k_is)
    (case c_ends_run => k_is)
    (case k_ends_run => k_is)
    (case a_law_line => k_is)
    (case l_law_line => k_is)
    (case c_law_line => k_is)
    (case k_law_line => k_is)
    (case a_law_cut_right => k_is)
    (case l_law_cut_right => k_is)
    (case c_law_cut_right => k_is)
    (case k_law_cut_right => k_is)
    (case a_runs_of => k_is)
    (case l_runs_of => k_is)
    (case c_runs_of => k_is)
    (case k_runs_of => k_is)
    (case a_law_lines => k_is)
    (case l_law_lines => k_is)
    (case c_law_lines => k_is)
    (case k_law_lines => k_is)
    (case a_law_right => k_is)
    (case l_law_right => k_is)
    (case c_law_right => k_is)
    (case k_law_right => k_is)
    (case a_law_near_right => k_is)
    (case l_law_near_right => k_is)
    (case c_law_near_right => k_is)
    (case k_law_near_right => k_is)
    (case a_law => k_is)
    (case l_law => k_is)
    (case c_law => k_is)
    (case k_law => k_is)
    (case z_len => k_is)
    (case z_list => k_is)
    (case z_range => k_is)
    (case z_str => k_is)
    (case z_isinstance => k_is)
    (case z_tuple => k_is)
    (case z_enumerate => k_is)
    (case z_repr => k_is)
    (case z_sorted => k_is)
    (case z_set => k_is)
    (case g_SIGNS => k_is)
    (case g_FIRST => k_is)
    (case g_TIMES => k_is)
    (case g_P => k_is)
    (case g_MORE => k_is)
    (case g_CUT_BY => k_is)
    (case g_MOST_LINES => k_is)

