import PyProof.Rows.All
import Wide.All
import OpenK.AllK
import Wide.FinOn
import HandS.ForMost
import HandS.TupAny
import HandS.Small
import HandS.TupMul
import HandS.Style
import HandS.Steps
import HandS.StrMore
import HandS.Codes
import HandS.EndBits
import HandS.Zip
import HandS.Dict
import HandS.IsInst
import HandS.More
import KE.SortData
import HandS.FStr
import PyProof.ListStr
import KE.KUnpackStar
import HandS.NoneIn
import KE.GoesEnum
import KE.GoesMore
import HandS.Flow
import HandS.Defaults
import HandS.MakeKwOnly
import HandS.WordsDict
import HandS.DictComp
import HandS.Set
import HandS.SetFor
import HandS.SetTxt0
import HandS.TupSets
import KE.KeyNested
import HandS.Lambda
import HandS.AnyAll
import HandS.Conv
import HandS.Keys
import HandS.SortKw
import KE.SortKeyHeap
import KE.KNestM
import KE.KStrBytes
import KE.SortLaws
import PySem.Challenge.RW_neversaid_k09_judged_by_an_own_look
set_option Elab.async false
set_option linter.all false
set_option maxRecDepth 100000
set_option maxHeartbeats 4000000
/-! Own layer over the hand layer: values with tuples, kept lists, kept dicts as plain data; a store of what may change. -/
namespace N3
open PySem PySem.Spec PyProof.Rows L2

/-- a value: tup, lst, dct are data that no one changes any more; ref is an object that may change -/
inductive PV where
  | non | bl (b : Bool) | int (i : Int) | str (x : Str) | tup (xs : List PV) | lst (xs : List PV) | dct (ks : List Key) (vs : List PV) | ref (a : Addr) | ty (n : String)

/-- an object that may change -/
inductive PO where
  | lst (xs : List PV)
  | dct (ks : List Key) (vs : List PV)
  | ins (C : Addr) (ns : List Str) (vs : List PV)
  | lck (ks : List Key) (vs : List PV)
  | xd (ns : List Str) (vs : List PV)
  | tab (q : Str)

abbrev PH := Addr → Option PO
abbrev PSt := List (Option PV)
def up (h : PH) (a : Addr) (o : PO) : PH := fun b => if b = a then some o else h b
theorem up_same {h : PH} {a : Addr} {o : PO} : up h a o a = some o := if_pos rfl
theorem up_ne {h : PH} {a b : Addr} {o : PO} (e : b ≠ a) : up h a o b = h b := if_neg e
theorem up_up {h : PH} {a : Addr} {o u : PO} : up (up h a o) a u = up h a u := by
  funext b; unfold up; by_cases e : b = a
  · rw [if_pos e, if_pos e]
  · rw [if_neg e, if_neg e, if_neg e]
theorem up_swap {h : PH} {a b : Addr} {o u : PO} (e : a ≠ b) : up (up h a o) b u = up (up h b u) a o := by
  funext c; unfold up
  by_cases h1 : c = a
  · subst h1; rw [if_neg e, if_pos rfl, if_pos rfl]
  · by_cases h2 : c = b
    · rw [if_pos h2, if_neg h1, if_pos h2]
    · rw [if_neg h2, if_neg h1, if_neg h1, if_neg h2]
def gt : PSt → Nat → Option PV
  | [], _ => none
  | x :: _, 0 => x
  | _ :: r, n + 1 => gt r n
def st : PSt → Nat → Option PV → PSt
  | [], _, _ => []
  | _ :: r, 0, v => v :: r
  | x :: r, n + 1, v => x :: st r n v
theorem gt_eq : ∀ (σ : PSt) (i : Nat), gt σ i = (σ[i]?).join
  | [], _ => by simp [gt]
  | _ :: _, 0 => by simp [gt]
  | _ :: r, n + 1 => by simp [gt, gt_eq r n]
theorem st_eq : ∀ (σ : PSt) (i : Nat) (v : Option PV), st σ i v = σ.set i v
  | [], _, _ => rfl
  | _ :: _, 0, _ => rfl
  | x :: r, n + 1, v => by simp [st, st_eq r n v]

/-! ### what stands for what -/
/-- a list that no one changes -/
def FrL (K : PySem.W.Frag) (H : Hp) (a : Addr) (xs : List V) : Prop :=
  (∃ o, H a = some (.frz o (.lst xs))) ∨
    ∃ (o : Obj) (its : Array Value) (n : Nat), K.lookup a = some o ∧ o.cls = .type "list" ∧ o.dict = none ∧ o.data = .seq its n ∧ its.size ≤ sizeLine ∧ Vals xs its.toList
theorem FrL.sq {K : PySem.W.Frag} {H : Hp} {a : Addr} {xs : List V} (h : FrL K H a xs) : SqL K H a xs := by
  rcases h with ⟨o, h⟩ | h
  · exact .inl (.inr ⟨o, h⟩)
  · exact .inr h
def FrD (H : Hp) (a : Addr) (kvs : List (Key × V)) : Prop := ∃ o, H a = some (.frz o (.dK kvs))
mutual
def Rel (K : PySem.W.Frag) (H : Hp) : PV → V → Prop
  | .non, v => v = .non
  | .bl b, v => v = .bl b
  | .int i, v => v = .int i
  | .str x, v => v = .str x
  | .tup ps, v => ∃ a xs, v = .ref a ∧ SqT K H a xs ∧ Rels K H ps xs
  | .lst ps, v => ∃ a xs, v = .ref a ∧ FrL K H a xs ∧ Rels K H ps xs
  | .dct ks vs, v => ∃ a kvs, v = .ref a ∧ FrD H a kvs ∧ ks = kvs.map (·.1) ∧ Rels K H vs (kvs.map (·.2))
  | .ref a, v => v = .ref a
  | .ty n, v => v = .ty n
def Rels (K : PySem.W.Frag) (H : Hp) : List PV → List V → Prop
  | [], xs => xs = []
  | p :: ps, xs => ∃ v vs, xs = v :: vs ∧ Rel K H p v ∧ Rels K H ps vs
end
/-- what stays from one abstract heap to a later one -/
structure Mono (H H' : Hp) : Prop where
  t : ∀ b xs, H b = some (.tup xs) → H' b = some (.tup xs)
  f : ∀ b o u, H b = some (.frz o u) → H' b = some (.frz o u)
theorem Mono.refl (H : Hp) : Mono H H := ⟨fun _ _ h => h, fun _ _ _ h => h⟩
theorem Mono.trans {H H1 H2 : Hp} (a : Mono H H1) (b : Mono H1 H2) : Mono H H2 :=
  ⟨fun c xs h => b.t c xs (a.t c xs h), fun c o u h => b.f c o u (a.f c o u h)⟩
theorem Mono.new {H : Hp} {a : Addr} {o : HO} (h : H a = none) : Mono H (upd H a o) :=
  ⟨fun b xs e => by rw [upd_ne (ne_of_none e h)]; exact e, fun b u w e => by rw [upd_ne (ne_of_none e h)]; exact e⟩
theorem Mono.wr {H : Hp} {a : Addr} {o u : HO} (h : H a = some u) (n1 : ∀ xs, u ≠ .tup xs) (n2 : ∀ o w, u ≠ .frz o w) : Mono H (upd H a o) :=
  ⟨fun b xs e => by rw [upd_ne (ne_of e h (n1 xs).symm)]; exact e, fun b o' w e => by rw [upd_ne (ne_of e h (n2 o' w).symm)]; exact e⟩
theorem Mono.lst {H : Hp} {a : Addr} {o : HO} {xs : List V} (h : H a = some (.lst xs)) : Mono H (upd H a o) := .wr h (fun _ e => nomatch e) (fun _ _ e => nomatch e)
theorem Mono.dK {H : Hp} {a : Addr} {o : HO} {kvs : List (Key × V)} (h : H a = some (.dK kvs)) : Mono H (upd H a o) := .wr h (fun _ e => nomatch e) (fun _ _ e => nomatch e)
theorem Mono.ins {H : Hp} {a C dx : Addr} {o : HO} {fs : List (Str × V)} (h : H a = some (.ins C dx fs)) : Mono H (upd H a o) := .wr h (fun _ e => nomatch e) (fun _ _ e => nomatch e)
section
variable {K : PySem.W.Frag} {H H' : Hp}
theorem Mono.rd {a : Addr} {u : HO} (m : Mono H H') (hu : ∃ xs, u = .tup xs) (h : Rd H a u) : Rd H' a u := by
  obtain ⟨xs, rfl⟩ := hu
  rcases h with h | ⟨o, h⟩
  · exact .inl (m.t _ _ h)
  · exact .inr ⟨o, m.f _ _ _ h⟩
theorem Mono.sqT {a : Addr} {xs : List V} (m : Mono H H') (h : SqT K H a xs) : SqT K H' a xs := by
  rcases h with h | h
  · exact .inl (m.rd ⟨_, rfl⟩ h)
  · exact .inr h
theorem Mono.frL {a : Addr} {xs : List V} (m : Mono H H') (h : FrL K H a xs) : FrL K H' a xs := by
  rcases h with ⟨o, h⟩ | h
  · exact .inl ⟨o, m.f _ _ _ h⟩
  · exact .inr h
mutual
theorem Rel.mono (m : Mono H H') : ∀ (p : PV) (v : V), Rel K H p v → Rel K H' p v
  | .non, _, h => by simpa only [Rel] using h
  | .bl _, _, h => by simpa only [Rel] using h
  | .int _, _, h => by simpa only [Rel] using h
  | .str _, _, h => by simpa only [Rel] using h
  | .tup ps, v, h => by
    simp only [Rel] at h ⊢
    obtain ⟨a, xs, e, h1, h2⟩ := h
    exact ⟨a, xs, e, m.sqT h1, Rels.mono m ps xs h2⟩
  | .lst ps, v, h => by
    simp only [Rel] at h ⊢
    obtain ⟨a, xs, e, h1, h2⟩ := h
    exact ⟨a, xs, e, m.frL h1, Rels.mono m ps xs h2⟩
  | .dct ks vs, v, h => by
    simp only [Rel] at h ⊢
    obtain ⟨a, kvs, e, ⟨o, h1⟩, h2, h3⟩ := h
    exact ⟨a, kvs, e, ⟨o, m.f _ _ _ h1⟩, h2, Rels.mono m vs _ h3⟩
  | .ref _, _, h => by simpa only [Rel] using h
  | .ty _, _, h => by simpa only [Rel] using h
theorem Rels.mono (m : Mono H H') : ∀ (ps : List PV) (xs : List V), Rels K H ps xs → Rels K H' ps xs
  | [], _, h => by simpa only [Rels] using h
  | p :: ps, xs, h => by
    simp only [Rels] at h ⊢
    obtain ⟨v, vs, e, h1, h2⟩ := h
    exact ⟨v, vs, e, Rel.mono m p v h1, Rels.mono m ps vs h2⟩
end
theorem Rels.nil_iff {xs : List V} : Rels K H [] xs ↔ xs = [] := by simp only [Rels]
theorem Rels.nil : Rels K H [] [] := by simp only [Rels]
theorem Rels.cons {p : PV} {ps : List PV} {v : V} {vs : List V} (h : Rel K H p v) (t : Rels K H ps vs) : Rels K H (p :: ps) (v :: vs) := by
  simp only [Rels]; exact ⟨v, vs, rfl, h, t⟩
theorem Rels.uncons {p : PV} {ps : List PV} {xs : List V} (h : Rels K H (p :: ps) xs) : ∃ v vs, xs = v :: vs ∧ Rel K H p v ∧ Rels K H ps vs := by
  simpa only [Rels] using h
theorem Rels.length : ∀ {ps : List PV} {xs : List V}, Rels K H ps xs → ps.length = xs.length
  | [], _, h => by rw [Rels.nil_iff] at h; subst h; rfl
  | p :: ps, _, h => by
    obtain ⟨v, vs, rfl, _, t⟩ := h.uncons
    rw [List.length_cons, List.length_cons, t.length]
theorem Rels.append : ∀ {ps qs : List PV} {xs ys : List V}, Rels K H ps xs → Rels K H qs ys → Rels K H (ps ++ qs) (xs ++ ys)
  | [], _, _, _, h, g => by rw [Rels.nil_iff] at h; subst h; exact g
  | p :: ps, _, _, _, h, g => by
    obtain ⟨v, vs, rfl, h1, t⟩ := h.uncons
    exact .cons h1 (Rels.append t g)
theorem Rels.get : ∀ {ps : List PV} {xs : List V} {i : Nat} {p : PV}, Rels K H ps xs → ps[i]? = some p → ∃ v, xs[i]? = some v ∧ Rel K H p v
  | [], _, _, _, _, e => by simp at e
  | p :: ps, _, 0, q, h, e => by
    obtain ⟨v, vs, rfl, h1, t⟩ := h.uncons
    simp at e; subst e
    exact ⟨v, rfl, h1⟩
  | p :: ps, _, i + 1, q, h, e => by
    obtain ⟨v, vs, rfl, h1, t⟩ := h.uncons
    obtain ⟨w, e1, r⟩ := Rels.get (i := i) (p := q) t (by simpa using e)
    exact ⟨w, by simpa using e1, r⟩
theorem Rels.get' : ∀ {ps : List PV} {xs : List V} {i : Nat} {v : V}, Rels K H ps xs → xs[i]? = some v → ∃ p, ps[i]? = some p ∧ Rel K H p v := fun {ps xs i v} h e => by
  have hi : i < ps.length := by rw [h.length]; exact (List.getElem?_eq_some_iff.mp e).1
  obtain ⟨w, e1, r⟩ := h.get (List.getElem?_eq_getElem hi)
  rw [e] at e1; cases e1
  exact ⟨_, List.getElem?_eq_getElem hi, r⟩
theorem Rels.of_get : ∀ {ps : List PV} {xs : List V}, ps.length = xs.length → (∀ (i : Nat) (p : PV) (v : V), ps[i]? = some p → xs[i]? = some v → Rel K H p v) → Rels K H ps xs
  | [], [], _, _ => .nil
  | p :: ps, x :: xs, hl, h => .cons (h 0 p x rfl rfl) (Rels.of_get (by simpa using hl) fun i q v e1 e2 => h (i + 1) q v (by simpa using e1) (by simpa using e2))
  | [], _ :: _, hl, _ => by simp at hl
  | _ :: _, [], hl, _ => by simp at hl
theorem Rels.set {p : PV} {v : V} (r : Rel K H p v) : ∀ {ps : List PV} {xs : List V} (i : Nat), Rels K H ps xs → Rels K H (ps.set i p) (xs.set i v)
  | [], _, _, h => by rw [Rels.nil_iff] at h; subst h; exact .nil
  | q :: ps, _, 0, h => by obtain ⟨v, vs, rfl, h1, t⟩ := h.uncons; exact .cons r t
  | q :: ps, _, i + 1, h => by obtain ⟨v, vs, rfl, h1, t⟩ := h.uncons; exact .cons h1 (Rels.set r i t)
theorem Rels.take : ∀ {ps : List PV} {xs : List V} (n : Nat), Rels K H ps xs → Rels K H (ps.take n) (xs.take n)
  | _, _, 0, _ => by simp only [List.take_zero]; exact .nil
  | [], _, n + 1, h => by rw [Rels.nil_iff] at h; subst h; exact .nil
  | q :: ps, _, n + 1, h => by obtain ⟨v, vs, rfl, h1, t⟩ := h.uncons; exact .cons h1 (Rels.take n t)
theorem Rels.drop : ∀ {ps : List PV} {xs : List V} (n : Nat), Rels K H ps xs → Rels K H (ps.drop n) (xs.drop n)
  | _, _, 0, h => h
  | [], _, n + 1, h => by rw [Rels.nil_iff] at h; subst h; exact .nil
  | q :: ps, _, n + 1, h => by obtain ⟨v, vs, rfl, h1, t⟩ := h.uncons; exact Rels.drop n t
theorem Rels.reverse : ∀ {ps : List PV} {xs : List V}, Rels K H ps xs → Rels K H ps.reverse xs.reverse
  | [], _, h => by rw [Rels.nil_iff] at h; subst h; exact .nil
  | q :: ps, _, h => by
    obtain ⟨v, vs, rfl, h1, t⟩ := h.uncons
    rw [List.reverse_cons, List.reverse_cons]
    exact (Rels.reverse t).append (.cons h1 .nil)
theorem Rels.one {p : PV} {xs : List V} (h : Rels K H [p] xs) : ∃ v, xs = [v] ∧ Rel K H p v := by
  obtain ⟨v, vs, rfl, h1, t⟩ := h.uncons
  rw [Rels.nil_iff] at t; subst t
  exact ⟨v, rfl, h1⟩
theorem Rels.two {p q : PV} {xs : List V} (h : Rels K H [p, q] xs) : ∃ v w, xs = [v, w] ∧ Rel K H p v ∧ Rel K H q w := by
  obtain ⟨v, vs, rfl, h1, t⟩ := h.uncons
  obtain ⟨w, rfl, h2⟩ := t.one
  exact ⟨v, w, rfl, h1, h2⟩
theorem Rels.len0 {xs : List V} (h : Rels K H [] xs) : xs = [] := Rels.nil_iff.mp h
end

/-- a code object's table: each code object that it tells bears the name q -/
def TabOk (H : Hp) (q : Str) (ps : Array Value) : Prop := TriplesOk ps.toList ∧ ∀ (pos : Pos) (cv : Value), codeAmong pos ps.toList = some cv → ∃ (c : Addr) (oc : Obj) (vs : Array Value) (t : Tok), cv = .ref c ∧ H c = some (.frz oc (.own 0)) ∧ oc.data = .fields vs ∧ vs[1]? = some (.str q t)
/-- an object of the store -/
def RelO (K : PySem.W.Frag) (H : Hp) : PO → HO → Prop
  | .lst ps, o => ∃ xs, o = .lst xs ∧ Rels K H ps xs
  | .dct ks vs, o => ∃ kvs, o = .dK kvs ∧ ks = kvs.map (·.1) ∧ Rels K H vs (kvs.map (·.2))
  | .ins C ns vs, o => ∃ dx fs, o = .ins C dx fs ∧ ns = fs.map (·.1) ∧ Rels K H vs (fs.map (·.2))
  | .lck ks vs, o => ∃ ob kvs, o = .frz ob (.dK kvs) ∧ ks = kvs.map (·.1) ∧ Rels K H vs (kvs.map (·.2))
  | .xd ns vs, o => ∃ fs, o = .xd fs ∧ ns = fs.map (·.1) ∧ Rels K H vs (fs.map (·.2))
  | .tab q, o => ∃ ps, o = .tbl ps ∧ TabOk H q ps
def Sim (K : PySem.W.Frag) (H : Hp) (h : PH) : Prop := ∀ a o, h a = some o → ∃ u, H a = some u ∧ RelO K H o u
def SimS (K : PySem.W.Frag) (H : Hp) (σ : L2.St) (τ : PSt) : Prop := σ.length = τ.length ∧ ∀ i p, gt τ i = some p → ∃ v, σ[i]? = some (some v) ∧ Rel K H p v
section
variable {K : PySem.W.Frag} {H H' : Hp} {h : PH} {σ : L2.St} {τ : PSt} {a : Addr}
theorem TabOk.mono (m : Mono H H') {q : Str} {ps : Array Value} (t : TabOk H q ps) : TabOk H' q ps :=
  ⟨t.1, fun pos cv e => let ⟨c, oc, vs, tk, e1, e2, r⟩ := t.2 pos cv e; ⟨c, oc, vs, tk, e1, m.f _ _ _ e2, r⟩⟩
theorem RelO.mono (m : Mono H H') : ∀ {o : PO} {u : HO}, RelO K H o u → RelO K H' o u
  | .lst ps, _, ⟨xs, e, r⟩ => ⟨xs, e, r.mono m⟩
  | .dct ks vs, _, ⟨kvs, e, r, q⟩ => ⟨kvs, e, r, q.mono m⟩
  | .ins C ns vs, _, ⟨dx, fs, e, n, r⟩ => ⟨dx, fs, e, n, r.mono m⟩
  | .lck ks vs, _, ⟨ob, kvs, e, n, r⟩ => ⟨ob, kvs, e, n, r.mono m⟩
  | .xd ns vs, _, ⟨fs, e, n, r⟩ => ⟨fs, e, n, r.mono m⟩
  | .tab q, _, ⟨ps, e, t⟩ => ⟨ps, e, t.mono m⟩
theorem SimS.mono (m : Mono H H') (s : SimS K H σ τ) : SimS K H' σ τ := ⟨s.1, fun i p e => let ⟨v, e1, r⟩ := s.2 i p e; ⟨v, e1, r.mono m⟩⟩
theorem SimS.get {i : Nat} {p : PV} (s : SimS K H σ τ) (e : gt τ i = some p) : ∃ v, σ[i]? = some (some v) ∧ Rel K H p v := s.2 i p e
theorem SimS.set {i : Nat} {p : PV} {v : V} (s : SimS K H σ τ) (r : Rel K H p v) : SimS K H (σ.set i (some v)) (st τ i (some p)) := by
  refine ⟨by rw [st_eq, List.length_set, List.length_set]; exact s.1, fun j q e => ?_⟩
  rw [st_eq, gt_eq] at e
  by_cases hj : i = j
  · subst hj
    by_cases hi : i < τ.length
    · rw [List.getElem?_set_self hi] at e
      simp at e
      subst e
      exact ⟨v, by rw [List.getElem?_set_self (by rw [s.1]; exact hi)], r⟩
    · rw [List.getElem?_eq_none (by simpa using hi)] at e
      simp at e
  · rw [List.getElem?_set_ne hj] at e ⊢
    exact s.2 j q (by rw [gt_eq]; exact e)
/-- the store may know less than there is -/
theorem Sim.less {h' : PH} (s : Sim K H h) (e : ∀ a o, h' a = some o → h a = some o) : Sim K H h' := fun a o q => s a o (e a o q)
theorem Sim.fresh (s : Sim K H h) (e : H a = none) : h a = none := by
  cases q : h a with
  | none => rfl
  | some o =>
    obtain ⟨u, e1, _⟩ := s a o q
    rw [e] at e1; cases e1
theorem Sim.new {o : HO} (s : Sim K H h) (e : H a = none) : Sim K (upd H a o) h := fun b p q => by
  obtain ⟨u, e1, r⟩ := s b p q
  exact ⟨u, by rw [upd_ne (ne_of_none e1 e)]; exact e1, r.mono (Mono.new e)⟩
/-- an object of the store is what it was, or a new one -/
theorem Sim.put {o : PO} {u : HO} (s : Sim K H h) (m : Mono H (upd H a u)) (r : RelO K (upd H a u) o u) : Sim K (upd H a u) (up h a o) := fun b p q => by
  by_cases hb : b = a
  · subst hb
    rw [up_same] at q; cases q
    exact ⟨u, upd_same, r⟩
  · rw [up_ne hb] at q
    obtain ⟨w, e1, r1⟩ := s b p q
    exact ⟨w, by rw [upd_ne hb]; exact e1, r1.mono m⟩
/-- .. forgotten where it changes kind -/
theorem Sim.drop {u : HO} (s : Sim K H h) (m : Mono H (upd H a u)) (e : h a = none) : Sim K (upd H a u) h := fun b p q => by
  by_cases hb : b = a
  · subst hb
    rw [e] at q; cases q
  · obtain ⟨w, e1, r1⟩ := s b p q
    exact ⟨w, by rw [upd_ne hb]; exact e1, r1.mono m⟩
end

/-- from one state to a later one: what is not of the store stays as it is and comes to no store -/
structure Go (H : Hp) (h : PH) (H1 : Hp) (h1 : PH) : Prop where
  mono : Mono H H1
  frame : ∀ b u, H b = some u → h b = none → H1 b = some u
  dom : ∀ b u, H b = some u → h b = none → h1 b = none
  live : ∀ b, H1 b = none → H b = none
section
variable {H H1 H2 : Hp} {h h1 h2 : PH} {a : Addr} {u : HO} {o : PO}
theorem live_upd (b : Addr) (e : upd H a u b = none) : H b = none := by
  unfold upd at e; split at e
  · cases e
  · exact e
theorem Go.refl : Go H h H h := ⟨Mono.refl H, fun _ _ e _ => e, fun _ _ _ e => e, fun _ e => e⟩
theorem Go.trans (g : Go H h H1 h1) (g' : Go H1 h1 H2 h2) : Go H h H2 h2 :=
  ⟨g.mono.trans g'.mono, fun b w e n => g'.frame b w (g.frame b w e n) (g.dom b w e n), fun b w e n => g'.dom b w (g.frame b w e n) (g.dom b w e n), fun b e => g.live b (g'.live b e)⟩
/-- a new object that is not of the store; one of the store -/
theorem Go.new (e : H a = none) : Go H h (upd H a u) h := ⟨Mono.new e, fun b w q _ => by rw [upd_ne (ne_of_none q e)]; exact q, fun _ _ _ n => n, live_upd⟩
theorem Go.add (e : H a = none) : Go H h (upd H a u) (up h a o) := ⟨Mono.new e, fun b w q _ => by rw [upd_ne (ne_of_none q e)]; exact q, fun b w q n => by rw [up_ne (ne_of_none q e)]; exact n, live_upd⟩
/-- .. that was new: it is written -/
theorem Go.renew (g : Go H h H1 h1) (e : H a = none) (m : Mono H1 (upd H1 a u)) : Go H h (upd H1 a u) h1 :=
  ⟨g.mono.trans m, fun b w q n => by rw [upd_ne (ne_of_none q e)]; exact g.frame b w q n, g.dom, fun b z => g.live b (live_upd b z)⟩
theorem Go.own (g : Go H h H1 h1) (e : H a = none) : Go H h H1 (up h1 a o) :=
  ⟨g.mono, g.frame, fun b w q n => by rw [up_ne (ne_of_none q e)]; exact g.dom b w q n, g.live⟩
/-- an object of the store is written; forgotten -/
theorem ne_own {b : Addr} {o : PO} (e : h a = some o) (n : h b = none) : b ≠ a := fun z => by rw [z, e] at n; cases n
theorem Go.wr {o' : PO} (e : h a = some o') (m : Mono H (upd H a u)) : Go H h (upd H a u) (up h a o) :=
  ⟨m, fun b w q n => by rw [upd_ne (ne_own e n)]; exact q, fun b w q n => by rw [up_ne (ne_own e n)]; exact n, live_upd⟩
def lose (h : PH) (a : Addr) : PH := fun b => if b = a then none else h b
theorem lose_same : lose h a a = none := if_pos rfl
theorem lose_ne {b : Addr} (e : b ≠ a) : lose h a b = h b := if_neg e
theorem Go.lose {o' : PO} (e : h a = some o') (m : Mono H (upd H a u)) : Go H h (upd H a u) (lose h a) :=
  ⟨m, fun b w q n => by rw [upd_ne (ne_own e n)]; exact q, fun b w q n => by rw [lose_ne (ne_own e n)]; exact n, live_upd⟩
end

/-! ### what is said of an expression, a test, arguments, a statement -/
abbrev PK := PV → PH → Prop
abbrev ME := PSt → PH → PK → Prop
abbrev MT := PSt → PH → (Bool → PH → Prop) → Prop
abbrev MA := PSt → PH → (List PV → PH → Prop) → Prop
structure PEnds where
  nx : PSt → PH → Prop
  rt : PK
  bk : PSt → PH → Prop
  ct : PSt → PH → Prop
abbrev MS := PEnds → PSt → PH → Prop
def LQ (K : PySem.W.Frag) (H : Hp) (h : PH) (Q' : PK) (Q : VK) : Prop := ∀ p h1 v H1, Q' p h1 → Go H h H1 h1 → Rel K H1 p v → Sim K H1 h1 → Q v H1
def LB (K : PySem.W.Frag) (H : Hp) (h : PH) (Q' : Bool → PH → Prop) (Q : Bool → Hp → Prop) : Prop := ∀ b h1 H1, Q' b h1 → Go H h H1 h1 → Sim K H1 h1 → Q b H1
def LN (K : PySem.W.Frag) (H : Hp) (h : PH) (Q' : PSt → PH → Prop) (Q : L2.St → Hp → Prop) : Prop := ∀ τ h1 σ H1, Q' τ h1 → Go H h H1 h1 → SimS K H1 σ τ → Sim K H1 h1 → Q σ H1
structure LD (K : PySem.W.Frag) (H : Hp) (h : PH) (D' : PEnds) (D : Ends) : Prop where
  nx : LN K H h D'.nx D.nx
  rt : LQ K H h D'.rt D.rt
  bk : LN K H h D'.bk D.bk
  ct : LN K H h D'.ct D.ct
section
variable {K : PySem.W.Frag} {H H' : Hp} {h h' : PH}
theorem LQ.mono {Q' : PK} {Q : VK} (l : LQ K H h Q' Q) (m : Go H h H' h') : LQ K H' h' Q' Q := fun p h1 v H1 q m1 r s => l p h1 v H1 q (m.trans m1) r s
theorem LB.mono {Q' : Bool → PH → Prop} {Q : Bool → Hp → Prop} (l : LB K H h Q' Q) (m : Go H h H' h') : LB K H' h' Q' Q := fun p h1 H1 q m1 s => l p h1 H1 q (m.trans m1) s
theorem LN.mono {Q' : PSt → PH → Prop} {Q : L2.St → Hp → Prop} (l : LN K H h Q' Q) (m : Go H h H' h') : LN K H' h' Q' Q := fun p h1 v H1 q m1 r s => l p h1 v H1 q (m.trans m1) r s
theorem LD.mono {D' : PEnds} {D : Ends} (l : LD K H h D' D) (m : Go H h H' h') : LD K H' h' D' D := ⟨l.nx.mono m, l.rt.mono m, l.bk.mono m, l.ct.mono m⟩
end
def upE (K : PySem.W.Frag) (m : ME) : TE := fun σ H Q => ∃ τ h Q', SimS K H σ τ ∧ Sim K H h ∧ m τ h Q' ∧ LQ K H h Q' Q
def upT (K : PySem.W.Frag) (m : MT) : TT := fun σ H Q => ∃ τ h Q', SimS K H σ τ ∧ Sim K H h ∧ m τ h Q' ∧ LB K H h Q' Q
def upS (K : PySem.W.Frag) (m : MS) : TS := fun D σ H => ∃ τ h D', SimS K H σ τ ∧ Sim K H h ∧ m D' τ h ∧ LD K H h D' D
abbrev LE (X : Cx) (e : Expr) (m : ME) : Prop := PE X e (upE X.K m)
abbrev LT (X : Cx) (e : Expr) (m : MT) : Prop := PT X e (upT X.K m)
abbrev LW (X : Cx) (e : Expr) (m : MT) : Prop := PW X e (upT X.K m)
abbrev LS (X : Cx) (s : Stmt) (m : MS) : Prop := PS X s (upS X.K m)
abbrev LSs (X : Cx) (s : List Stmt) (m : MS) : Prop := PSs X s (upS X.K m)

section
variable {X : Cx} {e : Expr} {es : List Expr} {s : Stmt} {ss : List Stmt}
theorem PE.weak {t u : TE} (h : PE X e t) (w : ∀ σ H Q, u σ H Q → t σ H Q) : PE X e u := ⟨fun pins s σ H Q I q => h.run pins s σ H Q I (w σ H Q q)⟩
theorem PT.weak {t u : TT} (h : PT X e t) (w : ∀ σ H Q, u σ H Q → t σ H Q) : PT X e u := ⟨fun pins s σ H Q I q => h.run pins s σ H Q I (w σ H Q q)⟩
theorem PW.weak {t u : TT} (h : PW X e t) (w : ∀ σ H Q, u σ H Q → t σ H Q) : PW X e u := ⟨fun wh pins s σ H Q I q => h.run wh pins s σ H Q I (w σ H Q q)⟩
theorem PA.weak {t u : TA} (h : PA X es t) (w : ∀ σ H Q, u σ H Q → t σ H Q) : PA X es u := ⟨fun pos pins s σ H Q I q => h.run pos pins s σ H Q I (w σ H Q q)⟩
theorem PS.weak {t u : TS} (h : PS X s t) (w : ∀ D σ H, u D σ H → t D σ H) : PS X s u := ⟨fun pins s σ H D I q => h.run pins s σ H D I (w D σ H q)⟩
theorem PSs.weak {t u : TS} (h : PSs X ss t) (w : ∀ D σ H, u D σ H → t D σ H) : PSs X ss u := ⟨fun pins s σ H D I q => h.run pins s σ H D I (w D σ H q)⟩
end

/-! ### keeping: an object that was just made is not changed any more -/
def Keepable : HO → Prop
  | .lst _ => True
  | .dK _ => True
  | _ => False
theorem Inv.keep {X : Cx} {pins : List (Addr × Obj)} {σ : L2.St} {H : Hp} {s : Shared} {a : Addr} {u : HO} (I : Inv X pins σ H s) (h : H a = some u) (k : Keepable u) : ∃ o, Inv X pins σ (upd H a (.frz o u)) s := by
  have ha := I.hok a u h
  have hob : ∃ o, s.heap.get? a = some o := by
    cases u with
    | lst xs => obtain ⟨_, _, _, _, e⟩ := ha; exact ⟨_, e⟩
    | dK kvs => obtain ⟨_, _, _, _, o, _, _, e, _⟩ := ha; exact ⟨o, e⟩
    | _ => exact k.elim
  obtain ⟨o, e⟩ := hob
  have nt : ∀ xs, u ≠ .tup xs := fun xs z => by subst z; exact k
  have nf : ∀ o w, u ≠ .frz o w := fun o w z => by subst z; exact k
  have no : ∀ x, u ≠ .own x := fun x z => by subst z; exact k
  have nb : ∀ p, u ≠ .tbl p := fun x z => by subst z; exact k
  refine ⟨o, ?_⟩
  have un : Un X.fs [] H (upd H a (.frz o u)) s.heap s.heap := by
    refine ⟨fun b ob q _ _ _ => q, fun b ob q _ _ _ => ⟨ob.slots, q⟩, fun b ob q n _ => ?_, fun b ob q _ => ⟨ob, q⟩, fun b xs q => ?_, fun b ob w q => ?_, fun b ps q => ⟨#[], ?_⟩⟩
    · rw [upd_ne (ne_of_none h n).symm]; exact n
    · rw [upd_ne (ne_of q h (nt xs).symm)]; exact q
    · rw [upd_ne (ne_of q h (nf ob w).symm)]; exact q
    · rw [upd_ne (ne_of q h (nb ps).symm), q]; simp
  have hok : HOk X.prog X.w (upd H a (.frz o u)) s.heap := fun b w q => by
    by_cases hb : b = a
    · subst hb
      rw [upd_same] at q; cases q
      refine ⟨e, ?_⟩
      cases u with
      | lst xs => exact ha
      | dK kvs => exact ha
      | _ => exact k.elim
    · rw [upd_ne hb] at q
      refine (I.hok b w q).stay (fun c v _ r => r) (fun c r => ?_) fun c xs r => ?_
      · rw [upd_ne (ne_of r h (no b).symm)]; exact r
      · rw [upd_ne (ne_of r h (nt xs).symm)]; exact r
  exact I.un (h' := s.heap) (t' := s.toks) un hok
/-- as it is, or kept -/
def kQ (Q : VK) : VK := fun v H1 => Q v H1 ∨ ∃ a u, v = .ref a ∧ H1 a = some u ∧ Keepable u ∧ ∀ o, Q v (upd H1 a (.frz o u))
theorem PE.kp {X : Cx} {e : Expr} {t : TE} (h : PE X e t) : PE X e (fun σ H Q => t σ H (kQ Q)) := by
  refine ⟨fun pins s σ H Q I q => ?_⟩
  refine thn (h.run pins s σ H _ I q) fun u s1 ⟨v, H1, I1, r, q1⟩ => ?_
  rcases q1 with q1 | ⟨a, w, e1, e2, k, q1⟩
  · exact ⟨v, H1, I1, r, q1⟩
  · obtain ⟨o, I2⟩ := Inv.keep I1 e2 k
    exact ⟨v, _, I2, r, q1 o⟩
section
variable {K : PySem.W.Frag} {H : Hp} {h : PH} {Q' : PK} {Q : VK} {a : Addr}
/-- a new list, kept -/
theorem keep_l {ps : List PV} {xs : List V} (l : LQ K H h Q' Q) (s : Sim K H h) (r : Rels K H ps xs) (q : Q' (.lst ps) h) (e : H a = none) : kQ Q (.ref a) (upd H a (.lst xs)) := by
  refine .inr ⟨a, _, rfl, upd_same, trivial, fun o => ?_⟩
  rw [upd_upd]
  have m : Mono H (upd H a (.frz o (.lst xs))) := Mono.new e
  refine l _ _ _ _ q (.new e) ?_ (s.new e)
  simp only [Rel]
  exact ⟨a, xs, rfl, .inl ⟨o, upd_same⟩, r.mono m⟩
/-- .. one that may change -/
theorem make_l {ps : List PV} {xs : List V} (l : LQ K H h Q' Q) (s : Sim K H h) (r : Rels K H ps xs) (q : ∀ a, h a = none → Q' (.ref a) (up h a (.lst ps))) (e : H a = none) : kQ Q (.ref a) (upd H a (.lst xs)) := by
  refine .inl ?_
  have m : Mono H (upd H a (.lst xs)) := Mono.new e
  refine l _ _ _ _ (q a (s.fresh e)) (.add e) ?_ (s.put m ⟨xs, rfl, r.mono m⟩)
  simp only [Rel]
/-- a new dict, kept; one that may change -/
theorem keep_d {ks : List Key} {vs : List PV} {kvs : List (Key × V)} (l : LQ K H h Q' Q) (s : Sim K H h) (r1 : ks = kvs.map (·.1)) (r2 : Rels K H vs (kvs.map (·.2))) (q : Q' (.dct ks vs) h) (e : H a = none) : kQ Q (.ref a) (upd H a (.dK kvs)) := by
  refine .inr ⟨a, _, rfl, upd_same, trivial, fun o => ?_⟩
  rw [upd_upd]
  have m : Mono H (upd H a (.frz o (.dK kvs))) := Mono.new e
  refine l _ _ _ _ q (.new e) ?_ (s.new e)
  simp only [Rel]
  exact ⟨a, kvs, rfl, ⟨o, upd_same⟩, r1, r2.mono m⟩
theorem make_d {ks : List Key} {vs : List PV} {kvs : List (Key × V)} (l : LQ K H h Q' Q) (s : Sim K H h) (r1 : ks = kvs.map (·.1)) (r2 : Rels K H vs (kvs.map (·.2))) (q : ∀ a, h a = none → Q' (.ref a) (up h a (.dct ks vs))) (e : H a = none) : kQ Q (.ref a) (upd H a (.dK kvs)) := by
  refine .inl ?_
  have m : Mono H (upd H a (.dK kvs)) := Mono.new e
  refine l _ _ _ _ (q a (s.fresh e)) (.add e) ?_ (s.put m ⟨kvs, rfl, r1, r2.mono m⟩)
  simp only [Rel]
/-- a new tuple -/
theorem make_t {ps : List PV} {xs : List V} (l : LQ K H h Q' Q) (s : Sim K H h) (r : Rels K H ps xs) (q : Q' (.tup ps) h) (e : H a = none) : Q (.ref a) (upd H a (.tup xs)) := by
  have m : Mono H (upd H a (.tup xs)) := Mono.new e
  refine l _ _ _ _ q (.new e) ?_ (s.new e)
  simp only [Rel]
  exact ⟨a, xs, rfl, .inl (.inl upd_same), r.mono m⟩
end
/-- what an operation on values asks, at this level and at the other one -/
abbrev PR1 := PV → PH → PK → Prop
abbrev PR2 := PV → PV → PH → PK → Prop
abbrev PRA := List PV → PH → PK → Prop
def Lf1 (K : PySem.W.Frag) (r : V → Hp → VK → Prop) (r' : PR1) : Prop := ∀ x H p h Q' Q, Rel K H p x → Sim K H h → r' p h Q' → LQ K H h Q' Q → r x H Q
def Lf2 (K : PySem.W.Frag) (r : R2) (r' : PR2) : Prop := ∀ x y H p q h Q' Q, Rel K H p x → Rel K H q y → Sim K H h → r' p q h Q' → LQ K H h Q' Q → r x y H Q
def LfA (K : PySem.W.Frag) (r : List V → Hp → VK → Prop) (r' : PRA) : Prop := ∀ xs H ps h Q' Q, Rels K H ps xs → Sim K H h → r' ps h Q' → LQ K H h Q' Q → r xs H Q
/-- .. of one that may make a list -/
def Kf1 (K : PySem.W.Frag) (r : V → Hp → VK → Prop) (r' : PR1) : Prop := ∀ x H p h Q' Q, Rel K H p x → Sim K H h → r' p h Q' → LQ K H h Q' Q → r x H (kQ Q)
def Kf2 (K : PySem.W.Frag) (r : R2) (r' : PR2) : Prop := ∀ x y H p q h Q' Q, Rel K H p x → Rel K H q y → Sim K H h → r' p q h Q' → LQ K H h Q' Q → r x y H (kQ Q)
def KfA (K : PySem.W.Frag) (r : List V → Hp → VK → Prop) (r' : PRA) : Prop := ∀ xs H ps h Q' Q, Rels K H ps xs → Sim K H h → r' ps h Q' → LQ K H h Q' Q → r xs H (kQ Q)
theorem LQ.kq {K : PySem.W.Frag} {H : Hp} {h : PH} {Q' : PK} {Q : VK} (l : LQ K H h Q' Q) : LQ K H h Q' (kQ Q) := fun p h v H1 q m r s => .inl (l p h v H1 q m r s)

/-! ### expressions -/
def mVar (i : Nat) : ME := fun τ h Q => match gt τ i with | some p => Q p h | none => False
def mC (p : PV) : ME := fun _ h Q => Q p h
/-- a name whose list is kept from here on -/
def mKeep (m : ME) : ME := fun τ h Q => m τ h fun p h1 => match p with
  | .ref a => (match h1 a with
    | some (.lst ps) => Q (.lst ps) (lose h1 a)
    | some (.dct ks vs) => Q (.dct ks vs) (lose h1 a)
    | _ => False)
  | p => Q p h1
section
variable {X : Cx} {pos : Pos}
theorem le_var {i : Nat} {x : Str} (hN : X.N[i]? = some x := by rfl) (hv : Vis X.env.scope x := by first | exact Or.inl rfl | exact Or.inr (Or.inl rfl) | exact Or.inr (Or.inr rfl)) (hd : (x == ("__debug__" : Str)) = false := by decide)
    (hcd : (x == ("__classdict__" : Str)) = false := by decide) : LE X (.Name x pos) (mVar i) :=
  PE.weak (pe_var hN hv hd hcd) fun σ H Q ⟨τ, h, Q', s, sh, q, l⟩ => by
    unfold mVar at q
    cases e : gt τ i with
    | none => rw [e] at q; exact q.elim
    | some p =>
      rw [e] at q
      obtain ⟨v, e1, r⟩ := s.get e
      exact ⟨v, e1, l p h v H q .refl r sh⟩
theorem le_c {e : Expr} {v : V} {p : PV} (h : PE X e (tC v)) (r : ∀ H, Rel X.K H p v) : LE X e (mC p) :=
  PE.weak h fun σ H Q ⟨τ, h, Q', s, sh, q, l⟩ => l p h v H q .refl (r H) sh
theorem le_int {i : Int} {k : Nat} : LE X (.Constant (.int i) k pos) (mC (.int i)) := le_c pe_int fun _ => by simp only [Rel]
theorem le_bl {b : Bool} {k : Nat} : LE X (.Constant (.bool b) k pos) (mC (.bl b)) := le_c pe_bl fun _ => by simp only [Rel]
theorem le_non {k : Nat} : LE X (.Constant .none k pos) (mC .non) := le_c pe_non fun _ => by simp only [Rel]
theorem le_str {x : Str} {k : Nat} : LE X (.Constant (.str x) k pos) (mC (.str x)) := le_c pe_str fun _ => by simp only [Rel]
theorem le_keep {e : Expr} {m : ME} (he : LE X e m) : LE X e (mKeep m) := by
  refine PE.weak (PE.kp he) fun σ H Q ⟨τ, h, Q', s, sh, q, l⟩ => ?_
  refine ⟨τ, h, _, s, sh, q, fun p h1 v H1 q1 m1 r s1 => ?_⟩
  cases p with
  | ref a =>
    simp only at q1
    have ev : v = .ref a := by simpa only [Rel] using r
    subst ev
    cases e1 : h1 a with
    | none => rw [e1] at q1; exact q1.elim
    | some o =>
      rw [e1] at q1
      obtain ⟨u, e2, ro⟩ := s1 a o e1
      cases o with
      | lst ps =>
        obtain ⟨xs, rfl, rx⟩ := ro
        refine .inr ⟨a, _, rfl, e2, trivial, fun ob => ?_⟩
        have mm : Mono H1 (upd H1 a (.frz ob (.lst xs))) := Mono.lst e2
        refine l _ _ _ _ q1 (m1.trans (.lose e1 mm)) ?_ ?_
        · simp only [Rel]; exact ⟨a, xs, rfl, .inl ⟨ob, upd_same⟩, rx.mono mm⟩
        · exact Sim.drop (h := lose h1 a) (s1.less fun b o q => by unfold lose at q; split at q; cases q; exact q) mm lose_same
      | dct ks vs =>
        obtain ⟨kvs, rfl, r1, r2⟩ := ro
        refine .inr ⟨a, _, rfl, e2, trivial, fun ob => ?_⟩
        have mm : Mono H1 (upd H1 a (.frz ob (.dK kvs))) := Mono.dK e2
        refine l _ _ _ _ q1 (m1.trans (.lose e1 mm)) ?_ ?_
        · simp only [Rel]; exact ⟨a, kvs, rfl, ⟨ob, upd_same⟩, r1, r2.mono mm⟩
        · exact Sim.drop (h := lose h1 a) (s1.less fun b o q => by unfold lose at q; split at q; cases q; exact q) mm lose_same
      | ins C ns vs => exact q1.elim
      | lck ks vs => exact q1.elim
      | xd ns vs => exact q1.elim
      | tab _ => exact q1.elim
  | _ => exact .inl (l _ _ _ _ q1 m1 r s1)

def mB (r : PR2) (a b : ME) : ME := fun τ h Q => a τ h fun p h1 => b τ h1 fun q h2 => r p q h2 Q
def mU (r : PR1) (a : ME) : ME := fun τ h Q => a τ h fun p h1 => r p h1 Q
/-- from two expressions: what the elder rule asks -/
theorem two_up {K : PySem.W.Frag} {r : R2} {r' : PR2} {Z : VK → VK} (hr : ∀ x y H p q h Q' Q, Rel K H p x → Rel K H q y → Sim K H h → r' p q h Q' → LQ K H h Q' Q → r x y H (Z Q)) {a b : ME} {σ : L2.St} {H : Hp} {Q : VK} (h : upE K (mB r' a b) σ H Q) : tOp r (upE K a) (upE K b) σ H (Z Q) := by
  obtain ⟨τ, h, Q', s, sh, q, l⟩ := h
  refine ⟨τ, h, _, s, sh, q, fun p h1 x H1 q1 m1 r1 s1 => ?_⟩
  refine ⟨τ, h1, _, s.mono m1.mono, s1, q1, fun p2 h2 y H2 q2 m2 r2 s2 => ?_⟩
  exact hr x y H2 p p2 h2 Q' Q (r1.mono m2.mono) r2 s2 q2 (l.mono (m1.trans m2))
theorem le_op {op : Operator} {r : R2} {r' : PR2} {a b : Expr} {ma mb : ME} (ho : OpR X (binaryOp op) r) (hr : Kf2 X.K r r') (ha : LE X a ma) (hb : LE X b mb) : LE X (.BinOp a op b pos) (mB r' ma mb) :=
  PE.weak (PE.kp (pe_op ho ha hb)) fun _ _ _ h => two_up (Z := kQ) hr h
theorem le_cmp {op : CmpOp} {r : R2} {r' : PR2} {a b : Expr} {ma mb : ME} (ho : OpR X (compareOp op) r) (hr : Lf2 X.K r r') (ha : LE X a ma) (hb : LE X b mb) (hm : behindInMarks op b = false) : LE X (.Compare a [op] [b] pos) (mB r' ma mb) :=
  PE.weak (pe_cmpR ho ha hb hm) fun _ _ _ h => two_up (Z := fun Q => Q) hr h
theorem le_un {op : UnaryOp} {r : V → Hp → VK → Prop} {r' : PR1} {a : Expr} {ma : ME} (ho : UnR X (unaryOp op) r) (hr : Lf1 X.K r r') (ha : LE X a ma) : LE X (.UnaryOp op a pos) (mU r' ma) := by
  refine PE.weak (pe_un ho ha) fun σ H Q ⟨τ, h, Q', s, sh, q, l⟩ => ?_
  exact ⟨τ, h, _, s, sh, q, fun p h1 x H1 q1 m1 r1 s1 => hr x H1 p h1 Q' Q r1 s1 q1 (l.mono m1)⟩

/-! ### tests -/
def mTest (m : ME) : MT := fun τ h Q => m τ h fun p h1 => match p with | .bl b => Q b h1 | _ => False
theorem LB.test {K : PySem.W.Frag} {H : Hp} {h : PH} {Q' : Bool → PH → Prop} {Q : Bool → Hp → Prop} (l : LB K H h Q' Q) : LQ K H h (fun p h1 => match p with | .bl b => Q' b h1 | _ => False) (fun x H' => ∃ k, x = .bl k ∧ Q k H') := fun p h1 v H1 q1 m1 r s1 => by
  cases p with
  | bl b =>
    have ev : v = .bl b := by simpa only [Rel] using r
    exact ⟨b, ev, l b h1 H1 q1 m1 s1⟩
  | _ => exact q1.elim
theorem lt_val {e : Expr} {m : ME} (he : LE X e m) (hw : ∀ whole, isTrue e X.env whole = (do let v ← whole; standAt e.pos; holding [v] (truthy v)) := by intro _; rfl) : LT X e (mTest m) :=
  PT.weak (pt_val he hw) fun σ H Q ⟨τ, h, Q', s, sh, q, l⟩ => ⟨τ, h, _, s, sh, q, l.test⟩
/-- a comparison as a test -/
theorem lt_cmp {op : CmpOp} {r : R2} {r' : PR2} {a b : Expr} {ma mb : ME} (ho : OpR X (compareOp op) r) (hr : Lf2 X.K r r') (ha : LE X a ma) (hb : LE X b mb) (hm : behindInMarks op b = false) : LT X (.Compare a [op] [b] pos) (mTest (mB r' ma mb)) :=
  PT.weak (pt_cmpR ho ha hb hm) fun σ H Q ⟨τ, h, Q', s, sh, q, l⟩ => two_up (Z := fun Q => Q) hr (Q := fun x H' => ∃ k, x = .bl k ∧ Q k H') ⟨τ, h, _, s, sh, q, l.test⟩
end
end N3

namespace N3
open PySem PySem.Spec PyProof.Rows L2

/-! ### tests, put together -/
def mAndT (t u : MT) : MT := fun τ h Q => t τ h fun b h1 => if b = true then u τ h1 Q else Q false h1
def mOrT (t u : MT) : MT := fun τ h Q => t τ h fun b h1 => if b = true then Q true h1 else u τ h1 Q
def mNotT (t : MT) : MT := fun τ h Q => t τ h fun b h1 => Q (!b) h1
def mAnd (a b : ME) : ME := fun τ h Q => a τ h fun p h1 => match p with | .bl c => (if c = true then b τ h1 Q else Q (.bl false) h1) | _ => False
def mOr (a b : ME) : ME := fun τ h Q => a τ h fun p h1 => match p with | .bl c => (if c = true then Q (.bl true) h1 else b τ h1 Q) | _ => False
def mNot (a : ME) : ME := fun τ h Q => a τ h fun p h1 => match p with | .bl c => Q (.bl (!c)) h1 | _ => False
def mIf (t : MT) (a b : ME) : ME := fun τ h Q => t τ h fun c h1 => if c = true then a τ h1 Q else b τ h1 Q
def mChn (r r' : PR2) (a b c : ME) : ME := fun τ h Q => a τ h fun p h1 => b τ h1 fun q h2 => r p q h2 fun z h3 => match z with
  | .bl k => (if k = true then c τ h3 fun s h4 => r' q s h4 Q else Q (.bl false) h3)
  | _ => False
section
variable {X : Cx} {pos : Pos} {a b c : Expr} {rest : List Expr}
theorem lw_and1 {t : MT} (ha : LT X a t) : LW X (.BoolOp .And [a] pos) t := pw_and1 ha
theorem lw_or1 {t : MT} (ha : LT X a t) : LW X (.BoolOp .Or [a] pos) t := pw_or1 ha
theorem lw_and {t u : MT} (ha : LT X a t) (hb : LW X (.BoolOp .And (b :: rest) pos) u) : LW X (.BoolOp .And (a :: b :: rest) pos) (mAndT t u) := by
  refine PW.weak (pw_and ha hb) fun σ H Q ⟨τ, h, Q', s, sh, q, l⟩ => ?_
  refine ⟨τ, h, _, s, sh, q, fun c h1 H1 q1 m1 s1 => ?_⟩
  cases c with
  | true => exact ⟨τ, h1, Q', s.mono m1.mono, s1, q1, l.mono m1⟩
  | false => exact l _ _ _ q1 m1 s1
theorem lw_or {t u : MT} (ha : LT X a t) (hb : LW X (.BoolOp .Or (b :: rest) pos) u) : LW X (.BoolOp .Or (a :: b :: rest) pos) (mOrT t u) := by
  refine PW.weak (pw_or ha hb) fun σ H Q ⟨τ, h, Q', s, sh, q, l⟩ => ?_
  refine ⟨τ, h, _, s, sh, q, fun c h1 H1 q1 m1 s1 => ?_⟩
  cases c with
  | true => exact l _ _ _ q1 m1 s1
  | false => exact ⟨τ, h1, Q', s.mono m1.mono, s1, q1, l.mono m1⟩
theorem lt_w {e : Expr} {t : MT} (h : LW X e t) : LT X e t := h.pt
theorem lt_not {t : MT} (ha : LT X a t) : LT X (.UnaryOp .Not a pos) (mNotT t) := by
  refine PT.weak (pt_not ha) fun σ H Q ⟨τ, h, Q', s, sh, q, l⟩ => ?_
  exact ⟨τ, h, _, s, sh, q, fun c h1 H1 q1 m1 s1 => l _ _ _ q1 m1 s1⟩
theorem le_one {op} {m : ME} (h : LE X a m) : LE X (.BoolOp op [a] pos) m := pe_one h
theorem le_and {ma mb : ME} (ha : LE X a ma) (hb : LE X (.BoolOp .And (b :: rest) pos) mb) : LE X (.BoolOp .And (a :: b :: rest) pos) (mAnd ma mb) := by
  refine PE.weak (pe_and ha hb) fun σ H Q ⟨τ, h, Q', s, sh, q, l⟩ => ?_
  refine ⟨τ, h, _, s, sh, q, fun p h1 v H1 q1 m1 r s1 => ?_⟩
  cases p with
  | bl c =>
    refine ⟨c, by simpa only [Rel] using r, ?_⟩
    cases c with
    | true => exact ⟨τ, h1, Q', s.mono m1.mono, s1, q1, l.mono m1⟩
    | false => exact l _ _ _ _ q1 m1 (by simp only [Rel]) s1
  | _ => exact q1.elim
theorem le_or {ma mb : ME} (ha : LE X a ma) (hb : LE X (.BoolOp .Or (b :: rest) pos) mb) : LE X (.BoolOp .Or (a :: b :: rest) pos) (mOr ma mb) := by
  refine PE.weak (pe_or ha hb) fun σ H Q ⟨τ, h, Q', s, sh, q, l⟩ => ?_
  refine ⟨τ, h, _, s, sh, q, fun p h1 v H1 q1 m1 r s1 => ?_⟩
  cases p with
  | bl c =>
    refine ⟨c, by simpa only [Rel] using r, ?_⟩
    cases c with
    | true => exact l _ _ _ _ q1 m1 (by simp only [Rel]) s1
    | false => exact ⟨τ, h1, Q', s.mono m1.mono, s1, q1, l.mono m1⟩
  | _ => exact q1.elim
theorem le_not {ma : ME} (ha : LE X a ma) : LE X (.UnaryOp .Not a pos) (mNot ma) := by
  refine PE.weak (pe_not ha) fun σ H Q ⟨τ, h, Q', s, sh, q, l⟩ => ?_
  refine ⟨τ, h, _, s, sh, q, fun p h1 v H1 q1 m1 r s1 => ?_⟩
  cases p with
  | bl c => exact ⟨c, by simpa only [Rel] using r, l _ _ _ _ q1 m1 (by simp only [Rel]) s1⟩
  | _ => exact q1.elim
theorem le_if {t : MT} {ma mb : ME} (hc : LT X c t) (ha : LE X a ma) (hb : LE X b mb) : LE X (.IfExp c a b pos) (mIf t ma mb) := by
  refine PE.weak (pe_ifExp hc ha hb) fun σ H Q ⟨τ, h, Q', s, sh, q, l⟩ => ?_
  refine ⟨τ, h, _, s, sh, q, fun c h1 H1 q1 m1 s1 => ?_⟩
  cases c with
  | true => exact ⟨τ, h1, Q', s.mono m1.mono, s1, q1, l.mono m1⟩
  | false => exact ⟨τ, h1, Q', s.mono m1.mono, s1, q1, l.mono m1⟩
theorem chn_up {K : PySem.W.Frag} {r r' : R2} {s s' : PR2} (hr : Lf2 K r s) (hr' : Lf2 K r' s') {ma mb mc : ME} {σ : L2.St} {H : Hp} {Q : VK} (h : upE K (mChn s s' ma mb mc) σ H Q) :
    upE K ma σ H fun x H1 => upE K mb σ H1 fun y H2 => r x y H2 fun z H3 => ∃ k, z = .bl k ∧ if k = true then upE K mc σ H3 fun w H4 => r' y w H4 Q else Q (.bl false) H3 := by
  obtain ⟨τ, h, Q', ss, sh, q, l⟩ := h
  refine ⟨τ, h, _, ss, sh, q, fun p h1 x H1 q1 m1 r1 s1 => ?_⟩
  refine ⟨τ, h1, _, ss.mono m1.mono, s1, q1, fun p2 h2 y H2 q2 m2 r2 s2 => ?_⟩
  refine hr x y H2 p p2 h2 _ _ (r1.mono m2.mono) r2 s2 q2 fun p3 h3 z H3 q3 m3 r3 s3 => ?_
  cases p3 with
  | bl k =>
    refine ⟨k, by simpa only [Rel] using r3, ?_⟩
    cases k with
    | true =>
      refine ⟨τ, h3, _, ((ss.mono m1.mono).mono m2.mono).mono m3.mono, s3, q3, fun p4 h4 w H4 q4 m4 r4 s4 => ?_⟩
      exact hr' y w H4 p2 p4 h4 Q' Q ((r2.mono m3.mono).mono m4.mono) r4 s4 q4 (l.mono (((m1.trans m2).trans m3).trans m4))
    | false => exact l _ _ _ _ q3 ((m1.trans m2).trans m3) (by simp only [Rel]) s3
  | _ => exact q3.elim
theorem le_chn {op op' : CmpOp} {r r' : R2} {s s' : PR2} {ma mb mc : ME} (ho : OpR X (compareOp op) r) (ho' : OpR X (compareOp op') r') (hr : Lf2 X.K r s) (hr' : Lf2 X.K r' s') (ha : LE X a ma) (hb : LE X b mb) (hc : LE X c mc)
    (hm : lastMarks [op, op'] [b, c] = false := by with_unfolding_all rfl) : LE X (.Compare a [op, op'] [b, c] pos) (mChn s s' ma mb mc) :=
  PE.weak (pe_chain ho ho' ha hb hc hm) fun σ H Q h => chn_up hr hr' h
theorem lt_chn {op op' : CmpOp} {r r' : R2} {s s' : PR2} {ma mb mc : ME} (ho : OpR X (compareOp op) r) (ho' : OpR X (compareOp op') r') (hr : Lf2 X.K r s) (hr' : Lf2 X.K r' s') (ha : LE X a ma) (hb : LE X b mb) (hc : LE X c mc)
    (hm : lastMarks [op, op'] [b, c] = false := by with_unfolding_all rfl) : LT X (.Compare a [op, op'] [b, c] pos) (mTest (mChn s s' ma mb mc)) :=
  PT.weak (pt_chain ho ho' ha hb hc hm) fun σ H Q ⟨τ, h, Q', s, sh, q, l⟩ => chn_up hr hr' (Q := fun (x : V) H' => ∃ k, x = V.bl k ∧ Q k H') ⟨τ, h, _, s, sh, q, l.test⟩
end

/-! ### arguments -/
def LLn (K : PySem.W.Frag) (H : Hp) (h : PH) (n : Nat) (Q' : List PV → PH → Prop) (Q : List V → Hp → Prop) : Prop := ∀ ps h1 vs H1, Q' ps h1 → ps.length = n → Go H h H1 h1 → Rels K H1 ps vs → Sim K H1 h1 → Q vs H1
def upL (K : PySem.W.Frag) (n : Nat) (m : MA) : TA := fun σ H Q => ∃ τ h Q', SimS K H σ τ ∧ Sim K H h ∧ m τ h Q' ∧ LLn K H h n Q' Q
abbrev LAn (X : Cx) (es : List Expr) (n : Nat) (m : MA) : Prop := PA X es (upL X.K n m)
def mNil : MA := fun _ h Q => Q [] h
def mCons (a : ME) (r : MA) : MA := fun τ h Q => a τ h fun p h1 => r τ h1 fun ps h2 => Q (p :: ps) h2
section
variable {X : Cx} {pos : Pos} {e : Expr} {es : List Expr} {n : Nat}
theorem la_nil : LAn X [] 0 mNil := PA.weak pa_nil fun σ H Q ⟨τ, h, Q', s, sh, q, l⟩ => l [] h [] H q rfl .refl .nil sh
theorem la_cons {ma : ME} {mr : MA} (ha : LE X e ma) (hr : LAn X es n mr) (hs : starEach (e :: es) X.env = (false, eval e X.env) :: starEach es X.env := by rfl) : LAn X (e :: es) (n + 1) (mCons ma mr) := by
  refine PA.weak (pa_cons ha hr hs) fun σ H Q ⟨τ, h, Q', s, sh, q, l⟩ => ?_
  refine ⟨τ, h, _, s, sh, q, fun p h1 v H1 q1 m1 r s1 => ?_⟩
  refine ⟨τ, h1, _, s.mono m1.mono, s1, q1, fun ps h2 vs H2 q2 hn m2 r2 s2 => ?_⟩
  exact l _ _ _ _ q2 (by rw [List.length_cons, hn]) (m1.trans m2) (.cons (r.mono m2.mono) r2) s2
def mTup (m : MA) : ME := fun τ h Q => m τ h fun ps h1 => Q (.tup ps) h1
/-- a list, kept; one that may change -/
def mLst (m : MA) : ME := fun τ h Q => m τ h fun ps h1 => Q (.lst ps) h1
def mLstM (m : MA) : ME := fun τ h Q => m τ h fun ps h1 => ∀ a, h1 a = none → Q (.ref a) (up h1 a (.lst ps))
theorem few {n : Nat} (h : n ≤ 1000) : n ≤ sizeLine := Nat.le_trans h (by decide)
theorem le_tup {x1} {m : MA} (h : LAn X es n m) (hn : n ≤ 1000 := by decide) : LE X (.Tuple es x1 pos) (mTup m) := by
  refine PE.weak (pe_tup h) fun σ H Q ⟨τ, h, Q', s, sh, q, l⟩ => ?_
  refine ⟨τ, h, _, s, sh, q, fun ps h1 vs H1 q1 hl m1 r s1 => ⟨?_, fun p e => make_t (l.mono m1) s1 r q1 e⟩⟩
  rw [← r.length, hl]; exact few hn
theorem le_lst {m : MA} (h : LAn X es n m) (hn : n ≤ 1000 := by decide) : LE X (.List es pos) (mLst m) := by
  refine PE.weak (PE.kp (pe_lst h)) fun σ H Q ⟨τ, h, Q', s, sh, q, l⟩ => ?_
  refine ⟨τ, h, _, s, sh, q, fun ps h1 vs H1 q1 hl m1 r s1 => ⟨?_, fun p e => keep_l (l.mono m1) s1 r q1 e⟩⟩
  rw [← r.length, hl]; exact few hn
theorem le_lstM {m : MA} (h : LAn X es n m) (hn : n ≤ 1000 := by decide) : LE X (.List es pos) (mLstM m) := by
  refine PE.weak (PE.kp (pe_lst h)) fun σ H Q ⟨τ, h, Q', s, sh, q, l⟩ => ?_
  refine ⟨τ, h, _, s, sh, q, fun ps h1 vs H1 q1 hl m1 r s1 => ⟨?_, fun p e => make_l (l.mono m1) s1 r q1 e⟩⟩
  rw [← r.length, hl]; exact few hn
/-- a built-in called by its name -/
def mBlt (r : PRA) (m : MA) : ME := fun τ h Q => m τ h fun ps h1 => r ps h1 Q
theorem args_up {K : PySem.W.Frag} {r : List V → Hp → VK → Prop} {r' : PRA} {Z : VK → VK} (hr : ∀ xs H ps h Q' Q, Rels K H ps xs → Sim K H h → r' ps h Q' → LQ K H h Q' Q → r xs H (Z Q)) {m : MA} {σ : L2.St} {H : Hp} {Q : VK}
    (h : upE K (mBlt r' m) σ H Q) : tCB r (upL K n m) σ H (Z Q) := by
  obtain ⟨τ, h, Q', s, sh, q, l⟩ := h
  exact ⟨τ, h, _, s, sh, q, fun ps h1 vs H1 q1 hl m1 r1 s1 => hr vs H1 ps h1 Q' Q r1 s1 q1 (l.mono m1)⟩
theorem le_blt {x : Str} {id : String} {p : Pos} {r : List V → Hp → VK → Prop} {r' : PRA} {m : MA} (hc : CallR X (.builtin id) r) (hr : LfA X.K r r') (hm : X.mg x = none) (ha : LAn X (e :: es) n m) (hg : Gl X x := by rfl) (hv : bootBuiltins x = some (.builtin id) := by decide +kernel)
    (hn : x ≠ "__name__" := by decide) (hdb : (x == ("__debug__" : Str)) = false := by decide)
    (h1 : starEach (e :: es) X.env = (false, eval e X.env) :: starEach es X.env := by rfl) (h2 : (backTo pos (starEach es X.env)).any (·.1) = false := by rfl) : LE X (.Call (.Name x p) (e :: es) [] pos) (mBlt r' m) :=
  PE.weak (pe_callB hc hg hm hv ha hn hdb h1 h2) fun _ _ _ h => args_up (Z := fun Q => Q) hr h
theorem le_bltK {x : Str} {id : String} {p : Pos} {r : List V → Hp → VK → Prop} {r' : PRA} {m : MA} (hc : CallR X (.builtin id) r) (hr : KfA X.K r r') (hm : X.mg x = none) (ha : LAn X (e :: es) n m) (hg : Gl X x := by rfl) (hv : bootBuiltins x = some (.builtin id) := by decide +kernel)
    (hn : x ≠ "__name__" := by decide) (hdb : (x == ("__debug__" : Str)) = false := by decide)
    (h1 : starEach (e :: es) X.env = (false, eval e X.env) :: starEach es X.env := by rfl) (h2 : (backTo pos (starEach es X.env)).any (·.1) = false := by rfl) : LE X (.Call (.Name x p) (e :: es) [] pos) (mBlt r' m) :=
  PE.weak (PE.kp (pe_callB hc hg hm hv ha hn hdb h1 h2)) fun _ _ _ h => args_up (Z := kQ) hr h
theorem le_ty {x : Str} {T : String} {p : Pos} {r : List V → Hp → VK → Prop} {r' : PRA} {m : MA} (hc : CallR X (.type T) r) (hr : LfA X.K r r') (hm : X.mg x = none) (ha : LAn X (e :: es) n m) (hg : Gl X x := by rfl) (hv : bootBuiltins x = some (.type T) := by decide +kernel)
    (hn : x ≠ "__name__" := by decide) (hdb : (x == ("__debug__" : Str)) = false := by decide)
    (h1 : starEach (e :: es) X.env = (false, eval e X.env) :: starEach es X.env := by rfl) (h2 : (backTo pos (starEach es X.env)).any (·.1) = false := by rfl) : LE X (.Call (.Name x p) (e :: es) [] pos) (mBlt r' m) :=
  PE.weak (pe_callTy hc hg hm hv ha hn hdb h1 h2) fun _ _ _ h => args_up (Z := fun Q => Q) hr h
theorem le_tyK {x : Str} {T : String} {p : Pos} {r : List V → Hp → VK → Prop} {r' : PRA} {m : MA} (hc : CallR X (.type T) r) (hr : KfA X.K r r') (hm : X.mg x = none) (ha : LAn X (e :: es) n m) (hg : Gl X x := by rfl) (hv : bootBuiltins x = some (.type T) := by decide +kernel)
    (hn : x ≠ "__name__" := by decide) (hdb : (x == ("__debug__" : Str)) = false := by decide)
    (h1 : starEach (e :: es) X.env = (false, eval e X.env) :: starEach es X.env := by rfl) (h2 : (backTo pos (starEach es X.env)).any (·.1) = false := by rfl) : LE X (.Call (.Name x p) (e :: es) [] pos) (mBlt r' m) :=
  PE.weak (PE.kp (pe_callTy hc hg hm hv ha hn hdb h1 h2)) fun _ _ _ h => args_up (Z := kQ) hr h
end

/-! ### what a def does -/
abbrev SpP := List PV → PH → PK → Prop
def upF (K : PySem.W.Frag) (n : Nat) (sp : SpP) : Sp := fun vs H Q _ => ∃ ps h Q', ps.length = n ∧ Rels K H ps vs ∧ Sim K H h ∧ sp ps h Q' ∧ LQ K H h Q' Q
/-- what a def promises where no text of a list, tuple, dict is just being made (so all the while here) -/
structure FnG (P : Program) (w : World) (K : PySem.W.Frag) (mg : Str → Option Value) (base : Heap) (k : Nat) (f : Addr) (fd : FuncData) (ps : List Str) (sp : SpP) : Prop where
  run : ∀ (A : Around) (outer : List Env) (s : Shared) (H : Hp) (args : Args) (us : List Value) (vs : List V) (Q : VK), Room k A → A.guards = some [] → Env0 P w K mg base A outer s H → BindsTo s fd args (ps.zip us) → Vals vs us →
    upF K ps.length sp vs H Q E0 → codeAny (model P w) A (.call (.ref f) args) (CR CX0 outer P w H s Q E0) s
section
variable {P : Program} {w : World} {K : PySem.W.Frag} {mg : Str → Option Value} {base : Heap} {j k : Nat} {f : Addr} {fd : FuncData} {ps : List Str} {sp sp' : SpP}
theorem FnG.mono (F : FnG P w K mg base j f fd ps sp) (h : j ≤ k) : FnG P w K mg base k f fd ps sp :=
  ⟨fun A outer s H args us vs Q hr => F.run A outer s H args us vs Q (hr.mono h)⟩
theorem FnG.imp (F : FnG P w K mg base k f fd ps sp) (h : ∀ qs h Q, qs.length = ps.length → sp' qs h Q → sp qs h Q) : FnG P w K mg base k f fd ps sp' :=
  ⟨fun A outer s H args us vs Q hr hg he hb r ⟨qs, h1, Q', hl, rr, ss, z, l⟩ => F.run A outer s H args us vs Q hr hg he hb r ⟨qs, h1, Q', hl, rr, ss, h qs h1 Q' hl z, l⟩⟩
/-- nothing is promised -/
theorem FnG.never : FnG P w K mg base k f fd ps (fun _ _ _ => False) := ⟨fun _ _ _ _ _ _ _ _ _ _ _ _ _ ⟨_, _, _, _, _, _, z, _⟩ => z.elim⟩
end
/-- the arguments by place, then those by keywords, in the parameters' order -/
structure KwB (fd : FuncData) (ps ks : List Str) (g : List Value → List Value → List Value) (gV : List V → List V → List V) (gP : List PV → List PV → List PV) (i j : Nat) : Prop where
  to : ∀ (s : Shared) (us ws : List Value), us.length = i → ws.length = j → BindsTo s fd ⟨us, ks.zip ws⟩ (ps.zip (g us ws))
  rel : ∀ {vs : List V} {us : List Value} {zs : List V} {ws : List Value}, us.length = i → ws.length = j → Vals vs us → Vals zs ws → Vals (gV vs zs) (g us ws)
  relP : ∀ {K : PySem.W.Frag} {H : Hp} {ps : List PV} {vs : List V} {qs : List PV} {zs : List V}, ps.length = i → qs.length = j → Rels K H ps vs → Rels K H qs zs → Rels K H (gP ps qs) (gV vs zs)
  len : ∀ {qs zs : List PV}, qs.length = i → zs.length = j → (gP qs zs).length = ps.length
section
variable {X : Cx} {pos : Pos} {e : Expr} {es : List Expr} {n : Nat}
theorem call_g {k : Nat} {f : Addr} {fd : FuncData} {ps : List Str} {sp : SpP} {pins : List (Addr × Obj)} {σ : L2.St} {H : Hp} {s : Shared} {Q : VK} {us xs : List Value} {kw : List (Str × Value)} {vs : List V} (F : FnG X.prog X.w X.K X.mg X.base k f fd ps sp) (hr : Room k X.A) (hG : X.A.guards = some [])
    (I : Inv X pins σ H s) (hb : BindsTo s fd ⟨xs, kw⟩ (ps.zip us)) (r : Vals vs us) (h : upF X.K ps.length sp vs H Q E0) : wpAny (model X.prog X.w) X.A (call (.ref f) xs kw) (EP X pins σ Q) X.xe s :=
  wpAny_call (codeAny_mono (F.run X.A X.stack s H ⟨xs, kw⟩ us vs Q hr hG I.env0 hb r h) fun r s' hq => by
    cases r with
    | error e => exact False.elim hq
    | ok fl =>
      cases fl with
      | ret u => exact I.after hq
      | _ => exact False.elim hq)
/-- a def of the text, called by its name -/
theorem le_call {x : Str} {p : Pos} {k : Nat} {f : Addr} {fd : FuncData} {ps : List Str} {sp : SpP} {m : MA} (F : FnG X.prog X.w X.K X.mg X.base k f fd ps sp) (hr : Room k X.A) (hG : X.A.guards = some []) (hm : X.mg x = some (.ref f)) (hk : PySem.W.keepIn X.K (.ref f) = true) (hb : Binds X.K fd ps [])
    (ha : LAn X (e :: es) n m) (hp : n = ps.length := by rfl) (hg : Gl X x := by rfl) (hdb : (x == ("__debug__" : Str)) = false := by decide)
    (he : starEach (e :: es) X.env = (false, eval e X.env) :: starEach es X.env := by rfl) (hpl : (backTo pos (starEach es X.env)).any (·.1) = false := by rfl) : LE X (.Call (.Name x p) (e :: es) [] pos) (mBlt sp m) := by
  refine ⟨fun pins s σ H Q I ⟨τ, h, Q', ss, sh, q, l⟩ => ?_⟩
  refine wpAny_Call_Name_kw (ld_glob I hg hm ?_ hdb)
  refine PySem.W.callWith_K (h₀ := X.base) I.ok.mod.kin hk (thn (ha.run pos pins s σ H (fun vs H1 => vs.length = ps.length ∧ upF X.K ps.length sp vs H1 Q E0) I
    ⟨τ, h, _, ss, sh, q, fun qs h1 vs H1 q1 hl g1 r1 s1 => ⟨by rw [← r1.length, hl, hp], qs, h1, Q', by rw [hl, hp], r1, s1, q1, l.mono g1⟩⟩) fun us s1 ⟨vs, H1, I1, r, hl, q⟩ => ⟨I1.kIn, ?_⟩) he hpl
  have z := hb s1 us I1.kIn (by rw [List.append_nil, ← r.length, hl])
  rw [List.append_nil] at z
  exact call_g (kw := []) F hr hG I1 z r q
theorem le_call0 {x : Str} {p : Pos} {k : Nat} {f : Addr} {fd : FuncData} {sp : SpP} (F : FnG X.prog X.w X.K X.mg X.base k f fd [] sp) (hr : Room k X.A) (hG : X.A.guards = some []) (hm : X.mg x = some (.ref f)) (hk : PySem.W.keepIn X.K (.ref f) = true) (hb : Binds X.K fd [] [])
    (hg : Gl X x := by rfl) (hdb : (x == ("__debug__" : Str)) = false := by decide) : LE X (.Call (.Name x p) [] [] pos) (mBlt sp mNil) := by
  refine ⟨fun pins s σ H Q I ⟨τ, h, Q', ss, sh, q, l⟩ => ?_⟩
  refine wpAny_Call_Name_kw (ld_glob I hg hm ?_ hdb)
  exact PySem.W.callWith_K0 I.kIn hk (call_g (kw := []) (xs := []) (us := []) F hr hG I (hb s [] I.kIn rfl) .nil ⟨[], h, Q', rfl, .nil, sh, q, l⟩)
/-- keywords' values -/
abbrev LKn (X : Cx) (kws : List Keyword) (n : Nat) (m : MA) : Prop := L2.PK X kws (upL X.K n m)
theorem lk_nil : LKn X [] 0 mNil := ⟨fun pos pins s σ H Q I ⟨τ, h, Q', ss, sh, q, l⟩ => pk_nil.run pos pins s σ H Q I (l [] h [] H q rfl .refl .nil sh)⟩
theorem lk_cons {nm : Option Str} {kpos : Pos} {kws : List Keyword} {ma : ME} {mr : MA} (ha : LE X e ma) (hr : LKn X kws n mr) : LKn X (⟨nm, e, kpos⟩ :: kws) (n + 1) (mCons ma mr) :=
  ⟨fun pos pins s σ H Q I ⟨τ, h, Q', ss, sh, q, l⟩ => (pk_cons ha hr).run pos pins s σ H Q I ⟨τ, h, _, ss, sh, q, fun p h1 v H1 q1 g1 r s1 => ⟨τ, h1, _, ss.mono g1.mono, s1, q1, fun ps h2 vs H2 q2 hn g2 r2 s2 =>
    l _ _ _ _ q2 (by rw [List.length_cons, hn]) (g1.trans g2) (.cons (r.mono g2.mono) r2) s2⟩⟩⟩
def mKw (sp : SpP) (gP : List PV → List PV → List PV) (m mk : MA) : ME := fun τ h Q => m τ h fun ps h1 => mk τ h1 fun qs h2 => sp (gP ps qs) h2 Q
theorem vals_len {vs : List V} {us : List Value} {n : Nat} (r : Vals vs us) (h : vs.length = n) : us.length = n := by rw [← r.length, h]
/-- f(e, .., k = v, ..) -/
theorem le_callK {x : Str} {p : Pos} {k i j : Nat} {f : Addr} {fd : FuncData} {ps ks : List Str} {sp : SpP} {m mk : MA} {kws : List Keyword} {g : List Value → List Value → List Value} {gV : List V → List V → List V} {gP : List PV → List PV → List PV}
    (F : FnG X.prog X.w X.K X.mg X.base k f fd ps sp) (hr : Room k X.A) (hG : X.A.guards = some []) (hm : X.mg x = some (.ref f)) (hk : PySem.W.keepIn X.K (.ref f) = true) (hb : KwB fd ps ks g gV gP i j)
    (ha : LAn X (e :: es) i m) (hkw : LKn X kws j mk) (hg : Gl X x := by rfl) (hall : (backToKw pos (keywordEach kws X.env)).all (·.1.isSome) = true := by rfl) (hks : (backToKw pos (keywordEach kws X.env)).filterMap (·.1) = ks := by rfl)
    (hdb : (x == ("__debug__" : Str)) = false := by decide) (he : starEach (e :: es) X.env = (false, eval e X.env) :: starEach es X.env := by rfl)
    (hpl : ((backTo pos (starEach (e :: es) X.env)).any (·.1) || (backToKw pos (keywordEach kws X.env)).any (·.1.isNone)) = false := by rfl) : LE X (.Call (.Name x p) (e :: es) kws pos) (mKw sp gP m mk) := by
  refine ⟨fun pins s σ H Q I ⟨τ, h, Q', ss, sh, q, l⟩ => ?_⟩
  refine wpAny_Call_Name_kw (ld_glob I hg hm ?_ hdb)
  refine PySem.W.callWith_KW (h₀ := X.base) I.ok.mod.kin hk hall (thn (ha.run pos pins s σ H (fun vs H1 => ∃ qs h1, qs.length = i ∧ vs.length = i ∧ Rels X.K H1 qs vs ∧ SimS X.K H1 σ τ ∧ Sim X.K H1 h1 ∧ LQ X.K H1 h1 Q' Q ∧ mk τ h1 fun zs h2 => sp (gP qs zs) h2 Q') I
    ⟨τ, h, _, ss, sh, q, fun qs h1 vs H1 q1 hl g1 r1 s1 => ⟨qs, h1, hl, by rw [← r1.length, hl], r1, ss.mono g1.mono, s1, l.mono g1, q1⟩⟩) fun us s1 ⟨vs, H1, I1, r, qs, h1, hl, hv, rq, ss1, sh1, l1, q1⟩ => ?_) hpl he
  refine thn (hkw.run pos pins s1 σ H1 (fun zs H2 => zs.length = j ∧ upF X.K ps.length sp (gV vs zs) H2 Q E0) I1
    ⟨τ, h1, _, ss1, sh1, q1, fun zs h2 ws H2 q2 hz g2 r2 s2 => ⟨by rw [← r2.length, hz], gP qs zs, h2, Q', hb.len hl hz, hb.relP hl hz (rq.mono g2.mono) r2, s2, q2, l1.mono g2⟩⟩) fun ws s2 ⟨zs, H2, I2, rz, hz, q2⟩ => ⟨I2.kIn, ?_⟩
  rw [hks]
  exact call_g F hr hG I2 (hb.to s2 us ws (vals_len r hv) (vals_len rz hz)) (hb.rel (vals_len r hv) (vals_len rz hz) r rz) q2
theorem le_callK0 {x : Str} {p : Pos} {k j : Nat} {f : Addr} {fd : FuncData} {ps ks : List Str} {sp : SpP} {mk : MA} {kws : List Keyword} {g : List Value → List Value → List Value} {gV : List V → List V → List V} {gP : List PV → List PV → List PV}
    (F : FnG X.prog X.w X.K X.mg X.base k f fd ps sp) (hr : Room k X.A) (hG : X.A.guards = some []) (hm : X.mg x = some (.ref f)) (hk : PySem.W.keepIn X.K (.ref f) = true) (hb : KwB fd ps ks g gV gP 0 j)
    (hkw : LKn X kws j mk) (hg : Gl X x := by rfl) (hall : (backToKw pos (keywordEach kws X.env)).all (·.1.isSome) = true := by rfl) (hks : (backToKw pos (keywordEach kws X.env)).filterMap (·.1) = ks := by rfl)
    (hdb : (x == ("__debug__" : Str)) = false := by decide) (hpl : ((backTo pos (starEach [] X.env)).any (·.1) || (backToKw pos (keywordEach kws X.env)).any (·.1.isNone)) = false := by rfl) : LE X (.Call (.Name x p) [] kws pos) (mKw sp gP mNil mk) := by
  refine ⟨fun pins s σ H Q I ⟨τ, h, Q', ss, sh, q, l⟩ => ?_⟩
  refine wpAny_Call_Name_kw (ld_glob I hg hm ?_ hdb)
  refine PySem.W.callWith_KW0 (h₀ := X.base) I.ok.mod.kin hk hall (thn (hkw.run pos pins s σ H (fun zs H2 => zs.length = j ∧ upF X.K ps.length sp (gV [] zs) H2 Q E0) I
    ⟨τ, h, _, ss, sh, q, fun zs h2 ws H2 q2 hz g2 r2 s2 => ⟨by rw [← r2.length, hz], gP [] zs, h2, Q', hb.len rfl hz, hb.relP rfl hz .nil r2, s2, q2, l.mono g2⟩⟩) fun ws s2 ⟨zs, H2, I2, rz, hz, q2⟩ => ⟨I2.kIn, ?_⟩) hpl
  rw [hks]
  exact call_g F hr hG I2 (hb.to s2 [] ws rfl (vals_len rz hz)) (hb.rel rfl (vals_len rz hz) .nil rz) q2
end

/-! ### statements -/
def mNx : MS := fun D τ h => D.nx τ h
def mSeq (a b : MS) : MS := fun D τ h => a { D with nx := b D } τ h
def mDrop (e : ME) : MS := fun D τ h => e τ h fun _ h1 => D.nx τ h1
def mRet (e : ME) : MS := fun D τ h => e τ h D.rt
def mRetN : MS := fun D _ h => D.rt .non h
def mIfS (t : MT) (a b : MS) : MS := fun D τ h => t τ h fun c h1 => if c = true then a D τ h1 else b D τ h1
def mBrk : MS := fun D τ h => D.bk τ h
def mCnt : MS := fun D τ h => D.ct τ h
section
variable {X : Cx} {pos : Pos} {s : Stmt} {rest : List Stmt} {e : Expr}
theorem LD.seq {K : PySem.W.Frag} {H : Hp} {h : PH} {D' : PEnds} {D : Ends} (l : LD K H h D' D) (b : MS) : LD K H h { D' with nx := b D' } { D with nx := upS K b D } :=
  ⟨fun τ h1 σ H1 q m s sh => ⟨τ, h1, D', s, sh, q, l.mono m⟩, l.rt, l.bk, l.ct⟩
theorem ls_nil : LSs X [] mNx := PSs.weak pss_nil fun D σ H ⟨τ, h, D', s, sh, q, l⟩ => l.nx τ h σ H q .refl s sh
theorem ls_cons {a b : MS} (h1 : LS X s a) (h2 : LSs X rest b) : LSs X (s :: rest) (mSeq a b) :=
  PSs.weak (pss_cons h1 h2) fun D σ H ⟨τ, h, D', s, sh, q, l⟩ => ⟨τ, h, _, s, sh, q, l.seq b⟩
theorem ls_one {a : MS} (h1 : LS X s a) : LSs X [s] a := pss_one h1
theorem ls_pass : LS X (.Pass pos) mNx := PS.weak ps_pass fun D σ H ⟨τ, h, D', s, sh, q, l⟩ => l.nx τ h σ H q .refl s sh
theorem ls_brk : LS X (.Break pos) mBrk := PS.weak ps_break fun D σ H ⟨τ, h, D', s, sh, q, l⟩ => l.bk τ h σ H q .refl s sh
theorem ls_cnt : LS X (.Continue pos) mCnt := PS.weak ps_continue fun D σ H ⟨τ, h, D', s, sh, q, l⟩ => l.ct τ h σ H q .refl s sh
theorem ls_expr {m : ME} (he : LE X e m) (hs : swapsWith e none pos.line X.env = pure false := by rfl) : LS X (.Expr e pos) (mDrop m) :=
  PS.weak (ps_expr he hs) fun D σ H ⟨τ, h, D', s, sh, q, l⟩ => ⟨τ, h, _, s, sh, q, fun p h1 v H1 q1 m1 r s1 => l.nx τ h1 σ H1 q1 m1 (s.mono m1.mono) s1⟩
theorem ls_ret {m : ME} (he : LE X e m) : LS X (.Return (some e) pos) (mRet m) :=
  PS.weak (ps_ret he) fun D σ H ⟨τ, h, D', s, sh, q, l⟩ => ⟨τ, h, _, s, sh, q, l.rt⟩
theorem ls_retN : LS X (.Return none pos) mRetN := PS.weak ps_retN fun D σ H ⟨τ, h, D', s, sh, q, l⟩ => l.rt _ _ _ _ q .refl (by simp only [Rel]) sh
theorem ls_if {c : Expr} {a b : List Stmt} {t : MT} {ma mb : MS} (hc : LT X c t) (ha : LSs X a ma) (hb : LSs X b mb) : LS X (.If c a b pos) (mIfS t ma mb) := by
  refine PS.weak (ps_if hc ha hb) fun D σ H ⟨τ, h, D', s, sh, q, l⟩ => ?_
  refine ⟨τ, h, _, s, sh, q, fun c h1 H1 q1 m1 s1 => ?_⟩
  cases c with
  | true => exact ⟨τ, h1, D', s.mono m1.mono, s1, q1, l.mono m1⟩
  | false => exact ⟨τ, h1, D', s.mono m1.mono, s1, q1, l.mono m1⟩
end

/-! ### targets -/
abbrev MG := PV → PSt → PH → (PSt → PH → Prop) → Prop
abbrev MGs := List PV → PSt → PH → (PSt → PH → Prop) → Prop
def upG (K : PySem.W.Frag) (vs : List Nat) (g : MG) : TG := fun v σ H Q => ∃ p τ h Q', Rel K H p v ∧ SimS K H σ τ ∧ Sim K H h ∧ g p τ h Q' ∧
  ∀ τ1 h1 σ1 H1, Q' τ1 h1 → Go H h H1 h1 → SimS K H1 σ1 τ1 → Sim K H1 h1 → wipe σ1 vs = wipe σ vs → Q σ1 H1
def upGs (K : PySem.W.Frag) (vs : List Nat) (g : MGs) : TGs := fun us σ H Q => ∃ ps τ h Q', Rels K H ps us ∧ SimS K H σ τ ∧ Sim K H h ∧ g ps τ h Q' ∧
  ∀ τ1 h1 σ1 H1, Q' τ1 h1 → Go H h H1 h1 → SimS K H1 σ1 τ1 → Sim K H1 h1 → wipe σ1 vs = wipe σ vs → Q σ1 H1
abbrev LG (X : Cx) (t : Expr) (vs : List Nat) (g : MG) : Prop := PG X t (upG X.K vs g)
abbrev LGs (X : Cx) (ts : List Expr) (vs : List Nat) (g : MGs) : Prop := PGs X ts (upGs X.K vs g)
def gN (i : Nat) : MG := fun p τ h Q => Q (st τ i (some p)) h
def gsNil : MGs := fun ps τ h Q => ps = [] ∧ Q τ h
def gsCons (g : MG) (r : MGs) : MGs := fun ps τ h Q => match ps with | p :: qs => g p τ h fun τ1 h1 => r qs τ1 h1 Q | [] => False
def gT (n : Nat) (g : MGs) : MG := fun p τ h Q => match p with | .tup ps => ps.length = n ∧ g ps τ h Q | _ => False
theorem wipe_set {σ : L2.St} {i : Nat} {x : Option V} : ∀ {vs : List Nat}, i ∈ vs → wipe (σ.set i x) vs = wipe σ vs
  | v :: vs, hi => by
    unfold wipe
    by_cases e : v = i
    · subst e
      by_cases hm : v ∈ vs
      · rw [wipe_set hm]
      · clear hi
        have : ∀ vs : List Nat, v ∉ vs → wipe (σ.set v x) vs = (wipe σ vs).set v x := by
          intro vs
          induction vs with
          | nil => intro _; rfl
          | cons u us ih =>
            intro hn
            unfold wipe
            rw [ih fun z => hn (List.mem_cons_of_mem _ z), List.set_comm _ _ fun z => hn (by rw [z]; exact List.mem_cons_self)]
        rw [this vs hm, List.set_set]
    · have hm : i ∈ vs := by
        rcases List.mem_cons.mp hi with z | z
        · exact absurd z.symm e
        · exact z
      rw [wipe_set hm]
section
variable {X : Cx} {pos : Pos} {vs : List Nat} {e : Expr} {es : List Expr}
theorem PG.weak {t u : TG} (h : PG X e t) (w : ∀ v σ H Q, u v σ H Q → t v σ H Q) : PG X e u := ⟨fun pins s σ H v uu Q I r q => h.run pins s σ H v uu Q I r (w v σ H Q q)⟩
theorem PGs.weak {t u : TGs} (h : PGs X es t) (w : ∀ v σ H Q, u v σ H Q → t v σ H Q) : PGs X es u := ⟨fun pins s σ H v uu Q I r q => h.run pins s σ H v uu Q I r (w v σ H Q q)⟩
theorem lg_name {i : Nat} {x : Str} (hN : X.N.Nodup) (hi : X.N[i]? = some x := by rfl) (hx : Loc X.env.scope x := by first | exact Or.inl rfl | exact Or.inr rfl) (hv : i ∈ vs := by simp) (hf : X.fn x = true ∨ X.env.scope.names.lookup x = some .local := by first | exact .inl rfl | exact .inr rfl | assumption) : LG X (.Name x pos) vs (gN i) :=
  PG.weak (pg_name hN hi hx hf) fun v σ H Q ⟨p, τ, h, Q', r, s, sh, q, l⟩ => l _ _ _ _ q .refl (s.set r) sh (wipe_set hv)
theorem lgs_nil : LGs X [] vs gsNil := PGs.weak pgs_nil fun us σ H Q ⟨ps, τ, h, Q', r, s, sh, ⟨q1, q2⟩, l⟩ => by
  subst q1
  exact ⟨r.len0, l _ _ _ _ q2 .refl s sh rfl⟩
theorem lgs_cons {g : MG} {r : MGs} (h1 : LG X e vs g) (h2 : LGs X es vs r) (hs : (assignEach (e :: es) X.env).map (·.2) = assign e X.env :: (assignEach es X.env).map (·.2) := by rfl) : LGs X (e :: es) vs (gsCons g r) := by
  refine PGs.weak (pgs_cons h1 h2 hs) fun us σ H Q ⟨ps, τ, h, Q', rr, s, sh, q, l⟩ => ?_
  cases ps with
  | nil => exact q.elim
  | cons p qs =>
    obtain ⟨v, ws, rfl, r1, r2⟩ := rr.uncons
    refine ⟨v, ws, rfl, p, τ, h, _, r1, s, sh, q, fun τ1 h1 σ1 H1 q1 m1 s1 sh1 w1 => ?_⟩
    refine ⟨qs, τ1, h1, _, r2.mono m1.mono, s1, sh1, q1, fun τ2 h2 σ2 H2 q2 m2 s2 sh2 w2 => ?_⟩
    exact l _ _ _ _ q2 (m1.trans m2) s2 sh2 (w2.trans w1)
theorem lg_tup {k : Nat} {g : MGs} {n : Nat} (hc : X.calm = true) (h : LGs X es vs g) (hn : (assignEach es X.env).length = n := by rfl) (hst : (assignEach es X.env).findIdx? (·.1) = none := by rfl) : LG X (.Tuple es k pos) vs (gT n g) := by
  refine PG.weak (pg_tup hc h hn hst) fun v σ H Q ⟨p, τ, h, Q', r, s, sh, q, l⟩ => ?_
  cases p with
  | tup ps =>
    obtain ⟨ql, q⟩ := q
    simp only [Rel] at r
    obtain ⟨a, xs, e1, e2, rx⟩ := r
    exact ⟨a, xs, e1, e2, by rw [← rx.length, ql], ps, τ, h, Q', rx, s, sh, q, l⟩
  | _ => exact q.elim
/-- target = value -/
def mAsg (m : ME) (g : MG) : MS := fun D τ h => m τ h fun p h1 => g p τ h1 D.nx
theorem ls_asg {tg : Expr} {m : ME} {g : MG} (he : LE X e m) (hg : LG X tg vs g) (hs : swapsWithSole [tg] e pos.line X.env = pure false := by rfl) (hw : swappedStores [tg] e X.env = pure none := by rfl)
    (h1 : (assignEach [tg] X.env).map (·.2) = [assign tg X.env] := by rfl) : LS X (.Assign [tg] e pos) (mAsg m g) := by
  refine PS.weak (ps_asg he hg hs hw h1) fun D σ H ⟨τ, h, D', s, sh, q, l⟩ => ?_
  refine ⟨τ, h, _, s, sh, q, fun p h1 v H1 q1 m1 r s1 => ?_⟩
  exact ⟨p, τ, h1, _, r, s.mono m1.mono, s1, q1, fun τ1 h2 σ1 H2 q2 m2 s2 sh2 _ => l.nx _ _ _ _ q2 (m1.trans m2) s2 sh2⟩
theorem ls_set {i : Nat} {x : Str} {m : ME} {pos' : Pos} (hN : X.N.Nodup) (he : LE X e m) (hi : X.N[i]? = some x := by rfl) (hx : Loc X.env.scope x := by first | exact Or.inl rfl | exact Or.inr rfl) (hs : swapsWith e (some (.Name x pos')) pos.line X.env = pure false := by rfl) (hf : X.fn x = true ∨ X.env.scope.names.lookup x = some .local := by first | exact .inl rfl | exact .inr rfl | assumption) :
    LS X (.Assign [.Name x pos'] e pos) (mAsg m (gN i)) := by
  refine PS.weak (ps_set hN hi hx he hs hf) fun D σ H ⟨τ, h, D', s, sh, q, l⟩ => ?_
  exact ⟨τ, h, _, s, sh, q, fun p h1 v H1 q1 m1 r s1 => l.nx _ _ _ _ q1 m1 ((s.mono m1.mono).set r) s1⟩
/-- a, b = x, y with plain local names -/
def mPar (i j : Nat) (m : MA) : MS := fun D τ h => m τ h fun ps h1 => match ps with | [p, q] => D.nx (st (st τ i (some p)) j (some q)) h1 | _ => False
theorem ls_par {i j : Nat} {x y : Str} {a b : Expr} {ta : MA} {px py pt : Pos} {kt k2 pt2} (hc : X.calm = true) (hN : X.N.Nodup) (ha : LAn X [a, b] 2 ta) (hi : X.N[i]? = some x := by rfl) (hj : X.N[j]? = some y := by rfl) (hij : i ≠ j := by decide)
    (hx : X.env.scope.names.lookup x = some .local := by rfl) (hy : X.env.scope.names.lookup y = some .local := by rfl)
    (hw : swappedStores [.Tuple [.Name x px, .Name y py] kt pt] (.Tuple [a, b] k2 pt2) X.env = pure (some [x, y]) := by rfl)
    (hs : swapsWithSole [.Tuple [.Name x px, .Name y py] kt pt] (.Tuple [a, b] k2 pt2) pos.line X.env = pure false := by rfl) :
    LS X (.Assign [.Tuple [.Name x px, .Name y py] kt pt] (.Tuple [a, b] k2 pt2) pos) (mPar i j ta) := by
  refine PS.weak (ps_par hc hN hi hj hij hx hy ha hw hs) fun D σ H ⟨τ, h, D', s, sh, q, l⟩ => ?_
  refine ⟨τ, h, _, s, sh, q, fun ps h1 vs H1 q1 hl m1 r s1 => ?_⟩
  match ps, q1, r with
  | [p, q], q1, r =>
    obtain ⟨v, w, rfl, r1, r2⟩ := r.two
    exact ⟨v, w, rfl, l.nx _ _ _ _ q1 m1 (((s.mono m1.mono).set r1).set r2) s1⟩
  | [], q1, _ => exact q1.elim
  | [_], q1, _ => exact q1.elim
  | _ :: _ :: _ :: _, q1, _ => exact q1.elim
end
end N3

namespace N3
open PySem PySem.Spec PyProof.Rows L2

/-! ### while -/
/-- I: what holds ahead of each turn, by a number that falls -/
def mWhile (t : MT) (b : MS) : MS := fun D τ h => ∃ I : Nat → PSt → PH → Prop, (∃ n, I n τ h) ∧ ∀ n τ h, I n τ h →
  t τ h fun c h1 => if c = true then b { D with nx := fun τ' h' => ∃ m, m < n ∧ I m τ' h', ct := fun τ' h' => ∃ m, m < n ∧ I m τ' h', bk := D.nx } τ h1 else D.nx τ h1
section
variable {X : Cx} {pos : Pos} {e : Expr}
theorem ls_while {c : Expr} {body : List Stmt} {t : MT} {b : MS} (hp : PassesOwn (model X.prog X.w) X.A X.env X.xe) (hc : LT X c t) (hb : LSs X body b) : LS X (.While c body [] pos) (mWhile t b) := by
  refine PS.weak (ps_while hp hc hb) fun D σ0 H0 ⟨τ0, h0, D', s0, sh0, ⟨I, ⟨n0, i0⟩, turn⟩, l⟩ => ?_
  refine ⟨fun n σ H => ∃ τ h, Go H0 h0 H h ∧ SimS X.K H σ τ ∧ Sim X.K H h ∧ I n τ h, ⟨n0, τ0, h0, .refl, s0, sh0, i0⟩, ?_⟩
  rintro n σ H ⟨τ, h, g, s, sh, i⟩
  refine ⟨τ, h, _, s, sh, turn n τ h i, fun c h1 H1 q1 g1 s1 => ?_⟩
  cases c with
  | true =>
    rw [if_pos rfl] at q1 ⊢
    refine ⟨fun σ' H' => ∃ m, m < n ∧ ∃ τ h, Go H0 h0 H' h ∧ SimS X.K H' σ' τ ∧ Sim X.K H' h ∧ I m τ h, fun σ' H' z => z, ?_⟩
    refine ⟨τ, h1, _, s.mono g1.mono, s1, q1, ?_⟩
    have l' := l.mono (g.trans g1)
    have again : LN X.K H1 h1 (fun τ' h' => ∃ m, m < n ∧ I m τ' h') (fun σ' H' => ∃ m, m < n ∧ ∃ τ h, Go H0 h0 H' h ∧ SimS X.K H' σ' τ ∧ Sim X.K H' h ∧ I m τ h) := fun τ2 h2 σ2 H2 ⟨m, hm, i2⟩ g2 s2 sh2 =>
      ⟨m, hm, τ2, h2, (g.trans g1).trans g2, s2, sh2, i2⟩
    exact ⟨again, l'.rt, l'.nx, again⟩
  | false =>
    rw [if_neg Bool.false_ne_true] at q1 ⊢
    exact l.nx τ h1 σ H1 q1 (g.trans g1) (s.mono g1.mono) s1

/-! ### what is gone along -/
/-- the items, and what must stand at each turn -/
abbrev MI := PSt → PH → (List PV → (PH → Prop) → PH → Prop) → Prop
structure Wk (K : PySem.W.Frag) (J : It) (ps : List PV) (gd : PH → Prop) (H1 : Hp) : Prop where
  few : ps.length ≤ sizeLine
  goes : ∀ i H h, i < ps.length → Mono H1 H → Sim K H h → gd h → J.go i H
  stops : ∀ H h, Mono H1 H → Sim K H h → gd h → J.stop ps.length H
  yields : ∀ (i : Nat) H h x H' p, ps[i]? = some p → Mono H1 H → Sim K H h → gd h → J.yld i H x H' → Go H h H' h ∧ Sim K H' h ∧ Rel K H' p x
def upI (K : PySem.W.Frag) (mi : MI) : TI := fun σ H R => ∃ τ h Q', SimS K H σ τ ∧ Sim K H h ∧ mi τ h Q' ∧
  ∀ ps gd h1 H1 J, Q' ps gd h1 → Go H h H1 h1 → Sim K H1 h1 → Wk K J ps gd H1 → R J H1
abbrev LI (X : Cx) (tg iter : Expr) (mi : MI) : Prop := PI X tg iter (upI X.K mi)
theorem PI.weak {tg iter : Expr} {t u : TI} (h : PI X tg iter t) (w : ∀ σ H R, u σ H R → t σ H R) : PI X tg iter u := ⟨fun pins s σ H R I q => h.run pins s σ H R I (w σ H R q)⟩

def forL (gd : PH → Prop) (g : MG) (b : MS) (D : PEnds) : List PV → PSt → PH → Prop
  | [], τ, h => gd h ∧ D.nx τ h
  | p :: ps, τ, h => gd h ∧ g p τ h fun τ1 h1 => b { D with nx := forL gd g b D ps, ct := forL gd g b D ps, bk := D.nx } τ1 h1
def mFor (mi : MI) (g : MG) (b : MS) : MS := fun D τ h => mi τ h fun ps gd h1 => forL gd g b D ps τ h1
theorem ls_for {tg iter : Expr} {body : List Stmt} {mi : MI} {vs : List Nat} {g : MG} {b : MS} (hp : PassesOwn (model X.prog X.w) X.A X.env X.xe) (hc : X.calm = true) (hi : LI X tg iter mi) (hg : LG X tg vs g) (hb : LSs X body b)
    (hs : ∀ x, foldedSetIterable iter X.env x = pure x := by intro _; rfl) : LS X (.For tg iter body [] pos) (mFor mi g b) := by
  refine PS.weak (ps_for hp hc hi hg hb hs) fun D σ0 H0 ⟨τ0, h0, D', s0, sh0, q0, l⟩ => ?_
  refine ⟨τ0, h0, _, s0, sh0, q0, fun ps gd h1 H1 J q1 g1 s1 wk => ?_⟩
  have l1 := l.mono g1
  refine ⟨fun i m σ H => ∃ τ h, i ≤ ps.length ∧ m = ps.length - i ∧ Go H1 h1 H h ∧ SimS X.K H σ τ ∧ Sim X.K H h ∧ forL gd g b D' (ps.drop i) τ h,
    ⟨ps.length, τ0, h1, Nat.zero_le _, rfl, .refl, s0.mono g1.mono, s1, q1⟩, ?_⟩
  rintro i m σ H ⟨τ, h, hi, rfl, gg, s, sh, q⟩
  by_cases hlt : i < ps.length
  · have e : ps.drop i = ps[i] :: ps.drop (i + 1) := List.drop_eq_getElem_cons hlt
    rw [e] at q
    obtain ⟨hgd, q⟩ := q
    refine .inr ⟨wk.goes i H h hlt gg.mono sh hgd, fun σ' H' => ∃ τ h, Go H1 h1 H' h ∧ SimS X.K H' σ' τ ∧ Sim X.K H' h ∧ forL gd g b D' (ps.drop (i + 1)) τ h, fun σ' H' ⟨τ, h, a, b', c, d⟩ => ⟨ps.length - (i + 1), by omega, τ, h, hlt, rfl, a, b', c, d⟩, fun x H' y => ?_⟩
    obtain ⟨g2, sh2, rx⟩ := wk.yields i H h x H' ps[i] (List.getElem?_eq_getElem hlt) gg.mono sh hgd y
    refine ⟨ps[i], τ, h, _, rx, s.mono g2.mono, sh2, q, fun τ3 h3 σ3 H3 q3 g3 s3 sh3 _ => ?_⟩
    refine ⟨τ3, h3, _, s3, sh3, q3, ?_⟩
    have g13 := (gg.trans g2).trans g3
    have l3 := l1.mono g13
    have again : LN X.K H3 h3 (forL gd g b D' (ps.drop (i + 1))) (fun σ' H' => ∃ τ h, Go H1 h1 H' h ∧ SimS X.K H' σ' τ ∧ Sim X.K H' h ∧ forL gd g b D' (ps.drop (i + 1)) τ h) := fun τ4 h4 σ4 H4 q4 g4 s4 sh4 =>
      ⟨τ4, h4, g13.trans g4, s4, sh4, q4⟩
    exact ⟨again, l3.rt, l3.nx, again⟩
  · have e : i = ps.length := by omega
    subst e
    rw [List.drop_length] at q
    exact .inl ⟨wk.stops H h gg.mono sh q.1, l1.nx τ h σ H q.2 gg s sh⟩

/-! ### [e for t in it if ..] -/
def mTs : List MT → MT
  | [] => fun _ h Q => Q true h
  | [t] => t
  | _ => fun _ _ _ => False
def mYes : MT := fun _ h Q => Q true h
abbrev LTs (X : Cx) (ifs : List Expr) (t : MT) : Prop := PTs X ifs (upT X.K t)
theorem lts_nil : LTs X [] mYes := ⟨fun pins s σ H Q I ⟨τ, h, Q', ss, sh, q, l⟩ => pts_nil.run pins s σ H Q I (l _ _ _ q .refl sh)⟩
theorem lts_one {c : Expr} {t : MT} (h : LT X c t) : LTs X [c] t := pts_one h
def lcL (gd : PH → Prop) (τ : PSt) (g : MG) (t : MT) (m : ME) : List PV → List PV → PH → (List PV → PH → Prop) → Prop
  | [], acc, h, Q => gd h ∧ Q acc h
  | p :: ps, acc, h, Q => gd h ∧ g p τ h fun τ1 h1 => t τ1 h1 fun b h2 => if b = true then m τ1 h2 fun v h3 => lcL gd τ g t m ps (acc ++ [v]) h3 Q else lcL gd τ g t m ps acc h2 Q
def wp (τ : PSt) : List Nat → PSt
  | [] => τ
  | v :: vs => st (wp τ vs) v none
theorem SimS.wipe {K : PySem.W.Frag} {H : Hp} {σ : L2.St} {τ : PSt} (s : SimS K H σ τ) : ∀ vs : List Nat, SimS K H (wipe σ vs) (wp τ vs)
  | [] => s
  | v :: vs => by
    have ih := SimS.wipe s vs
    unfold L2.wipe wp
    refine ⟨by rw [List.length_set, st_eq, List.length_set]; exact ih.1, fun i p e => ?_⟩
    rw [st_eq, gt_eq] at e
    by_cases hv : v = i
    · subst hv
      by_cases hl : v < (wp τ vs).length
      · rw [List.getElem?_set_self hl] at e; simp at e
      · rw [List.getElem?_eq_none (by simpa using hl)] at e; simp at e
    · rw [List.getElem?_set_ne hv] at e ⊢
      exact ih.2 i p (by rw [gt_eq]; exact e)
/-- the list kept; one that may change -/
def mLc (mi : MI) (vs : List Nat) (g : MG) (t : MT) (m : ME) : ME := fun τ h Q => mi τ h fun ps gd h1 => lcL gd (wp τ vs) g t m ps [] h1 fun zs h2 => Q (.lst zs) h2
def mLcM (mi : MI) (vs : List Nat) (g : MG) (t : MT) (m : ME) : ME := fun τ h Q => mi τ h fun ps gd h1 => lcL gd (wp τ vs) g t m ps [] h1 fun zs h2 => ∀ a, h2 a = none → Q (.ref a) (up h2 a (.lst zs))
theorem wipe_wipe {σ : L2.St} {vs : List Nat} : wipe (wipe σ vs) vs = wipe σ vs := by
  have key : ∀ us : List Nat, (∀ u ∈ us, u ∈ vs) → wipe (wipe σ us) vs = wipe σ vs := by
    intro us
    induction us with
    | nil => intro _; rfl
    | cons u us ih =>
      intro hs
      show wipe ((wipe σ us).set u none) vs = wipe σ vs
      rw [wipe_set (hs u List.mem_cons_self)]
      exact ih fun w hw => hs w (List.mem_cons_of_mem _ hw)
  exact key vs fun _ h => h
/-- the reading of a comprehension, whatever is done with the list -/
theorem lc_up {K : PySem.W.Frag} {mi : MI} {vs : List Nat} {g : MG} {t : MT} {m : ME} {Y : List PV → PH → Prop} {σ : L2.St} {H0 : Hp} {τ : PSt} {h0 : PH} {Q : VK} (s0 : SimS K H0 σ τ) (sh0 : Sim K H0 h0)
    (q : mi τ h0 fun ps gd h1 => lcL gd (wp τ vs) g t m ps [] h1 Y)
    (fin : ∀ zs h2 xs D H2, Y zs h2 → H0 D = none → H2 D = some (.lst xs) → h2 D = none → Sim K H2 h2 → Rels K H2 zs xs → Go H0 h0 H2 h2 → Q (.ref D) H2) :
    tLc (upI K mi) (upG K vs g) (upT K t) (upE K m) vs σ H0 Q := by
  refine ⟨τ, h0, _, s0, sh0, q, fun ps gd h1 H1 J q1 g1 s1 wk D hD => ?_⟩
  have hD1 : h1 D = none := s1.fresh hD
  have gD : Go H1 h1 (upd H1 D (.lst [])) h1 := .new hD
  refine ⟨fun i n H => ∃ h acc xs, i ≤ ps.length ∧ n = ps.length - i ∧ Go H1 h1 H h ∧ H D = some (.lst xs) ∧ h D = none ∧ Rels K H acc xs ∧ xs.length ≤ i ∧ Sim K H h ∧ lcL gd (wp τ vs) g t m (ps.drop i) acc h Y,
    ⟨ps.length, h1, [], [], Nat.zero_le _, rfl, gD, upd_same, hD1, .nil, Nat.le_refl _, s1.new hD, q1⟩, ?_⟩
  rintro i n H ⟨h, acc, xs, hi, rfl, gg, hx, hd, ra, hl, sh, q⟩
  by_cases hlt : i < ps.length
  · have e : ps.drop i = ps[i] :: ps.drop (i + 1) := List.drop_eq_getElem_cons hlt
    rw [e] at q
    obtain ⟨hgd, q⟩ := q
    refine .inr ⟨wk.goes i H h hlt gg.mono sh hgd, fun H' => ∃ h acc xs, Go H1 h1 H' h ∧ H' D = some (.lst xs) ∧ h D = none ∧ Rels K H' acc xs ∧ xs.length ≤ i + 1 ∧ Sim K H' h ∧ lcL gd (wp τ vs) g t m (ps.drop (i + 1)) acc h Y,
      fun H' ⟨h, acc, xs, a1, a2, a3, a4, a5, a6, a7⟩ => ⟨ps.length - (i + 1), by omega, h, acc, xs, hlt, rfl, a1, a2, a3, a4, a5, a6, a7⟩, fun x H' y => ?_⟩
    obtain ⟨g2, sh2, rx⟩ := wk.yields i H h x H' ps[i] (List.getElem?_eq_getElem hlt) gg.mono sh hgd y
    have gw : Mono H0 H' := (g1.trans (gg.trans g2)).mono
    refine ⟨ps[i], wp τ vs, h, _, rx, (s0.mono gw).wipe vs, sh2, q, fun τ3 h3 σ3 H3 q3 g3 s3 sh3 w3 => ⟨by rw [w3, wipe_wipe], ?_⟩⟩
    refine ⟨τ3, h3, _, s3, sh3, q3, fun b h4 H4 q4 g4 s4 => ?_⟩
    have g24 := (g2.trans g3).trans g4
    have x4 : H4 D = some (.lst xs) := g24.frame D _ hx hd
    have d4 : h4 D = none := g24.dom D _ hx hd
    cases b with
    | true =>
      simp only [if_true] at q4 ⊢
      refine ⟨τ3, h4, _, s3.mono g4.mono, s4, q4, fun v h5 y5 H5 q5 g5 r5 s5 => ?_⟩
      have x5 : H5 D = some (.lst xs) := g5.frame D _ x4 d4
      have d5 : h5 D = none := g5.dom D _ x4 d4
      have few := wk.few
      refine ⟨xs, x5, by omega, h5, acc ++ [v], xs ++ [y5], ?_, upd_same, d5, ?_, by rw [List.length_append]; simp; omega, s5.drop (Mono.lst x5) d5, q5⟩
      · have gA := ((gg.trans g24).trans g5)
        exact gA.renew hD (Mono.lst x5)
      · exact ((ra.mono (g24.trans g5).mono).append (.cons r5 .nil)).mono (Mono.lst x5)
    | false =>
      simp only [Bool.false_eq_true, if_false] at q4 ⊢
      exact ⟨h4, acc, xs, gg.trans g24, x4, d4, ra.mono g24.mono, by omega, s4, q4⟩
  · have e : i = ps.length := by omega
    subst e
    rw [List.drop_length] at q
    have g0 := g1.trans gg
    exact .inl ⟨wk.stops H h gg.mono sh q.1, fin acc h xs D H q.2 (g1.live D hD) hx hd sh ra g0⟩
theorem le_lc {elt tg iter : Expr} {ifs : List Expr} {scope : Scope} {mi : MI} {g : MG} {t : MT} {m : ME} (own : List (Str × Nat)) (hc : X.calm = true) (hN : X.N.Nodup) (hi : LI X tg iter mi) (ok : BlkOk X.N X.env.scope scope own)
    (hg : ∀ (s : Shared) (H : Hp) (C : Addr) (cl : List (Str × Addr)) (fp : List Addr), LG (X.blk s H scope (compEnvC scope cl C X.env) fp) tg (own.map (·.2)) g) (ht : ∀ (s : Shared) (H : Hp) (C : Addr) (cl : List (Str × Addr)) (fp : List Addr), LTs (X.blk s H scope (compEnvC scope cl C X.env) fp) ifs t)
    (he : ∀ (s : Shared) (H : Hp) (C : Addr) (cl : List (Str × Addr)) (fp : List Addr), LE (X.blk s H scope (compEnvC scope cl C X.env) fp) elt m) (hs : ∀ x, foldedSetIterable iter X.env x = pure x := by intro _; rfl) :
    LE X (.ListComp elt [⟨tg, iter, ifs, 0⟩] scope pos) (mLc mi (own.map (·.2)) g t m) :=
  PE.weak (PE.kp (pe_lc hc hN hi ok hg ht he hs)) fun σ H Q ⟨τ, h, Q', s, sh, q, l⟩ => lc_up s sh q fun zs h2 xs D H2 q2 h0 hD hd s2 r2 g2 => .inr ⟨D, _, rfl, hD, trivial, fun o => by
    have mm : Mono H2 (upd H2 D (.frz o (.lst xs))) := Mono.lst hD
    refine l (.lst zs) h2 (.ref D) _ q2 (g2.renew h0 mm) ?_ (s2.drop mm hd)
    simp only [Rel]
    exact ⟨D, xs, rfl, .inl ⟨o, upd_same⟩, r2.mono mm⟩⟩
theorem le_lcM {elt tg iter : Expr} {ifs : List Expr} {scope : Scope} {mi : MI} {g : MG} {t : MT} {m : ME} (own : List (Str × Nat)) (hc : X.calm = true) (hN : X.N.Nodup) (hi : LI X tg iter mi) (ok : BlkOk X.N X.env.scope scope own)
    (hg : ∀ (s : Shared) (H : Hp) (C : Addr) (cl : List (Str × Addr)) (fp : List Addr), LG (X.blk s H scope (compEnvC scope cl C X.env) fp) tg (own.map (·.2)) g) (ht : ∀ (s : Shared) (H : Hp) (C : Addr) (cl : List (Str × Addr)) (fp : List Addr), LTs (X.blk s H scope (compEnvC scope cl C X.env) fp) ifs t)
    (he : ∀ (s : Shared) (H : Hp) (C : Addr) (cl : List (Str × Addr)) (fp : List Addr), LE (X.blk s H scope (compEnvC scope cl C X.env) fp) elt m) (hs : ∀ x, foldedSetIterable iter X.env x = pure x := by intro _; rfl) :
    LE X (.ListComp elt [⟨tg, iter, ifs, 0⟩] scope pos) (mLcM mi (own.map (·.2)) g t m) :=
  PE.weak (pe_lc hc hN hi ok hg ht he hs) fun σ H Q ⟨τ, h, Q', s, sh, q, l⟩ => lc_up s sh q fun zs h2 xs D H2 q2 h0 hD hd s2 r2 g2 => by
    refine l (.ref D) _ (.ref D) H2 (q2 D hd) (g2.own h0) (by simp only [Rel]) fun b p e => ?_
    by_cases hb : b = D
    · subst hb
      rw [up_same] at e; cases e
      exact ⟨_, hD, xs, rfl, r2⟩
    · rw [up_ne hb] at e
      exact s2 b p e
/-- name = [..]: the list may change behind it -/
theorem ls_setLcM {i : Nat} {y : Str} {py : Pos} {elt tg iter : Expr} {ifs : List Expr} {scope : Scope} {spos : Pos} {mi : MI} {g : MG} {t : MT} {m : ME} (own : List (Str × Nat)) (hc : X.calm = true) (hN : X.N.Nodup) (hi : LI X tg iter mi) (ok : BlkOk X.N X.env.scope scope own)
    (hg : ∀ (s : Shared) (H : Hp) (C : Addr) (cl : List (Str × Addr)) (fp : List Addr), LG (X.blk s H scope (compEnvC scope cl C X.env) fp) tg (own.map (·.2)) g) (ht : ∀ (s : Shared) (H : Hp) (C : Addr) (cl : List (Str × Addr)) (fp : List Addr), LTs (X.blk s H scope (compEnvC scope cl C X.env) fp) ifs t)
    (he : ∀ (s : Shared) (H : Hp) (C : Addr) (cl : List (Str × Addr)) (fp : List Addr), LE (X.blk s H scope (compEnvC scope cl C X.env) fp) elt m)
    (hy : X.N[i]? = some y := by rfl) (hyl : X.env.scope.names.lookup y = some .local := by rfl)
    (hsw : swapsWith (.ListComp elt [⟨tg, iter, ifs, 0⟩] scope pos) (some (.Name y py)) spos.line X.env = pure true := by exact sw_true rfl rfl rfl (by decide +kernel)) (hs : ∀ x, foldedSetIterable iter X.env x = pure x := by intro _; rfl) :
    LS X (.Assign [.Name y py] (.ListComp elt [⟨tg, iter, ifs, 0⟩] scope pos) spos) (mAsg (mLcM mi (own.map (·.2)) g t m) (gN i)) :=
  PS.weak (ps_setLc hc hN hy hyl hsw hi ok hg ht he hs) fun D0 σ H ⟨τ, h, D', s, sh, q, l⟩ => lc_up s sh q fun zs h2 xs D H2 q2 h0 hD hd s2 r2 g2 => by
    refine l.nx _ _ _ H2 (q2 D hd) (g2.own h0) ((s.mono g2.mono).set (by simp only [Rel])) fun b p e => ?_
    by_cases hb : b = D
    · subst hb
      rw [up_same] at e; cases e
      exact ⟨_, hD, xs, rfl, r2⟩
    · rw [up_ne hb] at e
      exact s2 b p e
end
end N3

namespace N3
open PySem PySem.Spec PyProof.Rows L2

/-! ### keeping behind a statement -/
def kN (N : L2.St → Hp → Prop) : L2.St → Hp → Prop := fun σ H => N σ H ∨ ∃ a u, H a = some u ∧ Keepable u ∧ ∀ o, N σ (upd H a (.frz o u))
section
variable {X : Cx} {pos : Pos} {s : Stmt}
theorem PS.kp {t : TS} (h : PS X s t) : PS X s (fun D σ H => t { D with nx := kN D.nx } σ H) := by
  refine ⟨fun pins s σ H D I q => ?_⟩
  refine thn (h.run pins s σ H _ I q) fun f s1 q1 => ?_
  cases f with
  | next =>
    obtain ⟨σ1, H1, I1, q2⟩ := q1
    rcases q2 with q2 | ⟨a, u, e, k, q2⟩
    · exact ⟨σ1, H1, I1, q2⟩
    · obtain ⟨o, I2⟩ := Inv.keep I1 e k
      exact ⟨σ1, _, I2, q2 o⟩
  | ret v => exact q1
  | brk => exact q1
  | cont => exact q1
/-- name = [..]: the list is kept -/
theorem ls_setLc {i : Nat} {y : Str} {py : Pos} {elt tg iter : Expr} {ifs : List Expr} {scope : Scope} {spos : Pos} {mi : MI} {g : MG} {t : MT} {m : ME} (own : List (Str × Nat)) (hc : X.calm = true) (hN : X.N.Nodup) (hi : LI X tg iter mi) (ok : BlkOk X.N X.env.scope scope own)
    (hg : ∀ (s : Shared) (H : Hp) (C : Addr) (cl : List (Str × Addr)) (fp : List Addr), LG (X.blk s H scope (compEnvC scope cl C X.env) fp) tg (own.map (·.2)) g) (ht : ∀ (s : Shared) (H : Hp) (C : Addr) (cl : List (Str × Addr)) (fp : List Addr), LTs (X.blk s H scope (compEnvC scope cl C X.env) fp) ifs t)
    (he : ∀ (s : Shared) (H : Hp) (C : Addr) (cl : List (Str × Addr)) (fp : List Addr), LE (X.blk s H scope (compEnvC scope cl C X.env) fp) elt m)
    (hy : X.N[i]? = some y := by rfl) (hyl : X.env.scope.names.lookup y = some .local := by rfl)
    (hsw : swapsWith (.ListComp elt [⟨tg, iter, ifs, 0⟩] scope pos) (some (.Name y py)) spos.line X.env = pure true := by exact sw_true rfl rfl rfl (by decide +kernel)) (hs : ∀ x, foldedSetIterable iter X.env x = pure x := by intro _; rfl) :
    LS X (.Assign [.Name y py] (.ListComp elt [⟨tg, iter, ifs, 0⟩] scope pos) spos) (mAsg (mLc mi (own.map (·.2)) g t m) (gN i)) :=
  PS.weak (PS.kp (ps_setLc hc hN hy hyl hsw hi ok hg ht he hs)) fun D0 σ H ⟨τ, h, D', s, sh, q, l⟩ => lc_up s sh q fun zs h2 xs D H2 q2 h0 hD hd s2 r2 g2 => .inr ⟨D, _, hD, trivial, fun o => by
    have mm : Mono H2 (upd H2 D (.frz o (.lst xs))) := Mono.lst hD
    refine l.nx _ h2 _ _ q2 (g2.renew h0 mm) ((s.mono (g2.mono.trans mm)).set ?_) (s2.drop mm hd)
    simp only [Rel]
    exact ⟨D, xs, rfl, .inl ⟨o, upd_same⟩, r2.mono mm⟩⟩
end

/-! ### a def from its body -/
def sp0 : Nat → List PV → PSt
  | 0, _ => []
  | n + 1, [] => none :: sp0 n []
  | n + 1, p :: ps => some p :: sp0 n ps
theorem sp0_eq : ∀ (n : Nat) (ps : List PV), ps.length ≤ n → sp0 n ps = ps.map some ++ List.replicate (n - ps.length) none
  | 0, [], _ => rfl
  | 0, _ :: _, h => by simp at h
  | n + 1, [], _ => by
    have ih := sp0_eq n [] (Nat.zero_le _)
    simp only [sp0, ih, List.map_nil, List.nil_append, List.length_nil, Nat.sub_zero, List.replicate_succ]
  | n + 1, p :: ps, h => by
    have ih := sp0_eq n ps (by simpa using h)
    simp only [sp0, ih, List.map_cons, List.cons_append, List.length_cons, Nat.add_sub_add_right]
theorem simS_start {K : PySem.W.Frag} {H : Hp} {N : List Str} {vs : List V} {ps : List PV} (r : Rels K H ps vs) (hl : ps.length ≤ N.length) : SimS K H (L2.start N vs) (sp0 N.length ps) := by
  have e := r.length
  rw [sp0_eq _ _ hl]
  unfold L2.start
  refine ⟨by simp [e], fun i p hp => ?_⟩
  rw [gt_eq] at hp
  by_cases hi : i < ps.length
  · rw [List.getElem?_append_left (by simpa using hi)] at hp
    rw [List.getElem?_append_left (by simp; omega)]
    rw [List.getElem?_map, List.getElem?_eq_getElem hi] at hp
    simp at hp
    subst hp
    obtain ⟨v, e1, r1⟩ := r.get (List.getElem?_eq_getElem hi)
    exact ⟨v, by rw [List.getElem?_map, e1]; rfl, r1⟩
  · rw [List.getElem?_append_right (by simp; omega)] at hp
    rw [List.getElem?_replicate] at hp
    split at hp <;> simp at hp
def ends (Q : PK) : PEnds := ⟨fun _ h => Q .non h, Q, fun _ _ => False, fun _ _ => False⟩
section
variable {P : Program} {w : World} {K : PySem.W.Frag} {mg : Str → Option Value} {base : Heap}
/-- THE RULE: from what the body does (m) to what the def does (sp) -/
theorem fn_ok {x qual : Str} {st : Stmt} {f : Addr} {fd : FuncData} {N ps : List Str} {k : Nat} {sp : SpP} {m : MS} (F : Fun K x qual st f fd) (S : FnScope N ps (defScope st))
    (hb : ∀ (cdv : Value) (A : Around) (outer : List Env) (s : Shared) (H : Hp) (E : XK), Room k (A.deeper (envOfC qual (defScope st) s.heap.objs.size f cdv)) → A.guards = some [] →
      LSs (cxOf CX0 P w K mg base N qual (defScope st) f cdv A outer s H E).nox (defBody st) m)
    (hm : ∀ qs h Q, qs.length = ps.length → sp qs h Q → m (ends Q) (sp0 N.length qs) h) : FnG P w K mg base (k + 1) f fd ps sp := by
  obtain ⟨oc, od, kV, doc, pm, an, cdv, ct, osl, rfl, lk, hcd⟩ := F.ex
  have hN : ps.length ≤ N.length := by
    have e := congrArg List.length S.pre
    rw [List.length_take] at e; omega
  refine ⟨fun A outer s H args us vs Q hr hG e0 hbi r ⟨qs, h, Q', hl, rr, sh, q, l⟩ => ?_⟩
  have lv : vs.length = ps.length := by rw [← rr.length, hl]
  have KX : K.In s.heap := e0.mod.kin.keeps fun b o e => (e0.bs b o e).1
  have hkind : ∀ y ∈ ps.zip us, (defScope st).names.lookup y.1 = some .local ∨ ((defScope st).names.lookup y.1 = some .cell ∧ ((cellsFrom (s.heap.objs.size + 1) (defScope st).names []).lookup y.1).isSome = true) := fun ⟨n, v⟩ hy =>
    (S.par n (List.of_mem_zip hy).1).imp id fun z => ⟨z, PySem.W.cellsFrom_some _ _ _ (.inl z)⟩
  refine codeAny_call_function hr.depth (KX _ _ lk) rfl S.co S.gen rfl (PySem.W.codeRec_of KX hcd) (hbi _ _ _ _ (wpAny_newFunctionEnv_cells S.kind hkind fun env he s1 x => ?_))
  subst he
  refine ⟨(e0.mod.nolimit.keeps fun b o e => (e0.bs b o e).1).keeps x.toInCall.keep, codeAny_func ?_⟩
  have I : Inv (cxOf CX0 P w K mg base N qual (defScope st) f cdv A outer s H E0) [] (L2.start N vs) H s1 := inv_start S hr.hd e0 lv r x
  have hrun := (hb cdv A outer s H E0 (hr.deeper _) hG).nox.run [] s1 (L2.start N vs) H { nx := fun _ H' => Q .non H', rt := Q } I
    ⟨sp0 N.length qs, h, ends Q', simS_start rr (by omega), sh, hm qs h Q' hl q, fun τ h1 σ H1 q1 g1 s1 sh1 => l _ _ _ _ q1 g1 (by simp only [Rel]) sh1, l, fun _ _ _ _ z => z.elim, fun _ _ _ _ z => z.elim⟩
  refine wpAny_mono hrun (fun fl s' hs => ?_) fun e s' hs => hs
  have fin : ∀ {σ' : L2.St} {H' : Hp} {v : V} {u : Value}, Inv (cxOf CX0 P w K mg base N qual (defScope st) f cdv A outer s H E0) [] σ' H' s' → RelV v u → Q v H' → CE outer P w H s Q u s' :=
    fun {σ' H' v u} J rv z => ⟨v, H', J.os, J.bare, J.base, J.hok, rv, z⟩
  cases fl with
  | ret u => obtain ⟨v, σ', H', J, rv, z⟩ := hs; exact fin J rv z
  | next => obtain ⟨σ', H', J, z⟩ := hs; exact fin (v := V.non) (u := Value.none) J rfl z
  | brk => obtain ⟨_, _, _, z⟩ := hs; exact False.elim z
  | cont => obtain ⟨_, _, _, z⟩ := hs; exact False.elim z
end

/-! ### numbers -/
abbrev SZ : Nat := 16777216
theorem sz_eq : (sizeLine : Nat) = 16777216 := sizeLine_eq
theorem sz_le {n : Nat} (h : n ≤ SZ) : n ≤ sizeLine := by rw [sz_eq]; exact h
theorem sz_lt {n : Nat} (h : n < SZ) : n < sizeLine := by rw [sz_eq]; exact h
section
variable {K : PySem.W.Frag} {H : Hp} {h : PH} {v : V} {i : Int} {x : Str} {b : Bool} {a : Addr}
theorem rel_int : Rel K H (.int i) v ↔ v = .int i := by simp only [Rel]
theorem rel_str : Rel K H (.str x) v ↔ v = .str x := by simp only [Rel]
theorem rel_bl : Rel K H (.bl b) v ↔ v = .bl b := by simp only [Rel]
theorem rel_non : Rel K H .non v ↔ v = .non := by simp only [Rel]
theorem rel_ref : Rel K H (.ref a) v ↔ v = .ref a := by simp only [Rel]
theorem rel_tup {ps : List PV} : Rel K H (.tup ps) v ↔ ∃ a xs, v = .ref a ∧ SqT K H a xs ∧ Rels K H ps xs := by simp only [Rel]
theorem rel_lst {ps : List PV} : Rel K H (.lst ps) v ↔ ∃ a xs, v = .ref a ∧ FrL K H a xs ∧ Rels K H ps xs := by simp only [Rel]
theorem rel_dct {ks : List Key} {vs : List PV} : Rel K H (.dct ks vs) v ↔ ∃ a kvs, v = .ref a ∧ FrD H a kvs ∧ ks = kvs.map (·.1) ∧ Rels K H vs (kvs.map (·.2)) := by simp only [Rel]
end
/-- the items of a list, kept or not -/
def seqL (h : PH) : PV → Option (List PV)
  | .lst xs => some xs
  | .ref a => match h a with | some (.lst xs) => some xs | _ => none
  | _ => none
theorem seqL_sq {K : PySem.W.Frag} {H : Hp} {h : PH} {p : PV} {v : V} {ps : List PV} (r : Rel K H p v) (s : Sim K H h) (e : seqL h p = some ps) : ∃ a xs, v = .ref a ∧ SqL K H a xs ∧ Rels K H ps xs := by
  cases p with
  | lst qs =>
    simp only [seqL, Option.some.injEq] at e
    subst e
    obtain ⟨a, xs, e1, f, rr⟩ := rel_lst.mp r
    exact ⟨a, xs, e1, f.sq, rr⟩
  | ref a =>
    have ev := rel_ref.mp r
    simp only [seqL] at e
    cases q : h a with
    | none => rw [q] at e; cases e
    | some o =>
      rw [q] at e
      cases o with
      | lst qs =>
        simp only [Option.some.injEq] at e
        subst e
        obtain ⟨u, e2, xs, rfl, rr⟩ := s a _ q
        exact ⟨a, xs, ev, .of e2, rr⟩
      | dct _ _ => cases e
      | ins _ _ _ => cases e
      | lck _ _ => cases e
      | xd _ _ => cases e
      | tab _ => cases e
  | _ => simp [seqL] at e
/-- list + list, whatever lists -/
def rCatL (K : PySem.W.Frag) : R2 := fun x y H Q => ∃ l b xs zs, x = .ref l ∧ y = .ref b ∧ SqL K H l xs ∧ SqL K H b zs ∧ xs.length + zs.length ≤ sizeLine ∧ ∀ p, H p = none → Q (.ref p) (upd H p (.lst (xs ++ zs)))
theorem op_catL {X : Cx} : OpR X (binaryOp .Add) (rCatL X.K) := by
  intro pins s σ H x y v u Q I rx ry h
  obtain ⟨l, b, xs, zs, rfl, rfl, hH, hB, hz, q⟩ := h
  cases rx
  cases ry
  obtain ⟨its, r, ⟨⟨cls, dd, data, sl⟩, n, ho, hc, hd0, hd⟩, _⟩ := I.list hH
  obtain ⟨its2, r2, ⟨⟨cls2, dd2, data2, sl2⟩, n2, ho2, hc2, hd02, hd2⟩, _⟩ := I.list hB
  simp only at hc hd hc2 hd2
  subst hc hd hc2 hd2
  have e : its.toArray ++ its2.toArray = (its ++ its2).toArray := by simp
  have hl := r.length
  have hl2 := r2.length
  refine concat_meets ⟨_, ho, rfl⟩ ⟨_, ho2, rfl⟩ noFill_list_add seq_list_add PySem.F.slot_list_add PySem.F.entry_list_add (PySem.F.args_list_add_2 _ _) (list_addW l b its.toArray its2.toArray n n2 dd dd2 sl sl2 (by simp; omega)) ⟨ho, ho2, ?_⟩
  rw [e]
  exact ⟨.ref _, _, I.lnew (t' := s.toks) (r.append r2) (by rw [List.length_append]; omega), rfl, q _ I.fresh⟩
end N3

namespace N3
open PySem PySem.Spec PyProof.Rows L2

/-! ### texts as lists of signs -/
def cl (x : Str) : List Nat := x.cps.toList
def S (l : List Nat) : Str := ⟨l.toArray⟩
theorem S_cl (x : Str) : S (cl x) = x := by cases x; rfl
theorem cl_S (l : List Nat) : cl (S l) = l := rfl
theorem cl_inj {x y : Str} (h : cl x = cl y) : x = y := by rw [← S_cl x, ← S_cl y, h]
theorem cl_length (x : Str) : x.length = (cl x).length := by show x.cps.size = _; simp [cl]
theorem cl_append (x y : Str) : cl (x ++ y) = cl x ++ cl y := by show (x.cps ++ y.cps).toList = _; simp [cl]
theorem S_length (l : List Nat) : (S l).length = l.length := by rw [cl_length, cl_S]
theorem S_append (l m : List Nat) : S l ++ S m = S (l ++ m) := cl_inj (by rw [cl_append, cl_S, cl_S, cl_S])

/-! ### + - * // % ** -/
def rAdd : PR2 := fun p q h Q => match p, q with
  | .int i, .int j => Q (.int (i + j)) h
  | .str x, .str y => x.length + y.length ≤ SZ ∧ Q (.str (x ++ y)) h
  | .tup xs, .tup ys => xs.length + ys.length ≤ SZ ∧ Q (.tup (xs ++ ys)) h
  | p, q => match seqL h p, seqL h q with
    | some xs, some ys => xs.length + ys.length ≤ SZ ∧ Q (.lst (xs ++ ys)) h
    | _, _ => False
def oAdd (K : PySem.W.Frag) : R2 := fun x y H Q => (((∃ i j, x = .int i ∧ y = .int j ∧ Q (.int (i + j)) H) ∨ (∃ i j, x = .str i ∧ y = .str j ∧ i.length + j.length ≤ sizeLine ∧ Q (.str (i ++ j)) H)) ∨ rCatA K x y H Q) ∨ rCatL K x y H Q
theorem op_addA {X : Cx} : OpR X (binaryOp .Add) (oAdd X.K) := ((op_add.or op_add_str).or op_catA).or op_catL
theorem kf_add {K : PySem.W.Frag} : Kf2 K (oAdd K) rAdd := by
  intro x y H p q h Q' Q rp rq s r l
  have lists : ∀ {xs ys : List PV}, seqL h p = some xs → seqL h q = some ys → xs.length + ys.length ≤ SZ → Q' (.lst (xs ++ ys)) h → oAdd K x y H (kQ Q) := fun {xs ys} e1 e2 hz z => by
    obtain ⟨a, us, ea, ha, ra⟩ := seqL_sq rp s e1
    obtain ⟨b, ws, eb, hb, rb⟩ := seqL_sq rq s e2
    refine .inr ⟨a, b, us, ws, ea, eb, ha, hb, ?_, fun c hc => keep_l l s (ra.append rb) z hc⟩
    rw [← ra.length, ← rb.length]; exact sz_le hz
  unfold rAdd at r
  split at r
  · have e1 := rel_int.mp rp
    have e2 := rel_int.mp rq
    exact .inl (.inl (.inl ⟨_, _, e1, e2, .inl (l _ _ _ _ r .refl (rel_int.mpr rfl) s)⟩))
  · have e1 := rel_str.mp rp
    have e2 := rel_str.mp rq
    exact .inl (.inl (.inr ⟨_, _, e1, e2, sz_le r.1, .inl (l _ _ _ _ r.2 .refl (rel_str.mpr rfl) s)⟩))
  · rename_i ps qs
    obtain ⟨a, xs, e1, h1, r1⟩ := rel_tup.mp rp
    obtain ⟨b, ys, e2, h2, r2⟩ := rel_tup.mp rq
    obtain ⟨hz, r⟩ := r
    refine .inl (.inr ⟨a, b, xs, ys, e1, e2, h1, h2, by rw [← r1.length, ← r2.length]; exact sz_le hz, fun e => .inl ?_, fun e e' => .inl ?_, fun e e' c hc => .inl (make_t l s (r1.append r2) r hc)⟩)
    · subst e
      have e0 := r1.length
      have e3 : ps = [] := List.length_eq_zero_iff.mp (by rw [e0]; rfl)
      rw [e3, List.nil_append] at r
      exact l _ _ _ _ r .refl (rel_tup.mpr ⟨b, ys, rfl, h2, r2⟩) s
    · subst e'
      have e0 := r2.length
      have e3 : qs = [] := List.length_eq_zero_iff.mp (by rw [e0]; rfl)
      rw [e3, List.append_nil] at r
      exact l _ _ _ _ r .refl (rel_tup.mpr ⟨a, xs, rfl, h1, r1⟩) s
  · split at r
    · rename_i e1 e2
      exact lists e1 e2 r.1 r.2
    · exact r.elim
/-- two ints -/
def rII (C : Int → Int → Prop) (g : Int → Int → Int) : PR2 := fun p q h Q => match p, q with
  | .int i, .int j => C i j ∧ Q (.int (g i j)) h
  | _, _ => False
def rII0 (g : Int → Int → Int) : PR2 := fun p q h Q => match p, q with
  | .int i, .int j => Q (.int (g i j)) h
  | _, _ => False
def rIB (g : Int → Int → Bool) : PR2 := fun p q h Q => match p, q with
  | .int i, .int j => Q (.bl (g i j)) h
  | _, _ => False
theorem kf_ii {K : PySem.W.Frag} {C : Int → Int → Prop} {g : Int → Int → Int} : Kf2 K (rI C fun i j => .int (g i j)) (rII C g) := by
  intro x y H p q h Q' Q rp rq s r l
  unfold rII at r
  split at r
  · exact ⟨_, _, rel_int.mp rp, rel_int.mp rq, r.1, .inl (l _ _ _ _ r.2 .refl (rel_int.mpr rfl) s)⟩
  · exact r.elim
theorem kf_ii0 {K : PySem.W.Frag} {g : Int → Int → Int} : Kf2 K (rI0 fun i j => .int (g i j)) (rII0 g) := by
  intro x y H p q h Q' Q rp rq s r l
  unfold rII0 at r
  split at r
  · exact ⟨_, _, rel_int.mp rp, rel_int.mp rq, .inl (l _ _ _ _ r .refl (rel_int.mpr rfl) s)⟩
  · exact r.elim
theorem lf_ib {K : PySem.W.Frag} {g : Int → Int → Bool} : Lf2 K (rI0 fun i j => .bl (g i j)) (rIB g) := by
  intro x y H p q h Q' Q rp rq s r l
  unfold rIB at r
  split at r
  · exact ⟨_, _, rel_int.mp rp, rel_int.mp rq, l _ _ _ _ r .refl (rel_bl.mpr rfl) s⟩
  · exact r.elim
abbrev rSub : PR2 := rII0 fun i j => i - j
/-- a divisor from 1 to 2^30 - 1 -/
abbrev rDiv : PR2 := rII CDiv fun i j => i / j
abbrev rMod : PR2 := rII (fun _ j => 0 < j) fun i j => i % j
abbrev rPow : PR2 := rII CPow fun i j => i ^ j.toNat
/-- * of ints, of a text and an int -/
def rMul : PR2 := fun p q h Q => match p, q with
  | .int i, .int j => CMul i j ∧ Q (.int (i * j)) h
  | .str x, .int n => n < 16777216 ∧ x.length * n.toNat ≤ SZ ∧ -16777216 ≤ n ∧ Q (.str (S (List.replicate n.toNat (cl x)).flatten)) h
  | .tup xs, .int n => 0 ≤ n ∧ n ≤ 1 ∧ Q (.tup (if n = 1 then xs else [])) h
  | _, _ => False
theorem mul_text (x : Str) (n : Int) : Txt.mul x n = S (List.replicate n.toNat (cl x)).flatten := by
  have key : ∀ (m : Nat) (acc : Array Nat), (List.replicate m x.cps).foldl (· ++ ·) acc = (acc.toList ++ (List.replicate m (cl x)).flatten).toArray := by
    intro m
    induction m with
    | zero => intro acc; simp
    | succ m ih => intro acc; rw [List.replicate_succ, List.foldl_cons, ih, List.replicate_succ, List.flatten_cons]; simp [cl]
  unfold Txt.mul
  by_cases h1 : n < 1
  · rw [if_pos h1, show n.toNat = 0 by omega]; rfl
  · rw [if_neg h1]
    by_cases h2 : (n == 1 || x.length == 0) = true
    · rw [if_pos h2]
      rcases (Bool.or_eq_true _ _).mp h2 with h | h
      · have e : n = 1 := by simpa using h
        subst e
        refine cl_inj ?_
        show cl x = (List.replicate 1 (cl x)).flatten
        simp
      · have e : cl x = [] := by
          have z : x.length = 0 := by simpa using h
          rw [cl_length] at z
          exact List.length_eq_zero_iff.mp z
        refine cl_inj ?_
        show cl x = (List.replicate n.toNat (cl x)).flatten
        rw [e]; simp
    · rw [if_neg h2, key]
      refine cl_inj ?_
      show _ = (List.replicate n.toNat (cl x)).flatten
      simp [cl]
def rMulS : R2 := fun x y H Q => ∃ a n, x = .str a ∧ y = .int n ∧ n < 16777216 ∧ a.length * n.toNat ≤ sizeLine ∧ -16777216 ≤ n ∧ Q (.str (S (List.replicate n.toNat (cl a)).flatten)) H
theorem op_mulS {X : Cx} : OpR X (binaryOp .Mult) rMulS := by
  intro pins s σ H x y v u Q I rx ry h
  obtain ⟨a, n, rfl, rfl, h1, h2, h3, q⟩ := h
  obtain ⟨t, rfl⟩ := rx
  obtain ⟨t', rfl⟩ := ry
  refine SB.mul ⟨?_, fun g1 g2 g3 => ?_, fun g1 g2 => ?_⟩ fun tt k => ?_
  · simp; omega
  · have hn : 1 ≤ n := by omega
    have hs := sz_eq
    have ha : a.length * n.toNat ≤ 16777216 := by rw [← hs]; exact h2
    have hb : a.length ≤ 16777216 := Nat.le_trans (Nat.le_mul_of_pos_right _ (by omega)) ha
    have g4 : (a.length : Int) * n ≤ 16777216 := by
      have e : ((a.length * n.toNat : Nat) : Int) = (a.length : Int) * n := by rw [Int.natCast_mul, Int.toNat_of_nonneg (by omega)]
      rw [← e]; omega
    have g5 : (a.length : Int) ≤ (2 ^ 63 - 1) / n := by
      refine (Int.le_ediv_iff_mul_le (by omega)).mpr ?_
      omega
    omega
  · unfold Builtin.Str.tooLong
    first
      | (have hs := sz_eq; simp; omega)
      | (simp [Builtin.Str.tooLong]; omega)
  · rw [mul_text]
    exact ⟨.str _, H, I.tok _, ⟨_, rfl⟩, q⟩
end N3

namespace N3
open PySem PySem.Spec PyProof.Rows L2

/-! ### == and != -/
/-- what is seen of a value: a list that may change is seen as it stands -/
def vw (h : PH) : PV → PV
  | .ref a => match h a with | some (.lst xs) => .lst xs | some (.dct ks vs) => .dct ks vs | _ => .ref a
  | p => p
def keyD : Key → PyData
  | .inl i => .int i
  | .inr x => .str x
mutual
def toD : PV → PyData
  | .bl b => .bool b
  | .int i => .int i
  | .str x => .str x
  | .tup ps => .tuple (toDs ps)
  | .lst ps => .list (toDs ps)
  | .dct ks vs => .dict ((ks.map keyD).zip (toDs vs))
  | _ => .none
def toDs : List PV → List PyData
  | [] => []
  | p :: ps => toD p :: toDs ps
end
mutual
/-- data without dicts and objects -/
def flat : PV → Bool
  | .non => true
  | .bl _ => true
  | .int _ => true
  | .str _ => true
  | .tup ps => flats ps
  | .lst ps => flats ps
  | _ => false
def flats : List PV → Bool
  | [] => true
  | p :: ps => flat p && flats ps
end
section
variable {K : PySem.W.Frag} {H : Hp}
mutual
theorem Rel.dp : ∀ (p : PV) (v : V), flat p = true → Rel K H p v → Dp K H v (toD p)
  | .non, v, _, r => by rw [rel_non.mp r]; exact .non
  | .bl b, v, _, r => by rw [rel_bl.mp r]; exact .bl b
  | .int i, v, _, r => by rw [rel_int.mp r]; exact .int i
  | .str x, v, _, r => by rw [rel_str.mp r]; exact .str x
  | .tup ps, v, f, r => by
    obtain ⟨a, xs, rfl, h, rr⟩ := rel_tup.mp r
    simp only [flat] at f
    simp only [toD]
    exact .tup h (Rels.dp ps xs f rr)
  | .lst ps, v, f, r => by
    obtain ⟨a, xs, rfl, h, rr⟩ := rel_lst.mp r
    simp only [flat] at f
    simp only [toD]
    exact .lst h.sq (Rels.dp ps xs f rr)
  | .dct _ _, _, f, _ => by simp [flat] at f
  | .ref _, _, f, _ => by simp [flat] at f
  | .ty _, _, f, _ => by simp [flat] at f
theorem Rels.dp : ∀ (ps : List PV) (xs : List V), flats ps = true → Rels K H ps xs → DpAll K H xs (toDs ps)
  | [], _, _, r => by rw [r.len0]; simp only [toDs]; exact .nil
  | p :: ps, _, f, r => by
    obtain ⟨v, vs, rfl, r1, r2⟩ := r.uncons
    simp only [flats, Bool.and_eq_true] at f
    simp only [toDs]
    exact .cons (Rel.dp p v f.1 r1) (Rels.dp ps vs f.2 r2)
end
/-- a list, kept or not, as data -/
theorem vw_dp {h : PH} {p : PV} {v : V} (f : flat (vw h p) = true) (r : Rel K H p v) (s : Sim K H h) : Dp K H v (toD (vw h p)) := by
  cases p with
  | ref a =>
    have ev := rel_ref.mp r
    subst ev
    simp only [vw] at f ⊢
    cases e : h a with
    | none => rw [e] at f; simp [flat] at f
    | some o =>
      simp only [e] at f ⊢
      cases o with
      | lst xs =>
        obtain ⟨u, e1, ys, rfl, rr⟩ := s a _ e
        simp only [flat] at f
        simp only [toD]
        exact .lst (SqL.of e1) (Rels.dp xs ys f rr)
      | dct _ _ => simp [flat] at f
      | ins _ _ _ => simp [flat] at f
      | lck _ _ => simp [flat] at f
      | xd _ _ => simp [flat] at f
      | tab _ => simp [flat] at f
  | _ => exact Rel.dp _ _ f r
end
mutual
theorem noDict : ∀ p : PV, flat p = true → (toD p).hasDict = false
  | .non, _ => by simp only [toD, PyData.hasDict]
  | .bl _, _ => by simp only [toD, PyData.hasDict]
  | .int _, _ => by simp only [toD, PyData.hasDict]
  | .str _, _ => by simp only [toD, PyData.hasDict]
  | .tup ps, f => by simp only [toD, PyData.hasDict]; exact noDicts ps (by simpa only [flat] using f)
  | .lst ps, f => by simp only [toD, PyData.hasDict]; exact noDicts ps (by simpa only [flat] using f)
  | .dct _ _, f => by simp [flat] at f
  | .ref _, f => by simp [flat] at f
  | .ty _, f => by simp [flat] at f
theorem noDicts : ∀ ps : List PV, flats ps = true → PyData.hasDictAll (toDs ps) = false
  | [], _ => by simp only [toDs, PyData.hasDictAll]
  | p :: ps, f => by
    simp only [flats, Bool.and_eq_true] at f
    simp only [toDs, PyData.hasDictAll, noDict p f.1, noDicts ps f.2, Bool.or_false]
end
mutual
theorem one_reading {h : Heap} : ∀ (d e : PyData) (v : Value) (as bs : List Addr), d.hasDict = false → e.hasDict = false → Reads h v d as → Reads h v e bs → d = e
  | .none, _, _, _, _, _, _, r, q => by cases r; cases q; rfl
  | .bool _, _, _, _, _, _, _, r, q => by cases r; cases q; rfl
  | .int _, _, _, _, _, _, _, r, q => by cases r; cases q; rfl
  | .str _, _, _, _, _, _, _, r, q => by cases r; cases q; rfl
  | .list xs, _, _, _, _, hd, he, r, q => by
    cases r with
    | list h1 h2 h3 h4 =>
      cases q with
      | list k1 k2 k3 k4 =>
        rw [h1] at k1; cases k1
        rw [h3] at k3; cases k3
        rw [one_readings xs _ _ _ _ (by simpa only [PyData.hasDict] using hd) (by simpa only [PyData.hasDict] using he) h4 k4]
      | tuple k1 k2 k3 k4 => rw [h1] at k1; cases k1; rw [h2] at k2; exact absurd (Value.type.inj k2) (by decide)
      | dict k1 k2 k3 k4 k5 => rw [h1] at k1; cases k1; rw [h2] at k2; exact absurd (Value.type.inj k2) (by decide)
  | .tuple xs, _, _, _, _, hd, he, r, q => by
    cases r with
    | tuple h1 h2 h3 h4 =>
      cases q with
      | tuple k1 k2 k3 k4 =>
        rw [h1] at k1; cases k1
        rw [h3] at k3; cases k3
        rw [one_readings xs _ _ _ _ (by simpa only [PyData.hasDict] using hd) (by simpa only [PyData.hasDict] using he) h4 k4]
      | list k1 k2 k3 k4 => rw [h1] at k1; cases k1; rw [h2] at k2; exact absurd (Value.type.inj k2) (by decide)
      | dict k1 k2 k3 k4 k5 => rw [h1] at k1; cases k1; rw [h2] at k2; exact absurd (Value.type.inj k2) (by decide)
  | .dict _, _, _, _, _, hd, _, _, _ => by simp [PyData.hasDict] at hd
theorem one_readings {h : Heap} : ∀ (ds es : List PyData) (vs : List Value) (as bs : List Addr), PyData.hasDictAll ds = false → PyData.hasDictAll es = false → ReadsAll h vs ds as → ReadsAll h vs es bs → ds = es
  | [], _, _, _, _, _, _, r, q => by cases r; cases q; rfl
  | d :: ds, _, _, _, _, hd, he, r, q => by
    cases r with
    | cons r1 r2 =>
      cases q with
      | cons q1 q2 =>
        simp only [PyData.hasDictAll, Bool.or_eq_false_iff] at hd he
        rw [one_reading d _ _ _ _ hd.1 he.1 r1 q1, one_readings ds _ _ _ _ hd.2 he.2 r2 q2]
end
mutual
theorem eqv_self : ∀ d : PyData, d.hasDict = false → PyData.eqv d d = true
  | .none, _ => rfl
  | .bool b, _ => by simp [PyData.eqv]
  | .int i, _ => by simp [PyData.eqv]
  | .str x, _ => by simp [PyData.eqv]
  | .list xs, h => by rw [PyData.eqv]; exact eqvs_self xs (by simpa only [PyData.hasDict] using h)
  | .tuple xs, h => by rw [PyData.eqv]; exact eqvs_self xs (by simpa only [PyData.hasDict] using h)
  | .dict _, h => by simp [PyData.hasDict] at h
theorem eqvs_self : ∀ xs : List PyData, PyData.hasDictAll xs = false → PyData.eqvAll xs xs = true
  | [], _ => rfl
  | x :: xs, h => by
    simp only [PyData.hasDictAll, Bool.or_eq_false_iff] at h
    rw [PyData.eqvAll, eqv_self x h.1, eqvs_self xs h.2]; rfl
end
section
open SeqAt
mutual
theorem eqR : ∀ (d e : PyData) (A : Around) (s : Shared) (v u : Value) (as bs : List Addr), A.units + d.depth < cLine → Reads s.heap v d as → d.hasDict = false → Reads s.heap u e bs → e.hasDict = false → EqAt A s v u (PyData.eqv d e)
  | .none, _, A, s, _, _, _, _, hu, ra, _, rb, hb => by
    cases ra
    cases rb with
    | list k1 k2 k3 k4 => exact EqAt.none_list ⟨_, k1, k2, _, k3⟩ (by omega)
    | tuple k1 k2 k3 k4 => exact EqAt.none_tuple ⟨_, k1, k2, _, k3⟩ (by omega)
    | dict k1 k2 k3 k4 k5 => simp [PyData.hasDict] at hb
    | none => exact EqAt.same Value.none
    | bool y => exact EqAt.none_bool y
    | int y w => exact EqAt.none_int y w
    | str y w => exact EqAt.none_str y w
  | .bool x, _, A, s, _, _, _, _, hu, ra, _, rb, hb => by
    cases ra
    cases rb with
    | list k1 k2 k3 k4 => exact EqAt.bool_list x ⟨_, k1, k2, _, k3⟩ (by omega)
    | tuple k1 k2 k3 k4 => exact EqAt.bool_tuple x ⟨_, k1, k2, _, k3⟩ (by omega)
    | dict k1 k2 k3 k4 k5 => simp [PyData.hasDict] at hb
    | none => exact EqAt.bool_none x
    | bool y => exact EqAt.bool_bool x y
    | int y w => exact EqAt.bool_int x y w
    | str y w => exact EqAt.bool_str x y w
  | .int x, _, A, s, _, _, _, _, hu, ra, _, rb, hb => by
    cases ra
    cases rb with
    | list k1 k2 k3 k4 => exact EqAt.int_list x _ ⟨_, k1, k2, _, k3⟩ (by omega)
    | tuple k1 k2 k3 k4 => exact EqAt.int_tuple x _ ⟨_, k1, k2, _, k3⟩ (by omega)
    | dict k1 k2 k3 k4 k5 => simp [PyData.hasDict] at hb
    | none => exact EqAt.int_none x _
    | bool y => exact EqAt.int_bool x _ y
    | int y w => exact EqAt.int_int x _ y w
    | str y w => exact EqAt.int_str x _ y w
  | .str x, _, A, s, _, _, _, _, hu, ra, _, rb, hb => by
    cases ra
    cases rb with
    | list k1 k2 k3 k4 => exact EqAt.str_list x _ ⟨_, k1, k2, _, k3⟩ (by omega)
    | tuple k1 k2 k3 k4 => exact EqAt.str_tuple x _ ⟨_, k1, k2, _, k3⟩ (by omega)
    | dict k1 k2 k3 k4 k5 => simp [PyData.hasDict] at hb
    | none => exact EqAt.str_none x _
    | bool y => exact EqAt.str_bool x _ y
    | int y w => exact EqAt.str_int x _ y w
    | str y w => exact EqAt.str_str x _ y w
  | .list xs, _, A, s, _, _, _, _, hu, ra, ha, rb, hb => by
    cases ra with
    | @list l o vs n _ a1 h1 h2 h3 h4 =>
      have hl : s.heap.IsList l vs := ⟨_, h1, h2, _, h3⟩
      simp only [PyData.depth] at hu
      simp only [PyData.hasDict] at ha
      cases rb with
      | @list l' o' vs' n' ys b1 k1 k2 k3 k4 =>
        have hl' : s.heap.IsList l' vs' := ⟨_, k1, k2, _, k3⟩
        simp only [PyData.hasDict] at hb
        have n1 : vs.size = xs.length := by simpa using ReadsAll.length _ _ _ h4
        have n2 : vs'.size = ys.length := by simpa using ReadsAll.length _ _ _ k4
        show EqAt A s (.ref l) (.ref l') (PyData.eqvAll xs ys)
        by_cases hll : l = l'
        · subst hll
          rw [h1] at k1; cases k1
          rw [h3] at k3; cases k3
          rw [← one_readings xs ys _ _ _ ha hb h4 k4, eqvs_self xs ha]
          exact EqAt.same _
        · by_cases hsz : vs.size = vs'.size
          · rw [← eqvAll_same_length (by omega : xs.length = ys.length), ← n1]
            refine EqAt.of_refs hll (RcAt.lists hl hl' hsz (by omega) fun j j1 j2 => ?_)
            have := eqRs xs ys A.in1 s vs.toList vs'.toList _ _ (by show A.units + 1 + _ < _; omega) h4 ha k4 hb j (by simpa using j1) (by simpa using j2)
            simpa using this
          · rw [eqvAll_other_length (by omega : xs.length ≠ ys.length)]
            exact EqAt.of_refs hll (RcAt.lists_lengths hl hl' (by simpa using hsz) (by omega))
      | tuple k1 k2 k3 k4 => exact EqAt.list_tuple hl ⟨_, k1, k2, _, k3⟩ (by omega)
      | dict k1 k2 k3 k4 k5 => simp [PyData.hasDict] at hb
      | none => exact EqAt.list_none hl (by omega)
      | bool y => exact EqAt.list_bool y hl (by omega)
      | int y w => exact EqAt.list_int y w hl (by omega)
      | str y w => exact EqAt.list_str y w hl (by omega)
  | .tuple xs, _, A, s, _, _, _, _, hu, ra, ha, rb, hb => by
    cases ra with
    | @tuple l o vs n _ a1 h1 h2 h3 h4 =>
      have hl : s.heap.IsTuple l vs := ⟨_, h1, h2, _, h3⟩
      simp only [PyData.depth] at hu
      simp only [PyData.hasDict] at ha
      cases rb with
      | @tuple l' o' vs' n' ys b1 k1 k2 k3 k4 =>
        have hl' : s.heap.IsTuple l' vs' := ⟨_, k1, k2, _, k3⟩
        simp only [PyData.hasDict] at hb
        have n1 : vs.size = xs.length := by simpa using ReadsAll.length _ _ _ h4
        have n2 : vs'.size = ys.length := by simpa using ReadsAll.length _ _ _ k4
        show EqAt A s (.ref l) (.ref l') (PyData.eqvAll xs ys)
        by_cases hll : l = l'
        · subst hll
          rw [h1] at k1; cases k1
          rw [h3] at k3; cases k3
          rw [← one_readings xs ys _ _ _ ha hb h4 k4, eqvs_self xs ha]
          exact EqAt.same _
        · rw [← eqvAll_eq xs ys, ← n1, ← n2]
          refine EqAt.of_refs hll (RcAt.tuples hl hl' (by omega) fun j j1 j2 => ?_)
          have := eqRs xs ys A.in1 s vs.toList vs'.toList _ _ (by show A.units + 1 + _ < _; omega) h4 ha k4 hb j (by simpa using j1) (by simpa using j2)
          simpa using this
      | list k1 k2 k3 k4 => exact EqAt.tuple_list hl ⟨_, k1, k2, _, k3⟩ (by omega)
      | dict k1 k2 k3 k4 k5 => simp [PyData.hasDict] at hb
      | none => exact EqAt.tuple_none hl (by omega)
      | bool y => exact EqAt.tuple_bool y hl (by omega)
      | int y w => exact EqAt.tuple_int y w hl (by omega)
      | str y w => exact EqAt.tuple_str y w hl (by omega)
  | .dict _, _, _, _, _, _, _, _, _, _, ha, _, _ => by simp [PyData.hasDict] at ha
theorem eqRs : ∀ (xs ys : List PyData) (A : Around) (s : Shared) (vs ws : List Value) (as bs : List Addr), A.units + PyData.depthAll xs < cLine → ReadsAll s.heap vs xs as → PyData.hasDictAll xs = false → ReadsAll s.heap ws ys bs → PyData.hasDictAll ys = false →
    ∀ j (h1 : j < vs.length) (h2 : j < ws.length), EqAt A s vs[j] ws[j] (pairEq xs ys j)
  | [], _, _, _, _, _, _, _, _, ra, _, _, _, j, h1, _ => by cases ra; exact absurd h1 (Nat.not_lt_zero _)
  | _ :: _, [], _, _, _, _, _, _, _, _, _, rb, _, j, _, h2 => by cases rb; exact absurd h2 (Nat.not_lt_zero _)
  | x :: xs, y :: ys, A, s, _, _, _, _, hu, ra, ha, rb, hb, j, h1, h2 => by
    simp only [PyData.hasDictAll, Bool.or_eq_false_iff] at ha hb
    simp only [PyData.depthAll] at hu
    have u1 : A.units + x.depth < cLine := Nat.lt_of_le_of_lt (Nat.add_le_add_left (Nat.le_max_left _ _) _) hu
    have u2 : A.units + PyData.depthAll xs < cLine := Nat.lt_of_le_of_lt (Nat.add_le_add_left (Nat.le_max_right _ _) _) hu
    cases ra with
    | cons r rs =>
      cases rb with
      | cons r' rs' =>
        cases j with
        | zero => exact eqR x y A s _ _ _ _ u1 r ha.1 r' hb.1
        | succ j => exact eqRs xs ys A s _ _ _ _ u2 rs ha.2 rs' hb.2 j (by simpa using h1) (by simpa using h2)
end
end
section
open SeqAt
theorem rcR (d e : PyData) (A : Around) (s : Shared) (v u : Value) (as bs : List Addr) (hu : A.units + d.depth < cLine) (ra : Reads s.heap v d as) (ha : d.hasDict = false) (rb : Reads s.heap u e bs) (hb : e.hasDict = false) : RcAt A s v u (PyData.eqv d e) := by
  cases ra with
  | none =>
    cases rb with
    | none => exact RcAt.none_none
    | bool y => exact RcAt.none_bool y
    | int y w => exact RcAt.none_int y w
    | str y w => exact RcAt.none_str y w
    | list k1 k2 k3 k4 => exact RcAt.none_list ⟨_, k1, k2, _, k3⟩ (by omega)
    | tuple k1 k2 k3 k4 => exact RcAt.none_tuple ⟨_, k1, k2, _, k3⟩ (by omega)
    | dict k1 k2 k3 k4 k5 => simp [PyData.hasDict] at hb
  | bool x =>
    cases rb with
    | none => exact RcAt.bool_none x
    | bool y => exact RcAt.bool_bool x y
    | int y w => exact RcAt.bool_int x y w
    | str y w => exact RcAt.bool_str x y w
    | list k1 k2 k3 k4 => exact RcAt.bool_list x ⟨_, k1, k2, _, k3⟩ (by omega)
    | tuple k1 k2 k3 k4 => exact RcAt.bool_tuple x ⟨_, k1, k2, _, k3⟩ (by omega)
    | dict k1 k2 k3 k4 k5 => simp [PyData.hasDict] at hb
  | int x t =>
    cases rb with
    | none => exact RcAt.int_none x t
    | bool y => exact RcAt.int_bool x t y
    | int y w => exact RcAt.int_int x t y w
    | str y w => exact RcAt.int_str x t y w
    | list k1 k2 k3 k4 => exact RcAt.int_list x t ⟨_, k1, k2, _, k3⟩ (by omega)
    | tuple k1 k2 k3 k4 => exact RcAt.int_tuple x t ⟨_, k1, k2, _, k3⟩ (by omega)
    | dict k1 k2 k3 k4 k5 => simp [PyData.hasDict] at hb
  | str x t =>
    cases rb with
    | none => exact RcAt.str_none x t
    | bool y => exact RcAt.str_bool x t y
    | int y w => exact RcAt.str_int x t y w
    | str y w => exact RcAt.str_str x t y w
    | list k1 k2 k3 k4 => exact RcAt.str_list x t ⟨_, k1, k2, _, k3⟩ (by omega)
    | tuple k1 k2 k3 k4 => exact RcAt.str_tuple x t ⟨_, k1, k2, _, k3⟩ (by omega)
    | dict k1 k2 k3 k4 k5 => simp [PyData.hasDict] at hb
  | @list l o vs n xs a1 h1 h2 h3 h4 =>
    have hl : s.heap.IsList l vs := ⟨_, h1, h2, _, h3⟩
    simp only [PyData.depth] at hu
    simp only [PyData.hasDict] at ha
    cases rb with
    | none => exact RcAt.list_none hl (by omega)
    | bool y => exact RcAt.list_bool y hl (by omega)
    | int y w => exact RcAt.list_int y w hl (by omega)
    | str y w => exact RcAt.list_str y w hl (by omega)
    | tuple k1 k2 k3 k4 => exact RcAt.list_tuple hl ⟨_, k1, k2, _, k3⟩ (by omega)
    | dict k1 k2 k3 k4 k5 => simp [PyData.hasDict] at hb
    | @list l' o' vs' n' ys b1 k1 k2 k3 k4 =>
      have hl' : s.heap.IsList l' vs' := ⟨_, k1, k2, _, k3⟩
      simp only [PyData.hasDict] at hb
      have n1 : vs.size = xs.length := by simpa using ReadsAll.length _ _ _ h4
      have n2 : vs'.size = ys.length := by simpa using ReadsAll.length _ _ _ k4
      have he : ∀ j (j1 : j < vs.size) (j2 : j < vs'.size), EqAt A.in1 s vs[j] vs'[j] (pairEq xs ys j) := fun j j1 j2 => by
        have z := eqRs xs ys A.in1 s vs.toList vs'.toList _ _ (by show A.units + 1 + _ < _; omega) h4 ha k4 hb j (by simpa using j1) (by simpa using j2)
        simpa using z
      show RcAt A s (.ref l) (.ref l') (PyData.eqvAll xs ys)
      by_cases hsz : vs.size = vs'.size
      · rw [← eqvAll_same_length (by omega : xs.length = ys.length), ← n1]
        exact RcAt.lists hl hl' hsz (by omega) he
      · rw [eqvAll_other_length (by omega : xs.length ≠ ys.length)]
        exact RcAt.lists_lengths hl hl' (by simpa using hsz) (by omega)
  | @tuple l o vs n xs a1 h1 h2 h3 h4 =>
    have hl : s.heap.IsTuple l vs := ⟨_, h1, h2, _, h3⟩
    simp only [PyData.depth] at hu
    simp only [PyData.hasDict] at ha
    cases rb with
    | none => exact RcAt.tuple_none hl (by omega)
    | bool y => exact RcAt.tuple_bool y hl (by omega)
    | int y w => exact RcAt.tuple_int y w hl (by omega)
    | str y w => exact RcAt.tuple_str y w hl (by omega)
    | list k1 k2 k3 k4 => exact RcAt.tuple_list hl ⟨_, k1, k2, _, k3⟩ (by omega)
    | dict k1 k2 k3 k4 k5 => simp [PyData.hasDict] at hb
    | @tuple l' o' vs' n' ys b1 k1 k2 k3 k4 =>
      have hl' : s.heap.IsTuple l' vs' := ⟨_, k1, k2, _, k3⟩
      simp only [PyData.hasDict] at hb
      have n1 : vs.size = xs.length := by simpa using ReadsAll.length _ _ _ h4
      have n2 : vs'.size = ys.length := by simpa using ReadsAll.length _ _ _ k4
      have he : ∀ j (j1 : j < vs.size) (j2 : j < vs'.size), EqAt A.in1 s vs[j] vs'[j] (pairEq xs ys j) := fun j j1 j2 => by
        have z := eqRs xs ys A.in1 s vs.toList vs'.toList _ _ (by show A.units + 1 + _ < _; omega) h4 ha k4 hb j (by simpa using j1) (by simpa using j2)
        simpa using z
      show RcAt A s (.ref l) (.ref l') (PyData.eqvAll xs ys)
      rw [← eqvAll_eq xs ys, ← n1, ← n2]
      exact RcAt.tuples hl hl' (by omega) he
  | dict k1 k2 k3 k4 k5 => simp [PyData.hasDict] at ha
theorem neR (d e : PyData) (A : Around) (s : Shared) (v u : Value) (as bs : List Addr) (hu : A.units + d.depth < cLine) (ra : Reads s.heap v d as) (ha : d.hasDict = false) (rb : Reads s.heap u e bs) (hb : e.hasDict = false) : RcNeAt A s v u (!PyData.eqv d e) := by
  cases ra with
  | none =>
    cases rb with
    | none => exact RcNeAt.none_none
    | bool y => exact RcNeAt.none_bool y
    | int y w => exact RcNeAt.none_int y w
    | str y w => exact RcNeAt.none_str y w
    | list k1 k2 k3 k4 => exact RcNeAt.none_list ⟨_, k1, k2, _, k3⟩ (by omega)
    | tuple k1 k2 k3 k4 => exact RcNeAt.none_tuple ⟨_, k1, k2, _, k3⟩ (by omega)
    | dict k1 k2 k3 k4 k5 => simp [PyData.hasDict] at hb
  | bool x =>
    cases rb with
    | none => exact RcNeAt.bool_none x
    | bool y => exact RcNeAt.bool_bool x y
    | int y w => exact RcNeAt.bool_int x y w
    | str y w => exact RcNeAt.bool_str x y w
    | list k1 k2 k3 k4 => exact RcNeAt.bool_list x ⟨_, k1, k2, _, k3⟩ (by omega)
    | tuple k1 k2 k3 k4 => exact RcNeAt.bool_tuple x ⟨_, k1, k2, _, k3⟩ (by omega)
    | dict k1 k2 k3 k4 k5 => simp [PyData.hasDict] at hb
  | int x t =>
    cases rb with
    | none => exact RcNeAt.int_none x t
    | bool y => exact RcNeAt.int_bool x t y
    | int y w => exact RcNeAt.int_int x t y w
    | str y w => exact RcNeAt.int_str x t y w
    | list k1 k2 k3 k4 => exact RcNeAt.int_list x t ⟨_, k1, k2, _, k3⟩ (by omega)
    | tuple k1 k2 k3 k4 => exact RcNeAt.int_tuple x t ⟨_, k1, k2, _, k3⟩ (by omega)
    | dict k1 k2 k3 k4 k5 => simp [PyData.hasDict] at hb
  | str x t =>
    cases rb with
    | none => exact RcNeAt.str_none x t
    | bool y => exact RcNeAt.str_bool x t y
    | int y w => exact RcNeAt.str_int x t y w
    | str y w => exact RcNeAt.str_str x t y w
    | list k1 k2 k3 k4 => exact RcNeAt.str_list x t ⟨_, k1, k2, _, k3⟩ (by omega)
    | tuple k1 k2 k3 k4 => exact RcNeAt.str_tuple x t ⟨_, k1, k2, _, k3⟩ (by omega)
    | dict k1 k2 k3 k4 k5 => simp [PyData.hasDict] at hb
  | @list l o vs n xs a1 h1 h2 h3 h4 =>
    have hl : s.heap.IsList l vs := ⟨_, h1, h2, _, h3⟩
    simp only [PyData.depth] at hu
    simp only [PyData.hasDict] at ha
    cases rb with
    | none => exact RcNeAt.list_none hl (by omega)
    | bool y => exact RcNeAt.list_bool y hl (by omega)
    | int y w => exact RcNeAt.list_int y w hl (by omega)
    | str y w => exact RcNeAt.list_str y w hl (by omega)
    | tuple k1 k2 k3 k4 => exact RcNeAt.list_tuple hl ⟨_, k1, k2, _, k3⟩ (by omega)
    | dict k1 k2 k3 k4 k5 => simp [PyData.hasDict] at hb
    | @list l' o' vs' n' ys b1 k1 k2 k3 k4 =>
      have hl' : s.heap.IsList l' vs' := ⟨_, k1, k2, _, k3⟩
      simp only [PyData.hasDict] at hb
      have n1 : vs.size = xs.length := by simpa using ReadsAll.length _ _ _ h4
      have n2 : vs'.size = ys.length := by simpa using ReadsAll.length _ _ _ k4
      have he : ∀ j (j1 : j < vs.size) (j2 : j < vs'.size), EqAt A.in1 s vs[j] vs'[j] (pairEq xs ys j) := fun j j1 j2 => by
        have z := eqRs xs ys A.in1 s vs.toList vs'.toList _ _ (by show A.units + 1 + _ < _; omega) h4 ha k4 hb j (by simpa using j1) (by simpa using j2)
        simpa using z
      show RcNeAt A s (.ref l) (.ref l') (!PyData.eqvAll xs ys)
      by_cases hsz : vs.size = vs'.size
      · rw [← eqvAll_same_length (by omega : xs.length = ys.length), ← n1]
        exact RcNeAt.lists hl hl' hsz (by omega) he
      · rw [eqvAll_other_length (by omega : xs.length ≠ ys.length)]
        exact RcNeAt.lists_lengths hl hl' (by simpa using hsz) (by omega)
  | @tuple l o vs n xs a1 h1 h2 h3 h4 =>
    have hl : s.heap.IsTuple l vs := ⟨_, h1, h2, _, h3⟩
    simp only [PyData.depth] at hu
    simp only [PyData.hasDict] at ha
    cases rb with
    | none => exact RcNeAt.tuple_none hl (by omega)
    | bool y => exact RcNeAt.tuple_bool y hl (by omega)
    | int y w => exact RcNeAt.tuple_int y w hl (by omega)
    | str y w => exact RcNeAt.tuple_str y w hl (by omega)
    | list k1 k2 k3 k4 => exact RcNeAt.tuple_list hl ⟨_, k1, k2, _, k3⟩ (by omega)
    | dict k1 k2 k3 k4 k5 => simp [PyData.hasDict] at hb
    | @tuple l' o' vs' n' ys b1 k1 k2 k3 k4 =>
      have hl' : s.heap.IsTuple l' vs' := ⟨_, k1, k2, _, k3⟩
      simp only [PyData.hasDict] at hb
      have n1 : vs.size = xs.length := by simpa using ReadsAll.length _ _ _ h4
      have n2 : vs'.size = ys.length := by simpa using ReadsAll.length _ _ _ k4
      have he : ∀ j (j1 : j < vs.size) (j2 : j < vs'.size), EqAt A.in1 s vs[j] vs'[j] (pairEq xs ys j) := fun j j1 j2 => by
        have z := eqRs xs ys A.in1 s vs.toList vs'.toList _ _ (by show A.units + 1 + _ < _; omega) h4 ha k4 hb j (by simpa using j1) (by simpa using j2)
        simpa using z
      show RcNeAt A s (.ref l) (.ref l') (!PyData.eqvAll xs ys)
      rw [← eqvAll_eq xs ys, ← n1, ← n2]
      exact RcNeAt.tuples hl hl' (by omega) he
  | dict k1 k2 k3 k4 k5 => simp [PyData.hasDict] at ha
end

/-- == and != of data -/
def rEq : PR2 := fun p q h Q => flat (vw h p) = true ∧ flat (vw h q) = true ∧ (toD (vw h p)).depth ≤ 64 ∧ Q (.bl (PyData.eqv (toD (vw h p)) (toD (vw h q)))) h
def rNe : PR2 := fun p q h Q => flat (vw h p) = true ∧ flat (vw h q) = true ∧ (toD (vw h p)).depth ≤ 64 ∧ Q (.bl (!PyData.eqv (toD (vw h p)) (toD (vw h q)))) h
def oEq (K : PySem.W.Frag) : R2 := fun x y H Q => ∃ d e, Dp K H x d ∧ Dp K H y e ∧ d.hasDict = false ∧ e.hasDict = false ∧ d.depth ≤ 64 ∧ Q (.bl (PyData.eqv d e)) H
def oNe (K : PySem.W.Frag) : R2 := fun x y H Q => ∃ d e, Dp K H x d ∧ Dp K H y e ∧ d.hasDict = false ∧ e.hasDict = false ∧ d.depth ≤ 64 ∧ Q (.bl (!PyData.eqv d e)) H
theorem op_eqA {X : Cx} (hu : X.A.units + 64 < cLine) : OpR X (compareOp .Eq) (oEq X.K) := by
  intro pins s σ H x y v u Q I rx ry h
  obtain ⟨d, e, hd, he, fd, fe, hz, q⟩ := h
  obtain ⟨as, r1⟩ := Dp.reads I d x v hd rx
  obtain ⟨bs, r2⟩ := Dp.reads I e y u he ry
  exact rcR d e X.A s v u as bs (by omega) r1 fd r2 fe X.prog X.w X.xe _ ⟨.bl _, H, I, rfl, q⟩
theorem op_neA {X : Cx} (hu : X.A.units + 64 < cLine) : OpR X (compareOp .NotEq) (oNe X.K) := by
  intro pins s σ H x y v u Q I rx ry h
  obtain ⟨d, e, hd, he, fd, fe, hz, q⟩ := h
  obtain ⟨as, r1⟩ := Dp.reads I d x v hd rx
  obtain ⟨bs, r2⟩ := Dp.reads I e y u he ry
  exact neR d e X.A s v u as bs (by omega) r1 fd r2 fe X.prog X.w X.xe _ ⟨.bl _, H, I, rfl, q⟩
theorem lf_eq {K : PySem.W.Frag} : Lf2 K (oEq K) rEq := by
  intro x y H p q h Q' Q rp rq s r l
  obtain ⟨f1, f2, hz, r⟩ := r
  exact ⟨_, _, vw_dp f1 rp s, vw_dp f2 rq s, noDict _ f1, noDict _ f2, hz, l _ _ _ _ r .refl (rel_bl.mpr rfl) s⟩
theorem lf_ne {K : PySem.W.Frag} : Lf2 K (oNe K) rNe := by
  intro x y H p q h Q' Q rp rq s r l
  obtain ⟨f1, f2, hz, r⟩ := r
  exact ⟨_, _, vw_dp f1 rp s, vw_dp f2 rq s, noDict _ f1, noDict _ f2, hz, l _ _ _ _ r .refl (rel_bl.mpr rfl) s⟩
end N3

namespace N3
open PySem PySem.Spec PyProof.Rows L2

/-! ### dicts by their keys -/
def lk : List Key → List PV → Key → Option PV
  | k' :: ks, v :: vs, k => if k' = k then some v else lk ks vs k
  | _, _, _ => none
def hasK (ks : List Key) (k : Key) : Bool := ks.any fun k' => decide (k' = k)
def pk (ks : List Key) (k : Key) : List Key := if hasK ks k = true then ks else ks ++ [k]
def pvs (ks : List Key) (vs : List PV) (k : Key) (v : PV) : List PV := if hasK ks k = true then List.zipWith (fun k' x => if k' = k then v else x) ks vs else vs ++ [v]
def kOf : PV → Option Key
  | .int i => some (.inl i)
  | .str x => some (.inr x)
  | _ => none
theorem kOf_rel {K : PySem.W.Frag} {H : Hp} {p : PV} {v : V} {k : Key} (r : Rel K H p v) (e : kOf p = some k) : v = kV k := by
  cases p with
  | int i => simp only [kOf, Option.some.injEq] at e; subst e; exact rel_int.mp r
  | str i => simp only [kOf, Option.some.injEq] at e; subst e; exact rel_str.mp r
  | _ => simp [kOf] at e
theorem lk_val {K : PySem.W.Frag} {H : Hp} : ∀ {kvs : List (Key × V)} {vs : List PV} (k : Key), Rels K H vs (kvs.map (·.2)) →
    (match lk (kvs.map (·.1)) vs k with | some p => ∃ v, valV kvs k = some v ∧ Rel K H p v | none => valV kvs k = none)
  | [], vs, k, r => by cases vs <;> simp [lk, valV]
  | (k', x) :: kvs, [], k, r => by
    have := r.length
    simp at this
  | (k', x) :: kvs, v :: vs, k, r => by
    obtain ⟨w, ws, e, r1, r2⟩ := r.uncons
    simp only [List.map_cons, List.cons.injEq] at e
    obtain ⟨rfl, rfl⟩ := e
    simp only [List.map_cons, lk]
    by_cases h : k' = k
    · rw [if_pos h]; exact ⟨x, valV_pos h, r1⟩
    · rw [if_neg h, valV_neg (p := (k', x)) h]; exact lk_val k r2
theorem put_rel {K : PySem.W.Frag} {H : Hp} {kvs : List (Key × V)} {vs : List PV} {k : Key} {p : PV} {v : V} (r : Rels K H vs (kvs.map (·.2))) (rp : Rel K H p v) :
    pk (kvs.map (·.1)) k = (putK kvs k v).map (·.1) ∧ Rels K H (pvs (kvs.map (·.1)) vs k p) ((putK kvs k v).map (·.2)) := by
  have hm : (kvs.any fun kv => decide (kv.1 = k)) = hasK (kvs.map (·.1)) k := by
    unfold hasK; rw [List.any_map]; rfl
  unfold putK pk pvs
  rw [hm]
  by_cases h : hasK (kvs.map (·.1)) k = true
  · rw [if_pos h, if_pos h, if_pos h]
    refine ⟨?_, ?_⟩
    · rw [List.map_map]
      refine List.map_congr_left fun x _ => ?_
      show x.1 = (if x.1 = k then (x.1, v) else x).1
      split <;> rfl
    · clear h hm
      induction kvs generalizing vs with
      | nil => cases vs with
        | nil => exact .nil
        | cons _ _ => have := r.length; simp at this
      | cons kv kvs ih =>
        cases vs with
        | nil => have := r.length; simp at this
        | cons q vs =>
          obtain ⟨w, ws, e, r1, r2⟩ := r.uncons
          simp only [List.map_cons, List.cons.injEq] at e
          obtain ⟨rfl, rfl⟩ := e
          simp only [List.map_cons, List.zipWith_cons_cons]
          refine .cons ?_ (ih r2)
          by_cases hk : kv.1 = k
          · rw [if_pos hk, if_pos hk]; exact rp
          · rw [if_neg hk, if_neg hk]; exact r1
  · rw [if_neg h, if_neg h, if_neg h]
    refine ⟨by simp, ?_⟩
    rw [List.map_append]
    exact r.append (.cons rp .nil)

/-! ### is None, len, places -/
def isNon : PV → Bool
  | .non => true
  | _ => false
theorem isNon_rel {K : PySem.W.Frag} {H : Hp} {p : PV} {v : V} (r : Rel K H p v) : decide (v = .non) = isNon p := by
  cases p with
  | non => rw [rel_non.mp r]; rfl
  | bl b => rw [rel_bl.mp r]; rfl
  | int b => rw [rel_int.mp r]; rfl
  | str b => rw [rel_str.mp r]; rfl
  | tup ps => obtain ⟨a, xs, rfl, _⟩ := rel_tup.mp r; rfl
  | lst ps => obtain ⟨a, xs, rfl, _⟩ := rel_lst.mp r; rfl
  | dct ks vs => obtain ⟨a, xs, rfl, _⟩ := rel_dct.mp r; rfl
  | ref a => rw [rel_ref.mp r]; rfl
  | ty n => have e : v = .ty n := by simpa only [Rel] using r
            rw [e]; rfl
def rIsN : PR2 := fun p q h Q => match q with | .non => Q (.bl (isNon p)) h | _ => False
def rNotN : PR2 := fun p q h Q => match q with | .non => Q (.bl (!isNon p)) h | _ => False
theorem lf_isN {K : PySem.W.Frag} : Lf2 K (fun x y H Q => y = .non ∧ Q (.bl (decide (x = .non))) H) rIsN := by
  intro x y H p q h Q' Q rp rq s r l
  unfold rIsN at r
  split at r
  · exact ⟨rel_non.mp rq, by rw [isNon_rel rp]; exact l _ _ _ _ r .refl (rel_bl.mpr rfl) s⟩
  · exact r.elim
theorem lf_notN {K : PySem.W.Frag} : Lf2 K (fun x y H Q => y = .non ∧ Q (.bl (!decide (x = .non))) H) rNotN := by
  intro x y H p q h Q' Q rp rq s r l
  unfold rNotN at r
  split at r
  · exact ⟨rel_non.mp rq, by rw [isNon_rel rp]; exact l _ _ _ _ r .refl (rel_bl.mpr rfl) s⟩
  · exact r.elim
def rLen : PRA := fun ps h Q => match ps with
  | [.str x] => x.length ≤ SZ ∧ Q (.int (x.length : Nat)) h
  | [.tup xs] => Q (.int (xs.length : Nat)) h
  | [p] => (match seqL h p with | some xs => Q (.int (xs.length : Nat)) h | none => False)
  | _ => False
theorem lf_len {K : PySem.W.Frag} : LfA K (fun xs H Q => ∃ x n, xs = [x] ∧ LenV K x H n ∧ Q (.int n) H) rLen := by
  intro xs H ps h Q' Q rp s r l
  unfold rLen at r
  split at r
  · obtain ⟨v, rfl, r1⟩ := rp.one
    have e := rel_str.mp r1
    subst e
    exact ⟨_, _, rfl, ⟨sz_le r.1, rfl⟩, l _ _ _ _ r.2 .refl (rel_int.mpr rfl) s⟩
  · obtain ⟨v, rfl, r1⟩ := rp.one
    obtain ⟨a, ys, rfl, hq, rr⟩ := rel_tup.mp r1
    exact ⟨_, _, rfl, .inr ⟨ys, hq, rfl⟩, by rw [← rr.length]; exact l _ _ _ _ r .refl (rel_int.mpr rfl) s⟩
  · obtain ⟨v, rfl, r1⟩ := rp.one
    split at r
    · rename_i e
      obtain ⟨a, ys, rfl, hq, rr⟩ := seqL_sq r1 s e
      exact ⟨_, _, rfl, .inl ⟨ys, hq, rfl⟩, by rw [← rr.length]; exact l _ _ _ _ r .refl (rel_int.mpr rfl) s⟩
    · exact r.elim
  · exact r.elim
theorem atI_rel {K : PySem.W.Frag} {H : Hp} {ps : List PV} {xs : List V} {i : Int} {p : PV} (r : Rels K H ps xs) (e : atI ps i = some p) : ∃ v, atI xs i = some v ∧ Rel K H p v := by
  unfold atI at e ⊢
  rw [← r.length]
  cases h : ixN ps.length i with
  | none => rw [h] at e; cases e
  | some j =>
    rw [h] at e
    exact r.get e
/-- a dict's item -/
def ixD (K : PySem.W.Frag) : R2 := fun x y H Q => ∃ a v, x = .ref a ∧ DGet H a y (some v) ∧ Q v H
theorem ix_dict {X : Cx} (hu : X.A.units + 1 < cLine) : IxR X (ixD X.K) := by
  intro value slice pins s σ H x y v u Q I rx ry h hs
  obtain ⟨a, w, rfl, g, q⟩ := h
  obtain rfl : v = Value.ref a := rx
  exact tail_any (dict_typeIs I g) PySem.F.slot_dict_getitem.lookup (d_getItem hu I g ry fun w' s3 I3 rw' => ⟨w, H, I3, rw', q⟩) hs
/-- the items of a dict, kept or not -/
def dctL (h : PH) : PV → Option (List Key × List PV)
  | .dct ks vs => some (ks, vs)
  | .ref a => match h a with | some (.dct ks vs) => some (ks, vs) | some (.lck ks vs) => some (ks, vs) | _ => none
  | _ => none
theorem dctL_rd {K : PySem.W.Frag} {H : Hp} {h : PH} {p : PV} {v : V} {ks : List Key} {vs : List PV} (r : Rel K H p v) (s : Sim K H h) (e : dctL h p = some (ks, vs)) : ∃ a kvs, v = .ref a ∧ Rd H a (.dK kvs) ∧ ks = kvs.map (·.1) ∧ Rels K H vs (kvs.map (·.2)) := by
  cases p with
  | dct ks' vs' =>
    simp only [dctL, Option.some.injEq, Prod.mk.injEq] at e
    obtain ⟨rfl, rfl⟩ := e
    obtain ⟨a, kvs, e1, ⟨o, f⟩, e2, rr⟩ := rel_dct.mp r
    exact ⟨a, kvs, e1, .inr ⟨o, f⟩, e2, rr⟩
  | ref a =>
    simp only [dctL] at e
    cases q : h a with
    | none => rw [q] at e; cases e
    | some o =>
      rw [q] at e
      cases o with
      | dct ks' vs' =>
        simp only [Option.some.injEq, Prod.mk.injEq] at e
        obtain ⟨rfl, rfl⟩ := e
        obtain ⟨u, e2, kvs, rfl, e3, rr⟩ := s a _ q
        exact ⟨a, kvs, rel_ref.mp r, .inl e2, e3, rr⟩
      | lck ks' vs' =>
        simp only [Option.some.injEq, Prod.mk.injEq] at e
        obtain ⟨rfl, rfl⟩ := e
        obtain ⟨u, e2, ob, kvs, rfl, e3, rr⟩ := s a _ q
        exact ⟨a, kvs, rel_ref.mp r, .inr ⟨ob, e2⟩, e3, rr⟩
      | lst _ => cases e
      | ins _ _ _ => cases e
      | xd _ _ => cases e
      | tab _ => cases e
  | _ => simp [dctL] at e
def rIx : PR2 := fun p q h Q => match p, q with
  | .str x, .int i => x.length ≤ SZ ∧ (match atI (cl x) i with | some c => Q (.str (S [c])) h | none => False)
  | .tup xs, .int i => (match atI xs i with | some v => Q v h | none => False)
  | p, q => (match seqL h p with
    | some xs => (match q with | .int i => (match atI xs i with | some v => Q v h | none => False) | _ => False)
    | none => (match dctL h p with
      | some (ks, vs) => (match kOf q with
        | some k => (match lk ks vs k with | some v => Q v h | none => False)
        | none => False)
      | none => False))
def oIx (K : PySem.W.Frag) : R2 := fun x y H Q => ((rIxL K x y H Q ∨ rIxT K x y H Q) ∨ rIxS x y H Q) ∨ ixD K x y H Q
theorem ix_all {X : Cx} (hu : X.A.units + 1 < cLine) : IxR X (oIx X.K) := ((ix_list.or ix_tup).or ix_str).or (ix_dict hu)
theorem lf_ix {K : PySem.W.Frag} : Lf2 K (oIx K) rIx := by
  intro x y H p q h Q' Q rp rq s r l
  unfold rIx at r
  split at r
  · rename_i z i
    obtain ⟨hz, r⟩ := r
    split at r
    · rename_i c e
      exact .inl (.inr ⟨z, i, c, rel_str.mp rp, rel_int.mp rq, sz_le hz, e, l _ _ _ _ r .refl (rel_str.mpr rfl) s⟩)
    · exact r.elim
  · rename_i xs i
    split at r
    · rename_i v e
      obtain ⟨a, ys, e1, hq, rr⟩ := rel_tup.mp rp
      obtain ⟨w, e2, rw'⟩ := atI_rel rr e
      exact .inl (.inl (.inr ⟨a, ys, i, w, e1, rel_int.mp rq, hq, e2, l _ _ _ _ r .refl rw' s⟩))
    · exact r.elim
  · split at r
    · rename_i xs e
      obtain ⟨a, ys, e1, hq, rr⟩ := seqL_sq rp s e
      cases q with
      | int i =>
        simp only at r
        split at r
        · rename_i v e2
          obtain ⟨w, e3, rw'⟩ := atI_rel rr e2
          exact .inl (.inl (.inl ⟨a, ys, i, w, e1, rel_int.mp rq, hq, e3, l _ _ _ _ r .refl rw' s⟩))
        · exact r.elim
      | _ => exact r.elim
    · split at r
      · rename_i ks vs e
        obtain ⟨a, kvs, e1, rd, rfl, rr⟩ := dctL_rd rp s e
        split at r
        · rename_i k ek
          have hy := kOf_rel rq ek
          have hv := lk_val k rr
          split at r
          · rename_i v ev
            rw [ev] at hv
            obtain ⟨w, e3, rw'⟩ := hv
            subst hy
            exact .inr ⟨a, w, e1, .inl ⟨kvs, k, rd, rfl, e3.symm⟩, l _ _ _ _ r .refl rw' s⟩
          · exact r.elim
        · exact r.elim
      · exact r.elim
section
variable {X : Cx} {pos : Pos} {a b : Expr}
theorem le_ix {ma mb : ME} (hu : X.A.units + 1 < cLine) (ha : LE X a ma) (hb : LE X b mb) (hs : PlainIx b := by exact fun _ _ => rfl) : LE X (.Subscript a b pos) (mB rIx ma mb) :=
  PE.weak (pe_ix (ix_all hu) ha hb hs) fun _ _ _ h => two_up (Z := fun Q => Q) lf_ix h
/-- d[k] = e, xs[i] = e -/
def mDput (mv mo mk : ME) : MS := fun D τ h => mv τ h fun p h1 => mo τ h1 fun d h2 => mk τ h2 fun q h3 => match d with
  | .ref a => (match h3 a with
    | some (.dct ks vs) => (match kOf q with | some k => ks.length < SZ ∧ D.nx τ (up h3 a (.dct (pk ks k) (pvs ks vs k p))) | none => False)
    | some (.lst xs) => (match q with | .int i => (match ixN xs.length i with | some j => D.nx τ (up h3 a (.lst (xs.set j p))) | none => False) | _ => False)
    | _ => False)
  | _ => False
theorem PSet_or {X : Cx} {t u : TSet} (h : PSet X t) (k : PSet X u) : PSet X (fun o i v H Q => t o i v H Q ∨ u o i v H Q) := by
  intro pins s σ H o i v ov iv w Q I ro ri rv q
  rcases q with q | q
  · exact h pins s σ H o i v ov iv w Q I ro ri rv q
  · exact k pins s σ H o i v ov iv w Q I ro ri rv q
theorem ls_dput {o i value : Expr} {pos' : Pos} {mv mo mk : ME} (hu : X.A.units + 1 < cLine) (ho : LE X o mo) (hi : LE X i mk) (hv : LE X value mv) (hs : swapsWithSole [.Subscript o i pos'] value pos.line X.env = pure false := by rfl) (hw : swappedStores [.Subscript o i pos'] value X.env = pure none := by rfl)
    (h1 : (assignEach [.Subscript o i pos'] X.env).map (·.2) = [assign (.Subscript o i pos') X.env] := by rfl)
    (ha : ∀ u, assign (.Subscript o i pos') X.env u = (do let ov ← holding [u] (eval o X.env); let iv ← holding [u, ov] (eval i X.env); standAt pos'; holding [u, ov, iv] (setItem ov iv u); release [u, ov, iv] []) := by intro _; rfl) : LS X (.Assign [.Subscript o i pos'] value pos) (mDput mv mo mk) := by
  refine PS.weak (ps_asg hv (pg_sub ho hi (PSet_or (set_dict hu) set_list) ha) hs hw h1) fun D σ H ⟨τ, h, D', s, sh, q, l⟩ => ?_
  refine ⟨τ, h, _, s, sh, q, fun p h1 v H1 q1 g1 r1 s1 => ?_⟩
  refine ⟨τ, h1, _, s.mono g1.mono, s1, q1, fun d h2 x H2 q2 g2 r2 s2 => ?_⟩
  refine ⟨τ, h2, _, (s.mono g1.mono).mono g2.mono, s2, q2, fun q h3 y H3 q3 g3 r3 s3 => ?_⟩
  cases d with
  | ref a =>
    have hx := rel_ref.mp (r2.mono g3.mono)
    simp only at q3
    split at q3
    · rename_i ks vs e
      split at q3
      · rename_i k ek
        obtain ⟨u, e1, kvs, rfl, rfl, rr⟩ := s3 a _ e
        have hy := kOf_rel r3 ek
        have hl : kvs.length < sizeLine := by
          have z := q3.1
          rw [List.length_map] at z
          exact sz_lt z
        subst hy hx
        have mm : Mono H3 (upd H3 a (.dK (putK kvs k v))) := Mono.dK e1
        obtain ⟨z1, z2⟩ := put_rel (k := k) rr ((r1.mono g2.mono).mono g3.mono)
        refine .inl ⟨a, _, rfl, DPut.k e1 hl, l.nx _ _ _ _ q3.2 (((g1.trans g2).trans g3).trans (.wr e mm)) ((((s.mono g1.mono).mono g2.mono).mono g3.mono).mono mm) (s3.put mm ⟨_, rfl, z1, z2.mono mm⟩)⟩
      · exact q3.elim
    · rename_i xs e
      split at q3
      · rename_i i
        split at q3
        · rename_i j ej
          obtain ⟨u, e1, ys, rfl, rr⟩ := s3 a _ e
          have hy := rel_int.mp r3
          subst hy hx
          have mm : Mono H3 (upd H3 a (.lst (ys.set j v))) := Mono.lst e1
          refine .inr ⟨a, ys, i, j, rfl, rfl, e1, by rw [← rr.length]; exact ej, l.nx _ _ _ _ q3 (((g1.trans g2).trans g3).trans (.wr e mm)) ((((s.mono g1.mono).mono g2.mono).mono g3.mono).mono mm) (s3.put mm ⟨_, rfl, (rr.set ((r1.mono g2.mono).mono g3.mono) j).mono mm⟩)⟩
        · exact q3.elim
      · exact q3.elim
    · exact q3.elim
  | _ => exact q3.elim
end
end N3

namespace N3
open PySem PySem.Spec PyProof.Rows L2

/-! ### * -/
theorem tup_same (l : Addr) (xs : Array Value) (n : Nat) (dd : Option Addr) (sl : Array (Option Value)) (x : Int) (u : Tok) (h0 : (decide (x < -(2 ^ 63)) || decide (x ≥ 2 ^ 63)) = false) (h1 : (xs.isEmpty || x == 1) = true) :
    Meets (Builtin.«tuple.__mul__» ⟨[.ref l, .int x u], []⟩) (fun _ R s => s.heap.get? l = some { cls := .type "tuple", dict := dd, data := .seq xs n, slots := sl } ∧ R (.ok (.ret (Value.ref l))) s) :=
  .of_wp fun prog w A R s h => by
    obtain ⟨hp, g, d, tk, os⟩ := s; obtain ⟨hl, h⟩ := h; have k1 := AutoSeq1.idx_int
    wp_walk using AutoSeq1.wpAny_loadPart' hl
    repeat (first | (refine wpAny_ite_false (decide_eq_false (by rw [h0]; simp)) ?_; wp_walk using AutoSeq1.wpAny_loadPart' hl) | (refine wpAny_ite_true (decide_eq_true h1) ?_; wp_walk using AutoSeq1.wpAny_loadPart' hl))
    exact ⟨_, rfl, h⟩
theorem tup_zero (l : Addr) (xs : Array Value) (n : Nat) (dd : Option Addr) (sl : Array (Option Value)) (x : Int) (u : Tok) (h0 : (decide (x < -(2 ^ 63)) || decide (x ≥ 2 ^ 63)) = false) (h1 : (xs.isEmpty || x == 1) = false) (h2 : (decide (x ≤ 0) || xs.isEmpty) = true) :
    Meets (Builtin.«tuple.__mul__» ⟨[.ref l, .int x u], []⟩) (fun _ R s => s.heap.get? l = some { cls := .type "tuple", dict := dd, data := .seq xs n, slots := sl } ∧
      R (.ok (.ret (Value.ref s.heap.objs.size))) { s with heap := s.heap.push { cls := Value.type "tuple", data := Data.seq #[] }, toks := s.toks }) :=
  .of_wp fun prog w A R s h => by
    obtain ⟨hp, g, d, tk, os⟩ := s; obtain ⟨hl, h⟩ := h; have k1 := AutoSeq1.idx_int
    wp_walk using AutoSeq1.wpAny_loadPart' hl
    repeat (first | (refine wpAny_ite_false (decide_eq_false (by rw [h0]; simp)) ?_; wp_walk using AutoSeq1.wpAny_loadPart' hl) | (refine wpAny_ite_false (decide_eq_false (by rw [h1]; simp)) ?_; wp_walk using AutoSeq1.wpAny_loadPart' hl) | (refine wpAny_ite_true (decide_eq_true h2) ?_; wp_walk using AutoSeq1.wpAny_loadPart' hl))
    exact ⟨_, rfl, h⟩
/-- a tuple once, or not at all -/
def rRep01 (K : PySem.W.Frag) : R2 := fun x y H Q => ∃ l k xs, x = .ref l ∧ y = .int k ∧ SqT K H l xs ∧ 0 ≤ k ∧ k ≤ 1 ∧ ((xs = [] ∨ k = 1) → Q (.ref l) H) ∧ (xs ≠ [] → k = 0 → ∀ p, H p = none → Q (.ref p) (upd H p (.tup [])))
theorem op_rep01 {X : Cx} : OpR X (binaryOp .Mult) (rRep01 X.K) := by
  intro pins s σ H x y v u Q I rx ry h
  obtain ⟨l, k, xs, rfl, rfl, hT, h1, h2, q1, q2⟩ := h
  cases rx
  obtain ⟨t, rfl⟩ := ry
  obtain ⟨its, r, ⟨⟨cls, dd, data, sl⟩, ho, hc, n, hd⟩, hs⟩ := I.tuple hT
  simp only at hc hd
  subst hc; subst hd
  have c0 : (decide (k < -(2 ^ 63)) || decide (k ≥ 2 ^ 63)) = false := by rw [decide_eq_false (by omega), decide_eq_false (by omega)]; rfl
  have go : ∀ {S : PySem.Spec}, Meets (Builtin.«tuple.__mul__» ⟨[.ref l, .int k t], []⟩) S → S X.A (wants (EP X pins σ Q) X.xe) s → wpAny (model X.prog X.w) X.A (binaryOp .Mult (.ref l) (.int k t)) (EP X pins σ Q) X.xe s := fun {S} g z =>
    wpAny_binaryOp_repeat_ref (T := "tuple") (U := "int") (by decide) ⟨_, ho, rfl⟩ (fun s' => typeIs_int s' k t) noFill_tuple_mul PySem.F.fills_int_mul PySem.F.slot_int_rmul repeat_tuple PySem.F.slot_int_index.lookup
      (call_meets PySem.F.slot_int_rmul (typeIs_int s k t) PySem.F.entry_int_rmul (PySem.F.args_int_rmul_2 _ _) (int_rmul_tuple k t l its.toArray n dd sl) ⟨ho, rfl, ⟨_, ho, rfl⟩, call_meets PySem.F.slot_tuple_mul ⟨_, ho, rfl⟩ PySem.F.entry_tuple_mul (PySem.F.args_tuple_mul_2 _ _) g z⟩)
  by_cases hx : xs = [] ∨ k = 1
  · refine go (tup_same l its.toArray n dd sl k t c0 ?_) ⟨ho, ⟨.ref l, H, I, rfl, q1 hx⟩⟩
    rcases hx with hx | hx
    · have : its = [] := r.nil_iff.mpr hx
      subst this; rfl
    · subst hx; rw [show ((1 : Int) == 1) = true from rfl, Bool.or_true]
  · have hx1 : xs ≠ [] := fun e => hx (.inl e)
    have hk : k = 0 := by
      have : k ≠ 1 := fun e => hx (.inr e)
      omega
    have hi : its.toArray.isEmpty = false := by
      cases its with
      | nil => exact absurd (r.nil_iff.mp rfl) hx1
      | cons a b => rfl
    subst hk
    refine go (tup_zero l its.toArray n dd sl 0 t c0 (by rw [hi]; rfl) (by rw [hi]; rfl)) ⟨ho, ?_⟩
    have I2 := I.laid (t' := s.toks) (o := .tup []) (fun c o q => Heap.get?_push_of_some { cls := .type "tuple", data := .seq #[] } q) (Nat.le_refl _) ⟨Nat.zero_le _, [], .nil, IsTup.new s.heap ([] : List Value).toArray⟩
    exact ⟨.ref s.heap.objs.size, _, I2, rfl, q2 hx1 rfl _ (I.hok.fresh (Nat.le_refl _))⟩
def oMul (K : PySem.W.Frag) : R2 := fun x y H Q => (rI CMul (fun i j => .int (i * j)) x y H Q ∨ rMulS x y H Q) ∨ rRep01 K x y H Q
theorem op_mulA {X : Cx} : OpR X (binaryOp .Mult) (oMul X.K) := (op_mul.or op_mulS).or op_rep01
theorem kf_mul {K : PySem.W.Frag} : Kf2 K (oMul K) rMul := by
  intro x y H p q h Q' Q rp rq s r l
  unfold rMul at r
  split at r
  · exact .inl (.inl ⟨_, _, rel_int.mp rp, rel_int.mp rq, r.1, .inl (l _ _ _ _ r.2 .refl (rel_int.mpr rfl) s)⟩)
  · exact .inl (.inr ⟨_, _, rel_str.mp rp, rel_int.mp rq, r.1, sz_le r.2.1, r.2.2.1, .inl (l _ _ _ _ r.2.2.2 .refl (rel_str.mpr rfl) s)⟩)
  · rename_i ps n
    obtain ⟨a, xs, e1, h1, r1⟩ := rel_tup.mp rp
    obtain ⟨n0, n1, r⟩ := r
    refine .inr ⟨a, n, xs, e1, rel_int.mp rq, h1, n0, n1, fun hx => .inl ?_, fun hx hn c hc => .inl ?_⟩
    · by_cases hn : n = 1
      · rw [if_pos hn] at r
        exact l _ _ _ _ r .refl (rel_tup.mpr ⟨a, xs, rfl, h1, r1⟩) s
      · rw [if_neg hn] at r
        have hx' : xs = [] := hx.resolve_right hn
        subst hx'
        exact l _ _ _ _ r .refl (rel_tup.mpr ⟨a, [], rfl, h1, .nil⟩) s
    · rw [if_neg (by omega)] at r
      exact make_t l s .nil r hc
  · exact r.elim
theorem Rels.rep {K : PySem.W.Frag} {H : Hp} {ps : List PV} {xs : List V} (r : Rels K H ps xs) : ∀ k : Nat, Rels K H (List.replicate k ps).flatten (List.replicate k xs).flatten
  | 0 => .nil
  | k + 1 => by rw [List.replicate_succ, List.replicate_succ, List.flatten_cons, List.flatten_cons]; exact r.append (Rels.rep r k)
/-- [..] * e -/
def mRep (m : MA) (mb : ME) : ME := fun τ h Q => m τ h fun ps h1 => mb τ h1 fun q h2 => match q with
  | .int k => (-16777216 ≤ k ∧ k ≤ 16777216 ∧ ps.length * k.toNat ≤ SZ) ∧ Q (.lst (List.replicate k.toNat ps).flatten) h2
  | _ => False
section
variable {X : Cx} {pos p2 : Pos} {es : List Expr} {b : Expr} {n : Nat}
theorem le_rep {m : MA} {mb : ME} (h : LAn X es n m) (hb : LE X b mb) (hn : n ≤ 1000 := by decide) : LE X (.BinOp (.List es p2) .Mult b pos) (mRep m mb) := by
  refine PE.weak (PE.kp (pe_op op_rep (pe_lst h) hb)) fun σ H Q ⟨τ, h, Q', s, sh, q, l⟩ => ?_
  refine ⟨τ, h, _, s, sh, q, fun ps h1 vs H1 q1 hl g1 r1 s1 => ⟨by rw [← r1.length, hl]; exact few hn, fun p hp => ?_⟩⟩
  have hp1 : h1 p = none := s1.fresh hp
  have gD : Go H1 h1 (upd H1 p (.lst vs)) h1 := .new hp
  refine ⟨τ, h1, _, s.mono (g1.trans gD).mono, s1.new hp, q1, fun q h2 y H2 q2 g2 r2 s2 => ?_⟩
  cases q with
  | int k =>
    obtain ⟨⟨k1, k2, hz⟩, q2⟩ := q2
    have ey := rel_int.mp r2
    have hH : H2 p = some (.lst vs) := g2.frame p _ upd_same hp1
    refine ⟨p, k, vs, rfl, ey, hH, by omega, by omega, by rw [← r1.length]; exact sz_le hz, fun c hc => ?_⟩
    have g := (g1.trans gD).trans g2
    exact keep_l (l.mono g) s2 ((r1.mono (gD.trans g2).mono).rep k.toNat) q2 hc
  | _ => exact q2.elim
end

/-! ### slices -/
abbrev MO := PSt → PH → (Option Int → PH → Prop) → Prop
def upO (K : PySem.W.Frag) (m : MO) : TO := fun σ H Q => ∃ τ h Q', SimS K H σ τ ∧ Sim K H h ∧ m τ h Q' ∧ ∀ o h1 H1, Q' o h1 → Go H h H1 h1 → Sim K H1 h1 → Q o H1
abbrev LO (X : Cx) (e : Option Expr) (m : MO) : Prop := L2.PO X e (upO X.K m)
def mNoPart : MO := fun _ h Q => Q none h
def mPart (m : ME) : MO := fun τ h Q => m τ h fun p h1 => match p with | .int i => Q (some i) h1 | _ => False
section
variable {X : Cx} {pos p2 : Pos} {e : Expr}
theorem PO.weak {e : Option Expr} {t u : TO} (h : L2.PO X e t) (w : ∀ σ H Q, u σ H Q → t σ H Q) : L2.PO X e u := ⟨fun pins s σ H Q I q => h.run pins s σ H Q I (w σ H Q q)⟩
theorem lo_none : LO X none mNoPart := PO.weak po_none fun σ H Q ⟨τ, h, Q', s, sh, q, l⟩ => l _ _ _ q .refl sh
theorem lo_some {m : ME} (he : LE X e m) : LO X (some e) (mPart m) := by
  refine PO.weak (po_some he) fun σ H Q ⟨τ, h, Q', s, sh, q, l⟩ => ?_
  refine ⟨τ, h, _, s, sh, q, fun p h1 v H1 q1 g1 r1 s1 => ?_⟩
  cases p with
  | int i => exact ⟨i, rel_int.mp r1, l _ _ _ q1 g1 s1⟩
  | _ => exact q1.elim
end
def cut {α : Type} (xs : List α) (lo hi : Option Int) : List α := (xs.drop (HT.sIx xs.length 0 lo)).take (HT.sIx xs.length xs.length hi - HT.sIx xs.length 0 lo)
theorem cut_length {α : Type} (xs : List α) (lo hi : Option Int) : (cut xs lo hi).length ≤ xs.length := by
  unfold cut; rw [List.length_take, List.length_drop]; omega
theorem Rels.cut {K : PySem.W.Frag} {H : Hp} {ps : List PV} {xs : List V} (r : Rels K H ps xs) (lo hi : Option Int) : Rels K H (cut ps lo hi) (cutV xs lo hi) := by
  unfold N3.cut cutV
  rw [r.length]
  exact (r.drop _).take _
theorem cut_all {α : Type} {xs : List α} {lo hi : Option Int} (h : HT.sIx xs.length 0 lo = 0 ∧ HT.sIx xs.length xs.length hi = xs.length) : cut xs lo hi = xs := by
  unfold cut; rw [h.1, h.2]; simp
theorem cutS_cl (z : Str) (lo hi : Option Int) : cutS z lo hi = S (cut (cl z) lo hi) := by
  unfold cutS cut; rw [cl_length]; rfl
def oSl (K : PySem.W.Frag) : V → Option Int → Option Int → Hp → VK → Prop := fun x lo hi H Q => (rSlL K x lo hi H Q ∨ rSlA K x lo hi H Q) ∨ rSlS x lo hi H Q
theorem sl_all {X : Cx} : SlR X (oSl X.K) := (sl_list.or sl_tupA).or sl_str
def rSl (p : PV) (lo hi : Option Int) (h : PH) (Q : PK) : Prop := match p with
  | .str x => x.length ≤ SZ ∧ Q (.str (S (cut (cl x) lo hi))) h
  | .tup xs => Q (.tup (cut xs lo hi)) h
  | p => match seqL h p with
    | some xs => Q (.lst (cut xs lo hi)) h
    | none => False
theorem kf_sl {K : PySem.W.Frag} {x : V} {H : Hp} {p : PV} {lo hi : Option Int} {h : PH} {Q' : PK} {Q : VK} (rp : Rel K H p x) (s : Sim K H h) (r : rSl p lo hi h Q') (l : LQ K H h Q' Q) : oSl K x lo hi H (kQ Q) := by
  unfold rSl at r
  split at r
  · rename_i z
    refine .inr ⟨z, rel_str.mp rp, sz_le r.1, .inl ?_⟩
    rw [cutS_cl]
    exact l _ _ _ _ r.2 .refl (rel_str.mpr rfl) s
  · obtain ⟨a, ys, rfl, hq, rr⟩ := rel_tup.mp rp
    refine .inl (.inr ⟨a, ys, rfl, hq, fun hw => .inl ?_, fun hw c hc => .inl (make_t l s (rr.cut lo hi) r hc)⟩)
    rw [← rr.length] at hw
    rw [cut_all hw] at r
    exact l _ _ _ _ r .refl (rel_tup.mpr ⟨a, ys, rfl, hq, rr⟩) s
  · split at r
    · rename_i e
      obtain ⟨a, ys, rfl, hq, rr⟩ := seqL_sq rp s e
      exact .inl (.inl ⟨a, ys, rfl, hq, fun c hc => keep_l l s (rr.cut lo hi) r hc⟩)
    · exact r.elim
def mSl (m : ME) (ml mh : MO) : ME := fun τ h Q => m τ h fun p h1 => ml τ h1 fun lo h2 => mh τ h2 fun hi h3 => rSl p lo hi h3 Q
/-- x[::-1] of a text or a list -/
def rRev (p : PV) (h : PH) (Q : PK) : Prop := match p with
  | .str x => x.length ≤ SZ ∧ Q (.str (S (cl x).reverse)) h
  | p => match seqL h p with
    | some xs => Q (.lst xs.reverse) h
    | none => False
def mRev (m : ME) : ME := fun τ h Q => m τ h fun p h1 => rRev p h1 Q
section
variable {X : Cx} {pos p1 p2 p3 : Pos} {e : Expr} {lo hi : Option Expr}
theorem le_sl {m : ME} {ml mh : MO} (he : LE X e m) (hl : LO X lo ml) (hh : LO X hi mh) : LE X (.Subscript e (.Slice lo hi none p2) pos) (mSl m ml mh) := by
  refine PE.weak (PE.kp (pe_slice sl_all he hl hh)) fun σ H Q ⟨τ, h, Q', s, sh, q, l⟩ => ?_
  refine ⟨τ, h, _, s, sh, q, fun p h1 v H1 q1 g1 r1 s1 => ?_⟩
  refine ⟨τ, h1, _, s.mono g1.mono, s1, q1, fun lo h2 H2 q2 g2 s2 => ?_⟩
  refine ⟨τ, h2, _, (s.mono g1.mono).mono g2.mono, s2, q2, fun hi h3 H3 q3 g3 s3 => ?_⟩
  exact kf_sl (r1.mono (g2.trans g3).mono) s3 q3 (l.mono ((g1.trans g2).trans g3))
theorem rev_text (x : Str) : (⟨((Builtin.Str.strSliceIndices none none (-1) x.length).filterMap (x.cps[·]?)).toArray⟩ : Str) = S (cl x).reverse := by
  refine cl_inj ?_
  show (Builtin.Str.strSliceIndices none none (-1) x.length).filterMap (x.cps[·]?) = (cl x).reverse
  rw [picked_rev, PySem.W.krv_range, List.filterMap_reverse]
  have := PySem.W.krv_all x.cps
  rw [show x.length = x.cps.size from rfl, this]; rfl
def tRevA (K : PySem.W.Frag) (te : TE) : TE := fun σ H Q => te σ H fun x H1 => (∃ a xs, x = .ref a ∧ SqL K H1 a xs ∧ ∀ p, H1 p = none → Q (.ref p) (upd H1 p (.lst xs.reverse))) ∨ ∃ z, x = .str z ∧ z.length ≤ sizeLine ∧ Q (.str (S (cl z).reverse)) H1
theorem pe_revA {te : TE} {k : Nat} (he : PE X e te) : PE X (.Subscript e (.Slice none none (some (.UnaryOp .USub (.Constant (.int 1) k p1) p2)) p3) pos) (tRevA X.K te) := by
  refine ⟨fun pins s σ H Q I h => ?_⟩
  refine Subscript_ (thn (he.run pins s σ H _ I h) fun v s1 ⟨x, H1, I1, r1, q1⟩ => ?_)
  have hst : L2.PO X (some (.UnaryOp .USub (.Constant (.int 1) k p1) p2)) (tPart (tUn (rU fun i => .int (-i)) (tC (.int 1)))) := po_some (pe_un un_neg pe_int)
  refine wpAny_Slice (thn (po_none.run pins s1 σ H1 (fun o H2 => o = none ∧ H2 = H1) I1 ⟨rfl, rfl⟩) fun vl s2 ⟨l, H2, I2, pl, el, e2⟩ => ?_)
  subst el e2
  refine thn (po_none.run pins s2 σ H2 (fun o H3 => o = none ∧ H3 = H2) I2 ⟨rfl, rfl⟩) fun vu s3 ⟨u, H3, I3, pu, eu, e3⟩ => ?_
  subst eu e3
  refine thn (hst.run pins s3 σ H3 (fun o H4 => o = some (-1) ∧ H4 = H3) I3 ⟨1, rfl, -1, rfl, rfl, rfl⟩) fun vs s4 ⟨o, H4, I4, ps, eo, e4⟩ => ?_
  subst eo e4
  have I5 : Inv X pins σ H4 { s4 with heap := s4.heap.push { cls := .type "slice", data := .fields #[vl, vu, vs] } } := I4.kept (t' := s4.toks) fun b ob q => Heap.get?_push_of_some _ q
  show wpAny (model X.prog X.w) X.A (subscriptTail e (.Slice none none (some (.UnaryOp .USub (.Constant (.int 1) k p1) p2)) p3) v (.ref s4.heap.objs.size)) (EP X pins σ Q) X.xe { s4 with heap := s4.heap.push { cls := .type "slice", data := .fields #[vl, vu, vs] } }
  rcases q1 with ⟨a, xs, ex, hx, q⟩ | ⟨z, ex, hz, q⟩
  · subst ex
    cases r1
    obtain ⟨its, r, ht, hz⟩ := I5.list hx
    have hlen := r.length
    refine tail_any (ops := [.ref a, .ref s4.heap.objs.size]) ht.isList.typeIs (PySem.slot_list_getitem.lookup) ?_ (by with_unfolding_all rfl)
    refine wpAny_getItem_list_slice ht.isList (Heap.IsSliceOf.new _ vl vu vs) pl pu ps (by decide) ?_ (by rw [List.size_toArray]; omega)
    rw [PySem.W.krv_pick]
    refine ⟨.ref _, _, I5.laid (t' := s4.toks) (o := .lst xs.reverse) (fun b ob q => Heap.get?_push_of_some _ q) (Nat.le_refl _) ?_, rfl, q _ (I5.hok.fresh (Nat.le_refl _))⟩
    exact ⟨by rw [List.length_reverse]; exact hz, _, 0, r.reverse, Heap.get?_push_size _ rfl⟩
  · subst ex
    obtain ⟨t, rfl⟩ := r1
    obtain ⟨l, rfl, el⟩ := IsPart.raw pl
    obtain ⟨u, rfl, eu⟩ := IsPart.raw pu
    obtain ⟨st, rfl, es⟩ := IsPart.raw ps
    refine tail_any (ops := [.str z t, .ref s4.heap.objs.size]) (typeIs_str _ _ _) PySem.F.slot_str_getitem.lookup ?_ (by with_unfolding_all rfl)
    refine wpAny_getItem_str_slice (l := l) (u := u) (st := st) (Heap.IsSliceOf.new _ _ _ _) (by rw [es]; rfl) ?_
    unfold sliceMade slicePicked
    rw [es, el, eu]
    rw [if_neg (by simp)]
    show Made.post (Made.str ⟨((Builtin.Str.strSliceIndices none none (-1) z.length).filterMap (z.cps[·]?)).toArray⟩) _ _
    rw [rev_text]
    refine ⟨?_, .str _, H4, I5.tok _, ⟨_, rfl⟩, q⟩
    rw [S_length, List.length_reverse, ← cl_length]; exact hz
theorem le_rev {m : ME} {k : Nat} (he : LE X e m) : LE X (.Subscript e (.Slice none none (some (.UnaryOp .USub (.Constant (.int 1) k p1) p2)) p3) pos) (mRev m) := by
  refine PE.weak (PE.kp (pe_revA he)) fun σ H Q ⟨τ, h, Q', s, sh, q, l⟩ => ?_
  refine ⟨τ, h, _, s, sh, q, fun p h1 v H1 q1 g1 r1 s1 => ?_⟩
  unfold rRev at q1
  split at q1
  · exact .inr ⟨_, rel_str.mp r1, sz_le q1.1, .inl (l _ _ _ _ q1.2 g1 (rel_str.mpr rfl) s1)⟩
  · split at q1
    · rename_i e
      obtain ⟨a, ys, rfl, hq, rr⟩ := seqL_sq r1 s1 e
      exact .inl ⟨a, ys, rfl, hq, fun c hc => keep_l (l.mono g1) s1 rr.reverse q1 hc⟩
    · exact q1.elim
end
end N3

namespace N3
open PySem PySem.Spec PyProof.Rows L2

/-! ### lists that may change: append, pop -/
def listAt (h : PH) (p : PV) : Prop := ∃ a xs, p = .ref a ∧ h a = some (.lst xs)
theorem ty_list {K : PySem.W.Frag} {H : Hp} {h : PH} {p : PV} {v : V} (r : Rel K H p v) (s : Sim K H h) (e : listAt h p) : tyV K "list" v H := by
  obtain ⟨a, xs, rfl, e⟩ := e
  obtain ⟨u, e1, ys, rfl, rr⟩ := s a _ e
  rw [rel_ref.mp r]
  exact .inl ⟨rfl, ys, .of e1⟩
/-- o.append(e) -/
def mAppend (mo : ME) (m : MA) : ME := fun τ h Q => mo τ h fun p h1 => listAt h1 p ∧ m τ h1 fun ps h2 => match p, ps with
  | .ref a, [q] => (match h2 a with | some (.lst xs) => xs.length < SZ ∧ Q .non (up h2 a (.lst (xs ++ [q]))) | _ => False)
  | _, _ => False
/-- o.pop() -/
def mPop (mo : ME) : ME := fun τ h Q => mo τ h fun p h1 => match p with
  | .ref a => (match h1 a with | some (.lst xs) => (match xs.getLast? with | some y => Q y (up h1 a (.lst xs.dropLast)) | none => False) | _ => False)
  | _ => False
theorem Rels.dropLast {K : PySem.W.Frag} {H : Hp} {ps : List PV} {xs : List V} (r : Rels K H ps xs) : Rels K H ps.dropLast xs.dropLast := by
  rw [List.dropLast_eq_take, List.dropLast_eq_take, r.length]; exact r.take _
section
variable {X : Cx} {o e : Expr} {es : List Expr} {n : Nat} {mo me : ME} {m : MA} {apos cpos pos : Pos}
theorem le_append (ho : LE X o mo) (he : LAn X [e] 1 m) (hbase : attributeBase o "append" X.env (eval o X.env) = eval o X.env := by rfl)
    (hfew : ((backTo cpos (starEach [e] X.env)).all (fun x => !x.1) && (backToKw cpos (keywordEach [] X.env)).all (fun x => x.1.isSome)
      && decide (([e] : List Expr).length + ([] : List Keyword).length + (if ([] : List Keyword).isEmpty then 0 else 1) < 30)) = true := by rfl)
    (hline : (apos.endLine == cpos.line) = true := by rfl) (hs : starEach [e] X.env = (false, eval e X.env) :: starEach [] X.env := by rfl) :
    LE X (.Call (.Attribute o "append" apos) [e] [] cpos) (mAppend mo m) := by
  refine PE.weak (pe_bm PySem.F.plainAttrs_list PySem.F.slot_list_append PySem.F.type_list_append mt_append ho he hbase hfew hline hs rfl) fun σ H Q ⟨τ, h, Q', s, sh, q, l⟩ => ?_
  refine ⟨τ, h, _, s, sh, q, fun p h1 v H1 q1 g1 r1 s1 => ⟨ty_list r1 s1 q1.1, ?_⟩⟩
  refine ⟨τ, h1, _, s.mono g1.mono, s1, q1.2, ?_⟩
  rintro ps h2 vs H2 q2 _ g2 rr s2
  split at q2
  · rename_i a q _
    obtain ⟨y, rfl, ry⟩ := rr.one
    split at q2
    · rename_i xs e2
      obtain ⟨u, e3, ys, rfl, rx⟩ := s2 _ _ e2
      have ea := rel_ref.mp r1
      have mm : Mono H2 (upd H2 a (.lst (ys ++ [y]))) := Mono.lst e3
      refine ⟨a, ys, y, ea, rfl, e3, by rw [← rx.length]; exact sz_lt q2.1, l _ _ _ _ q2.2 ((g1.trans g2).trans (.wr e2 mm)) (rel_non.mpr rfl) (s2.put mm ⟨_, rfl, (rx.append (.cons ry .nil)).mono mm⟩)⟩
    · exact q2.elim
  · exact q2.elim
theorem le_pop (ho : LE X o mo) (hbase : attributeBase o "pop" X.env (eval o X.env) = eval o X.env := by rfl) (hline : (apos.endLine == cpos.line) = true := by rfl) :
    LE X (.Call (.Attribute o "pop" apos) [] [] cpos) (mPop mo) := by
  refine PE.weak (pe_bm0 PySem.F.plainAttrs_list PySem.F.slot_list_pop PySem.F.type_list_pop mt_pop ho hbase hline) fun σ H Q ⟨τ, h, Q', s, sh, q, l⟩ => ?_
  refine ⟨τ, h, _, s, sh, q, fun p h1 v H1 q1 g1 r1 s1 => ?_⟩
  cases p with
  | ref a =>
    simp only at q1
    split at q1
    · rename_i xs e2
      split at q1
      · rename_i y ey
        obtain ⟨u, e3, ys, rfl, rx⟩ := s1 _ _ e2
        have ea := rel_ref.mp r1
        rw [List.getLast?_eq_getElem?] at ey
        obtain ⟨w, ew, rw'⟩ := rx.get ey
        rw [rx.length] at ew
        have mm : Mono H1 (upd H1 a (.lst ys.dropLast)) := Mono.lst e3
        refine ⟨ty_list r1 s1 ⟨a, xs, rfl, e2⟩, a, ys, w, ea, rfl, e3, ew, l _ _ _ _ q1 (g1.trans (.wr e2 mm)) (rw'.mono mm) (s1.put mm ⟨_, rfl, rx.dropLast.mono mm⟩)⟩
      · exact q1.elim
    · exact q1.elim
  | _ => exact q1.elim

/-! ### texts: join, find, count, startswith, endswith, index -/
def mM1 (r : PV → List PV → PH → PK → Prop) (mo : ME) (m : MA) : ME := fun τ h Q => mo τ h fun p h1 => (∃ x, p = .str x) ∧ m τ h1 fun ps h2 => r p ps h2 Q
theorem le_m1 {id : String} {name : Str} {r : V → List V → Hp → VK → Prop} {r' : PV → List PV → PH → PK → Prop} (slot : Slot "str" name id) (hty : typeOf (.builtin id) = pure (.type "method_descriptor")) (rule : MtR X id r)
    (hr : ∀ x xs H p ps h Q' Q, Rel X.K H p x → Rels X.K H ps xs → Sim X.K H h → r' p ps h Q' → LQ X.K H h Q' Q → r x xs H Q) (ho : LE X o mo) (ha : LAn X (e :: es) n m) (hbase : attributeBase o name X.env (eval o X.env) = eval o X.env := by rfl)
    (hfew : ((backTo cpos (starEach (e :: es) X.env)).all (fun x => !x.1) && (backToKw cpos (keywordEach [] X.env)).all (fun x => x.1.isSome)
      && decide ((e :: es).length + ([] : List Keyword).length + (if ([] : List Keyword).isEmpty then 0 else 1) < 30)) = true := by rfl)
    (hline : (apos.endLine == cpos.line) = true := by rfl) (hs : starEach (e :: es) X.env = (false, eval e X.env) :: starEach es X.env := by rfl) (hplain : (backTo cpos (starEach es X.env)).any (·.1) = false := by rfl) :
    LE X (.Call (.Attribute o name apos) (e :: es) [] cpos) (mM1 r' mo m) := by
  refine PE.weak (pe_bm PySem.F.plainAttrs_str slot hty rule ho ha hbase hfew hline hs hplain) fun σ H Q ⟨τ, h, Q', s, sh, q, l⟩ => ?_
  refine ⟨τ, h, _, s, sh, q, fun p h1 v H1 ⟨⟨x, ex⟩, q1⟩ g1 r1 s1 => ⟨by subst ex; rw [rel_str.mp r1]; rfl, ?_⟩⟩
  refine ⟨τ, h1, _, s.mono g1.mono, s1, q1, ?_⟩
  rintro ps h2 vs H2 q2 _ g2 rr s2
  exact hr _ _ _ _ _ _ _ _ (r1.mono g2.mono) rr s2 q2 (l.mono (g1.trans g2))
/-- what a method of a text and a text says -/
def rSS (g : Str → Str → PV) : PV → List PV → PH → PK → Prop := fun p ps h Q => match p, ps with
  | .str x, [.str y] => Q (g x y) h
  | _, _ => False
theorem rSS_up {K : PySem.W.Frag} {g : Str → Str → V} {g' : Str → Str → PV} (hg : ∀ a b H, Rel K H (g' a b) (g a b)) : ∀ x xs H p ps h Q' Q, Rel K H p x → Rels K H ps xs → Sim K H h → rSS g' p ps h Q' → LQ K H h Q' Q →
    ∃ a b, x = .str a ∧ xs = [.str b] ∧ Q (g a b) H := by
  intro x xs H p ps h Q' Q rp rs s r l
  unfold rSS at r
  split at r
  · obtain ⟨v, rfl, r1⟩ := rs.one
    have e1 := rel_str.mp rp
    have e2 := rel_str.mp r1
    subst e1 e2
    exact ⟨_, _, rfl, rfl, l _ _ _ _ r .refl (hg _ _ _) s⟩
  · exact r.elim
theorem le_find (ho : LE X o mo) (ha : LAn X [e] 1 m) (hbase : attributeBase o "find" X.env (eval o X.env) = eval o X.env := by rfl)
    (hfew : ((backTo cpos (starEach [e] X.env)).all (fun x => !x.1) && (backToKw cpos (keywordEach [] X.env)).all (fun x => x.1.isSome)
      && decide (([e] : List Expr).length + ([] : List Keyword).length + (if ([] : List Keyword).isEmpty then 0 else 1) < 30)) = true := by rfl)
    (hline : (apos.endLine == cpos.line) = true := by rfl) (hs : starEach [e] X.env = (false, eval e X.env) :: starEach [] X.env := by rfl) :
    LE X (.Call (.Attribute o "find" apos) [e] [] cpos) (mM1 (rSS fun a b => .int (Txt.find a b)) mo m) :=
  le_m1 PySem.F.slot_str_find PySem.F.type_str_find mt_find (rSS_up fun _ _ _ => rel_int.mpr rfl) ho ha hbase hfew hline hs
theorem le_count (ho : LE X o mo) (ha : LAn X [e] 1 m) (hbase : attributeBase o "count" X.env (eval o X.env) = eval o X.env := by rfl)
    (hfew : ((backTo cpos (starEach [e] X.env)).all (fun x => !x.1) && (backToKw cpos (keywordEach [] X.env)).all (fun x => x.1.isSome)
      && decide (([e] : List Expr).length + ([] : List Keyword).length + (if ([] : List Keyword).isEmpty then 0 else 1) < 30)) = true := by rfl)
    (hline : (apos.endLine == cpos.line) = true := by rfl) (hs : starEach [e] X.env = (false, eval e X.env) :: starEach [] X.env := by rfl) :
    LE X (.Call (.Attribute o "count" apos) [e] [] cpos) (mM1 (rSS fun a b => .int (Txt.count a b)) mo m) :=
  le_m1 PySem.F.slot_str_count PySem.F.type_str_count mt_count (rSS_up fun _ _ _ => rel_int.mpr rfl) ho ha hbase hfew hline hs
/-- sep.join(texts) -/
def rJoin : PV → List PV → PH → PK → Prop := fun p ps h Q => match p, ps with
  | .str x, [.tup ys] => ∃ zs : List (List Nat), ys = zs.map (fun z => .str (S z)) ∧ (zs.map (·.length)).sum + zs.length * x.length ≤ SZ ∧ Q (.str (S (TL.joinL (cl x) zs))) h
  | .str x, [q] => (match seqL h q with
    | some ys => ∃ zs : List (List Nat), ys = zs.map (fun z => .str (S z)) ∧ (zs.map (·.length)).sum + zs.length * x.length ≤ SZ ∧ Q (.str (S (TL.joinL (cl x) zs))) h
    | none => False)
  | _, _ => False
theorem rels_strs {K : PySem.W.Frag} {H : Hp} : ∀ {zs : List (List Nat)} {xs : List V}, Rels K H (zs.map fun z => .str (S z)) xs → xs = (zs.map S).map V.str
  | [], _, r => r.len0
  | z :: zs, _, r => by
    obtain ⟨v, vs, rfl, r1, r2⟩ := r.uncons
    rw [rel_str.mp r1, rels_strs r2]; rfl
theorem rels_ints {K : PySem.W.Frag} {H : Hp} : ∀ {ns : List Int} {xs : List V}, Rels K H (ns.map PV.int) xs → xs = ns.map V.int
  | [], _, r => r.len0
  | z :: zs, _, r => by
    obtain ⟨v, vs, rfl, r1, r2⟩ := r.uncons
    rw [rel_int.mp r1, rels_ints r2]; rfl
theorem rJoin_up {K : PySem.W.Frag} : ∀ x xs H p ps h Q' Q, Rel K H p x → Rels K H ps xs → Sim K H h → rJoin p ps h Q' → LQ K H h Q' Q →
    ∃ a p, ∃ ys : List Str, x = .str a ∧ xs = [.ref p] ∧ (SqL K H p (ys.map V.str) ∨ SqT K H p (ys.map V.str)) ∧ (ys.map (·.length)).sum + ys.length * a.length ≤ 16777216 ∧ Q (.str (Txt.join a ys)) H := by
  intro x xs H p ps h Q' Q rp rs s r l
  have fin : ∀ {a : Str} {zs : List (List Nat)}, (zs.map (·.length)).sum + zs.length * a.length ≤ SZ → Q' (.str (S (TL.joinL (cl a) zs))) h → ((zs.map S).map (·.length)).sum + (zs.map S).length * a.length ≤ 16777216 ∧ Q (.str (Txt.join a (zs.map S))) H := fun {a zs} h1 h2 => by
    refine ⟨?_, ?_⟩
    · rw [List.map_map, List.length_map]
      have e : ((fun x : Str => x.length) ∘ S) = fun z : List Nat => z.length := funext fun z => S_length z
      rw [e]; exact h1
    · have e : Txt.join a (zs.map S) = S (TL.joinL (cl a) zs) := by
        have := SX.join_S (cl a) zs
        rw [show (SX.S (cl a)) = a from S_cl a] at this
        exact this
      rw [e]
      exact l _ _ _ _ h2 .refl (rel_str.mpr rfl) s
  unfold rJoin at r
  split at r
  · rename_i a ys
    obtain ⟨zs, rfl, h1, h2⟩ := r
    obtain ⟨v, rfl, r1⟩ := rs.one
    obtain ⟨b, us, rfl, hq, rr⟩ := rel_tup.mp r1
    rw [rels_strs rr] at hq
    exact ⟨a, b, zs.map S, rel_str.mp rp, rfl, .inr hq, (fin h1 h2).1, (fin h1 h2).2⟩
  · rename_i a q _
    split at r
    · rename_i ys e
      obtain ⟨zs, rfl, h1, h2⟩ := r
      obtain ⟨v, rfl, r1⟩ := rs.one
      obtain ⟨b, us, rfl, hq, rr⟩ := seqL_sq r1 s e
      rw [rels_strs rr] at hq
      exact ⟨a, b, zs.map S, rel_str.mp rp, rfl, .inl hq, (fin h1 h2).1, (fin h1 h2).2⟩
    · exact r.elim
  · exact r.elim
theorem le_join (ho : LE X o mo) (ha : LAn X [e] 1 m) (hbase : attributeBase o "join" X.env (eval o X.env) = eval o X.env := by rfl)
    (hfew : ((backTo cpos (starEach [e] X.env)).all (fun x => !x.1) && (backToKw cpos (keywordEach [] X.env)).all (fun x => x.1.isSome)
      && decide (([e] : List Expr).length + ([] : List Keyword).length + (if ([] : List Keyword).isEmpty then 0 else 1) < 30)) = true := by rfl)
    (hline : (apos.endLine == cpos.line) = true := by rfl) (hs : starEach [e] X.env = (false, eval e X.env) :: starEach [] X.env := by rfl) :
    LE X (.Call (.Attribute o "join" apos) [e] [] cpos) (mM1 rJoin mo m) :=
  le_m1 PySem.F.slot_str_join PySem.F.type_str_join mt_join rJoin_up ho ha hbase hfew hline hs
/-- x.index(y) where y is in x -/
def rIdxS : PV → List PV → PH → PK → Prop := fun p ps h Q => match p, ps with
  | .str x, [.str y] => (match Txt.index0 x y with | some k => Q (.int (k : Nat)) h | none => False)
  | _, _ => False
theorem le_indexS (hc : X.calm = true) (ho : LE X o mo) (ha : LAn X [e] 1 m) (hbase : attributeBase o "index" X.env (eval o X.env) = eval o X.env := by rfl)
    (hfew : ((backTo cpos (starEach [e] X.env)).all (fun x => !x.1) && (backToKw cpos (keywordEach [] X.env)).all (fun x => x.1.isSome)
      && decide (([e] : List Expr).length + ([] : List Keyword).length + (if ([] : List Keyword).isEmpty then 0 else 1) < 30)) = true := by rfl)
    (hline : (apos.endLine == cpos.line) = true := by rfl) (hs : starEach [e] X.env = (false, eval e X.env) :: starEach [] X.env := by rfl) :
    LE X (.Call (.Attribute o "index" apos) [e] [] cpos) (mM1 rIdxS mo m) := by
  refine PE.weak (pe_bmS PySem.F.plainAttrs_str PySem.F.slot_str_index PySem.F.type_str_index (mt_indexX (W := fun _ _ _ _ => False) hc fun u s' ⟨a, B, sI, pins, σ, H, cls, d, e, I, nb, up, sky, na, os, ag, w⟩ => False.elim w) ho ha hbase hfew hline hs rfl) fun σ H Q ⟨τ, h, Q', s, sh, q, l⟩ => ?_
  refine ⟨τ, h, _, s, sh, q, fun p h1 v H1 ⟨⟨x, ex⟩, q1⟩ g1 r1 s1 => ⟨by subst ex; rw [rel_str.mp r1]; rfl, ?_⟩⟩
  refine ⟨τ, h1, _, s.mono g1.mono, s1, q1, ?_⟩
  rintro ps h2 vs H2 q2 _ g2 rr s2
  unfold rIdxS at q2
  split at q2
  · split at q2
    · rename_i k ek
      obtain ⟨v, rfl, r2⟩ := rr.one
      refine ⟨_, _, rel_str.mp r1, by rw [rel_str.mp r2], fun k' e' => ?_, fun e' => ?_⟩
      · rw [ek] at e'; cases e'
        exact l _ _ _ _ q2 (g1.trans g2) (rel_int.mpr rfl) s2
      · rw [ek] at e'; cases e'
    · exact q2.elim
  · exact q2.elim
end
end N3

namespace N3
open PySem PySem.Spec PyProof.Rows L2

/-! ### what is gone along: a list, a tuple, a text -/
def ones (x : Str) : List PV := (cl x).map fun c => .str (S [c])
def gdS (p : PV) (xs : List PV) : PH → Prop := match p with
  | .ref a => fun h => h a = some (.lst xs)
  | _ => fun _ => True
theorem seqL_walk {K : PySem.W.Frag} {H1 : Hp} {h1 : PH} {p : PV} {v : V} {ps : List PV} (r : Rel K H1 p v) (s : Sim K H1 h1) (e : seqL h1 p = some ps) :
    ∃ a xs, v = .ref a ∧ SqL K H1 a xs ∧ Rels K H1 ps xs ∧ ∀ H h, Mono H1 H → Sim K H h → gdS p ps h → ∃ ys, SqL K H a ys ∧ Rels K H ps ys := by
  cases p with
  | lst qs =>
    simp only [seqL, Option.some.injEq] at e
    subst e
    obtain ⟨a, xs, e1, f, rr⟩ := rel_lst.mp r
    exact ⟨a, xs, e1, f.sq, rr, fun H h m _ _ => ⟨xs, (m.frL f).sq, rr.mono m⟩⟩
  | ref a =>
    obtain ⟨b, xs, e1, f, rr⟩ := seqL_sq r s e
    have ev := rel_ref.mp r
    rw [ev] at e1; cases e1
    refine ⟨a, xs, ev, f, rr, fun H h m s' g => ?_⟩
    obtain ⟨u, e2, ys, rfl, rr'⟩ := s' a _ g
    exact ⟨ys, .of e2, rr'⟩
  | _ => simp [seqL] at e
def tSeqs (K : PySem.W.Frag) (tl : TE) : TI := fun σ H R => tl σ H fun x H1 => ((∃ a xs, x = .ref a ∧ SqL K H1 a xs ∧ (xs.length ≤ sizeLine → R (Itl K a) H1)) ∨ ∃ a xs, x = .ref a ∧ SqT K H1 a xs ∧ (xs.length ≤ sizeLine → R (Itt K a) H1)) ∨ ∃ z, x = .str z ∧ R (Its z) H1
theorem pi_seqs {X : Cx} {tg l : Expr} {tl : TE} (hl : PE X l tl) : PI X tg l (tSeqs X.K tl) := by
  refine ⟨fun pins s σ H R I h => ?_⟩
  refine thn (hl.run pins s σ H _ I h) fun v s1 ⟨x, H1, I1, r1, q1⟩ => ?_
  rcases q1 with (⟨a, xs, rfl, hq, q⟩ | ⟨a, xs, rfl, hq, q⟩) | ⟨z, rfl, q⟩
  · cases r1
    obtain ⟨its, rv, p, hz⟩ := I1.list hq
    exact wpAny_pyIter_list p.isList (pi_one (tk := s1.toks) I1 _ (turn_list a _) ⟨_, Heap.get?_push_size _ rfl, rfl, rfl⟩ (q hz))
  · cases r1
    obtain ⟨its, rv, p, hz⟩ := I1.tuple hq
    exact wpAny_pyIter_tuple (show s1.heap.IsTuple a its.toArray from p) (pi_one (tk := s1.toks) I1 _ (turn_tuple a _) ⟨_, Heap.get?_push_size _ rfl, rfl, rfl⟩ (q hz))
  · obtain ⟨t, rfl⟩ := r1
    cases ha : z.cps.all (· < 128)
    · exact wpAny_pyIter_wide ha (pi_one (tk := s1.toks) I1 _ (turn_str _ z t "str_iterator" (.inr rfl)) ⟨_, Heap.get?_push_size _ rfl, rfl, rfl⟩ q)
    · exact wpAny_pyIter_ascii ha (pi_one (tk := s1.toks) I1 _ (turn_str _ z t "str_ascii_iterator" (.inl rfl)) ⟨_, Heap.get?_push_size _ rfl, rfl, rfl⟩ q)
def mSeqs (m : ME) : MI := fun τ h Q => m τ h fun p h1 => match p with
  | .str x => x.length ≤ SZ ∧ Q (ones x) (fun _ => True) h1
  | .tup xs => Q xs (fun _ => True) h1
  | p => match seqL h1 p with
    | some xs => Q xs (gdS p xs) h1
    | none => False
section
variable {X : Cx} {tg e e2 : Expr} {pos p : Pos} {m : ME}
theorem li_seqs (he : LE X e m) : LI X tg e (mSeqs m) := by
  refine PI.weak (pi_seqs he) fun σ H R ⟨τ, h, Q', s, sh, q, l⟩ => ?_
  refine ⟨τ, h, _, s, sh, q, fun p h1 v H1 q1 g1 r1 s1 => ?_⟩
  split at q1
  · rename_i x
    refine .inr ⟨x, rel_str.mp r1, l _ _ _ _ _ q1.2 g1 s1 ⟨?_, fun i H h hi _ _ _ => ?_, fun H h _ _ _ => ?_, fun i H h y H' p hp _ sh' _ hy => ?_⟩⟩
    · unfold ones; rw [List.length_map, ← cl_length]; exact sz_le q1.1
    · unfold ones at hi; rw [List.length_map, ← cl_length] at hi; exact hi
    · show x.cps.size ≤ _
      unfold ones; rw [List.length_map, ← cl_length]; exact Nat.le_refl _
    · obtain ⟨rfl, c, hc, rfl⟩ := hy
      unfold ones at hp
      rw [List.getElem?_map] at hp
      have : (cl x)[i]? = some c := by unfold cl; rw [Array.getElem?_toList]; exact hc
      rw [this] at hp
      simp only [Option.map_some, Option.some.injEq] at hp
      subst hp
      exact ⟨.refl, sh', rel_str.mpr rfl⟩
  · rename_i xs
    obtain ⟨a, ys, rfl, hq, rr⟩ := rel_tup.mp r1
    refine .inl (.inr ⟨a, ys, rfl, hq, fun hz => l _ _ _ _ _ q1 g1 s1 ⟨by rw [rr.length]; exact hz, fun i H h hi m _ _ => ?_, fun H h m _ _ => ⟨ys, m.sqT hq, by rw [rr.length]; exact Nat.le_refl _⟩, fun i H h y H' p hp m sh' _ hy => ?_⟩⟩)
    · rw [rr.length] at hi
      exact ⟨ys, ys[i], m.sqT hq, List.getElem?_eq_getElem hi⟩
    · obtain ⟨rfl, hy⟩ := hy
      have e := hy ys (m.sqT hq)
      obtain ⟨w, e1, r2⟩ := (rr.mono m).get hp
      rw [e] at e1; cases e1
      exact ⟨.refl, sh', r2⟩
  · split at q1
    · rename_i e
      obtain ⟨a, ys, rfl, hq, rr, later⟩ := seqL_walk r1 s1 e
      refine .inl (.inl ⟨a, ys, rfl, hq, fun hz => l _ _ _ _ _ q1 g1 s1 ⟨by rw [rr.length]; exact hz, fun i H h hi m sm g => ?_, fun H h m sm g => ?_, fun i H h y H' p hp m sm g hy => ?_⟩⟩)
      · obtain ⟨us, hu, ru⟩ := later H h m sm g
        rw [ru.length] at hi
        exact ⟨us, us[i], hu, List.getElem?_eq_getElem hi⟩
      · obtain ⟨us, hu, ru⟩ := later H h m sm g
        exact ⟨us, hu, by rw [ru.length]; exact Nat.le_refl _⟩
      · obtain ⟨us, hu, ru⟩ := later H h m sm g
        obtain ⟨rfl, hy⟩ := hy
        have e := hy us hu
        obtain ⟨w, e1, r2⟩ := ru.get hp
        rw [e] at e1; cases e1
        exact ⟨.refl, sm, r2⟩
    · exact q1.elim
/-- range -/
def rng (lo : Int) (n : Nat) : List PV := (List.range n).map fun i => .int (lo + (i : Nat))
theorem rng_wk {K : PySem.W.Frag} {lo : Int} {n : Nat} {H1 : Hp} (hn : n ≤ SZ) : Wk K (Itr lo n) (rng lo n) (fun _ => True) H1 := by
  refine ⟨by unfold rng; rw [List.length_map, List.length_range]; exact sz_le hn, fun i H h hi _ _ _ => ?_, fun H h _ _ _ => ?_, fun i H h y H' p hp _ sh' _ hy => ?_⟩
  · unfold rng at hi; rw [List.length_map, List.length_range] at hi; exact hi
  · show n ≤ _; unfold rng; rw [List.length_map, List.length_range]; exact Nat.le_refl _
  · obtain ⟨rfl, rfl⟩ := hy
    unfold rng at hp
    rw [List.getElem?_map] at hp
    cases e : (List.range n)[i]? with
    | none => rw [e] at hp; cases hp
    | some j =>
      rw [e] at hp
      obtain ⟨hj, ej⟩ := List.getElem?_eq_some_iff.mp e
      rw [List.getElem_range] at ej
      subst ej
      simp only [Option.map_some, Option.some.injEq] at hp
      subst hp
      exact ⟨.refl, sh', rel_int.mpr rfl⟩
def mRng1 (m : MA) : MI := fun τ h Q => m τ h fun ps h1 => match ps with
  | [.int j] => (-16777216 ≤ j ∧ j ≤ 16777216) ∧ Q (rng 0 j.toNat) (fun _ => True) h1
  | _ => False
def mRng2 (m : MA) : MI := fun τ h Q => m τ h fun ps h1 => match ps with
  | [.int i, .int j] => (-16777216 ≤ i ∧ i ≤ 16777216 ∧ -16777216 ≤ j ∧ j ≤ 16777216 ∧ j - i ≤ 16777216) ∧ Q (rng i (j - i).toNat) (fun _ => True) h1
  | _ => False
theorem li_rng1 {m : MA} (hm : X.mg "range" = none) (ha : LAn X [e] 1 m) (hg : Gl X "range" := by rfl) (hs : starEach [e] X.env = [(false, eval e X.env)] := by rfl) : LI X tg (.Call (.Name "range" p) [e] [] pos) (mRng1 m) := by
  refine PI.weak (pi_range1 hg hm ha hs) fun σ H R ⟨τ, h, Q', s, sh, q, l⟩ => ?_
  refine ⟨τ, h, _, s, sh, q, fun ps h1 vs H1 q1 hl g1 r1 s1 => ?_⟩
  split at q1
  · rename_i j
    obtain ⟨v, rfl, r2⟩ := r1.one
    have ev := rel_int.mp r2
    subst ev
    exact ⟨j, rfl, by omega, by omega, l _ _ _ _ _ q1.2 g1 s1 (rng_wk (by show _ ≤ 16777216; omega))⟩
  · exact q1.elim
theorem li_rng2 {m : MA} (hm : X.mg "range" = none) (ha : LAn X [e, e2] 2 m) (hg : Gl X "range" := by rfl) (hs : starEach [e, e2] X.env = [(false, eval e X.env), (false, eval e2 X.env)] := by rfl) (hs2 : starEach [e2] X.env = [(false, eval e2 X.env)] := by rfl) :
    LI X tg (.Call (.Name "range" p) [e, e2] [] pos) (mRng2 m) := by
  refine PI.weak (pi_range2 hg hm ha hs hs2) fun σ H R ⟨τ, h, Q', s, sh, q, l⟩ => ?_
  refine ⟨τ, h, _, s, sh, q, fun ps h1 vs H1 q1 hl g1 r1 s1 => ?_⟩
  split at q1
  · rename_i i j
    obtain ⟨v, w, rfl, r2, r3⟩ := r1.two
    have ev := rel_int.mp r2
    have ew := rel_int.mp r3
    subst ev ew
    exact ⟨i, j, rfl, ⟨by omega, by omega, by omega, by omega⟩, l _ _ _ _ _ q1.2 g1 s1 (rng_wk (by show _ ≤ 16777216; omega))⟩
  · exact q1.elim
/-- enumerate of a list -/
def enm (xs : List PV) : List PV := xs.zipIdx.map fun x => .tup [.int (x.2 : Nat), x.1]
def mEnum (m : MA) : MI := fun τ h Q => m τ h fun ps h1 => match ps with
  | [p] => (match seqL h1 p with | some xs => xs.length ≤ SZ ∧ Q (enm xs) (gdS p xs) h1 | none => False)
  | _ => False
theorem li_enum {m : MA} {elts : List Expr} {kk : Nat} {tpos : Pos} (hm : X.mg "enumerate" = none) (ha : LAn X [e] 1 m) (hg : Gl X "enumerate" := by rfl) (hs : starEach [e] X.env = [(false, eval e X.env)] := by rfl) :
    LI X (.Tuple elts kk tpos) (.Call (.Name "enumerate" p) [e] [] pos) (mEnum m) := by
  refine PI.weak (pi_enum hg hm ha hs) fun σ H R ⟨τ, h, Q', s, sh, q, l⟩ => ?_
  refine ⟨τ, h, _, s, sh, q, fun ps h1 vs H1 q1 hl g1 r1 s1 => ?_⟩
  split at q1
  · rename_i p
    obtain ⟨v, rfl, r2⟩ := r1.one
    split at q1
    · rename_i xs e
      obtain ⟨a, ys, rfl, hq, rr, later⟩ := seqL_walk r2 s1 e
      have hlen : (enm xs).length = xs.length := by unfold enm; simp
      refine ⟨a, ys, rfl, hq, l _ _ _ _ _ q1.2 g1 s1 ⟨by rw [hlen]; exact sz_le q1.1, fun i H h hi m sm g => ?_, fun H h m sm g => ?_, fun i H h y H' p hp m sm g hy => ?_⟩⟩
      · obtain ⟨us, hu, ru⟩ := later H h m sm g
        rw [hlen, ru.length] at hi
        exact ⟨us, us[i], hu, List.getElem?_eq_getElem hi⟩
      · obtain ⟨us, hu, ru⟩ := later H h m sm g
        exact ⟨us, hu, by rw [hlen, ru.length]; exact Nat.le_refl _⟩
      · obtain ⟨us, hu, ru⟩ := later H h m sm g
        obtain ⟨T, x, rfl, hT, rfl, hy⟩ := hy
        have e := hy us hu
        unfold enm at hp
        rw [List.getElem?_map, List.getElem?_zipIdx] at hp
        cases ex : xs[i]? with
        | none => rw [ex] at hp; cases hp
        | some w =>
          rw [ex] at hp
          simp only [Option.map_some, Option.some.injEq, Nat.zero_add] at hp
          subst hp
          obtain ⟨w', e1, r3⟩ := ru.get ex
          rw [e] at e1; cases e1
          have mm : Mono H (upd H T (.tup [.int (i : Nat), x])) := Mono.new hT
          exact ⟨.new hT, sm.new hT, rel_tup.mpr ⟨T, _, rfl, .inl (.inl upd_same), .cons (rel_int.mpr rfl) (.cons (r3.mono mm) .nil)⟩⟩
    · exact q1.elim
  · exact q1.elim
/-- zip of two lists -/
def mZip (m : MA) : MI := fun τ h Q => m τ h fun ps h1 => match ps with
  | [p, q] => (match seqL h1 p, seqL h1 q with | some xs, some ys => xs.length ≤ SZ ∧ Q (List.zipWith (fun x y => .tup [x, y]) xs ys) (fun h => gdS p xs h ∧ gdS q ys h) h1 | _, _ => False)
  | _ => False
theorem li_zip {m : MA} {elts : List Expr} {kk : Nat} {tpos : Pos} (hm : X.mg "zip" = none) (ha : LAn X [e, e2] 2 m) (hg : Gl X "zip" := by rfl)
    (hs : starEach [e, e2] X.env = (false, eval e X.env) :: starEach [e2] X.env := by rfl) (hpl : (backTo pos (starEach [e2] X.env)).any (·.1) = false := by rfl) :
    LI X (.Tuple elts kk tpos) (.Call (.Name "zip" p) [e, e2] [] pos) (mZip m) := by
  refine PI.weak (pi_zip hg hm ha hs hpl) fun σ H R ⟨τ, h, Q', s, sh, q, l⟩ => ?_
  refine ⟨τ, h, _, s, sh, q, fun ps h1 vs H1 q1 hl g1 r1 s1 => ?_⟩
  split at q1
  · rename_i p p'
    obtain ⟨v, v', rfl, r2, r3⟩ := r1.two
    split at q1
    · rename_i xs ys e e'
      obtain ⟨a, us, rfl, hq, rr, later⟩ := seqL_walk r2 s1 e
      obtain ⟨b, ws, rfl, hq', rr', later'⟩ := seqL_walk r3 s1 e'
      have hlen : (List.zipWith (fun x y => PV.tup [x, y]) xs ys).length = min xs.length ys.length := List.length_zipWith
      refine ⟨a, b, us, ws, rfl, hq, hq', l _ _ _ _ _ q1.2 g1 s1 ⟨by rw [hlen]; exact sz_le (by omega), fun i H h hi m sm g => ?_, fun H h m sm g => ?_, fun i H h y H' p hp m sm g hy => ?_⟩⟩
      · obtain ⟨us1, hu, ru⟩ := later H h m sm g.1
        obtain ⟨ws1, hw, rw1⟩ := later' H h m sm g.2
        rw [hlen, ru.length, rw1.length] at hi
        exact ⟨us1, ws1, us1[i]'(by omega), ws1[i]'(by omega), hu, hw, List.getElem?_eq_getElem (by omega), List.getElem?_eq_getElem (by omega)⟩
      · obtain ⟨us1, hu, ru⟩ := later H h m sm g.1
        obtain ⟨ws1, hw, rw1⟩ := later' H h m sm g.2
        exact ⟨us1, ws1, hu, hw, by rw [hlen, ru.length, rw1.length]; omega⟩
      · obtain ⟨us1, hu, ru⟩ := later H h m sm g.1
        obtain ⟨ws1, hw, rw1⟩ := later' H h m sm g.2
        obtain ⟨T, x, y, rfl, hT, rfl, hx, hy⟩ := hy
        have ex := hx us1 hu
        have ey := hy ws1 hw
        rw [List.getElem?_zipWith] at hp
        obtain ⟨x', ex', rx⟩ := ru.get' ex
        obtain ⟨y', ey', ry⟩ := rw1.get' ey
        rw [ex', ey'] at hp
        simp only [Option.some.injEq] at hp
        subst hp
        have mm : Mono H (upd H T (.tup [x, y])) := Mono.new hT
        exact ⟨.new hT, sm.new hT, rel_tup.mpr ⟨T, _, rfl, .inl (.inl upd_same), .cons (rx.mono mm) (.cons (ry.mono mm) .nil)⟩⟩
    · exact q1.elim
  · exact q1.elim
end
end N3

namespace N3
open PySem PySem.Spec PyProof.Rows L2

/-! ### names of the module that hold an int or a text -/
section
variable {X : Cx} {pos : Pos}
theorem le_glI {x : Str} {i : Int} {t : Tok} (hm : X.mg x = some (.int i t)) (hg : Gl X x := by rfl) (hd : (x == ("__debug__" : Str)) = false := by decide) : LE X (.Name x pos) (mC (.int i)) :=
  le_c (pe_glob (v := .int i) hg hm ⟨t, rfl⟩ hd) fun _ => rel_int.mpr rfl
theorem le_glS {x : Str} {z : Str} {t : Tok} (hm : X.mg x = some (.str z t)) (hg : Gl X x := by rfl) (hd : (x == ("__debug__" : Str)) = false := by decide) : LE X (.Name x pos) (mC (.str z)) :=
  le_c (pe_glob (v := .str z) hg hm ⟨t, rfl⟩ hd) fun _ => rel_str.mpr rfl
end

/-! ### repr of data, dicts too -/
mutual
/-- data that can be read off the heap, no dict of it the modules' own -/
inductive RD (h : Heap) : Value → PyData → Prop
  | none : RD h .none .none
  | bool (b : Bool) : RD h (.bool b) (.bool b)
  | int (i : Int) (t : Tok) : RD h (.int i t) (.int i)
  | str (x : Str) (t : Tok) : RD h (.str x t) (.str x)
  | list {a : Addr} {o : Obj} {vs : Array Value} {n : Nat} {xs : List PyData} : h.get? a = some o → o.cls = .type "list" → o.data = .seq vs n → RDs h vs.toList xs → RD h (.ref a) (.list xs)
  | tuple {a : Addr} {o : Obj} {vs : Array Value} {n : Nat} {xs : List PyData} : h.get? a = some o → o.cls = .type "tuple" → o.data = .seq vs n → RDs h vs.toList xs → RD h (.ref a) (.tuple xs)
  | dict {a : Addr} {o : Obj} {es : Array DictEntry} {n : Nat} {kvs : List (PyData × PyData)} : (a == sysModules) = false → h.get? a = some o → o.cls = .type "dict" → o.data = .dict es n →
      RDs h (es.toList.map (·.key)) (kvs.map (·.1)) → RDs h (es.toList.map (·.val)) (kvs.map (·.2)) → RD h (.ref a) (.dict kvs)
inductive RDs (h : Heap) : List Value → List PyData → Prop
  | nil : RDs h [] []
  | cons {v : Value} {vs : List Value} {d : PyData} {ds : List PyData} : RD h v d → RDs h vs ds → RDs h (v :: vs) (d :: ds)
end
section
variable {prog : Program} {w : World} {h0 : Heap}
mutual
theorem RD.reads : ∀ {v : Value} {d : PyData}, RD h0 v d → ∃ as, Reads h0 v d as
  | _, _, .none => ⟨_, .none⟩
  | _, _, .bool b => ⟨_, .bool b⟩
  | _, _, .int i t => ⟨_, .int i t⟩
  | _, _, .str x t => ⟨_, .str x t⟩
  | _, _, .list h1 h2 h3 h4 => let ⟨_, r⟩ := RDs.reads h4; ⟨_, .list h1 h2 h3 r⟩
  | _, _, .tuple h1 h2 h3 h4 => let ⟨_, r⟩ := RDs.reads h4; ⟨_, .tuple h1 h2 h3 r⟩
  | _, _, .dict _ h1 h2 h3 h4 h5 => let ⟨_, r⟩ := RDs.reads h4; let ⟨_, q⟩ := RDs.reads h5; ⟨_, .dict h1 h2 h3 r q⟩
theorem RDs.reads : ∀ {vs : List Value} {ds : List PyData}, RDs h0 vs ds → ∃ as, ReadsAll h0 vs ds as
  | _, _, .nil => ⟨_, .nil⟩
  | _, _, .cons h1 h2 => let ⟨_, r⟩ := RD.reads h1; let ⟨_, q⟩ := RDs.reads h2; ⟨_, .cons r q⟩
end
mutual
theorem RD.shows : ∀ {v : Value} {d : PyData}, RD h0 v d → d.showable = true → d.shown.length ≤ sizeLine → ∃ bs, ReadAtMost h0 d.depth bs ∧ ReprK prog w bs h0 d.depth v d.shown
  | _, _, .none, _, _ => ⟨[], (fun _ z => nomatch z), by simp only [PyData.shown]; exact .of_is ReprIs.none _ _ _⟩
  | _, _, .bool b, _, _ => ⟨[], (fun _ z => nomatch z), by simp only [PyData.shown]; exact .of_is (ReprIs.bool b) _ _ _⟩
  | _, _, .int i t, hs, _ => ⟨[], (fun _ z => nomatch z), by simp only [PyData.shown]; exact .of_is (ReprIs.int t (by simpa [PyData.showable] using hs)) _ _ _⟩
  | _, _, .str x t, _, hz => ⟨[], (fun _ z => nomatch z), by simp only [PyData.shown]; exact .of_is (ReprIs.str x t (by simpa only [PyData.shown] using hz)) _ _ _⟩
  | _, _, .list (a := a) (vs := ws) (xs := ds) g1 g2 g3 g4, hs, hz => by
    have room : (listText (PyData.shownAll ds)).length ≤ sizeLine := by simpa only [PyData.shown] using hz
    obtain ⟨bs, hb, hk⟩ := RDs.shows g4 (by simpa [PyData.showable] using hs) fun t ht => Nat.le_trans (listText_mem_le ht) room
    obtain ⟨_, r⟩ := RD.reads (.list g1 g2 g3 g4)
    have out : a ∉ bs := not_mem_of_deeper r (by simp only [PyData.depth]; omega) hb
    refine ⟨a :: bs, ReadAtMost.cons r (by simp only [PyData.depth]; omega) hb, ?_⟩
    simp only [PyData.depth, PyData.shown]
    obtain ⟨l⟩ := ws
    cases l with
    | nil =>
      cases (show RDs h0 [] ds from g4)
      simp only [PyData.shownAll, listText_nil]
      exact ReprK.listEmpty g1 g2 g3
    | cons x l => exact ReprK.list g1 g2 g3 out (by simpa using hk.length_eq) fun i y e => hk.item i y (by simpa using e)
  | _, _, .tuple (a := a) (xs := ds) g1 g2 g3 g4, hs, hz => by
    have room : (tupleText (PyData.shownAll ds)).length ≤ sizeLine := by simpa only [PyData.shown] using hz
    obtain ⟨bs, hb, hk⟩ := RDs.shows g4 (by simpa [PyData.showable] using hs) fun t ht => Nat.le_trans (tupleText_mem_le ht) room
    obtain ⟨_, r⟩ := RD.reads (.tuple g1 g2 g3 g4)
    have out : a ∉ bs := not_mem_of_deeper r (by simp only [PyData.depth]; omega) hb
    refine ⟨a :: bs, ReadAtMost.cons r (by simp only [PyData.depth]; omega) hb, ?_⟩
    simp only [PyData.depth, PyData.shown]
    exact ReprK.tuple g1 g2 g3 out hk
  | _, _, .dict (a := a) (es := es) (kvs := kvs) g0 g1 g2 g3 g4 g5, hs, hz => by
    have room : (dictText (PyData.shownKv kvs)).length ≤ sizeLine := by simpa only [PyData.shown] using hz
    obtain ⟨s1, s2⟩ := PyData.showableKv_split kvs (by simpa [PyData.showable] using hs)
    obtain ⟨b1, hb1, k1⟩ := RDs.shows g4 s1 fun t ht => let ⟨p, hp, hl⟩ := PyData.shownKv_key_le kvs t ht; Nat.le_trans hl (Nat.le_trans (dictText_mem_le hp) room)
    obtain ⟨b2, hb2, k2⟩ := RDs.shows g5 s2 fun t ht => let ⟨p, hp, hl⟩ := PyData.shownKv_val_le kvs t ht; Nat.le_trans hl (Nat.le_trans (dictText_mem_le hp) room)
    obtain ⟨_, r⟩ := RD.reads (.dict g0 g1 g2 g3 g4 g5)
    have hb : ReadAtMost h0 (PyData.depthKv kvs) (b1 ++ b2) := (hb1.mono (PyData.depthAll_keys_le kvs)).append (hb2.mono (PyData.depthAll_vals_le kvs))
    have out : a ∉ b1 ++ b2 := not_mem_of_deeper r (by simp only [PyData.depth]; omega) hb
    refine ⟨a :: (b1 ++ b2), ReadAtMost.cons r (by simp only [PyData.depth]; omega) hb, ?_⟩
    simp only [PyData.depth, PyData.shown, PyData.shownKv_eq]
    exact ReprK.dict g1 g2 g3 g0 out (ReprEntriesK.of_two es.toList _ _ (k1.more_le (fun b z => List.mem_append_left _ z) (PyData.depthAll_keys_le kvs)) (k2.more_le (fun b z => List.mem_append_right _ z) (PyData.depthAll_vals_le kvs)))
theorem RDs.shows : ∀ {vs : List Value} {ds : List PyData}, RDs h0 vs ds → PyData.showableAll ds = true → (∀ t ∈ PyData.shownAll ds, t.length ≤ sizeLine) → ∃ bs, ReadAtMost h0 (PyData.depthAll ds) bs ∧ ReprAllK prog w bs h0 (PyData.depthAll ds) vs (PyData.shownAll ds)
  | _, _, .nil, _, _ => ⟨[], (fun _ z => nomatch z), by simp only [PyData.shownAll]; exact .nil⟩
  | _, _, .cons (d := d) (ds := ds) g1 g2, hs, hz => by
    have s12 : d.showable = true ∧ PyData.showableAll ds = true := by simpa [PyData.showableAll] using hs
    obtain ⟨b1, hb1, k1⟩ := RD.shows g1 s12.1 (hz _ (by simp only [PyData.shownAll]; exact List.mem_cons_self))
    obtain ⟨b2, hb2, k2⟩ := RDs.shows g2 s12.2 fun t ht => hz t (by simp only [PyData.shownAll]; exact List.mem_cons_of_mem _ ht)
    refine ⟨b1 ++ b2, ?_, ?_⟩
    · simp only [PyData.depthAll]
      exact (hb1.mono (Nat.le_max_left _ _)).append (hb2.mono (Nat.le_max_right _ _))
    · simp only [PyData.depthAll, PyData.shownAll]
      exact .cons ((k1.more fun b z => List.mem_append_left _ z).level_le (Nat.le_max_left _ _)) (k2.more_le (fun b z => List.mem_append_right _ z) (Nat.le_max_right _ _))
end
end
mutual
/-- data, dicts too -/
def okR : PV → Bool
  | .non => true
  | .bl _ => true
  | .int _ => true
  | .str _ => true
  | .tup ps => okRs ps
  | .lst ps => okRs ps
  | .dct ks vs => decide (ks.length = vs.length) && okRs vs
  | _ => false
def okRs : List PV → Bool
  | [] => true
  | p :: ps => okR p && okRs ps
end
section
variable {X : Cx} {pins : List (Addr × Obj)} {σ : L2.St} {H : Hp} {s : Shared}
/-- a dict's keys and values, read off -/
theorem dict_rd {P : Program} {w : World} {h : Heap} {es : List DictEntry} {ws : List (Key × Value)} (hp : Pairs (mixKind P w) es ws) : ∀ {kvs : List (Key × V)}, KV kvs ws →
    RDs h (es.map (·.key)) (kvs.map fun kv => keyD kv.1) ∧ Vals (kvs.map (·.2)) (es.map (·.val)) := by
  induction hp with
  | nil =>
    intro kvs r
    unfold KV at r
    cases r
    exact ⟨.nil, .nil⟩
  | @cons e w' es ws h1 h2 t ih =>
    intro kvs r
    unfold KV at r
    cases r with
    | @cons kv _ kvs _ r1 r2 =>
      obtain ⟨i1, i2⟩ := ih r2
      have q1 : RD h e.key (keyD kv.1) := by
        rw [r1.1]
        rcases keyIs_shape h1 with ⟨i, t', e1, e2⟩ | ⟨x, t', e1, e2⟩
        · rw [e1, e2]; exact .int i t'
        · rw [e1, e2]; exact .str x t'
      have q2 : L2.RelV kv.2 e.val := by rw [h2]; exact r1.2
      exact ⟨.cons q1 i1, .cons q2 i2⟩
theorem zip_fst {α β : Type} : ∀ {xs : List α} {ys : List β}, xs.length = ys.length → (xs.zip ys).map (·.1) = xs
  | [], [], _ => rfl
  | x :: xs, y :: ys, h => by simp only [List.zip_cons_cons, List.map_cons, zip_fst (xs := xs) (ys := ys) (by simpa using h)]
  | [], _ :: _, h => by simp at h
  | _ :: _, [], h => by simp at h
theorem zip_snd {α β : Type} : ∀ {xs : List α} {ys : List β}, xs.length = ys.length → (xs.zip ys).map (·.2) = ys
  | [], [], _ => rfl
  | x :: xs, y :: ys, h => by simp only [List.zip_cons_cons, List.map_cons, zip_snd (xs := xs) (ys := ys) (by simpa using h)]
  | [], _ :: _, h => by simp at h
  | _ :: _, [], h => by simp at h
theorem toDs_length : ∀ ps : List PV, (toDs ps).length = ps.length
  | [] => by simp only [toDs, List.length_nil]
  | p :: ps => by simp only [toDs, List.length_cons, toDs_length ps]
mutual
theorem Rel.rd (I : Inv X pins σ H s) : ∀ (p : PV) (v : V) (u : Value), okR p = true → Rel X.K H p v → RelV v u → RD s.heap u (toD p)
  | .non, _, _, _, r, rv => by rw [rel_non.mp r] at rv; cases rv; exact .none
  | .bl b, _, _, _, r, rv => by rw [rel_bl.mp r] at rv; cases rv; exact .bool b
  | .int i, _, _, _, r, rv => by rw [rel_int.mp r] at rv; obtain ⟨t, rfl⟩ := rv; exact .int i t
  | .str x, _, _, _, r, rv => by rw [rel_str.mp r] at rv; obtain ⟨t, rfl⟩ := rv; exact .str x t
  | .tup ps, _, _, f, r, rv => by
    obtain ⟨a, xs, rfl, hq, rr⟩ := rel_tup.mp r
    cases rv
    simp only [okR] at f
    simp only [toD]
    obtain ⟨its, rx, ⟨o, e, c, n, d⟩, _⟩ := I.tuple hq
    exact .tuple e c d (Rels.rd I ps xs its f rr rx)
  | .lst ps, _, _, f, r, rv => by
    obtain ⟨a, xs, rfl, hq, rr⟩ := rel_lst.mp r
    cases rv
    simp only [okR] at f
    simp only [toD]
    obtain ⟨its, rx, ⟨o, n, e, c, _, d⟩, _⟩ := I.list hq.sq
    exact .list e c d (Rels.rd I ps xs its f rr rx)
  | .dct ks vs, _, _, f, r, rv => by
    obtain ⟨a, kvs, rfl, ⟨o, hq⟩, ek, rr⟩ := rel_dct.mp r
    cases rv
    simp only [okR, Bool.and_eq_true, decide_eq_true_eq] at f
    simp only [toD]
    obtain ⟨hs, hgd, hx, es, ep, ws, hdt, hsz, kv, o', es', e', _, d', _, pr, _⟩ := I.frzK hq
    rw [hgd] at e'; cases e'
    rw [hdt] at d'; injection d' with d1 _; subst d1
    obtain ⟨q1, q2⟩ := dict_rd (h := s.heap) pr kv
    have len : (ks.map keyD).length = (toDs vs).length := by rw [List.length_map, toDs_length, f.1]
    refine .dict hs hgd hx.1 hdt ?_ ?_
    · rw [zip_fst len, ek, List.map_map]; exact q1
    · rw [zip_snd len]; exact Rels.rd I vs _ _ f.2 rr q2
  | .ref _, _, _, f, _, _ => by simp [okR] at f
  | .ty _, _, _, f, _, _ => by simp [okR] at f
theorem Rels.rd (I : Inv X pins σ H s) : ∀ (ps : List PV) (vs : List V) (us : List Value), okRs ps = true → Rels X.K H ps vs → Vals vs us → RDs s.heap us (toDs ps)
  | [], _, _, _, r, rv => by rw [r.len0] at rv; cases rv; simp only [toDs]; exact .nil
  | p :: ps, _, _, f, r, rv => by
    obtain ⟨v, vs, rfl, r1, r2⟩ := r.uncons
    cases rv with
    | cons q1 q2 =>
      simp only [okRs, Bool.and_eq_true] at f
      simp only [toDs]
      exact .cons (Rel.rd I p v _ f.1 r1 q1) (Rels.rd I ps vs _ f.2 r2 q2)
end
end
/-- what repr asks of a value that stands so in the heap -/
def oRepr (K : PySem.W.Frag) : List V → Hp → VK → Prop := fun xs H Q => ∃ (x : V) (d : PyData), xs = [x] ∧ d.showable = true ∧ d.depth ≤ 64 ∧ d.shown.length ≤ sizeLine ∧ Q (.str d.shown) H ∧
  ((∃ p, okR p = true ∧ Rel K H p x ∧ d = toD p) ∨ (∃ a ys ps, x = .ref a ∧ H a = some (.lst ys) ∧ okRs ps = true ∧ Rels K H ps ys ∧ d = .list (toDs ps)))
theorem repr_rd {prog : Program} {w : World} {A : Around} {E : Value → Shared → Prop} {s : Shared} {Q : Value → Shared → Prop} {u : Value} {d : PyData} (r : RD s.heap u d) (hs : d.showable = true) (hG : A.guards = some []) (hu : A.units + (d.depth + 1) < cLine) (hl : d.shown.length ≤ sizeLine)
    (hQ : ∀ h' t tk, (∀ b o, s.heap.get? b = some o → h'.get? b = some o) → Q (.str d.shown t) { s with heap := h', toks := tk }) : wpAny (model prog w) A (call (.builtin "repr") [u]) Q E s := by
  cases r with
  | none => exact P.repr_of_none (by have := hQ s.heap s.toks (s.toks + 1) fun _ _ e => e; simpa only [PyData.shown] using this)
  | bool b => exact P.repr_of_bool (by have := hQ s.heap s.toks (s.toks + 1) fun _ _ e => e; simpa only [PyData.shown] using this)
  | int i t => exact P.repr_of_int (by simpa [PyData.showable] using hs) (by have := hQ s.heap s.toks (s.toks + 1) fun _ _ e => e; simpa only [PyData.shown] using this)
  | str y t => exact P.repr_of_str (hsz := by simpa only [PyData.shown] using hl) (by have := hQ s.heap s.toks (s.toks + 1) fun _ _ e => e; simpa only [PyData.shown] using this)
  | @list a o ws n ds g1 g2 g3 g4 =>
    obtain ⟨_, r⟩ := RD.reads (.list g1 g2 g3 g4)
    have room : (listText (PyData.shownAll ds)).length ≤ sizeLine := by simpa only [PyData.shown] using hl
    obtain ⟨bs, hb, hk⟩ := RDs.shows (prog := prog) (w := w) g4 (by simpa [PyData.showable] using hs) fun t ht => Nat.le_trans (listText_mem_le ht) room
    have out : a ∉ bs := not_mem_of_deeper r (by simp only [PyData.depth]; omega) hb
    simp only [PyData.depth] at hu
    simp only [PyData.shown] at hQ
    refine call_repr_slot (by omega) ⟨o, g1, g2⟩ F.slot_list_repr.toG ?_
    obtain ⟨l⟩ := ws
    cases l with
    | nil =>
      cases (show RDs s.heap [] ds from g4)
      simp only [PyData.shownAll, listText_nil] at hQ
      exact call_list_repr_empty ⟨o, g1, g2⟩ g1 g3 ⟨_, _, rfl, hQ s.heap _ _ fun _ _ e => e⟩
    | cons x l =>
      exact call_list_reprK g1 g2 g3 out (by simpa using hk.length_eq) (fun i y e => hk.item i y (by simpa using e)) hG (fun b _ => Clear.nil b) (by show A.units + 1 + _ < cLine; omega) (fun _ _ e => e) (fun h' t tk hk' => ⟨_, _, rfl, hQ h' t tk hk'⟩) room
  | @tuple a o ws n ds g1 g2 g3 g4 =>
    obtain ⟨_, r⟩ := RD.reads (.tuple g1 g2 g3 g4)
    have room : (tupleText (PyData.shownAll ds)).length ≤ sizeLine := by simpa only [PyData.shown] using hl
    obtain ⟨bs, hb, hk⟩ := RDs.shows (prog := prog) (w := w) g4 (by simpa [PyData.showable] using hs) fun t ht => Nat.le_trans (tupleText_mem_le ht) room
    have out : a ∉ bs := not_mem_of_deeper r (by simp only [PyData.depth]; omega) hb
    simp only [PyData.depth] at hu
    simp only [PyData.shown] at hQ
    exact call_repr_slot (by omega) ⟨o, g1, g2⟩ F.slot_tuple_repr (call_tuple_reprK g1 g2 g3 out hk hG (fun b _ => Clear.nil b) (by show A.units + 1 + _ < cLine; omega) (fun _ _ e => e) (fun h' t tk hk' => ⟨_, _, rfl, hQ h' t tk hk'⟩) room)
  | @dict a o es n kvs g0 g1 g2 g3 g4 g5 =>
    obtain ⟨_, r⟩ := RD.reads (.dict g0 g1 g2 g3 g4 g5)
    have room : (dictText (PyData.shownKv kvs)).length ≤ sizeLine := by simpa only [PyData.shown] using hl
    obtain ⟨s1, s2⟩ := PyData.showableKv_split kvs (by simpa [PyData.showable] using hs)
    obtain ⟨b1, hb1, k1⟩ := RDs.shows (prog := prog) (w := w) g4 s1 fun t ht => let ⟨p, hp, hl⟩ := PyData.shownKv_key_le kvs t ht; Nat.le_trans hl (Nat.le_trans (dictText_mem_le hp) room)
    obtain ⟨b2, hb2, k2⟩ := RDs.shows (prog := prog) (w := w) g5 s2 fun t ht => let ⟨p, hp, hl⟩ := PyData.shownKv_val_le kvs t ht; Nat.le_trans hl (Nat.le_trans (dictText_mem_le hp) room)
    have hb : ReadAtMost s.heap (PyData.depthKv kvs) (b1 ++ b2) := (hb1.mono (PyData.depthAll_keys_le kvs)).append (hb2.mono (PyData.depthAll_vals_le kvs))
    have out : a ∉ b1 ++ b2 := not_mem_of_deeper r (by simp only [PyData.depth]; omega) hb
    simp only [PyData.depth] at hu
    simp only [PyData.shown, PyData.shownKv_eq] at hQ
    exact call_repr_slot (by omega) ⟨o, g1, g2⟩ F.slot_dict_repr (call_dict_reprK g1 g2 g3 g0 out (ReprEntriesK.of_two es.toList _ _ (k1.more_le (fun b z => List.mem_append_left _ z) (PyData.depthAll_keys_le kvs)) (k2.more_le (fun b z => List.mem_append_right _ z) (PyData.depthAll_vals_le kvs))) hG (fun b _ => Clear.nil b)
      (by show A.units + 1 + _ < cLine; omega) (fun _ _ e => e) (fun h' t tk hk' => ⟨_, _, rfl, hQ h' t tk hk'⟩) (by rw [← PyData.shownKv_eq]; exact room))
theorem call_reprA {X : Cx} (hG : X.A.guards = some []) (hu : X.A.units + 66 < cLine) : CallR X (.builtin "repr") (oRepr X.K) := by
  intro pins s σ H xs us Q I rx h
  obtain ⟨x, d, rfl, hs, hz, hl, q, h⟩ := h
  obtain ⟨u, rfl, ru⟩ := vals1 rx
  have rd : RD s.heap u d := by
    rcases h with ⟨p, ok, r, rfl⟩ | ⟨a, ys, ps, rfl, ha, ok, rr, rfl⟩
    · exact Rel.rd I p x u ok r ru
    · cases ru
      obtain ⟨its, rx, ⟨o, n, e, c, _, dd⟩, _⟩ := I.list (.of ha)
      exact .list e c dd (Rels.rd I ps ys its ok rr rx)
  exact repr_rd rd hs hG (by omega) hl fun h' t tk hk => ⟨.str _, H, I.kept hk, ⟨_, rfl⟩, q⟩
/-- a list that may change, as it stands -/
def vwL (h : PH) : PV → PV
  | .ref a => match h a with | some (.lst xs) => .lst xs | _ => .ref a
  | p => p
def rRepr : PRA := fun ps h Q => match ps with
  | [p] => (okR (vwL h p) = true ∧ (toD (vwL h p)).showable = true ∧ (toD (vwL h p)).depth ≤ 64 ∧ (toD (vwL h p)).shown.length ≤ SZ) ∧ Q (.str (toD (vwL h p)).shown) h
  | _ => False
theorem lf_repr {K : PySem.W.Frag} : LfA K (oRepr K) rRepr := by
  intro xs H ps h Q' Q rp s r l
  unfold rRepr at r
  split at r
  · rename_i p
    obtain ⟨v, rfl, r1⟩ := rp.one
    obtain ⟨⟨f, hs, hz, hl⟩, r⟩ := r
    refine ⟨v, _, rfl, hs, hz, sz_le hl, l _ _ _ _ r .refl (rel_str.mpr rfl) s, ?_⟩
    cases p with
    | ref a =>
      simp only [vwL] at f ⊢
      cases e : h a with
      | none => rw [e] at f; simp [okR] at f
      | some o =>
        cases o with
        | lst ys =>
          obtain ⟨u, e1, zs, rfl, rr⟩ := s a _ e
          simp only [e, okR] at f
          exact .inr ⟨a, zs, ys, rel_ref.mp r1, e1, f, rr, by simp only [toD]⟩
        | dct _ _ => simp [e, okR] at f
        | ins _ _ _ => simp [e, okR] at f
        | lck _ _ => simp [e, okR] at f
        | xd _ _ => simp [e, okR] at f
        | tab _ => simp [e, okR] at f
    | _ => exact .inl ⟨_, f, r1, rfl⟩
  · exact r.elim

/-! ### list(..), tuple(..), sum, int, str -/
def listed (h : PH) : PV → Option (List PV)
  | .tup xs => some xs
  | p => seqL h p
theorem listed_sq {K : PySem.W.Frag} {H : Hp} {h : PH} {p : PV} {v : V} {ps : List PV} (r : Rel K H p v) (s : Sim K H h) (e : listed h p = some ps) : ∃ a xs, v = .ref a ∧ (SqL K H a xs ∨ SqT K H a xs) ∧ Rels K H ps xs := by
  cases p with
  | tup qs =>
    simp only [listed, Option.some.injEq] at e
    subst e
    obtain ⟨a, xs, e1, f, rr⟩ := rel_tup.mp r
    exact ⟨a, xs, e1, .inr f, rr⟩
  | _ =>
    obtain ⟨a, xs, e1, f, rr⟩ := seqL_sq r s e
    exact ⟨a, xs, e1, .inl f, rr⟩
def rListOf : PRA := fun ps h Q => match ps with
  | [p] => (match listed h p with | some xs => Q (.lst xs) h | none => False)
  | _ => False
/-- .. one that may change -/
def rListOfM : PRA := fun ps h Q => match ps with
  | [p] => (match listed h p with | some xs => ∀ a, h a = none → Q (.ref a) (up h a (.lst xs)) | none => False)
  | _ => False
def oListOf (K : PySem.W.Frag) : List V → Hp → VK → Prop := fun xs H Q => ∃ p ys, xs = [.ref p] ∧ (SqL K H p ys ∨ SqT K H p ys) ∧ ∀ l, H l = none → Q (.ref l) (upd H l (.lst ys))
theorem kf_listOf {K : PySem.W.Frag} : KfA K (oListOf K) rListOf := by
  intro xs H ps h Q' Q rp s r l
  unfold rListOf at r
  split at r
  · split at r
    · rename_i e
      obtain ⟨v, rfl, r1⟩ := rp.one
      obtain ⟨a, ys, rfl, hq, rr⟩ := listed_sq r1 s e
      exact ⟨a, ys, rfl, hq, fun c hc => keep_l l s rr r hc⟩
    · exact r.elim
  · exact r.elim
theorem kf_listOfM {K : PySem.W.Frag} : KfA K (oListOf K) rListOfM := by
  intro xs H ps h Q' Q rp s r l
  unfold rListOfM at r
  split at r
  · split at r
    · rename_i e
      obtain ⟨v, rfl, r1⟩ := rp.one
      obtain ⟨a, ys, rfl, hq, rr⟩ := listed_sq r1 s e
      exact ⟨a, ys, rfl, hq, fun c hc => make_l l s rr r hc⟩
    · exact r.elim
  · exact r.elim
def rTupOf : PRA := fun ps h Q => match ps with
  | [p] => (match listed h p with | some xs => Q (.tup xs) h | none => False)
  | _ => False
def oTupOf (K : PySem.W.Frag) : List V → Hp → VK → Prop := fun xs H Q => ∃ p ys, xs = [.ref p] ∧ ((SqL K H p ys ∧ ∀ l, H l = none → Q (.ref l) (upd H l (.tup ys))) ∨ (SqT K H p ys ∧ Q (.ref p) H))
theorem lf_tupOf {K : PySem.W.Frag} : LfA K (oTupOf K) rTupOf := by
  intro xs H ps h Q' Q rp s r l
  unfold rTupOf at r
  split at r
  · rename_i p
    obtain ⟨v, rfl, r1⟩ := rp.one
    cases p with
    | tup qs =>
      obtain ⟨a, ys, rfl, hq, rr⟩ := rel_tup.mp r1
      exact ⟨a, ys, rfl, .inr ⟨hq, l _ _ _ _ r .refl (rel_tup.mpr ⟨a, ys, rfl, hq, rr⟩) s⟩⟩
    | _ =>
      simp only [listed] at r
      split at r
      · rename_i e
        obtain ⟨a, ys, rfl, hq, rr⟩ := seqL_sq r1 s e
        exact ⟨a, ys, rfl, .inl ⟨hq, fun c hc => make_t l s rr r hc⟩⟩
      · exact r.elim
  · exact r.elim
def rSumI : PRA := fun ps h Q => match ps with
  | [p] => (match seqL h p with | some xs => ∃ ns : List Int, xs = ns.map PV.int ∧ Q (.int ns.sum) h | none => False)
  | _ => False
theorem lf_sum {K : PySem.W.Frag} : LfA K (rSum K) rSumI := by
  intro xs H ps h Q' Q rp s r l
  unfold rSumI at r
  split at r
  · split at r
    · rename_i e
      obtain ⟨v, rfl, r1⟩ := rp.one
      obtain ⟨a, ys, rfl, hq, rr⟩ := seqL_sq r1 s e
      obtain ⟨ns, rfl, r⟩ := r
      rw [rels_ints rr] at hq
      exact ⟨a, ns, rfl, hq, l _ _ _ _ r .refl (rel_int.mpr rfl) s⟩
    · exact r.elim
  · exact r.elim
section
variable {X : Cx} {pos p : Pos} {e : Expr} {m : MA}
theorem le_len (hm : X.mg "len" = none) (ha : LAn X [e] 1 m) (hg : Gl X "len" := by rfl) (h1 : starEach [e] X.env = (false, eval e X.env) :: starEach [] X.env := by rfl) : LE X (.Call (.Name "len" p) [e] [] pos) (mBlt rLen m) :=
  le_blt call_len lf_len hm ha hg (h1 := h1) (h2 := rfl)
theorem le_repr (hG : X.A.guards = some []) (hu : X.A.units + 66 < cLine) (hm : X.mg "repr" = none) (ha : LAn X [e] 1 m) (hg : Gl X "repr" := by rfl) (h1 : starEach [e] X.env = (false, eval e X.env) :: starEach [] X.env := by rfl) :
    LE X (.Call (.Name "repr" p) [e] [] pos) (mBlt rRepr m) := le_blt (call_reprA hG hu) lf_repr hm ha hg (h1 := h1) (h2 := rfl)
theorem le_sum (hc : X.calm = true) (hm : X.mg "sum" = none) (ha : LAn X [e] 1 m) (hg : Gl X "sum" := by rfl) (h1 : starEach [e] X.env = (false, eval e X.env) :: starEach [] X.env := by rfl) :
    LE X (.Call (.Name "sum" p) [e] [] pos) (mBlt rSumI m) := le_blt (cr_sum hc) lf_sum hm ha hg (h1 := h1) (h2 := rfl)
theorem le_list (hm : X.mg "list" = none) (ha : LAn X [e] 1 m) (hg : Gl X "list" := by rfl) (h1 : starEach [e] X.env = (false, eval e X.env) :: starEach [] X.env := by rfl) :
    LE X (.Call (.Name "list" p) [e] [] pos) (mBlt rListOf m) := le_tyK call_list_of kf_listOf hm ha hg (h1 := h1) (h2 := rfl)
theorem le_listM (hm : X.mg "list" = none) (ha : LAn X [e] 1 m) (hg : Gl X "list" := by rfl) (h1 : starEach [e] X.env = (false, eval e X.env) :: starEach [] X.env := by rfl) :
    LE X (.Call (.Name "list" p) [e] [] pos) (mBlt rListOfM m) := le_tyK call_list_of kf_listOfM hm ha hg (h1 := h1) (h2 := rfl)
theorem le_tuple (hm : X.mg "tuple" = none) (ha : LAn X [e] 1 m) (hg : Gl X "tuple" := by rfl) (h1 : starEach [e] X.env = (false, eval e X.env) :: starEach [] X.env := by rfl) :
    LE X (.Call (.Name "tuple" p) [e] [] pos) (mBlt rTupOf m) := le_ty call_tuple_of lf_tupOf hm ha hg (h1 := h1) (h2 := rfl)
end

/-! ### x[::-1], a list that may change -/
def mRevM (m : ME) : ME := fun τ h Q => m τ h fun p h1 => match seqL h1 p with
    | some xs => ∀ a, h1 a = none → Q (.ref a) (up h1 a (.lst xs.reverse))
    | none => False
section
variable {X : Cx} {pos p1 p2 p3 : Pos} {e : Expr}
theorem le_revM {m : ME} {k : Nat} (he : LE X e m) : LE X (.Subscript e (.Slice none none (some (.UnaryOp .USub (.Constant (.int 1) k p1) p2)) p3) pos) (mRevM m) := by
  refine PE.weak (PE.kp (pe_revA he)) fun σ H Q ⟨τ, h, Q', s, sh, q, l⟩ => ?_
  refine ⟨τ, h, _, s, sh, q, fun p h1 v H1 q1 g1 r1 s1 => ?_⟩
  split at q1
  · rename_i e
    obtain ⟨a, ys, rfl, hq, rr⟩ := seqL_sq r1 s1 e
    exact .inl ⟨a, ys, rfl, hq, fun c hc => make_l (l.mono g1) s1 rr.reverse q1 hc⟩
  · exact q1.elim
end

/-! ### {k: v, ..}, keys ints and texts, one dict that may change -/
abbrev MPs := PSt → PH → (List (Key × PV) → PH → Prop) → Prop
def mPs : List (ME × ME) → MPs
  | [], _, h, Q => Q [] h
  | (mk, mv) :: r, τ, h, Q => mk τ h fun q h1 => mv τ h1 fun p h2 => match kOf q with | some k => mPs r τ h2 fun kvs h3 => Q ((k, p) :: kvs) h3 | none => False
def mDispM (l : List (ME × ME)) : ME := fun τ h Q => mPs l τ h fun kvs h1 => (kvs.map (·.1)).Nodup ∧ ∀ a, h1 a = none → Q (.ref a) (up h1 a (.dct (kvs.map (·.1)) (kvs.map (·.2))))
theorem merge_nd : ∀ (more acc : List (Key × V)), ((acc ++ more).map (·.1)).Nodup → mergeK acc more = acc ++ more
  | [], acc, _ => by show acc = acc ++ []; rw [List.append_nil]
  | p :: r, acc, h => by
    have e : putK acc p.1 p.2 = acc ++ [p] := by
      refine putK_new _ ?_
      have hn : p.1 ∉ acc.map (·.1) := by
        rw [List.map_append, List.map_cons] at h
        exact fun z => (List.nodup_append.mp h).2.2 _ z _ List.mem_cons_self rfl
      clear h
      induction acc with
      | nil => rfl
      | cons q acc ih =>
        rw [List.map_cons, List.mem_cons, not_or] at hn
        rw [valV_neg (fun z => hn.1 z.symm)]
        exact ih hn.2
    show mergeK (putK acc p.1 p.2) r = _
    rw [e, merge_nd r (acc ++ [p]) (by rw [List.append_assoc]; exact h), List.append_assoc]; rfl
def RelP (K : PySem.W.Frag) (H : Hp) : List (Key × PV) → List (V × V) → Prop
  | [], ps => ps = []
  | x :: xs, ps => ∃ v vs, ps = (kV x.1, v) :: vs ∧ Rel K H x.2 v ∧ RelP K H xs vs
theorem RelP.mono {K : PySem.W.Frag} {H H' : Hp} (m : Mono H H') : ∀ {xs : List (Key × PV)} {ps : List (V × V)}, RelP K H xs ps → RelP K H' xs ps
  | [], _, h => h
  | x :: xs, _, ⟨v, vs, e, h1, h2⟩ => ⟨v, vs, e, h1.mono m, RelP.mono m h2⟩
theorem RelP.pairs {K : PySem.W.Frag} {H : Hp} : ∀ {xs : List (Key × PV)} {ps : List (V × V)}, RelP K H xs ps → ∃ kvs : List (Key × V), ps = kvs.map (fun kv => (kV kv.1, kv.2)) ∧ xs.map (·.1) = kvs.map (·.1) ∧ Rels K H (xs.map (·.2)) (kvs.map (·.2))
  | [], _, h => ⟨[], h, rfl, .nil⟩
  | x :: xs, _, ⟨v, vs, e, h1, h2⟩ => by
    obtain ⟨kvs, e1, e2, r⟩ := RelP.pairs h2
    refine ⟨(x.1, v) :: kvs, by rw [e, e1]; rfl, by rw [List.map_cons, List.map_cons, e2], ?_⟩
    rw [List.map_cons, List.map_cons]
    exact .cons h1 r
def PsUp (K : PySem.W.Frag) (n : Nat) (trs : List (TE × TE)) (l : List (ME × ME)) : Prop := ∀ (σ : L2.St) (H : Hp) (τ : PSt) (h : PH) (Q' : List (Key × PV) → PH → Prop) (Q : List (V × V) → Hp → Prop), SimS K H σ τ → Sim K H h → mPs l τ h Q' →
  (∀ xs h1 ps H1, Q' xs h1 → xs.length = n → Go H h H1 h1 → RelP K H1 xs ps → Sim K H1 h1 → Q ps H1) → tPairs trs σ H Q
/-- the pairs of a display -/
structure LPs (X : Cx) (pos : Pos) (keys : List (Option Expr)) (values : List Expr) (n : Nat) (l : List (ME × ME)) : Prop where
  ex : ∃ trs, PPs X pos keys values trs ∧ PsUp X.K n trs l
section
variable {X : Cx} {pos : Pos} {k v : Expr} {ks : List (Option Expr)} {vs : List Expr} {n : Nat} {l : List (ME × ME)} {mk mv : ME}
theorem lps_nil : LPs X pos [] [] 0 [] := ⟨[], pps_nil, fun σ H τ h Q' Q s sh q l => l [] h [] H q rfl .refl rfl sh⟩
theorem lps_cons (hk : LE X k mk) (hv : LE X v mv) (hr : LPs X pos ks vs n l) : LPs X pos (some k :: ks) (v :: vs) (n + 1) ((mk, mv) :: l) := by
  obtain ⟨trs, h1, h2⟩ := hr.ex
  refine ⟨_, pps_cons hk hv h1, fun σ H τ h Q' Q s sh q l => ?_⟩
  refine ⟨τ, h, _, s, sh, q, fun q1 ha x H1 qa g1 r1 s1 => ?_⟩
  refine ⟨τ, ha, _, s.mono g1.mono, s1, qa, fun p hb y H2 qb g2 r2 s2 => ?_⟩
  split at qb
  · rename_i k ek
    refine h2 σ H2 τ hb _ _ ((s.mono g1.mono).mono g2.mono) s2 qb fun xs hc ps H3 qc hn g3 rp s3 => ?_
    have ex := kOf_rel r1 ek
    subst ex
    exact l _ _ _ _ qc (by rw [List.length_cons, hn]) ((g1.trans g2).trans g3) ⟨y, ps, rfl, r2.mono g3.mono, rp⟩ s3
  · exact qb.elim
theorem le_dispM (h : LPs X pos ks vs n l) (hn : n ≤ 15 := by decide) (hall : ks.all (·.isSome) = true := by rfl) (hl : ks.length = vs.length := by rfl) (h0 : ks ≠ [] := by simp) (h15 : ks.length ≤ 15 := by decide) : LE X (.Dict ks vs pos) (mDispM l) := by
  obtain ⟨trs, h1, h2⟩ := h.ex
  refine PE.weak (pe_disp h1 hall hl h0 h15) fun σ H Q ⟨τ, h, Q', s, sh, q, lq⟩ => ?_
  intro p hp
  have hp0 : h p = none := sh.fresh hp
  have g0 : Go H h (upd H p (.dK [])) h := .new hp
  refine h2 σ _ τ h _ _ (s.mono g0.mono) (sh.new hp) q fun xs h1 ps H1 q1 hl1 g1 rp s1 => ?_
  obtain ⟨nd, q1⟩ := q1
  have hH : H1 p = some (.dK []) := g1.frame p _ upd_same hp0
  have hd : h1 p = none := g1.dom p _ upd_same hp0
  obtain ⟨kvs, e1, e2, rr⟩ := rp.pairs
  have el : kvs.length = xs.length := by
    have := congrArg List.length e2
    rw [List.length_map, List.length_map] at this
    exact this.symm
  refine ⟨hH, kvs, e1, by rw [el, hl1]; exact hn, ?_⟩
  have em : mergeK [] kvs = kvs := by
    have := merge_nd kvs [] (by rw [List.nil_append, ← e2]; exact nd)
    rwa [List.nil_append] at this
  rw [em]
  have mm : Mono H1 (upd H1 p (.dK kvs)) := Mono.dK hH
  refine lq _ _ _ _ (q1 p hd) ?_ (rel_ref.mpr rfl) (s1.put mm ⟨kvs, rfl, e2, rr.mono mm⟩)
  have gr : Go H h (upd H1 p (.dK kvs)) h1 := (g0.trans g1).renew hp mm
  have : upd H1 p (.dK kvs) p = some (.dK kvs) := upd_same
  exact gr.own hp
end
end N3

namespace N3
open PySem PySem.Spec PyProof.Rows L2

/-! ### the law's own call -/
/-- what a law is handed: a list of at most n whole numbers; what it must say -/
def spLaw (n : Nat) : SpP := fun ps h Q => ∃ ns : List Int, ps = [.lst (ns.map PV.int)] ∧ ns.length ≤ n ∧ (∀ z ∈ ns, Builtin.Int.intBits z ≤ 1048576) ∧ h = (fun _ => none) ∧ ∀ h', Q (.bl true) h'
theorem rels_of_ints {K : PySem.W.Frag} {H : Hp} : ∀ ns : List Int, Rels K H (ns.map PV.int) (ns.map V.int)
  | [] => .nil
  | n :: ns => .cons (rel_int.mpr rfl) (rels_of_ints ns)
theorem call_of_law {P : Program} {w : World} {K : PySem.W.Frag} {mg mb : Str → Option Value} {k n : Nat} {fa a : Addr} {fd : FuncData} {x : Str} {s1 : Shared} {vs : List Value} {ns : List Int}
    (KX : K.In s1.heap) (hns : s1.heap.Ns mainGlobals mg) (hb : s1.heap.Ns builtinsNs mb) (hbb : ∀ x : Str, x ≠ "__name__" → mb x = bootBuiltins x) (hlim : s1.heap.NoLimit) (hg : s1.gens = #[])
    (ha : s1.heap.get? a = some { cls := .type "list", data := .seq vs.toArray }) (hi : IntsAre vs ns) (hl : ns.length ≤ n) (hn : n ≤ sizeLine) (hbits : ∀ z ∈ ns, Builtin.Int.intBits z ≤ 1048576) (hr : Room k callerA)
    (F : ∀ base : Heap, K.In base → base.Ns mainGlobals mg → FnG P w K mg base k fa fd [x] (spLaw n)) (hbind : ∀ (s : Shared) (u : Value), BindsTo s fd ⟨[u], []⟩ [(x, u)]) :
    codeAny (model P w) callerA (.call (.ref fa) ⟨[.ref a], []⟩) (fun r s' => r = .ok (.ret (.bool true)) ∧ OldK s1.heap s'.heap ∧ s'.os = s1.os ∧ AllBare s'.gens) s1 := by
  have rv := vals_ints hi
  have lenV := hi.length
  have lz : ns.length ≤ sizeLine := Nat.le_trans hl hn
  have main : ∀ H : Hp, (∀ b u, H b = some u → b = a ∧ ∃ o xs, u = .frz o (.lst xs)) → FrL K H a (ns.map V.int) → HOk P w H s1.heap → (H a ≠ none → K.lookup a = none) →
      codeAny (model P w) callerA (.call (.ref fa) ⟨[.ref a], []⟩) (fun r s' => r = .ok (.ret (.bool true)) ∧ OldK s1.heap s'.heap ∧ s'.os = s1.os ∧ AllBare s'.gens) s1 := by
    intro H only fr hok hK
    have off : ∀ {b : Addr}, b ≠ a → H b = none := fun {b} hb => by
      cases q : H b with
      | none => rfl
      | some u => exact absurd (only b u q).1 hb
    have ne_dict : ∀ {b : Addr} {o : Obj} {es : Array DictEntry} {ep : Nat}, s1.heap.get? b = some o → o.data = .dict es ep → b ≠ a := fun {b o es ep} e d z => by
      subst z
      rw [ha] at e; cases e
      cases (show Data.seq vs.toArray _ = Data.dict es ep from d)
    have nsB : ∀ {b : Addr} {m : Str → Option Value}, s1.heap.Ns b m → (hidT s1.heap H).Ns b m := fun {b m} ⟨o, es, ep, e, d, r⟩ => ⟨o, es, ep, hidT_get e (off (ne_dict e d)), d, r⟩
    have kB : K.In (hidT s1.heap H) := fun b o e => by
      refine hidT_get (KX b o e) ?_
      by_cases hb : b = a
      · subst hb
        cases q : H b with
        | none => rfl
        | some u => rw [hK (by rw [q]; exact fun z => nomatch z)] at e; cases e
      · exact off hb
    obtain ⟨mc, lim1, lim2⟩ := hlim
    have e0 : Env0 P w K mg (hidT s1.heap H) callerA [] s1 H :=
      ⟨rfl, ⟨kB, nsB hns, ⟨mb, nsB hb, hbb⟩, ⟨mc, nsB lim1, lim2⟩⟩, fun b o e => of_hidT e, Nat.le_of_eq (hidT_size _ _), trivial, fun b z => (List.not_mem_nil (show b ∈ ([] : List Addr) from z)).elim, hok, .of_eq hg⟩
    have up0 : upF K 1 (spLaw n) [.ref a] H (fun v _ => v = .bl true) E0 := by
      refine ⟨[.lst (ns.map PV.int)], fun _ => none, fun p _ => p = .bl true, rfl, .cons (rel_lst.mpr ⟨a, _, rfl, fr, rels_of_ints ns⟩) .nil, ?_, ⟨ns, rfl, hl, hbits, rfl, fun _ => rfl⟩, ?_⟩
      · intro b o z
        cases z
      · intro p h1 v H1 q _ r _
        have q' : p = .bl true := q
        subst q'
        exact rel_bl.mp r
    have go := (F _ kB (nsB hns)).run callerA [] s1 H ⟨[.ref a], []⟩ [.ref a] [.ref a] (fun v _ => v = .bl true) hr rfl e0 (hbind s1 (.ref a)) (.cons rfl .nil) up0
    refine codeAny_mono go fun r s' h => ?_
    cases r with
    | error e => exact False.elim h
    | ok fl =>
      cases fl with
      | next => exact False.elim h
      | brk => exact False.elim h
      | cont => exact False.elim h
      | ret u =>
        obtain ⟨v, H', os, bare, un, hok', r', q⟩ := h
        have q' : v = .bl true := q
        subst q'
        have eu : u = Value.bool true := r'
        subst eu
        refine ⟨rfl, OldK.of_keep fun b o e => ?_, os, bare⟩
        cases q : H b with
        | none => exact un.keep b o e q (fun z => List.not_mem_nil (show b ∈ ([] : List Addr) from z)) List.not_mem_nil
        | some u =>
          obtain ⟨_, ob, xs, rfl⟩ := only b u q
          have e1 := (hok b _ q).1
          have e2 := (hok' b _ (un.frzs b ob _ q)).1
          rw [e] at e1; cases e1
          exact e2
  cases hk : K.lookup a with
  | some o =>
    have e := KX a o hk
    rw [ha] at e; cases e
    exact main (fun _ => none) (fun b u z => nomatch z) (.inr ⟨_, vs.toArray, _, hk, rfl, rfl, rfl, by rw [List.size_toArray, lenV]; exact lz, by simpa using rv⟩) (fun b u z => nomatch z) fun z => absurd rfl z
  | none =>
    refine main (fun b => if b = a then some (.frz { cls := .type "list", data := .seq vs.toArray } (.lst (ns.map V.int))) else none) (fun b u z => ?_) (.inl ⟨_, if_pos rfl⟩) (fun b u z => ?_) fun _ => hk
    · by_cases hb : b = a
      · exact ⟨hb, _, _, (Option.some.inj ((if_pos hb).symm.trans z)).symm⟩
      · cases (if_neg hb).symm.trans z
    · by_cases hb : b = a
      · subst hb
        cases (if_pos rfl).symm.trans z
        exact ⟨ha, by rw [List.length_map]; exact lz, vs, _, rv, ha⟩
      · cases (if_neg hb).symm.trans z
theorem walk_g {l : PySem.W.OpenLaw} {n k : Nat} {q : Program} {loose : List Str} {XP : (Str → Option Value) → Heap → Prop} {YP : World → Heap → Prop} {d : DefRec} {K : Params → PySem.W.Frag} {x : Str}
    (hn : l.most = some n) (hn2 : n ≤ sizeLine) (hdf : d.params.defaults = []) (hr : Room k callerA) (hY : ∀ (w : World) (h : Heap), YP w h → (K w.params).In h)
    (F : ∀ (w : World) (mg : Str → Option Value) (fa : Addr) (h : Heap), (K w.params).In h → h.Ns mainGlobals mg → mg d.name = some (.ref fa) →
      ∃ fd : FuncData, (∀ (s : Shared) (u : Value), BindsTo s fd ⟨[u], []⟩ [(x, u)]) ∧ ∀ base : Heap, (K w.params).In base → base.Ns mainGlobals mg → FnG l.prog w (K w.params) mg base k fa fd [x] (spLaw n)) :
    PySem.W.WalkO q loose XP YP l.row.toRowW d [] (fun f vs => PySem.call f vs) := by
  refine Att.attach_callB hn hdf fun w s0 s1 mg mb fa o pm cd doc a vs ns G Y ho hd hcd hmg hobj hints hlen hbits hg => ?_
  have KX := hY w _ Y
  obtain ⟨fd, hb, hF⟩ := F w mg fa _ KX G.T.g hmg
  exact call_of_law KX G.T.g G.T.b G.T.builtins G.T.nolimit hg hobj hints hlen hn2 hbits hr hF hb
end N3
namespace N3
open PySem PySem.Spec PyProof.Rows L2

/-! ### a def of the text by its name: its object, how it takes what it is given, what it does -/
structure Fn (P : Program) (w : World) (K : PySem.W.Frag) (mg : Str → Option Value) (base : Heap) (k : Nat) (x : Str) (st : Stmt) (ps : List Str) (sp : SpP) : Prop where
  ex : ∃ (f : Addr) (fd : FuncData), mg x = some (.ref f) ∧ Fun K x x st f fd ∧ Binds K fd ps [] ∧ FnG P w K mg base k f fd ps sp
/-- an int's negative -/
def rNeg : PR1 := fun p h Q => match p with | .int i => Q (.int (-i)) h | _ => False
theorem lf_neg {K : PySem.W.Frag} : Lf1 K (rU fun i => .int (-i)) rNeg := by
  intro x H p h Q' Q rp s r l
  cases p with
  | int i => exact ⟨i, rel_int.mp rp, l _ _ _ _ r .refl (rel_int.mpr rfl) s⟩
  | _ => exact r.elim
section
variable {X : Cx} {pos p : Pos} {e : Expr} {es : List Expr} {n j k : Nat} {x : Str} {st : Stmt} {ps : List Str} {sp : SpP}
theorem le_fn {m : MA} (c : Fn X.prog X.w X.K X.mg X.base j x st ps sp) (hr : Room k X.A) (hj : j ≤ k) (hG : X.A.guards = some []) (ha : LAn X (e :: es) n m) (hp : n = ps.length := by rfl) (hg : Gl X x := by rfl) (hdb : (x == ("__debug__" : Str)) = false := by decide)
    (he : starEach (e :: es) X.env = (false, eval e X.env) :: starEach es X.env := by rfl) (hpl : (backTo pos (starEach es X.env)).any (·.1) = false := by rfl) : LE X (.Call (.Name x p) (e :: es) [] pos) (mBlt sp m) := by
  obtain ⟨f, fd, hm, F, hb, G⟩ := c.ex
  exact le_call G (hr.mono hj) hG hm F.kp hb ha hp hg hdb he hpl
theorem le_fn0 (c : Fn X.prog X.w X.K X.mg X.base j x st [] sp) (hr : Room k X.A) (hj : j ≤ k) (hG : X.A.guards = some []) (hg : Gl X x := by rfl) (hdb : (x == ("__debug__" : Str)) = false := by decide) : LE X (.Call (.Name x p) [] [] pos) (mBlt sp mNil) := by
  obtain ⟨f, fd, hm, F, hb, G⟩ := c.ex
  exact le_call0 G (hr.mono hj) hG hm F.kp hb hg hdb
/-- the keywords stand behind the arguments by place, in the parameters' order -/
def cat2 {α : Type} (xs ys : List α) : List α := xs ++ ys
theorem vals_cat {vs zs : List V} {us ws : List Value} (h1 : Vals vs us) (h2 : Vals zs ws) : Vals (cat2 vs zs) (cat2 us ws) := h1.append h2
theorem kwb_of {K : PySem.W.Frag} {f : Addr} {fd : FuncData} {ks : List Str} {i m : Nat} (F : Fun K x x st f fd) (hl : i + m = ps.length)
    (h : ∀ (kV doc pm : Value) (an : Option Addr) (cdv ct : Value) (us ws : List Value), us.length = i → ws.length = m → bindArgs (PySem.W.fnOf x x (defArgs st) (defBody st) (defScope st) .none kV doc pm an cdv ct) ⟨us, ks.zip ws⟩ = pure (ps.zip (cat2 us ws))) :
    KwB fd ps ks cat2 cat2 cat2 i m := by
  obtain ⟨oc, od, kV, doc, pm, an, cdv, ct, osl, rfl, lk, hcd⟩ := F.ex
  exact ⟨fun s us ws h1 h2 => .of_eq (h kV doc pm an cdv ct us ws h1 h2), fun _ _ r1 r2 => vals_cat r1 r2, fun _ _ r1 r2 => r1.append r2, fun {qs zs} h1 h2 => by unfold cat2; rw [List.length_append, h1, h2, hl]⟩
theorem le_fnK {i m' : Nat} {ks : List Str} {kws : List Keyword} {m mk : MA} (c : Fn X.prog X.w X.K X.mg X.base j x st ps sp) (hr : Room k X.A) (hj : j ≤ k) (hG : X.A.guards = some []) (hl : i + m' = ps.length)
    (h : ∀ (kV doc pm : Value) (an : Option Addr) (cdv ct : Value) (us ws : List Value), us.length = i → ws.length = m' → bindArgs (PySem.W.fnOf x x (defArgs st) (defBody st) (defScope st) .none kV doc pm an cdv ct) ⟨us, ks.zip ws⟩ = pure (ps.zip (cat2 us ws)))
    (ha : LAn X (e :: es) i m) (hkw : LKn X kws m' mk) (hg : Gl X x := by rfl) (hall : (backToKw pos (keywordEach kws X.env)).all (·.1.isSome) = true := by rfl) (hks : (backToKw pos (keywordEach kws X.env)).filterMap (·.1) = ks := by rfl)
    (hdb : (x == ("__debug__" : Str)) = false := by decide) (he : starEach (e :: es) X.env = (false, eval e X.env) :: starEach es X.env := by rfl)
    (hpl : ((backTo pos (starEach (e :: es) X.env)).any (·.1) || (backToKw pos (keywordEach kws X.env)).any (·.1.isNone)) = false := by rfl) : LE X (.Call (.Name x p) (e :: es) kws pos) (mKw sp cat2 m mk) := by
  obtain ⟨f, fd, hm, F, hb, G⟩ := c.ex
  exact le_callK G (hr.mono hj) hG hm F.kp (kwb_of F hl h) ha hkw hg hall hks hdb he hpl
theorem le_fnK0 {m' : Nat} {ks : List Str} {kws : List Keyword} {mk : MA} (c : Fn X.prog X.w X.K X.mg X.base j x st ps sp) (hr : Room k X.A) (hj : j ≤ k) (hG : X.A.guards = some []) (hl : 0 + m' = ps.length)
    (h : ∀ (kV doc pm : Value) (an : Option Addr) (cdv ct : Value) (us ws : List Value), us.length = 0 → ws.length = m' → bindArgs (PySem.W.fnOf x x (defArgs st) (defBody st) (defScope st) .none kV doc pm an cdv ct) ⟨us, ks.zip ws⟩ = pure (ps.zip (cat2 us ws)))
    (hkw : LKn X kws m' mk) (hg : Gl X x := by rfl) (hall : (backToKw pos (keywordEach kws X.env)).all (·.1.isSome) = true := by rfl) (hks : (backToKw pos (keywordEach kws X.env)).filterMap (·.1) = ks := by rfl)
    (hdb : (x == ("__debug__" : Str)) = false := by decide) (hpl : ((backTo pos (starEach [] X.env)).any (·.1) || (backToKw pos (keywordEach kws X.env)).any (·.1.isNone)) = false := by rfl) : LE X (.Call (.Name x p) [] kws pos) (mKw sp cat2 mNil mk) := by
  obtain ⟨f, fd, hm, F, hb, G⟩ := c.ex
  exact le_callK0 G (hr.mono hj) hG hm F.kp (kwb_of F hl h) hkw hg hall hks hdb hpl
theorem hu66 (hr : Room k X.A) : X.A.units + 66 < cLine := by have := hr.un; omega
theorem hu65 (hr : Room k X.A) : X.A.units + 65 < cLine := by have := hr.un; omega
theorem hu64 (hr : Room k X.A) : X.A.units + 64 < cLine := by have := hr.un; omega
theorem hu1 (hr : Room k X.A) : X.A.units + 1 < cLine := by have := hr.un; omega
end
end N3

namespace N3
open PySem PySem.Spec PyProof.Rows L2

/-! ### isinstance of the built-in types -/
inductive Tn where
  | non | bl | int | str | tup | lst | dct
def Tn.name : Tn → String
  | .non => "NoneType" | .bl => "bool" | .int => "int" | .str => "str" | .tup => "tuple" | .lst => "list" | .dct => "dict"
def isI : Tn → Tn → Bool
  | .non, .non => true | .bl, .bl => true | .bl, .int => true | .int, .int => true | .str, .str => true | .tup, .tup => true | .lst, .lst => true | .dct, .dct => true
  | _, _ => false
theorem isI_kit : ∀ a b : Tn, kitB a.name b.name = some (isI a b)
  | .non, b => by cases b <;> decide +kernel
  | .bl, b => by cases b <;> decide +kernel
  | .int, b => by cases b <;> decide +kernel
  | .str, b => by cases b <;> decide +kernel
  | .tup, b => by cases b <;> decide +kernel
  | .lst, b => by cases b <;> decide +kernel
  | .dct, b => by cases b <;> decide +kernel
def tn (h : PH) : PV → Option Tn
  | .non => some .non
  | .bl _ => some .bl
  | .int _ => some .int
  | .str _ => some .str
  | .tup _ => some .tup
  | .lst _ => some .lst
  | .dct _ _ => some .dct
  | .ref a => match h a with | some (.lst _) => some .lst | some (.dct _ _) => some .dct | _ => none
  | .ty _ => none
theorem tn_ty {K : PySem.W.Frag} {H : Hp} {h : PH} {p : PV} {v : V} {t : Tn} (r : Rel K H p v) (s : Sim K H h) (e : tn h p = some t) : TyX K H v (.type t.name) := by
  cases p with
  | non => cases e; rw [rel_non.mp r]; exact .base .non
  | bl b => cases e; rw [rel_bl.mp r]; exact .base (.bl b)
  | int b => cases e; rw [rel_int.mp r]; exact .base (.int b)
  | str b => cases e; rw [rel_str.mp r]; exact .base (.str b)
  | tup ps =>
    cases e
    obtain ⟨a, xs, rfl, hq, _⟩ := rel_tup.mp r
    rcases hq with (hq | ⟨o, hq⟩) | ⟨o, its, n, hk, hc, _⟩
    · exact .base (.tup hq)
    · exact .fTuple hq
    · exact .kTuple hk hc
  | lst ps =>
    cases e
    obtain ⟨a, xs, rfl, hq, _⟩ := rel_lst.mp r
    rcases hq with ⟨o, hq⟩ | ⟨o, its, n, hk, hc, _⟩
    · exact .base (.frz hq)
    · exact .kList hk hc
  | dct ks vs =>
    cases e
    obtain ⟨a, kvs, rfl, ⟨o, hq⟩, _⟩ := rel_dct.mp r
    exact .fDict hq
  | ref a =>
    simp only [tn] at e
    have ev := rel_ref.mp r
    subst ev
    split at e
    · rename_i xs eh
      cases e
      obtain ⟨u, e1, ys, rfl, _⟩ := s a _ eh
      exact .base (.lst e1)
    · rename_i ks vs eh
      cases e
      obtain ⟨u, e1, kvs, rfl, _⟩ := s a _ eh
      exact .base (.dK e1)
    · cases e
  | ty n => cases e
def rIsT (n : Tn) : PRA := fun ps h Q => match ps with
  | [p, .ty m] => m = n.name ∧ (match tn h p with | some t => Q (.bl (isI t n)) h | none => False)
  | _ => False
def mIsI (n : Tn) (m : ME) : ME := fun τ h Q => m τ h fun p h1 => match tn h1 p with | some t => Q (.bl (isI t n)) h1 | none => False
section
variable {X : Cx} {pos p p2 : Pos} {e : Expr} {m : ME}
theorem le_isi (n : Tn) {x : Str} (hm : X.mg "isinstance" = none) (hx : X.mg x = none) (he : LE X e m) (hb : bootBuiltins x = some (.type n.name) := by decide +kernel) (hg : Gl X "isinstance" := by rfl) (hgx : Gl X x := by rfl) (hn : x ≠ "__name__" := by decide) (hd : (x == ("__debug__" : Str)) = false := by decide)
    (h1 : starEach [e, .Name x p2] X.env = (false, eval e X.env) :: starEach [.Name x p2] X.env := by rfl) (h2 : starEach [.Name x p2] X.env = (false, eval (.Name x p2) X.env) :: starEach [] X.env := by rfl)
    (h3 : (backTo pos (starEach [.Name x p2] X.env)).any (·.1) = false := by rfl) : LE X (.Call (.Name "isinstance" p) [e, .Name x p2] [] pos) (mIsI n m) := by
  have ht : LE X (.Name x p2) (mC (.ty n.name)) := le_c (pe_bltn (v := .ty n.name) hgx hx hb rfl hn hd) fun _ => by simp only [Rel]
  have key := le_blt (r' := rIsT n) (pos := pos) (p := p) (call_isi (X := X)) (by
    intro xs H ps h Q' Q rp s r l
    unfold rIsT at r
    split at r
    · rename_i q m
      obtain ⟨rfl, r⟩ := r
      obtain ⟨v, w, rfl, r1, r2⟩ := rp.two
      have ew : w = .ty n.name := by simpa only [Rel] using r2
      subst ew
      split at r
      · rename_i t et
        exact ⟨v, _, _, _, isI t n, rfl, .ty _, tn_ty r1 s et, kit_ty (isI_kit t n), l _ _ _ _ r .refl (rel_bl.mpr rfl) s⟩
      · exact r.elim
    · exact r.elim) hm (la_cons he (la_cons ht la_nil h2) h1) hg (h1 := h1) (h2 := h3)
  have same : mBlt (rIsT n) (mCons m (mCons (mC (.ty n.name)) mNil)) = mIsI n m := by
    funext τ h Q
    show (m τ h fun p h1 => rIsT n [p, .ty n.name] h1 Q) = m τ h fun p h1 => _
    congr 1
    funext p h1
    show (n.name = n.name ∧ _) = _
    simp
  rwa [same] at key
end

/-! ### all, any of truths; str of an int -/
def rAllB : PRA := fun ps h Q => match ps with
  | [p] => (match seqL h p with | some xs => ∃ bs : List Bool, xs = bs.map PV.bl ∧ Q (.bl (bs.all id)) h | none => False)
  | _ => False
def rAnyB : PRA := fun ps h Q => match ps with
  | [p] => (match seqL h p with | some xs => ∃ bs : List Bool, xs = bs.map PV.bl ∧ Q (.bl (bs.any id)) h | none => False)
  | _ => False
theorem rels_bls {K : PySem.W.Frag} {H : Hp} : ∀ {ns : List Bool} {xs : List V}, Rels K H (ns.map PV.bl) xs → xs = ns.map V.bl
  | [], _, r => r.len0
  | z :: zs, _, r => by
    obtain ⟨v, vs, rfl, r1, r2⟩ := r.uncons
    rw [rel_bl.mp r1, rels_bls r2]; rfl
theorem lf_all {K : PySem.W.Frag} : LfA K (rAll K) rAllB := by
  intro xs H ps h Q' Q rp s r l
  unfold rAllB at r
  split at r
  · split at r
    · rename_i e
      obtain ⟨v, rfl, r1⟩ := rp.one
      obtain ⟨a, ys, rfl, hq, rr⟩ := seqL_sq r1 s e
      obtain ⟨bs, rfl, r⟩ := r
      rw [rels_bls rr] at hq
      exact ⟨a, bs, rfl, hq, l _ _ _ _ r .refl (rel_bl.mpr rfl) s⟩
    · exact r.elim
  · exact r.elim
theorem lf_any {K : PySem.W.Frag} : LfA K (rAny K) rAnyB := by
  intro xs H ps h Q' Q rp s r l
  unfold rAnyB at r
  split at r
  · split at r
    · rename_i e
      obtain ⟨v, rfl, r1⟩ := rp.one
      obtain ⟨a, ys, rfl, hq, rr⟩ := seqL_sq r1 s e
      obtain ⟨bs, rfl, r⟩ := r
      rw [rels_bls rr] at hq
      exact ⟨a, bs, rfl, hq, l _ _ _ _ r .refl (rel_bl.mpr rfl) s⟩
    · exact r.elim
  · exact r.elim
def rStrI : PRA := fun ps h Q => match ps with
  | [.int i] => i.natAbs.log2 < 1920 ∧ Q (.str (toString i)) h
  | _ => False
theorem lf_strI {K : PySem.W.Frag} : LfA K (fun xs H Q => ∃ i, xs = [.int i] ∧ i.natAbs.log2 < 1920 ∧ Q (.str (toString i)) H) rStrI := by
  intro xs H ps h Q' Q rp s r l
  unfold rStrI at r
  split at r
  · obtain ⟨v, rfl, r1⟩ := rp.one
    have e := rel_int.mp r1
    subst e
    exact ⟨_, rfl, r.1, l _ _ _ _ r.2 .refl (rel_str.mpr rfl) s⟩
  · exact r.elim
def rIntO : PRA := fun ps h Q => match ps with
  | [.int i] => Q (.int i) h
  | [.bl b] => Q (.int (if b = true then 1 else 0)) h
  | _ => False
theorem lf_intO {K : PySem.W.Frag} : LfA K (fun xs H Q => (∃ i, xs = [.int i] ∧ Q (.int i) H) ∨ ∃ k, xs = [.bl k] ∧ Q (.int (if k then 1 else 0)) H) rIntO := by
  intro xs H ps h Q' Q rp s r l
  unfold rIntO at r
  split at r
  · obtain ⟨v, rfl, r1⟩ := rp.one
    rw [rel_int.mp r1]
    exact .inl ⟨_, rfl, l _ _ _ _ r .refl (rel_int.mpr rfl) s⟩
  · obtain ⟨v, rfl, r1⟩ := rp.one
    rw [rel_bl.mp r1]
    exact .inr ⟨_, rfl, l _ _ _ _ r .refl (rel_int.mpr rfl) s⟩
  · exact r.elim
section
variable {X : Cx} {pos p : Pos} {e : Expr} {m : MA}
theorem le_all (hc : X.calm = true) (hm : X.mg "all" = none) (ha : LAn X [e] 1 m) (hg : Gl X "all" := by rfl) (h1 : starEach [e] X.env = (false, eval e X.env) :: starEach [] X.env := by rfl) :
    LE X (.Call (.Name "all" p) [e] [] pos) (mBlt rAllB m) := le_blt (cr_all hc) lf_all hm ha hg (h1 := h1) (h2 := rfl)
theorem le_any (hc : X.calm = true) (hm : X.mg "any" = none) (ha : LAn X [e] 1 m) (hg : Gl X "any" := by rfl) (h1 : starEach [e] X.env = (false, eval e X.env) :: starEach [] X.env := by rfl) :
    LE X (.Call (.Name "any" p) [e] [] pos) (mBlt rAnyB m) := le_blt (cr_any hc) lf_any hm ha hg (h1 := h1) (h2 := rfl)
theorem le_strI (hm : X.mg "str" = none) (ha : LAn X [e] 1 m) (hg : Gl X "str" := by rfl) (h1 : starEach [e] X.env = (false, eval e X.env) :: starEach [] X.env := by rfl) :
    LE X (.Call (.Name "str" p) [e] [] pos) (mBlt rStrI m) := le_ty call_str_int lf_strI hm ha hg (h1 := h1) (h2 := rfl)
theorem le_intO (hm : X.mg "int" = none) (ha : LAn X [e] 1 m) (hg : Gl X "int" := by rfl) (h1 : starEach [e] X.env = (false, eval e X.env) :: starEach [] X.env := by rfl) :
    LE X (.Call (.Name "int" p) [e] [] pos) (mBlt rIntO m) := le_ty call_int1 lf_intO hm ha hg (h1 := h1) (h2 := rfl)
end

/-! ### < and its kin of ints and texts -/
def rCmp (f : Int → Int → Bool) (g : List Nat → List Nat → Bool) : PR2 := fun p q h Q => match p, q with
  | .int i, .int j => Q (.bl (f i j)) h
  | .str x, .str y => Q (.bl (g (cl x) (cl y))) h
  | _, _ => False
abbrev rLt : PR2 := rCmp (fun i j => decide (i < j)) fun x y => decide (x < y)
abbrev rLe : PR2 := rCmp (fun i j => decide (i ≤ j)) fun x y => !decide (y < x)
abbrev rGt : PR2 := rCmp (fun i j => decide (j < i)) fun x y => decide (y < x)
abbrev rGe : PR2 := rCmp (fun i j => decide (j ≤ i)) fun x y => !decide (x < y)
def oCmp (f : Int → Int → Bool) (g : Str → Str → Bool) : R2 := fun x y H Q => rI0 (fun i j => .bl (f i j)) x y H Q ∨ ∃ i j, x = .str i ∧ y = .str j ∧ Q (.bl (g i j)) H
theorem lf_cmp {K : PySem.W.Frag} {f : Int → Int → Bool} {g : List Nat → List Nat → Bool} : Lf2 K (oCmp f fun i j => g i.cps.toList j.cps.toList) (rCmp f g) := by
  intro x y H p q h Q' Q rp rq s r l
  unfold rCmp at r
  split at r
  · exact .inl ⟨_, _, rel_int.mp rp, rel_int.mp rq, l _ _ _ _ r .refl (rel_bl.mpr rfl) s⟩
  · exact .inr ⟨_, _, rel_str.mp rp, rel_str.mp rq, l _ _ _ _ r .refl (rel_bl.mpr rfl) s⟩
  · exact r.elim
theorem op_ltA {X : Cx} : OpR X (compareOp .Lt) (oCmp (fun i j => decide (i < j)) fun i j => decide (i.cps.toList < j.cps.toList)) := op_lt.or op_lt_str
theorem op_leA {X : Cx} : OpR X (compareOp .LtE) (oCmp (fun i j => decide (i ≤ j)) fun i j => !decide (j.cps.toList < i.cps.toList)) := op_le.or op_le_str
theorem op_gtA {X : Cx} : OpR X (compareOp .Gt) (oCmp (fun i j => decide (j < i)) fun i j => decide (j.cps.toList < i.cps.toList)) := op_gt.or op_gt_str
theorem op_geA {X : Cx} : OpR X (compareOp .GtE) (oCmp (fun i j => decide (j ≤ i)) fun i j => !decide (i.cps.toList < j.cps.toList)) := op_ge.or op_ge_str

/-! ### in, not in: a sign in a text, data in a list or tuple -/
def rInP (neg : Bool) : PR2 := fun p q h Q => match p, q with
  | .str x, .str y => ∃ c, x = S [c] ∧ Q (.bl (decide (c ∈ cl y) != neg)) h
  | p, q => (match listed h q with
    | some xs => flat (vw h p) = true ∧ flats xs = true ∧ PyData.depthAll (toDs xs) ≤ 64 ∧ Q (.bl ((toDs xs).any (fun d => PyData.eqv d (toD (vw h p))) != neg)) h
    | none => False)
theorem eq_fun (h : Heap) (e : PyData) : ∃ f : Value → Bool, ∀ (u : Value) (d : PyData) (as : List Addr), d.hasDict = false → Reads h u d as → f u = PyData.eqv d e := by
  classical
  refine ⟨fun u => if z : ∃ d as, PyData.hasDict d = false ∧ Reads h u d as then PyData.eqv (Classical.choose z) e else false, fun u d as hd r => ?_⟩
  have hex : ∃ d as, PyData.hasDict d = false ∧ Reads h u d as := ⟨d, as, hd, r⟩
  show (if z : _ then _ else _) = _
  rw [dif_pos hex]
  obtain ⟨as', q1, q2⟩ := Classical.choose_spec hex
  rw [one_reading _ _ _ _ _ q1 hd q2 r]
theorem all_eqv {A : Around} {s : Shared} {v : Value} {e : PyData} {bs : List Addr} (re : Reads s.heap v e bs) (he : e.hasDict = false) (hu : A.units + 64 < cLine) {f : Value → Bool} (hf : ∀ (u : Value) (d : PyData) (as : List Addr), d.hasDict = false → Reads s.heap u d as → f u = PyData.eqv d e) :
    ∀ (ds : List PyData) (us : List Value) (as : List Addr), ReadsAll s.heap us ds as → PyData.hasDictAll ds = false → PyData.depthAll ds ≤ 64 → (∀ u ∈ us, SeqAt.EqAt A s u v (f u)) ∧ us.any f = ds.any fun d => PyData.eqv d e
  | [], _, _, r, _, _ => by cases r; exact ⟨fun _ h => (List.not_mem_nil h).elim, rfl⟩
  | d :: ds, _, _, r, hd, hz => by
    cases r with
    | @cons u us _ _ as1 as2 r1 r2 =>
      simp only [PyData.hasDictAll, Bool.or_eq_false_iff] at hd
      simp only [PyData.depthAll] at hz
      have z1 := Nat.le_max_left d.depth (PyData.depthAll ds)
      have z2 := Nat.le_max_right d.depth (PyData.depthAll ds)
      obtain ⟨i1, i2⟩ := all_eqv re he hu hf ds us as2 r2 hd.2 (by omega)
      refine ⟨fun w hw => ?_, by rw [List.any_cons, List.any_cons, hf u d _ hd.1 r1, i2]⟩
      rcases List.mem_cons.mp hw with e1 | hw
      · subst e1
        rw [hf w d _ hd.1 r1]
        exact eqR d e A s w v _ _ (by omega) r1 hd.1 re he
      · exact i1 w hw
theorem any_eqv {A : Around} {s : Shared} {v : Value} {e : PyData} {bs : List Addr} (re : Reads s.heap v e bs) (he : e.hasDict = false) (hu : A.units + 64 < cLine) (ds : List PyData) (us : List Value) (as : List Addr) (r : ReadsAll s.heap us ds as) (hd : PyData.hasDictAll ds = false) (hz : PyData.depthAll ds ≤ 64) :
    ∃ f : Value → Bool, (∀ u ∈ us, SeqAt.EqAt A s u v (f u)) ∧ us.any f = ds.any fun d => PyData.eqv d e := by
  obtain ⟨f, hf⟩ := eq_fun s.heap e
  exact ⟨f, all_eqv re he hu hf ds us as r hd hz⟩
def oIn (K : PySem.W.Frag) (neg : Bool) : R2 := fun x y H Q => (∃ c z, x = .str (S [c]) ∧ y = .str z ∧ Q (.bl (decide (c ∈ cl z) != neg)) H) ∨
  ∃ a ys d ds, y = .ref a ∧ (SqL K H a ys ∨ SqT K H a ys) ∧ Dp K H x d ∧ DpAll K H ys ds ∧ d.hasDict = false ∧ PyData.hasDictAll ds = false ∧ PyData.depthAll ds ≤ 64 ∧ Q (.bl (ds.any (fun e => PyData.eqv e d) != neg)) H
theorem op_inA {X : Cx} (hu : X.A.units + 65 < cLine) : OpR X (compareOp .In) (oIn X.K false) := by
  intro pins s σ H x y v u Q I rx ry h
  rcases h with ⟨c, z, rfl, rfl, q⟩ | ⟨a, ys, d, ds, rfl, hq, hd, hds, nd, nds, hz, q⟩
  · exact op_in_sign pins s σ H _ _ v u Q I rx ry ⟨c, z, rfl, rfl, by simpa [cl] using q⟩
  · cases ry
    obtain ⟨as, r1⟩ := Dp.reads I d x v hd rx
    rcases hq with hq | hq
    · obtain ⟨its, rv, pl, _⟩ := I.list hq
      obtain ⟨bs, r2⟩ := Dp.readsAll I ds ys its hds rv
      obtain ⟨f, f1, f2⟩ := any_eqv (A := X.A.in1) r1 nd (by show X.A.units + 1 + 64 < cLine; omega) ds its bs r2 nds hz
      refine SeqAt.in_listAt f pl.isList (fun w hw => f1 w (by simpa using hw)) ⟨.bl _, H, I, rfl, ?_⟩
      rw [show its.toArray.any f = its.any f by simp, f2]; simpa using q
    · obtain ⟨its, rv, pl, _⟩ := I.tuple hq
      obtain ⟨bs, r2⟩ := Dp.readsAll I ds ys its hds rv
      obtain ⟨f, f1, f2⟩ := any_eqv (A := X.A.in1) r1 nd (by show X.A.units + 1 + 64 < cLine; omega) ds its bs r2 nds hz
      refine SeqAt.in_tupleAt f pl (fun w hw => f1 w (by simpa using hw)) ⟨.bl _, H, I, rfl, ?_⟩
      rw [show its.toArray.any f = its.any f by simp, f2]; simpa using q
theorem op_notInA {X : Cx} (hu : X.A.units + 65 < cLine) : OpR X (compareOp .NotIn) (oIn X.K true) := by
  intro pins s σ H x y v u Q I rx ry h
  rcases h with ⟨c, z, rfl, rfl, q⟩ | ⟨a, ys, d, ds, rfl, hq, hd, hds, nd, nds, hz, q⟩
  · exact op_notIn_sign pins s σ H _ _ v u Q I rx ry ⟨c, z, rfl, rfl, by simpa [cl] using q⟩
  · cases ry
    obtain ⟨as, r1⟩ := Dp.reads I d x v hd rx
    rcases hq with hq | hq
    · obtain ⟨its, rv, pl, _⟩ := I.list hq
      obtain ⟨bs, r2⟩ := Dp.readsAll I ds ys its hds rv
      obtain ⟨f, f1, f2⟩ := any_eqv (A := X.A.in1) r1 nd (by show X.A.units + 1 + 64 < cLine; omega) ds its bs r2 nds hz
      refine SeqAt.notIn_listAt f pl.isList (fun w hw => f1 w (by simpa using hw)) ⟨.bl _, H, I, rfl, ?_⟩
      rw [show its.toArray.any f = its.any f by simp, f2]; simpa using q
    · obtain ⟨its, rv, pl, _⟩ := I.tuple hq
      obtain ⟨bs, r2⟩ := Dp.readsAll I ds ys its hds rv
      obtain ⟨f, f1, f2⟩ := any_eqv (A := X.A.in1) r1 nd (by show X.A.units + 1 + 64 < cLine; omega) ds its bs r2 nds hz
      refine SeqAt.notIn_tupleAt f pl (fun w hw => f1 w (by simpa using hw)) ⟨.bl _, H, I, rfl, ?_⟩
      rw [show its.toArray.any f = its.any f by simp, f2]; simpa using q
theorem lf_in {K : PySem.W.Frag} {neg : Bool} : Lf2 K (oIn K neg) (rInP neg) := by
  intro x y H p q h Q' Q rp rq s r l
  unfold rInP at r
  split at r
  · obtain ⟨c, rfl, r⟩ := r
    exact .inl ⟨c, _, rel_str.mp rp, rel_str.mp rq, l _ _ _ _ r .refl (rel_bl.mpr rfl) s⟩
  · split at r
    · rename_i xs e
      obtain ⟨f1, f2, hz, r⟩ := r
      obtain ⟨a, ys, ey, hq, rr⟩ := listed_sq rq s e
      exact .inr ⟨a, ys, _, _, ey, hq, vw_dp f1 rp s, Rels.dp xs ys f2 rr, noDict _ f1, noDicts xs f2, hz, l _ _ _ _ r .refl (rel_bl.mpr rfl) s⟩
    · exact r.elim

/-! ### dict displays, kept; the empty one -/
def mDisp (l : List (ME × ME)) : ME := fun τ h Q => mPs l τ h fun kvs h1 => (kvs.map (·.1)).Nodup ∧ Q (.dct (kvs.map (·.1)) (kvs.map (·.2))) h1
def mDct0 : ME := fun _ h Q => Q (.dct [] []) h
def mDct0M : ME := fun _ h Q => ∀ a, h a = none → Q (.ref a) (up h a (.dct [] []))
section
variable {X : Cx} {pos : Pos} {ks : List (Option Expr)} {vs : List Expr} {n : Nat} {l : List (ME × ME)}
theorem le_disp (h : LPs X pos ks vs n l) (hn : n ≤ 15 := by decide) (hall : ks.all (·.isSome) = true := by rfl) (hl : ks.length = vs.length := by rfl) (h0 : ks ≠ [] := by simp) (h15 : ks.length ≤ 15 := by decide) : LE X (.Dict ks vs pos) (mDisp l) := by
  obtain ⟨trs, h1, h2⟩ := h.ex
  refine PE.weak (PE.kp (pe_disp h1 hall hl h0 h15)) fun σ H Q ⟨τ, h, Q', s, sh, q, lq⟩ => ?_
  intro p hp
  have hp0 : h p = none := sh.fresh hp
  have g0 : Go H h (upd H p (.dK [])) h := .new hp
  refine h2 σ _ τ h _ _ (s.mono g0.mono) (sh.new hp) q fun xs h1 ps H1 q1 hl1 g1 rp s1 => ?_
  obtain ⟨nd, q1⟩ := q1
  have hH : H1 p = some (.dK []) := g1.frame p _ upd_same hp0
  have hd : h1 p = none := g1.dom p _ upd_same hp0
  obtain ⟨kvs, e1, e2, rr⟩ := rp.pairs
  have el : kvs.length = xs.length := by
    have := congrArg List.length e2
    rw [List.length_map, List.length_map] at this
    exact this.symm
  refine ⟨hH, kvs, e1, by rw [el, hl1]; exact hn, ?_⟩
  have em : mergeK [] kvs = kvs := by
    have := merge_nd kvs [] (by rw [List.nil_append, ← e2]; exact nd)
    rwa [List.nil_append] at this
  rw [em]
  refine .inr ⟨p, _, rfl, upd_same, trivial, fun o => ?_⟩
  rw [upd_upd]
  have mm : Mono H1 (upd H1 p (.frz o (.dK kvs))) := Mono.dK hH
  exact lq _ _ _ _ q1 ((g0.trans g1).renew hp mm) (rel_dct.mpr ⟨p, kvs, rfl, ⟨o, upd_same⟩, e2, rr.mono mm⟩) (s1.drop mm hd)
theorem le_dct0 : LE X (.Dict [] [] pos) mDct0 :=
  PE.weak (PE.kp pe_dnewK) fun σ H Q ⟨τ, h, Q', s, sh, q, l⟩ => fun p hp => keep_d (kvs := []) l sh rfl .nil q hp
theorem le_dct0M : LE X (.Dict [] [] pos) mDct0M :=
  PE.weak (PE.kp pe_dnewK) fun σ H Q ⟨τ, h, Q', s, sh, q, l⟩ => fun p hp => make_d (kvs := []) l sh rfl .nil q hp
/-- a, b, c = x, y, z with plain local names -/
def mPar3 (i j k : Nat) (m : MA) : MS := fun D τ h => m τ h fun ps h1 => match ps with | [p, q, r] => D.nx (st (st (st τ i (some p)) j (some q)) k (some r)) h1 | _ => False
theorem ls_par3 {i j k : Nat} {x y z : Str} {a b c : Expr} {ta : MA} {px py pz pt : Pos} {kt k2 pt2} (hc : X.calm = true) (hN : X.N.Nodup) (ha : LAn X [a, b, c] 3 ta) (hi : X.N[i]? = some x := by rfl) (hj : X.N[j]? = some y := by rfl) (hk : X.N[k]? = some z := by rfl)
    (hij : i ≠ j := by decide) (hik : i ≠ k := by decide) (hjk : j ≠ k := by decide)
    (hx : X.env.scope.names.lookup x = some .local := by rfl) (hy : X.env.scope.names.lookup y = some .local := by rfl) (hz : X.env.scope.names.lookup z = some .local := by rfl)
    (hw : swappedStores [.Tuple [.Name x px, .Name y py, .Name z pz] kt pt] (.Tuple [a, b, c] k2 pt2) X.env = pure (some [x, y, z]) := by rfl)
    (hs : swapsWithSole [.Tuple [.Name x px, .Name y py, .Name z pz] kt pt] (.Tuple [a, b, c] k2 pt2) pos.line X.env = pure false := by rfl) :
    LS X (.Assign [.Tuple [.Name x px, .Name y py, .Name z pz] kt pt] (.Tuple [a, b, c] k2 pt2) pos) (mPar3 i j k ta) := by
  refine PS.weak (ps_par3 hc hN hi hj hk hij hik hjk hx hy hz ha hw hs) fun D σ H ⟨τ, h, D', s, sh, q, l⟩ => ?_
  refine ⟨τ, h, _, s, sh, q, fun ps h1 vs H1 q1 hl m1 r s1 => ?_⟩
  match ps, hl, q1, r with
  | [p, q, r'], _, q1, r =>
    obtain ⟨v, ws, rfl, r1, r2⟩ := r.uncons
    obtain ⟨w1, w2, rfl, r3, r4⟩ := r2.two
    exact ⟨v, w1, w2, rfl, l.nx _ _ _ _ q1 m1 ((((s.mono m1.mono).set r1).set r3).set r4) s1⟩
end
end N3

/-! op= on names; list.extend, insert, pop of a place; sorted -/
namespace N3
open PySem PySem.Spec PyProof.Rows L2

/-! ### name += e -/
theorem no_tuple_iadd : typeLookup (.type "tuple") (dunderI "add") = pure none := by rw [typeLookup_type, builtinLookup_eq_fast]; kernel_rfl
theorem icat_any {prog : Program} {w : World} {A : Around} {E : Value → Shared → Prop} {s : Shared} {t b : Addr} {vs ws : List Value} {Q : Value → Shared → Prop} (ht : IsTup s.heap t vs.toArray) (hb : IsTup s.heap b ws.toArray)
    (h0 : vs = [] → Q (.ref b) s) (h1 : vs ≠ [] → ws = [] → Q (.ref t) s) (h2 : vs ≠ [] → ws ≠ [] → Q (.ref s.heap.objs.size) { s with heap := s.heap.push { cls := .type "tuple", data := .seq (vs ++ ws).toArray } }) (hz : vs.length + ws.length ≤ sizeLine) :
    wpAny (model prog w) A (inplaceOp .Add (.ref t) (.ref b)) Q E s := by
  obtain ⟨⟨c1, d1, x1, sl1⟩, ho, hc, n1, hd⟩ := id ht
  obtain ⟨⟨c2, d2, x2, sl2⟩, ho2, hc2, n2, hd2⟩ := id hb
  simp only at hc hd hc2 hd2
  subst hc; subst hd; subst hc2; subst hd2
  have go : ∀ {S : PySem.Spec}, Meets (Builtin.«tuple.__add__» ⟨[.ref t, .ref b], []⟩) S → S A (wants Q E) s → wpAny (model prog w) A (inplaceOp .Add (.ref t) (.ref b)) Q E s := fun {S} g k =>
    wpAny_inplaceOp_concat ⟨_, ho, rfl⟩ ⟨_, ho2, rfl⟩ no_tuple_iadd noFill_tuple_add seq_tuple_add (call_meets PySem.F.slot_tuple_add ⟨_, ho, rfl⟩ PySem.F.entry_tuple_add (PySem.F.args_tuple_add_2 _ _) g k)
  by_cases hv : vs = []
  · subst hv
    exact go (tuple_addW0 t b ([] : List Value).toArray ws.toArray n1 n2 d1 d2 sl1 sl2 (by simp)) ⟨ho, ho2, h0 rfl⟩
  by_cases hw : ws = []
  · subst hw
    exact go (tuple_addW1 t b vs.toArray ([] : List Value).toArray n1 n2 d1 d2 sl1 sl2 (by simpa using hv) (by simp)) ⟨ho, ho2, h1 hv rfl⟩
  · refine go (tuple_addW2 t b vs.toArray ws.toArray n1 n2 d1 d2 sl1 sl2 (by simpa using hv) (by simpa using hw) (by rw [List.size_toArray, List.size_toArray]; exact hz)) ⟨ho, ho2, ?_⟩
    have e : vs.toArray ++ ws.toArray = (vs ++ ws).toArray := by simp
    rw [e]; exact h2 hv hw
theorem iop_catA {X : Cx} : OpR X (inplaceOp .Add) (rCatA X.K) := by
  intro pins s σ H x y v u Q I rx ry h
  obtain ⟨a, b, xs, ys, rfl, rfl, ha, hb, hz, q0, q1, q2⟩ := h
  cases rx; cases ry
  obtain ⟨its, r1, p1, _⟩ := I.tuple ha
  obtain ⟨its2, r2, p2, _⟩ := I.tuple hb
  refine icat_any p1 p2 (fun z => ⟨.ref b, H, I, rfl, q0 (r1.nil_iff.mp z)⟩) (fun z z' => ⟨.ref a, H, I, rfl, q1 (fun k => z (r1.nil_iff.mpr k)) (r2.nil_iff.mp z')⟩) (fun z z' => ?_) (by rw [← r1.length, ← r2.length]; exact hz)
  have I2 := I.laid (t' := s.toks) (o := .tup (xs ++ ys)) (fun c o q => Heap.get?_push_of_some { cls := .type "tuple", data := .seq (its ++ its2).toArray } q) (Nat.le_refl _) ⟨by rw [List.length_append]; exact hz, _, r1.append r2, IsTup.new _ _⟩
  exact ⟨.ref s.heap.objs.size, _, I2, rfl, q2 (fun k => z (r1.nil_iff.mpr k)) (fun k => z' (r2.nil_iff.mpr k)) _ (I.hok.fresh (Nat.le_refl _))⟩
def rIAdd : PR2 := fun p q h Q => match p, q with
  | .int i, .int j => Q (.int (i + j)) h
  | .str x, .str y => x.length + y.length ≤ SZ ∧ Q (.str (x ++ y)) h
  | .tup xs, .tup ys => xs.length + ys.length ≤ SZ ∧ Q (.tup (xs ++ ys)) h
  | _, _ => False
def oIAdd (K : PySem.W.Frag) : R2 := fun x y H Q => ((∃ i j, x = .int i ∧ y = .int j ∧ Q (.int (i + j)) H) ∨ (∃ i j, x = .str i ∧ y = .str j ∧ i.length + j.length ≤ sizeLine ∧ Q (.str (i ++ j)) H)) ∨ rCatA K x y H Q
theorem iop_addA {X : Cx} : OpR X (inplaceOp .Add) (oIAdd X.K) := (iop_add.or iop_add_str).or iop_catA
theorem lf_iadd {K : PySem.W.Frag} : Lf2 K (oIAdd K) rIAdd := by
  intro x y H p q h Q' Q rp rq s r l
  unfold rIAdd at r
  split at r
  · exact .inl (.inl ⟨_, _, rel_int.mp rp, rel_int.mp rq, l _ _ _ _ r .refl (rel_int.mpr rfl) s⟩)
  · exact .inl (.inr ⟨_, _, rel_str.mp rp, rel_str.mp rq, sz_le r.1, l _ _ _ _ r.2 .refl (rel_str.mpr rfl) s⟩)
  · rename_i ps qs
    obtain ⟨a, xs, e1, h1, r1⟩ := rel_tup.mp rp
    obtain ⟨b, ys, e2, h2, r2⟩ := rel_tup.mp rq
    obtain ⟨hz, r⟩ := r
    refine .inr ⟨a, b, xs, ys, e1, e2, h1, h2, by rw [← r1.length, ← r2.length]; exact sz_le hz, fun e => ?_, fun e e' => ?_, fun e e' c hc => make_t l s (r1.append r2) r hc⟩
    · have e3 : ps = [] := List.length_eq_zero_iff.mp (by rw [r1.length, e]; rfl)
      rw [e3, List.nil_append] at r
      exact l _ _ _ _ r .refl (rel_tup.mpr ⟨b, ys, rfl, h2, r2⟩) s
    · have e3 : qs = [] := List.length_eq_zero_iff.mp (by rw [r2.length, e']; rfl)
      rw [e3, List.append_nil] at r
      exact l _ _ _ _ r .refl (rel_tup.mpr ⟨a, xs, rfl, h1, r1⟩) s
  · exact r.elim
def mAug (i : Nat) (m : ME) : MS := fun D τ h => match gt τ i with
  | some p => m τ h fun q h1 => rIAdd p q h1 fun z h2 => D.nx (st τ i (some z)) h2
  | none => False
theorem ls_aug {X : Cx} {pos : Pos} {i : Nat} {x : Str} {e : Expr} {m : ME} {pos' : Pos} (hN : X.N.Nodup) (he : LE X e m) (hi : X.N[i]? = some x := by rfl) (hx : Loc X.env.scope x := by first | exact Or.inl rfl | exact Or.inr rfl)
    (hf : X.fn x = true ∨ X.env.scope.names.lookup x = some .local := by first | exact .inl rfl | exact .inr rfl | assumption) : LS X (.AugAssign (.Name x pos') .Add e pos) (mAug i m) := by
  refine PS.weak (ps_aug hN hi hx he iop_addA hf) fun D σ H ⟨τ, h, D', s, sh, q, l⟩ => ?_
  unfold mAug at q
  split at q
  · rename_i p ep
    obtain ⟨v, ev, rv⟩ := s.get ep
    refine ⟨v, ev, τ, h, _, s, sh, q, fun q1 h1 y H1 q2 g1 r1 s1 => ?_⟩
    refine lf_iadd v y H1 p q1 h1 _ _ (rv.mono g1.mono) r1 s1 q2 fun z h2 zv H2 q3 g2 r2 s2 => ?_
    exact l.nx _ _ _ _ q3 (g1.trans g2) (((s.mono g1.mono).mono g2.mono).set r2) s2
  · exact q.elim

/-! ### sorted -/
open PySem.W in
/-- what is sorted: data, all alike -/
structure Srtb (bs : List PyData) : Prop where
  al : AllAlike bs
  so : Sortable bs
  nd : ∀ b ∈ bs, b.hasDict = false
  dp : ∀ b ∈ bs, b.depth ≤ 60
theorem dp_each {K : PySem.W.Frag} {H : Hp} {X : Cx} {pins : List (Addr × Obj)} {σ : L2.St} {s : Shared} (I : Inv X pins σ H s) (hK : K = X.K) : ∀ {bs : List (V × PyData)} {its : List Value}, (∀ b ∈ bs, Dp K H b.1 b.2) → Vals (bs.map Prod.fst) its →
    PySem.W.EachIs (fun u b => RelV b.1 u) its bs ∧ PySem.W.EachIs (fun u (b : V × PyData) => ∃ as, Reads s.heap u b.2 as) its bs
  | [], its, _, r => by
    have : its = [] := by cases r; rfl
    subst this
    exact ⟨.nil, .nil⟩
  | b :: bs, its, h, r => by
    cases r with
    | cons r1 r2 =>
      obtain ⟨e1, e2⟩ := dp_each I hK (fun c hc => h c (List.mem_cons_of_mem _ hc)) r2
      refine ⟨.cons r1 e1, .cons ?_ e2⟩
      have := h b List.mem_cons_self
      subst hK
      exact Dp.reads I b.2 b.1 _ this r1
theorem vals_each : ∀ {bs : List (V × PyData)} {its : List Value}, PySem.W.EachIs (fun u b => RelV b.1 u) its bs → Vals (bs.map Prod.fst) its
  | _, _, .nil => .nil
  | _, _, .cons h t => .cons h (vals_each t)
def oSort (K : PySem.W.Frag) : List V → Hp → VK → Prop := fun vs H Q => ∃ (a : Addr) (bs : List (V × PyData)), vs = [.ref a] ∧ SqL K H a (bs.map Prod.fst) ∧ (∀ b ∈ bs, Dp K H b.1 b.2) ∧ Srtb (bs.map Prod.snd) ∧
  ∀ l, H l = none → Q (.ref l) (upd H l (.lst ((bs.mergeSort (PySem.W.dataLe false Prod.snd)).map Prod.fst)))
theorem cr_sort {X : Cx} (hu : X.A.units + 66 < cLine) : CallR X (.builtin "sorted") (oSort X.K) := by
  intro pins s σ H vs us Q I r h
  obtain ⟨a, bs, rfl, ha, hd, st, q⟩ := h
  obtain ⟨u, rfl, ru⟩ := vals1 r
  cases ru
  obtain ⟨its, rv, pl, hz⟩ := I.list ha
  obtain ⟨e1, e2⟩ := dp_each I rfl hd rv
  rw [List.length_map] at hz
  refine PySem.W.sorted_data (bs := bs) (enc := Prod.snd) pl.isList e1 e2 st.al st.so hz (fun b hb => ?_) fun out hl eo => ?_
  · have := st.dp b.2 (List.mem_map_of_mem hb)
    omega
  · obtain ⟨c, hc⟩ := sortedAll_at s.heap its out.toArray
    have I2 := I.laid (t' := s.toks) (h' := sortedAll s.heap its out.toArray) (a := s.heap.objs.size + 1) (o := .lst ((bs.mergeSort (PySem.W.dataLe false Prod.snd)).map Prod.fst)) (fun _ _ => sortedAll_old) (Nat.le_succ _)
      ⟨by rw [List.length_map, List.length_mergeSort]; exact hz, out, c, vals_each eo, hc⟩
    exact ⟨.ref (s.heap.objs.size + 1), _, I2, rfl, q _ (I.hok.fresh (Nat.le_succ _))⟩
/-- sorted(xs): data, all alike, rising -/
def rSort : PRA := fun ps h Q => match ps with
  | [p] => (match seqL h p with | some xs => flats xs = true ∧ Srtb (xs.map toD) ∧ Q (.lst (xs.mergeSort (PySem.W.dataLe false toD))) h | none => False)
  | _ => False
theorem dps_zip {K : PySem.W.Frag} {H : Hp} : ∀ {ps : List PV} {xs : List V}, flats ps = true → Rels K H ps xs → ∀ b ∈ xs.zip (ps.map toD), Dp K H b.1 b.2
  | [], xs, _, r, b, hb => by rw [Rels.nil_iff] at r; subst r; exact (List.not_mem_nil hb).elim
  | p :: ps, xs, f, r, b, hb => by
    obtain ⟨v, vs, rfl, r1, r2⟩ := r.uncons
    have f' : (flat p && flats ps) = true := f
    rw [Bool.and_eq_true] at f'
    rw [List.map_cons, List.zip_cons_cons] at hb
    rcases List.mem_cons.mp hb with rfl | hb
    · exact Rel.dp p v f'.1 r1
    · exact dps_zip f'.2 r2 b hb
theorem rels_zip {K : PySem.W.Frag} {H : Hp} : ∀ {l : List (PV × V)}, (∀ x ∈ l, Rel K H x.1 x.2) → Rels K H (l.map Prod.fst) (l.map Prod.snd)
  | [], _ => .nil
  | x :: l, h => .cons (h x List.mem_cons_self) (rels_zip fun y hy => h y (List.mem_cons_of_mem _ hy))
theorem rels_pairs {K : PySem.W.Frag} {H : Hp} : ∀ {ps : List PV} {xs : List V}, Rels K H ps xs → ∀ x ∈ ps.zip xs, Rel K H x.1 x.2
  | [], _, _, x, hx => by simp at hx
  | p :: ps, xs, r, x, hx => by
    obtain ⟨v, vs, rfl, r1, r2⟩ := r.uncons
    rw [List.zip_cons_cons] at hx
    rcases List.mem_cons.mp hx with rfl | hx
    · exact r1
    · exact rels_pairs r2 x hx
theorem rels_sort {K : PySem.W.Frag} {H : Hp} {ps : List PV} {xs : List V} (r : Rels K H ps xs) : Rels K H (ps.mergeSort (PySem.W.dataLe false toD)) (((xs.zip (ps.map toD)).mergeSort (PySem.W.dataLe false Prod.snd)).map Prod.fst) := by
  have hl := r.length
  -- both are pictures of the sorted pairs
  let l := ps.zip xs
  have e1 : (l.mergeSort (PySem.W.dataLe false fun x => toD x.1)).map Prod.fst = ps.mergeSort (PySem.W.dataLe false toD) := by
    have z := PySem.W.sort_maps (r := PySem.W.dataLe false fun x : PV × V => toD x.1) (s := PySem.W.dataLe false toD) Prod.fst (l := l) (fun _ _ _ _ => rfl)
    rw [z, List.map_fst_zip (by omega)]
  have e2 : (l.mergeSort (PySem.W.dataLe false fun x => toD x.1)).map (fun x => (x.2, toD x.1)) = (xs.zip (ps.map toD)).mergeSort (PySem.W.dataLe false Prod.snd) := by
    have z := PySem.W.sort_maps (r := PySem.W.dataLe false fun x : PV × V => toD x.1) (s := PySem.W.dataLe false (Prod.snd : V × PyData → PyData)) (fun x : PV × V => (x.2, toD x.1)) (l := l) (fun _ _ _ _ => rfl)
    rw [z]
    congr 1
    show (ps.zip xs).map _ = _
    clear e1 z l
    induction ps generalizing xs with
    | nil => rw [Rels.nil_iff] at r; subst r; rfl
    | cons p ps ih =>
      obtain ⟨v, vs, rfl, r1, r2⟩ := r.uncons
      rw [List.zip_cons_cons, List.map_cons, List.map_cons, List.zip_cons_cons, ih r2 r2.length]
  rw [← e1, ← e2, List.map_map]
  exact rels_zip fun x hx => rels_pairs r x (List.mem_mergeSort.mp hx)
theorem kf_sort {K : PySem.W.Frag} : KfA K (oSort K) rSort := by
  intro xs H ps h Q' Q rp s r l
  unfold rSort at r
  split at r
  · split at r
    · rename_i p _ qs e
      obtain ⟨v, rfl, r1⟩ := rp.one
      obtain ⟨a, ys, rfl, hq, rr⟩ := seqL_sq r1 s e
      obtain ⟨f, st, r⟩ := r
      have hl := rr.length
      refine ⟨a, ys.zip (qs.map toD), rfl, by rw [List.map_fst_zip (by rw [List.length_map]; omega)]; exact hq, dps_zip f rr, by rw [List.map_snd_zip (by rw [List.length_map]; omega)]; exact st, fun c hc => keep_l l s (rels_sort rr) r hc⟩
    · exact r.elim
  · exact r.elim
theorem le_sort {X : Cx} {pos p : Pos} {e : Expr} {m : MA} (hu : X.A.units + 66 < cLine) (hm : X.mg "sorted" = none) (ha : LAn X [e] 1 m) (hg : Gl X "sorted" := by rfl) (h1 : starEach [e] X.env = (false, eval e X.env) :: starEach [] X.env := by rfl) :
    LE X (.Call (.Name "sorted" p) [e] [] pos) (mBlt rSort m) := le_bltK (cr_sort hu) kf_sort hm ha hg (h1 := h1) (h2 := rfl)
end N3

/-! list.extend, insert, pop of a place; min, max of two ints; dict of pairs; int of a text; f-strings; split -/
namespace N3
open PySem PySem.Spec PyProof.Rows L2

theorem extend_any (l : Addr) (xs : Array Value) (n : Nat) (b : Addr) (ys : Array Value) (n2 : Nat) (sl : Array (Option Value)) (hl : ¬(!xs.isEmpty && Builtin.List.listTooLong (xs.size + ys.size)) = true) (h1 : xs.size ≤ sizeLine) (h2 : xs.size + ys.size ≤ sizeLine + 1) :
    Meets (Builtin.«list.extend» ⟨[.ref l, .ref b], []⟩) (fun _ R s => s.heap.get? l = some { cls := .type "list", dict := none, data := .seq xs n, slots := #[] } ∧ s.heap.get? b = some { cls := .type "list", dict := none, data := .seq ys n2, slots := sl } ∧ R (.ok (.ret Value.none)) { s with heap := s.heap.update l (Obj.mapSeq fun x => x ++ ys), toks := s.toks }) :=
  .of_wp fun prog w A R s h => by
    obtain ⟨hp, g, d, tk, os⟩ := s; obtain ⟨ha, hb, h⟩ := h; have f1 := AutoSeq1.idx_int; have f2 := AutoSeq1.sub_tuple_tuple; have f3 := AutoSeq1.sub_list_list; have f4 := AutoSeq1.sub_tuple_list; have f5 := AutoSeq1.sub_list_tuple
    have hz : (xs ++ ys).size ≤ sizeLine + 1 := by rw [Array.size_append]; exact h2
    wp_walk using (wpAny_updateSeq ha rfl (hz := h1) (_hz' := hz)), AutoSeq1.wpAny_loadPart' ha, AutoSeq1.wpAny_loadPart' hb; exact ⟨_, rfl, h⟩
def oExtend (K : PySem.W.Frag) : V → List V → Hp → VK → Prop := fun x vs H Q => ∃ l b xs zs, x = .ref l ∧ vs = [.ref b] ∧ H l = some (.lst xs) ∧ SqL K H b zs ∧ xs.length + zs.length ≤ sizeLine ∧ Q .non (upd H l (.lst (xs ++ zs)))
theorem mt_extendA {X : Cx} : MtR X "list.extend" (oExtend X.K) := by
  intro pins s σ H x vs v us Q I rx rv h
  obtain ⟨l, b, xs, zs, rfl, rfl, hH, hB, hz, q⟩ := h
  cases rx
  obtain ⟨u, rfl, ru⟩ := rv.one
  cases ru
  obtain ⟨z, its, n, r, hl, e⟩ := I.lstM hH
  obtain ⟨its2, r2, ⟨⟨c2, d2, x2, sl2⟩, n2, e2, k1, k2, k3⟩, hz2⟩ := I.list hB
  simp only at k1 k2 k3
  subst k1; subst k2; subst k3
  have hl2 := r2.length
  have hsz : its.toArray.size + its2.toArray.size ≤ sizeLine := by rw [List.size_toArray, List.size_toArray]; omega
  have hlong : ¬ (!its.toArray.isEmpty && Builtin.List.listTooLong (its.toArray.size + its2.toArray.size)) = true := by
    rw [notLongL hsz, Bool.and_false]; simp
  refine call_meets PySem.F.slot_list_extend ⟨_, e, rfl⟩ PySem.F.entry_list_extend (PySem.F.args_list_extend_2 _ _) (extend_any l its.toArray n b its2.toArray n2 sl2 hlong (by rw [List.size_toArray]; omega) (by omega)) ⟨e, e2, ?_⟩
  exact ⟨.non, _, I.lset (its' := its ++ its2) hH e (by simp) (r.append r2) (by rw [List.length_append]; omega), rfl, q⟩
section
variable {X : Cx} {o e f : Expr} {es : List Expr} {n : Nat} {mo me : ME} {m : MA} {apos cpos pos p : Pos}
/-- xs.extend(ys): ys a list -/
def mExtend (mo : ME) (m : MA) : ME := fun τ h Q => mo τ h fun p h1 => listAt h1 p ∧ m τ h1 fun ps h2 => match p, ps with
  | .ref a, [q] => (match h2 a, seqL h2 q with | some (.lst xs), some ys => xs.length + ys.length ≤ SZ ∧ Q .non (up h2 a (.lst (xs ++ ys))) | _, _ => False)
  | _, _ => False
theorem le_extend (ho : LE X o mo) (he : LAn X [e] 1 m) (hbase : attributeBase o "extend" X.env (eval o X.env) = eval o X.env := by rfl)
    (hfew : ((backTo cpos (starEach [e] X.env)).all (fun x => !x.1) && (backToKw cpos (keywordEach [] X.env)).all (fun x => x.1.isSome) && decide (([e] : List Expr).length + ([] : List Keyword).length + (if ([] : List Keyword).isEmpty then 0 else 1) < 30)) = true := by rfl)
    (hline : (apos.endLine == cpos.line) = true := by rfl) (hs : starEach [e] X.env = (false, eval e X.env) :: starEach [] X.env := by rfl) :
    LE X (.Call (.Attribute o "extend" apos) [e] [] cpos) (mExtend mo m) := by
  refine PE.weak (pe_bm PySem.F.plainAttrs_list PySem.F.slot_list_extend PySem.F.type_list_extend mt_extendA ho he hbase hfew hline hs rfl) fun σ H Q ⟨τ, h, Q', s, sh, q, l⟩ => ?_
  refine ⟨τ, h, _, s, sh, q, fun p h1 v H1 q1 g1 r1 s1 => ⟨ty_list r1 s1 q1.1, ?_⟩⟩
  refine ⟨τ, h1, _, s.mono g1.mono, s1, q1.2, ?_⟩
  rintro ps h2 vs H2 q2 _ g2 rr s2
  split at q2
  · rename_i a q _
    obtain ⟨y, rfl, ry⟩ := rr.one
    split at q2
    · rename_i xs ys e2 e4
      obtain ⟨u, e3, us, rfl, rx⟩ := s2 _ _ e2
      obtain ⟨b, ws, rfl, hq, rw'⟩ := seqL_sq ry s2 e4
      have mm : Mono H2 (upd H2 a (.lst (us ++ ws))) := Mono.lst e3
      refine ⟨a, b, us, ws, rel_ref.mp r1, rfl, e3, hq, by rw [← rx.length, ← rw'.length]; exact sz_le q2.1, l _ _ _ _ q2.2 ((g1.trans g2).trans (.wr e2 mm)) (rel_non.mpr rfl) (s2.put mm ⟨_, rfl, (rx.append rw').mono mm⟩)⟩
    · exact q2.elim
  · exact q2.elim
/-- xs.insert(i, y), 0 ≤ i -/
def mInsert (mo : ME) (m : MA) : ME := fun τ h Q => mo τ h fun p h1 => listAt h1 p ∧ m τ h1 fun ps h2 => match p, ps with
  | .ref a, [.int i, q] => (match h2 a with | some (.lst xs) => xs.length < SZ ∧ 0 ≤ i ∧ i < 1000000 ∧ Q .non (up h2 a (.lst (xs.take i.toNat ++ [q] ++ xs.drop i.toNat))) | _ => False)
  | _, _ => False
theorem le_insert (ho : LE X o mo) (he : LAn X [e, f] 2 m) (hbase : attributeBase o "insert" X.env (eval o X.env) = eval o X.env := by rfl)
    (hfew : ((backTo cpos (starEach [e, f] X.env)).all (fun x => !x.1) && (backToKw cpos (keywordEach [] X.env)).all (fun x => x.1.isSome) && decide (([e, f] : List Expr).length + ([] : List Keyword).length + (if ([] : List Keyword).isEmpty then 0 else 1) < 30)) = true := by rfl)
    (hline : (apos.endLine == cpos.line) = true := by rfl) (hs : starEach [e, f] X.env = (false, eval e X.env) :: starEach [f] X.env := by rfl) (hp : (backTo cpos (starEach [f] X.env)).any (·.1) = false := by rfl) :
    LE X (.Call (.Attribute o "insert" apos) [e, f] [] cpos) (mInsert mo m) := by
  refine PE.weak (pe_bm PySem.F.plainAttrs_list PySem.F.slot_list_insert PySem.F.type_list_insert mt_insert ho he hbase hfew hline hs hp) fun σ H Q ⟨τ, h, Q', s, sh, q, l⟩ => ?_
  refine ⟨τ, h, _, s, sh, q, fun p h1 v H1 q1 g1 r1 s1 => ⟨ty_list r1 s1 q1.1, ?_⟩⟩
  refine ⟨τ, h1, _, s.mono g1.mono, s1, q1.2, ?_⟩
  rintro ps h2 vs H2 q2 _ g2 rr s2
  split at q2
  · rename_i a i q _
    obtain ⟨y, w, rfl, ry, rw'⟩ := rr.two
    split at q2
    · rename_i xs e2
      obtain ⟨u, e3, us, rfl, rx⟩ := s2 _ _ e2
      obtain ⟨z1, z2, z3, q2⟩ := q2
      have mm : Mono H2 (upd H2 a (.lst (us.take i.toNat ++ [w] ++ us.drop i.toNat))) := Mono.lst e3
      refine ⟨a, us, i, w, rel_ref.mp r1, by rw [rel_int.mp ry], e3, by rw [← rx.length]; exact sz_lt z1, z2, by omega, l _ _ _ _ q2 ((g1.trans g2).trans (.wr e2 mm)) (rel_non.mpr rfl) (s2.put mm ⟨_, rfl, (((rx.take _).append (.cons rw' .nil)).append (rx.drop _)).mono mm⟩)⟩
    · exact q2.elim
  · exact q2.elim
/-- xs.pop(i) -/
def mPopAt (mo : ME) (m : MA) : ME := fun τ h Q => mo τ h fun p h1 => listAt h1 p ∧ m τ h1 fun ps h2 => match p, ps with
  | .ref a, [.int i] => (match h2 a with
    | some (.lst xs) => xs.length ≤ SZ ∧ (match ixN xs.length i with | some k => (match xs[k]? with | some y => Q y (up h2 a (.lst (xs.eraseIdx k))) | none => False) | none => False)
    | _ => False)
  | _, _ => False
theorem Rels.eraseIdx {K : PySem.W.Frag} {H : Hp} {ps : List PV} {xs : List V} (r : Rels K H ps xs) (k : Nat) : Rels K H (ps.eraseIdx k) (xs.eraseIdx k) := by
  rw [List.eraseIdx_eq_take_drop_succ, List.eraseIdx_eq_take_drop_succ]
  exact (r.take _).append (r.drop _)
theorem le_popAt (ho : LE X o mo) (he : LAn X [e] 1 m) (hbase : attributeBase o "pop" X.env (eval o X.env) = eval o X.env := by rfl)
    (hfew : ((backTo cpos (starEach [e] X.env)).all (fun x => !x.1) && (backToKw cpos (keywordEach [] X.env)).all (fun x => x.1.isSome) && decide (([e] : List Expr).length + ([] : List Keyword).length + (if ([] : List Keyword).isEmpty then 0 else 1) < 30)) = true := by rfl)
    (hline : (apos.endLine == cpos.line) = true := by rfl) (hs : starEach [e] X.env = (false, eval e X.env) :: starEach [] X.env := by rfl) :
    LE X (.Call (.Attribute o "pop" apos) [e] [] cpos) (mPopAt mo m) := by
  refine PE.weak (pe_bm PySem.F.plainAttrs_list PySem.F.slot_list_pop PySem.F.type_list_pop mt_popAt ho he hbase hfew hline hs rfl) fun σ H Q ⟨τ, h, Q', s, sh, q, l⟩ => ?_
  refine ⟨τ, h, _, s, sh, q, fun p h1 v H1 q1 g1 r1 s1 => ⟨ty_list r1 s1 q1.1, ?_⟩⟩
  refine ⟨τ, h1, _, s.mono g1.mono, s1, q1.2, ?_⟩
  rintro ps h2 vs H2 q2 _ g2 rr s2
  split at q2
  · rename_i a i _
    obtain ⟨y, rfl, ry⟩ := rr.one
    split at q2
    · rename_i xs e2
      obtain ⟨u, e3, us, rfl, rx⟩ := s2 _ _ e2
      obtain ⟨z1, q2⟩ := q2
      split at q2
      · rename_i k ek
        split at q2
        · rename_i y2 ey
          obtain ⟨w, ew, rw'⟩ := rx.get ey
          obtain ⟨k1, k2, k3, k4⟩ := ixN_seq ek
          have hl := rx.length
          have hz : xs.length ≤ 16777216 := z1
          have mm : Mono H2 (upd H2 a (.lst (us.eraseIdx k))) := Mono.lst e3
          refine ⟨a, us, i, k, w, rel_ref.mp r1, by rw [rel_int.mp ry], e3, by omega, by omega, by rw [← hl]; exact k1, ew, l _ _ _ _ q2 ((g1.trans g2).trans (.wr e2 mm)) (rw'.mono mm) (s2.put mm ⟨_, rfl, (rx.eraseIdx k).mono mm⟩)⟩
        · exact q2.elim
      · exact q2.elim
    · exact q2.elim
  · exact q2.elim
/-- min, max of two ints -/
def rMin2 : PRA := fun ps h Q => match ps with | [.int i, .int j] => Q (.int (if j < i then j else i)) h | _ => False
def rMax2 : PRA := fun ps h Q => match ps with | [.int i, .int j] => Q (.int (if j > i then j else i)) h | _ => False
theorem lf_min2 {K : PySem.W.Frag} : LfA K (fun xs H Q => ∃ i j, xs = [.int i, .int j] ∧ Q (.int (if j < i then j else i)) H) rMin2 := by
  intro xs H ps h Q' Q rp s r l
  unfold rMin2 at r
  split at r
  · obtain ⟨v, w, rfl, r1, r2⟩ := rp.two
    rw [rel_int.mp r1, rel_int.mp r2]
    exact ⟨_, _, rfl, l _ _ _ _ r .refl (rel_int.mpr rfl) s⟩
  · exact r.elim
theorem lf_max2 {K : PySem.W.Frag} : LfA K (fun xs H Q => ∃ i j, xs = [.int i, .int j] ∧ Q (.int (if j > i then j else i)) H) rMax2 := by
  intro xs H ps h Q' Q rp s r l
  unfold rMax2 at r
  split at r
  · obtain ⟨v, w, rfl, r1, r2⟩ := rp.two
    rw [rel_int.mp r1, rel_int.mp r2]
    exact ⟨_, _, rfl, l _ _ _ _ r .refl (rel_int.mpr rfl) s⟩
  · exact r.elim
theorem le_min2 (hc : X.calm = true) (hm : X.mg "min" = none) (ha : LAn X [e, f] 2 m) (hg : Gl X "min" := by rfl) (h1 : starEach [e, f] X.env = (false, eval e X.env) :: starEach [f] X.env := by rfl) (h2 : (backTo pos (starEach [f] X.env)).any (·.1) = false := by rfl) :
    LE X (.Call (.Name "min" p) [e, f] [] pos) (mBlt rMin2 m) := le_blt (call_min2 hc) lf_min2 hm ha hg (h1 := h1) (h2 := h2)
theorem le_max2 (hc : X.calm = true) (hm : X.mg "max" = none) (ha : LAn X [e, f] 2 m) (hg : Gl X "max" := by rfl) (h1 : starEach [e, f] X.env = (false, eval e X.env) :: starEach [f] X.env := by rfl) (h2 : (backTo pos (starEach [f] X.env)).any (·.1) = false := by rfl) :
    LE X (.Call (.Name "max" p) [e, f] [] pos) (mBlt rMax2 m) := le_blt (call_max2 hc) lf_max2 hm ha hg (h1 := h1) (h2 := h2)
/-- int(text) -/
def rIntT : PRA := fun ps h Q => match ps with
  | [.str x] => x.length ≤ 640 ∧ (match PySem.intText? x with | some n => Q (.int n) h | none => False)
  | [.int i] => Q (.int i) h
  | [.bl b] => Q (.int (if b = true then 1 else 0)) h
  | _ => False
theorem le_intT (hm : X.mg "int" = none) (ha : LAn X [e] 1 m) (hg : Gl X "int" := by rfl) (h1 : starEach [e] X.env = (false, eval e X.env) :: starEach [] X.env := by rfl) :
    LE X (.Call (.Name "int" p) [e] [] pos) (mBlt rIntT m) := le_ty (call_int1.or call_int_str) (fun xs H ps h Q' Q rp s r l => by
  unfold rIntT at r
  split at r
  · obtain ⟨v, rfl, r1⟩ := rp.one
    obtain ⟨hl, r⟩ := r
    split at r
    · rename_i n en
      rw [rel_str.mp r1]
      exact .inr ⟨_, _, rfl, en, hl, l _ _ _ _ r .refl (rel_int.mpr rfl) s⟩
    · exact r.elim
  · obtain ⟨v, rfl, r1⟩ := rp.one
    rw [rel_int.mp r1]
    exact .inl (.inl ⟨_, rfl, l _ _ _ _ r .refl (rel_int.mpr rfl) s⟩)
  · obtain ⟨v, rfl, r1⟩ := rp.one
    rw [rel_bl.mp r1]
    exact .inl (.inr ⟨_, rfl, l _ _ _ _ r .refl (rel_int.mpr rfl) s⟩)
  · exact r.elim) hm ha hg (h1 := h1) (h2 := rfl)
/-- x.split(y): a list of texts, kept -/
def rSplit : PV → List PV → PH → PK → Prop := fun p ps h Q => match p, ps with
  | .str x, [.str y] => (y.length == 0) = false ∧ x.length + 2 ≤ SZ ∧ Q (.lst ((Txt.split x y).map PV.str)) h
  | _, _ => False
theorem rels_of_strs {K : PySem.W.Frag} {H : Hp} : ∀ ys : List Str, Rels K H (ys.map PV.str) (ys.map V.str)
  | [] => .nil
  | y :: ys => .cons (rel_str.mpr rfl) (rels_of_strs ys)
theorem le_split (ho : LE X o mo) (ha : LAn X [e] 1 m) (hbase : attributeBase o "split" X.env (eval o X.env) = eval o X.env := by rfl)
    (hfew : ((backTo cpos (starEach [e] X.env)).all (fun x => !x.1) && (backToKw cpos (keywordEach [] X.env)).all (fun x => x.1.isSome) && decide (([e] : List Expr).length + ([] : List Keyword).length + (if ([] : List Keyword).isEmpty then 0 else 1) < 30)) = true := by rfl)
    (hline : (apos.endLine == cpos.line) = true := by rfl) (hs : starEach [e] X.env = (false, eval e X.env) :: starEach [] X.env := by rfl) (hs1 : starEach [e] X.env = [(false, eval e X.env)] := by rfl) :
    LE X (.Call (.Attribute o "split" apos) [e] [] cpos) (mM1 rSplit mo m) := by
  refine PE.weak (PE.kp (pe_bm PySem.F.plainAttrs_str PySem.F.slot_str_split PySem.F.type_str_split mt_split ho ha hbase hfew hline hs rfl)) fun σ H Q ⟨τ, h, Q', s, sh, q, l⟩ => ?_
  refine ⟨τ, h, _, s, sh, q, fun p h1 v H1 ⟨⟨x, ex⟩, q1⟩ g1 r1 s1 => ⟨by subst ex; rw [rel_str.mp r1]; rfl, ?_⟩⟩
  refine ⟨τ, h1, _, s.mono g1.mono, s1, q1, ?_⟩
  rintro ps h2 vs H2 q2 _ g2 rr s2
  subst ex
  unfold rSplit at q2
  split at q2
  · rename_i x' y ex _
    cases ex
    obtain ⟨w, rfl, rw'⟩ := rr.one
    obtain ⟨z1, z2, q2⟩ := q2
    exact ⟨_, _, rel_str.mp r1, by rw [rel_str.mp rw'], z1, sz_le z2, fun a ha => keep_l (l.mono (g1.trans g2)) s2 (rels_of_strs _) q2 ha⟩
  · exact q2.elim
/-! ### f'..' -/
/-- a part: a text or an int, as a text -/
def mFmt (m : ME) : ME := fun τ h Q => m τ h fun p h1 => match p with
  | .str x => x.length ≤ SZ ∧ Q (.str x) h1
  | .int i => i.natAbs.log2 < 1920 ∧ Q (.str (toString i)) h1
  | _ => False
theorem le_fmt (he : LE X e me) : LE X (.FormattedValue e (-1) none pos) (mFmt me) := by
  refine PE.weak (pe_fmt he) fun σ H Q ⟨τ, h, Q', s, sh, q, l⟩ => ?_
  refine ⟨τ, h, _, s, sh, q, fun p h1 v H1 q1 g1 r1 s1 => ?_⟩
  cases p with
  | str x => exact .inl ⟨x, rel_str.mp r1, sz_le q1.1, l _ _ _ _ q1.2 g1 (rel_str.mpr rfl) s1⟩
  | int i => exact .inr ⟨i, rel_int.mp r1, q1.1, l _ _ _ _ q1.2 g1 (rel_str.mpr rfl) s1⟩
  | _ => exact q1.elim
/-- the parts, one behind the other -/
def mJs : List ME → List Nat → PSt → PH → (List Nat → PH → Prop) → Prop
  | [], acc, _, h, Q => Q acc h
  | m :: ms, acc, τ, h, Q => m τ h fun p h1 => match p with
    | .str y => acc.length + (cl y).length ≤ SZ ∧ mJs ms (acc ++ cl y) τ h1 Q
    | _ => False
def mJoin (ms : List ME) : ME := fun τ h Q => mJs ms [] τ h fun l h1 => Q (.str (S l)) h1
inductive LJ (X : Cx) : List Expr → List ME → Prop where
  | nil : LJ X [] []
  | cons {e : Expr} {m : ME} {es : List Expr} {ms : List ME} (h : LE X e m) (r : LJ X es ms) : LJ X (e :: es) (m :: ms)
theorem LJ.pj {es : List Expr} {ms : List ME} (h : LJ X es ms) : PJ X es (ms.map (upE X.K)) := by
  induction h with
  | nil => exact .nil
  | cons h _ ih => exact .cons h ih
theorem js_up {K : PySem.W.Frag} {σ : L2.St} {τ : PSt} : ∀ (ms : List ME) (acc : List Nat) (H : Hp) (h : PH) (Q' : List Nat → PH → Prop) (Q : Str → Hp → Prop), SimS K H σ τ → Sim K H h → mJs ms acc τ h Q' →
    (∀ l h1 H1, Q' l h1 → Go H h H1 h1 → SimS K H1 σ τ → Sim K H1 h1 → Q (S l) H1) → tJs (ms.map (upE K)) (S acc) σ H Q
  | [], acc, H, h, Q', Q, s, sh, q, k => k acc h H q .refl s sh
  | m :: ms, acc, H, h, Q', Q, s, sh, q, k => by
    show upE K m σ H _
    refine ⟨τ, h, _, s, sh, q, fun p h1 v H1 q1 g1 r1 s1 => ?_⟩
    cases p with
    | str y =>
      obtain ⟨hz, q1⟩ := q1
      have e : S acc ++ y = S (acc ++ cl y) := by rw [← S_cl y, S_append, cl_S]
      refine ⟨y, rel_str.mp r1, by rw [e, S_length, List.length_append]; exact sz_le hz, ?_⟩
      rw [e]
      exact js_up ms _ H1 h1 Q' Q (s.mono g1.mono) s1 q1 fun l h2 H2 q2 g2 => k l h2 H2 q2 (g1.trans g2)
    | _ => exact q1.elim
theorem le_fs {e1 e2 : Expr} {rest : List Expr} {ms : List ME} (h : LJ X (e1 :: e2 :: rest) ms) : LE X (.JoinedStr (e1 :: e2 :: rest) pos) (mJoin ms) := by
  refine PE.weak (pe_joined h.pj) fun σ H Q ⟨τ, h0, Q', s, sh, q, l⟩ => ?_
  exact js_up ms [] H h0 _ _ s sh q fun x h1 H1 q1 g1 _ s1 => l _ _ _ _ q1 g1 (rel_str.mpr rfl) s1
/-! ### dict(pairs), each key once -/
def prs : List PV → Option (List Key × List PV)
  | [] => some ([], [])
  | .tup [k, v] :: r => (match kOf k, prs r with | some k', some (ks, vs) => some (k' :: ks, v :: vs) | _, _ => none)
  | _ => none
theorem prs_rel {K : PySem.W.Frag} {H : Hp} : ∀ {xs : List PV} {us : List V} {ks : List Key} {vs : List PV}, Rels K H xs us → prs xs = some (ks, vs) →
    ∃ (as : List Addr) (kvs : List (Key × V)), us = as.map V.ref ∧ Paired (fun p kv => SqT K H p [kV kv.1, kv.2]) as kvs ∧ ks = kvs.map (·.1) ∧ Rels K H vs (kvs.map (·.2))
  | [], us, ks, vs, r, e => by
    rw [Rels.nil_iff] at r
    simp only [prs, Option.some.injEq, Prod.mk.injEq] at e
    obtain ⟨rfl, rfl⟩ := e
    exact ⟨[], [], r, .nil, rfl, .nil⟩
  | x :: xs, us, ks, vs, r, e => by
    obtain ⟨u, us', rfl, r1, r2⟩ := r.uncons
    unfold prs at e
    split at e
    · cases ‹_ :: _ = []›
    · rename_i k v rest e0
      cases e0
      split at e
      · rename_i k' ks' vs' ek er
        simp only [Option.some.injEq, Prod.mk.injEq] at e
        obtain ⟨rfl, rfl⟩ := e
        obtain ⟨as, kvs, e1, e2, e3, e4⟩ := prs_rel r2 er
        obtain ⟨a, ys, rfl, hq, ry⟩ := rel_tup.mp r1
        obtain ⟨w, z, rfl, rw', rz⟩ := ry.two
        have hk := kOf_rel rw' ek
        subst hk
        exact ⟨a :: as, (k', z) :: kvs, by rw [e1]; rfl, .cons hq e2, by rw [e3]; rfl, .cons rz e4⟩
      · cases e
    · cases e
def rDictP : PRA := fun ps h Q => match ps with
  | [p] => (match seqL h p with
    | some xs => (match prs xs with | some (ks, vs) => ks.Nodup ∧ Q (.dct ks vs) h | none => False)
    | none => False)
  | _ => False
theorem le_dictP (hc : X.calm = true) (hm : X.mg "dict" = none) (ha : LAn X [e] 1 m) (hg : Gl X "dict" := by rfl) (h1 : starEach [e] X.env = (false, eval e X.env) :: starEach [] X.env := by rfl) :
    LE X (.Call (.Name "dict" p) [e] [] pos) (mBlt rDictP m) := le_tyK (call_dictP hc) (fun xs H ps h Q' Q rp s r l => by
  unfold rDictP at r
  split at r
  · split at r
    · rename_i q _ ys e
      split at r
      · rename_i ks vs ek
        obtain ⟨v, rfl, r1⟩ := rp.one
        obtain ⟨a, us, rfl, hq, rr⟩ := seqL_sq r1 s e
        obtain ⟨as, kvs, rfl, e2, rfl, e4⟩ := prs_rel rr ek
        refine ⟨a, as, kvs, rfl, hq, e2, fun b hb => ?_⟩
        rw [merge_nd kvs [] (by simpa using r.1), List.nil_append]
        exact keep_d l s rfl e4 r.2 hb
      · exact r.elim
    · exact r.elim
  · exact r.elim) hm ha hg (h1 := h1) (h2 := rfl)
end
/-! ### [e, ..] * n, a list that may change -/
def mRepM (m : MA) (mb : ME) : ME := fun τ h Q => m τ h fun ps h1 => mb τ h1 fun q h2 => match q with
  | .int k => (-16777216 ≤ k ∧ k ≤ 16777216 ∧ ps.length * k.toNat ≤ SZ) ∧ ∀ a, h2 a = none → Q (.ref a) (up h2 a (.lst (List.replicate k.toNat ps).flatten))
  | _ => False
theorem le_repM {X : Cx} {pos p2 : Pos} {es : List Expr} {b : Expr} {n : Nat} {m : MA} {mb : ME} (h : LAn X es n m) (hb : LE X b mb) (hn : n ≤ 1000 := by decide) : LE X (.BinOp (.List es p2) .Mult b pos) (mRepM m mb) := by
  refine PE.weak (PE.kp (pe_op op_rep (pe_lst h) hb)) fun σ H Q ⟨τ, h, Q', s, sh, q, l⟩ => ?_
  refine ⟨τ, h, _, s, sh, q, fun ps h1 vs H1 q1 hl g1 r1 s1 => ⟨by rw [← r1.length, hl]; exact few hn, fun p hp => ?_⟩⟩
  have hp1 : h1 p = none := s1.fresh hp
  have gD : Go H1 h1 (upd H1 p (.lst vs)) h1 := .new hp
  refine ⟨τ, h1, _, s.mono (g1.trans gD).mono, s1.new hp, q1, fun q h2 y H2 q2 g2 r2 s2 => ?_⟩
  cases q with
  | int k =>
    obtain ⟨⟨k1, k2, hz⟩, q2⟩ := q2
    have hH : H2 p = some (.lst vs) := g2.frame p _ upd_same hp1
    refine ⟨p, k, vs, rfl, rel_int.mp r2, hH, by omega, by omega, by rw [← r1.length]; exact sz_le hz, fun c hc => ?_⟩
    have g := (g1.trans gD).trans g2
    exact make_l (l.mono g) s2 ((r1.mono (gD.trans g2).mono).rep k.toNat) q2 hc
  | _ => exact q2.elim
end N3

/-! what a def has made and no one needs any more may be forgotten at its end -/
namespace N3
open PySem PySem.Spec PyProof.Rows L2
def sub (h0 h1 : PH) : Prop := ∀ a o, h0 a = some o → h1 a = some o
theorem sub_refl (h : PH) : sub h h := fun _ _ e => e
theorem sub_up {h : PH} {a : Addr} {o : PO} (e : h a = none) : sub h (up h a o) := fun b u z => by
  unfold up
  by_cases hb : b = a
  · subst hb; rw [e] at z; cases z
  · rw [if_neg hb]; exact z
theorem sub_trans {h k l : PH} (a : sub h k) (b : sub k l) : sub h l := fun c o e => b c o (a c o e)
theorem sub_none {h0 h1 : PH} {b : Addr} (s : sub h0 h1) (e : h1 b = none) : h0 b = none := by
  cases z : h0 b with
  | none => rfl
  | some o => have := s b o z; rw [e] at this; cases this
def frg (Q : PK) : PK := fun p h1 => ∃ h0, sub h0 h1 ∧ Q p h0
theorem frg_of {Q : PK} {p : PV} {h : PH} (q : Q p h) : frg Q p h := ⟨h, sub_refl h, q⟩
theorem LQ.frg {K : PySem.W.Frag} {H : Hp} {h : PH} {Q' : PK} {Q : VK} (l : LQ K H h Q' Q) : LQ K H h (frg Q') Q := fun p h1 v H1 ⟨h0, s, q⟩ g r sm =>
  l p h0 v H1 q ⟨g.mono, g.frame, fun b u e n => sub_none s (g.dom b u e n), g.live⟩ r (sm.less s)
section
variable {P : Program} {w : World} {K : PySem.W.Frag} {mg : Str → Option Value} {base : Heap}
theorem FnG.frg {k : Nat} {f : Addr} {fd : FuncData} {ps : List Str} {sp : SpP} (F : FnG P w K mg base k f fd ps (fun qs h Q => ∃ Q', sp qs h Q' ∧ Q = N3.frg Q')) : FnG P w K mg base k f fd ps sp :=
  ⟨fun A outer s H args us vs Q hr hg he hb r ⟨qs, h1, Q', hl, rr, ss, z, l⟩ => F.run A outer s H args us vs Q hr hg he hb r ⟨qs, h1, N3.frg Q', hl, rr, ss, ⟨Q', z, rfl⟩, l.frg⟩⟩
theorem fn_okF {x qual : Str} {st : Stmt} {f : Addr} {fd : FuncData} {N ps : List Str} {k : Nat} {sp : SpP} {m : MS} (F : Fun K x qual st f fd) (S : FnScope N ps (defScope st))
    (hb : ∀ (cdv : Value) (A : Around) (outer : List Env) (s : Shared) (H : Hp) (E : XK), Room k (A.deeper (envOfC qual (defScope st) s.heap.objs.size f cdv)) → A.guards = some [] → LSs (cxOf CX0 P w K mg base N qual (defScope st) f cdv A outer s H E).nox (defBody st) m)
    (hm : ∀ qs h Q, qs.length = ps.length → sp qs h Q → m (ends (frg Q)) (sp0 N.length qs) h) : FnG P w K mg base (k + 1) f fd ps sp :=
  FnG.frg (fn_ok F S hb fun qs h Q hl ⟨Q', z, e⟩ => by subst e; exact hm qs h Q' hl z)
end
end N3

/-! comprehensions of two fors; sorted of a tuple -/
namespace N3
open PySem PySem.Spec PyProof.Rows L2
def lcI (gd : PH → Prop) (τ : PSt) (g : MG) (t : MT) (m : ME) : List PV → List PV → PH → (List PV → PH → Prop) → Prop
  | [], acc, h, Q => gd h ∧ Q acc h
  | p :: ps, acc, h, Q => gd h ∧ g p τ h fun τ1 h1 => t τ1 h1 fun b h2 => if b = true then m τ1 h2 fun v h3 => acc.length < SZ ∧ lcI gd τ g t m ps (acc ++ [v]) h3 Q else lcI gd τ g t m ps acc h2 Q
def lcO (gd : PH → Prop) (τ : PSt) (g : MG) (t : MT) (mi1 : MI) (vs1 : List Nat) (g1 : MG) (t1 : MT) (m : ME) : List PV → List PV → PH → (List PV → PH → Prop) → Prop
  | [], acc, h, Q => gd h ∧ Q acc h
  | p :: ps, acc, h, Q => gd h ∧ g p τ h fun τ1 h1 => t τ1 h1 fun b h2 => if b = true then mi1 τ1 h2 fun qs gd1 h3 => lcI gd1 (wp τ1 vs1) g1 t1 m qs acc h3 fun acc' h4 => lcO gd τ g t mi1 vs1 g1 t1 m ps acc' h4 Q else lcO gd τ g t mi1 vs1 g1 t1 m ps acc h2 Q
def mLc2 (mi : MI) (vs : List Nat) (g : MG) (t : MT) (mi1 : MI) (vs1 : List Nat) (g1 : MG) (t1 : MT) (m : ME) : ME := fun τ h Q => mi τ h fun ps gd h1 => lcO gd (wp τ vs) g t mi1 vs1 g1 t1 m ps [] h1 fun zs h2 => Q (.lst zs) h2
theorem lc_up2 {K : PySem.W.Frag} {mi mi1 : MI} {vs vs1 : List Nat} {g g1 : MG} {t t1 : MT} {m : ME} {Y : List PV → PH → Prop} {σ : L2.St} {H0 : Hp} {τ : PSt} {h0 : PH} {Q : VK} (s0 : SimS K H0 σ τ) (sh0 : Sim K H0 h0)
    (q : mi τ h0 fun ps gd h1 => lcO gd (wp τ vs) g t mi1 vs1 g1 t1 m ps [] h1 Y)
    (fin : ∀ zs h2 xs D H2, Y zs h2 → H0 D = none → H2 D = some (.lst xs) → h2 D = none → Sim K H2 h2 → Rels K H2 zs xs → Go H0 h0 H2 h2 → Q (.ref D) H2) :
    tLc2 (upI K mi) (upG K vs g) (upT K t) (upI K mi1) (upG K vs1 g1) (upT K t1) (upE K m) vs vs1 σ H0 Q := by
  refine ⟨τ, h0, _, s0, sh0, q, fun ps gd h1 H1 J q1 gA s1 wk D hD => ?_⟩
  have hD1 : h1 D = none := s1.fresh hD
  have gD : Go H1 h1 (upd H1 D (.lst [])) h1 := .new hD
  refine ⟨fun i n H => ∃ h acc xs, i ≤ ps.length ∧ n = ps.length - i ∧ Go H1 h1 H h ∧ H D = some (.lst xs) ∧ h D = none ∧ Rels K H acc xs ∧ Sim K H h ∧ lcO gd (wp τ vs) g t mi1 vs1 g1 t1 m (ps.drop i) acc h Y,
    ⟨ps.length, h1, [], [], Nat.zero_le _, rfl, gD, upd_same, hD1, .nil, s1.new hD, q1⟩, ?_⟩
  rintro i n H ⟨h, acc, xs, hi, rfl, gg, hx, hd, ra, sh, q⟩
  by_cases hlt : i < ps.length
  · have e : ps.drop i = ps[i] :: ps.drop (i + 1) := List.drop_eq_getElem_cons hlt
    rw [e] at q
    obtain ⟨hgd, q⟩ := q
    refine .inr ⟨wk.goes i H h hlt gg.mono sh hgd, fun H' => ∃ h acc xs, Go H1 h1 H' h ∧ H' D = some (.lst xs) ∧ h D = none ∧ Rels K H' acc xs ∧ Sim K H' h ∧ lcO gd (wp τ vs) g t mi1 vs1 g1 t1 m (ps.drop (i + 1)) acc h Y,
      fun H' ⟨h, acc, xs, a1, a2, a3, a4, a5, a7⟩ => ⟨ps.length - (i + 1), by omega, h, acc, xs, hlt, rfl, a1, a2, a3, a4, a5, a7⟩, fun x H' y => ?_⟩
    obtain ⟨g2, sh2, rx⟩ := wk.yields i H h x H' ps[i] (List.getElem?_eq_getElem hlt) gg.mono sh hgd y
    have gw : Mono H0 H' := (gA.trans (gg.trans g2)).mono
    refine ⟨ps[i], wp τ vs, h, _, rx, (s0.mono gw).wipe vs, sh2, q, fun τ3 h3 σ3 H3 q3 g3 s3 sh3 w3 => ⟨by rw [w3, wipe_wipe], ?_⟩⟩
    refine ⟨τ3, h3, _, s3, sh3, q3, fun b h4 H4 q4 g4 s4 => ?_⟩
    have g24 := (g2.trans g3).trans g4
    have x4 : H4 D = some (.lst xs) := g24.frame D _ hx hd
    have d4 : h4 D = none := g24.dom D _ hx hd
    cases b with
    | false =>
      simp only [Bool.false_eq_true, if_false] at q4 ⊢
      exact ⟨h4, acc, xs, gg.trans g24, x4, d4, ra.mono g24.mono, s4, q4⟩
    | true =>
      simp only [if_true] at q4 ⊢
      refine ⟨τ3, h4, _, s3.mono g4.mono, s4, q4, fun qs gd1 h5 H5 J1 q5 g5 s5 wk1 => ?_⟩
      have x5 : H5 D = some (.lst xs) := g5.frame D _ x4 d4
      have d5 : h5 D = none := g5.dom D _ x4 d4
      refine ⟨fun j k H => ∃ h acc xs, j ≤ qs.length ∧ k = qs.length - j ∧ Mono H5 H ∧ Go H1 h1 H h ∧ H D = some (.lst xs) ∧ h D = none ∧ Rels K H acc xs ∧ Sim K H h ∧ lcI gd1 (wp τ3 vs1) g1 t1 m (qs.drop j) acc h fun acc' h4 => lcO gd (wp τ vs) g t mi1 vs1 g1 t1 m (ps.drop (i + 1)) acc' h4 Y,
        ⟨qs.length, h5, acc, xs, Nat.zero_le _, rfl, Mono.refl _, (gg.trans g24).trans g5, x5, d5, ra.mono (g24.trans g5).mono, s5, q5⟩, ?_⟩
      rintro j k H6 ⟨h6, acc6, xs6, hj, rfl, m6, gg6, hx6, hd6, ra6, sh6, q6⟩
      by_cases hlt6 : j < qs.length
      · have e6 : qs.drop j = qs[j] :: qs.drop (j + 1) := List.drop_eq_getElem_cons hlt6
        rw [e6] at q6
        obtain ⟨hgd6, q6⟩ := q6
        refine .inr ⟨wk1.goes j H6 h6 hlt6 m6 sh6 hgd6, fun H' => ∃ h acc xs, Mono H5 H' ∧ Go H1 h1 H' h ∧ H' D = some (.lst xs) ∧ h D = none ∧ Rels K H' acc xs ∧ Sim K H' h ∧ lcI gd1 (wp τ3 vs1) g1 t1 m (qs.drop (j + 1)) acc h fun acc' h4 => lcO gd (wp τ vs) g t mi1 vs1 g1 t1 m (ps.drop (i + 1)) acc' h4 Y,
          fun H' ⟨h, acc, xs, a0, a1, a2, a3, a4, a5, a7⟩ => ⟨qs.length - (j + 1), by omega, h, acc, xs, hlt6, rfl, a0, a1, a2, a3, a4, a5, a7⟩, fun x H' y => ?_⟩
        obtain ⟨g7, sh7, rx7⟩ := wk1.yields j H6 h6 x H' qs[j] (List.getElem?_eq_getElem hlt6) m6 sh6 hgd6 y
        refine ⟨qs[j], wp τ3 vs1, h6, _, rx7, (s3.mono ((g4.trans g5).mono.trans (m6.trans g7.mono))).wipe vs1, sh7, q6, fun τ8 h8 σ8 H8 q8 g8 s8 sh8 w8 => ⟨by rw [w8, wipe_wipe], ?_⟩⟩
        refine ⟨τ8, h8, _, s8, sh8, q8, fun b h9 H9 q9 g9 s9 => ?_⟩
        have g79 := (g7.trans g8).trans g9
        have x9 : H9 D = some (.lst xs6) := g79.frame D _ hx6 hd6
        have d9 : h9 D = none := g79.dom D _ hx6 hd6
        cases b with
        | true =>
          simp only [if_true] at q9 ⊢
          refine ⟨τ8, h9, _, s8.mono g9.mono, s9, q9, fun v hA yA HA ⟨qz, qA⟩ g_A rA sA => ?_⟩
          have xA : HA D = some (.lst xs6) := g_A.frame D _ x9 d9
          have dA : hA D = none := g_A.dom D _ x9 d9
          have mw : Mono HA (upd HA D (.lst (xs6 ++ [yA]))) := Mono.lst xA
          refine ⟨xs6, xA, by rw [← ra6.length]; exact sz_lt qz, hA, acc6 ++ [v], xs6 ++ [yA], (m6.trans (g79.trans g_A).mono).trans mw, ((gg6.trans g79).trans g_A).renew hD mw, upd_same, dA, ((ra6.mono (g79.trans g_A).mono).append (.cons rA .nil)).mono mw, sA.drop mw dA, qA⟩
        | false =>
          simp only [Bool.false_eq_true, if_false] at q9 ⊢
          exact ⟨h9, acc6, xs6, m6.trans g79.mono, gg6.trans g79, x9, d9, ra6.mono g79.mono, s9, q9⟩
      · have e6 : j = qs.length := by omega
        subst e6
        rw [List.drop_length] at q6
        exact .inl ⟨wk1.stops H6 h6 m6 sh6 q6.1, h6, acc6, xs6, gg6, hx6, hd6, ra6, sh6, q6.2⟩
  · have e : i = ps.length := by omega
    subst e
    rw [List.drop_length] at q
    exact .inl ⟨wk.stops H h gg.mono sh q.1, fin acc h xs D H q.2 (gA.live D hD) hx hd sh ra (gA.trans gg)⟩
section
variable {X : Cx} {pos : Pos}
theorem le_lc2 {elt tg iter tg1 iter1 : Expr} {ifs ifs1 : List Expr} {scope : Scope} {mi mi1 : MI} {g g1 : MG} {t t1 : MT} {m : ME} (own : List (Str × Nat)) (vs1 : List Nat) (hc : X.calm = true) (hN : X.N.Nodup) (hi : LI X tg iter mi) (ok : BlkOk X.N X.env.scope scope own) (hv : ∀ i ∈ vs1, i ∈ own.map (·.2))
    (hg : ∀ (s : Shared) (H : Hp) (C : Addr) (cl : List (Str × Addr)) (fp : List Addr), LG (X.blk s H scope (compEnvC scope cl C X.env) fp) tg (own.map (·.2)) g) (ht : ∀ (s : Shared) (H : Hp) (C : Addr) (cl : List (Str × Addr)) (fp : List Addr), LTs (X.blk s H scope (compEnvC scope cl C X.env) fp) ifs t)
    (hi1 : ∀ (s : Shared) (H : Hp) (C : Addr) (cl : List (Str × Addr)) (fp : List Addr), LI (X.blk s H scope (compEnvC scope cl C X.env) fp) tg1 iter1 mi1)
    (hg1 : ∀ (s : Shared) (H : Hp) (C : Addr) (cl : List (Str × Addr)) (fp : List Addr), LG (X.blk s H scope (compEnvC scope cl C X.env) fp) tg1 vs1 g1) (ht1 : ∀ (s : Shared) (H : Hp) (C : Addr) (cl : List (Str × Addr)) (fp : List Addr), LTs (X.blk s H scope (compEnvC scope cl C X.env) fp) ifs1 t1)
    (he : ∀ (s : Shared) (H : Hp) (C : Addr) (cl : List (Str × Addr)) (fp : List Addr), LE (X.blk s H scope (compEnvC scope cl C X.env) fp) elt m) (hs : ∀ x, foldedSetIterable iter X.env x = pure x := by intro _; rfl) (hs1 : ∀ env x, foldedSetIterable iter1 env x = pure x := by intro _ _; rfl) :
    LE X (.ListComp elt [⟨tg, iter, ifs, 0⟩, ⟨tg1, iter1, ifs1, 0⟩] scope pos) (mLc2 mi (own.map (·.2)) g t mi1 vs1 g1 t1 m) :=
  PE.weak (PE.kp (pe_lc2 hc hN hi ok hv hg ht hi1 hg1 ht1 he hs hs1)) fun σ H Q ⟨τ, h, Q', s, sh, q, l⟩ => lc_up2 s sh q fun zs h2 xs D H2 q2 h0 hD hd s2 r2 g2 => .inr ⟨D, _, rfl, hD, trivial, fun o => by
    have mm : Mono H2 (upd H2 D (.frz o (.lst xs))) := Mono.lst hD
    refine l (.lst zs) h2 (.ref D) _ q2 (g2.renew h0 mm) ?_ (s2.drop mm hd)
    simp only [Rel]
    exact ⟨D, xs, rfl, .inl ⟨o, upd_same⟩, r2.mono mm⟩⟩
end

/-! ### sorted of a tuple -/
theorem collect_any {prog : Program} {w : World} {A : Around} {E : Value → Shared → Prop} {s : Shared} {l : Addr} {vs : List Value} {Q : List Value → Shared → Prop} (hl : IsTup s.heap l vs.toArray)
    (h : Q vs { s with heap := (s.heap.push (seqObj "list" #[] 0)).update s.heap.objs.size (Obj.mapSeq (· ++ vs.toArray)) }) (hz : vs.length ≤ sizeLine) : wpAny (model prog w) A (collect (.ref l)) Q E s := by
  obtain ⟨o, ho, hc, n, hd⟩ := id hl
  have ho2 : (s.heap.push (seqObj "list" #[] 0)).get? l = some o := Heap.get?_push_of_some _ ho
  unfold collect; refine wpAny_bind (wpAny_runValue (codeAny_builtin entry_proto_collect' ?_))
  show wpAny (model prog w) _ (do again (.builtin "list.__iadd__" ⟨[← newList [], .ref l], []⟩)) _ _ s
  refine wpAny_bind (wpAny_newList (wpAny_pure ⟨Code.quiet_builtin _ (by decide +kernel), codeAny_builtin entry_list_iadd' (show wpAny (model prog w) _ (Builtin.List.listExtendWith (.ref s.heap.objs.size) (.ref l) (.ref s.heap.objs.size)) _ _ { s with heap := s.heap.push (seqObj "list" #[] 0) } from ?_)⟩))
  unfold Builtin.List.listExtendWith; refine wpAny_bind (wpAny_typeOf (T := "tuple") ⟨o, ho2, hc⟩ ?_)
  rw [if_pos (by rw [show (Value.type "tuple" == Value.type "tuple") = true from by rfl, Bool.or_true])]; refine wpAny_bind (listItems_at ho2 hd (wpAny_bind (listItems_at (xs := #[]) (n := 0) (Heap.get?_push_size _ rfl) rfl ?_)))
  rw [if_neg (by simp)]; refine wpAny_bind (listUpdate_at (xs := #[]) (n := 0) (Heap.get?_push_size _ rfl) rfl (wpAny_pure ?_) (Nat.zero_le _) (by show (#[] ++ vs.toArray).size ≤ sizeLine + 1; simp only [Array.size_append, List.size_toArray, List.length_nil]; omega))
  show wpAny (model prog w) A (do let o ← load s.heap.objs.size; match o.data with | .seq xs _ => pure xs.toList | _ => unsupported "internal:collect") Q E { s with heap := (s.heap.push (seqObj "list" #[] 0)).update s.heap.objs.size (Obj.mapSeq (· ++ vs.toArray)) }
  refine wpAny_bind (wpAny_load (get?_update_seq (Heap.get?_push_size _ rfl) _) (show wpAny (model prog w) A (pure ((#[] : Array Value) ++ vs.toArray).toList) Q E _ from ?_))
  rw [show ((#[] : Array Value) ++ vs.toArray).toList = vs by simp]; exact wpAny_pure h
open PySem.W in
theorem sorted_tup {prog : Program} {w : World} {A : Around} {E : Value → Shared → Prop} {s : Shared} {β : Type} {vs : List Value} {bs : List β} {enc : β → PyData} {R : Value → β → Prop} {l : Addr} {Q : Value → Shared → Prop} (hl : IsTup s.heap l vs.toArray) (e : EachIs R vs bs) (er : EachIs (fun v b => ∃ as, Reads s.heap v (enc b) as) vs bs)
    (hal : AllAlike (bs.map enc)) (hk : Sortable (bs.map enc)) (hL : bs.length ≤ sizeLine) (hu : ∀ b, b ∈ bs → A.units + 2 + (enc b).depth < cLine)
    (h : ∀ out, out.length = bs.length → EachIs R out (bs.mergeSort (dataLe false enc)) → Q (.ref (s.heap.objs.size + 1)) { s with heap := sortedAll s.heap vs (List.toArray out) }) : wpAny (model prog w) A (call (.builtin "sorted") [.ref l]) Q E s := by
  have hv : vs.length ≤ sizeLine := by rw [e.length]; exact hL
  have er2 : EachIs (fun v b => ∃ as, Reads (sortingHeap (copyHeap s.heap vs) (s.heap.objs.size + 1) vs) v (enc b) as) vs bs := er.mono fun _ _ ⟨as, r⟩ => ⟨as, PyProof.Rows.Reads.keeps (fun _ _ => sorting_copy_old) r⟩
  have body : ∀ E' : Value → Shared → Prop, wpAny (model prog w) A.in1.in1 (Builtin.«list.sort» ⟨[.ref (s.heap.objs.size + 1)], []⟩) (fun f s' => f = .done (.ret .none) ∧ Q (.ref (s.heap.objs.size + 1)) s') E' { s with heap := copyHeap s.heap vs } := fun E' =>
    list_sort_vals (s := { s with heap := copyHeap s.heap vs }) (copyHeap_at s.heap vs) (SortsAt.data (s := { s with heap := sortingHeap (copyHeap s.heap vs) (s.heap.objs.size + 1) vs }) (each_map (R := fun v d => ∃ as, Reads (sortingHeap (copyHeap s.heap vs) (s.heap.objs.size + 1) vs) v d as) enc er2) hal hk (bound_map hu)) hv
      ⟨rfl, h _ (by rw [sortVals_length false rfl]; exact e.length) (sortVals_data false e er2 hal)⟩
  have hsz2 : ((s.heap.push (seqObj "list" #[] 0)).update s.heap.objs.size (Obj.mapSeq (· ++ vs.toArray))).objs.size = s.heap.objs.size + 1 := by rw [Heap.size_update, size_push']
  refine call_function_entry_kw kind_sorted plain_sorted entry_sorted (args_sorted1 _) ?_
  unfold Builtin.«sorted»; refine wpAny_bind (m := checkCount "sorted" 1 1 _) (wpAny_pure (wpAny_bind (collect_any hl (wpAny_bind (wpAny_newList (show wpAny (model prog w) _ _ _ _ { s with heap := copyHeap s.heap vs } from ?_) hv)) hv)))
  rw [hsz2]; refine wpAny_bind (wpAny_holding (wpAny_call_entry_kw slot_list_sort ⟨_, copyHeap_at s.heap vs, rfl⟩ entry_list_sort (show wpAny (model prog w) A.in1.in1 (Builtin.«list.sort» ⟨[.ref (s.heap.objs.size + 1)], []⟩) _ _ _ from ?_) (args_list_sort _)))
  exact wpAny_mono (body _) (fun f s' ⟨hf, hq⟩ => by subst hf; exact ⟨_, rfl, wpAny_pure ⟨_, rfl, hq⟩⟩) fun _ _ e => e
def oSortT (K : PySem.W.Frag) : List V → Hp → VK → Prop := fun vs H Q => ∃ (a : Addr) (bs : List (V × PyData)), vs = [.ref a] ∧ SqT K H a (bs.map Prod.fst) ∧ (∀ b ∈ bs, Dp K H b.1 b.2) ∧ Srtb (bs.map Prod.snd) ∧
  ∀ l, H l = none → Q (.ref l) (upd H l (.lst ((bs.mergeSort (PySem.W.dataLe false Prod.snd)).map Prod.fst)))
theorem cr_sortTup {X : Cx} (hu : X.A.units + 66 < cLine) : CallR X (.builtin "sorted") (oSortT X.K) := by
  intro pins s σ H vs us Q I r h
  obtain ⟨a, bs, rfl, ha, hd, st, q⟩ := h
  obtain ⟨u, rfl, ru⟩ := vals1 r
  cases ru
  obtain ⟨its, rv, pl, hz⟩ := I.tuple ha
  obtain ⟨e1, e2⟩ := dp_each I rfl hd rv
  rw [List.length_map] at hz
  refine sorted_tup (bs := bs) (enc := Prod.snd) pl e1 e2 st.al st.so hz (fun b hb => ?_) fun out hl eo => ?_
  · have := st.dp b.2 (List.mem_map_of_mem hb)
    omega
  · obtain ⟨c, hc⟩ := sortedAll_at s.heap its out.toArray
    have I2 := I.laid (t' := s.toks) (h' := sortedAll s.heap its out.toArray) (a := s.heap.objs.size + 1) (o := .lst ((bs.mergeSort (PySem.W.dataLe false Prod.snd)).map Prod.fst)) (fun _ _ => sortedAll_old) (Nat.le_succ _)
      ⟨by rw [List.length_map, List.length_mergeSort]; exact hz, out, c, vals_each eo, hc⟩
    exact ⟨.ref (s.heap.objs.size + 1), _, I2, rfl, q _ (I.hok.fresh (Nat.le_succ _))⟩
/-- sorted(xs), xs a list or a tuple -/
def rSortA : PRA := fun ps h Q => match ps with
  | [p] => (match listed h p with | some xs => flats xs = true ∧ Srtb (xs.map toD) ∧ Q (.lst (xs.mergeSort (PySem.W.dataLe false toD))) h | none => False)
  | _ => False
theorem kf_sortA {K : PySem.W.Frag} : KfA K (fun vs H Q => oSort K vs H Q ∨ oSortT K vs H Q) rSortA := by
  intro xs H ps h Q' Q rp s r l
  unfold rSortA at r
  split at r
  · split at r
    · rename_i p _ qs e
      obtain ⟨v, rfl, r1⟩ := rp.one
      obtain ⟨a, ys, rfl, hq, rr⟩ := listed_sq r1 s e
      obtain ⟨f, st, r⟩ := r
      have hl := rr.length
      have e1 : (ys.zip (qs.map toD)).map Prod.fst = ys := List.map_fst_zip (by rw [List.length_map]; omega)
      have e2 : (ys.zip (qs.map toD)).map Prod.snd = qs.map toD := List.map_snd_zip (by rw [List.length_map]; omega)
      rcases hq with hq | hq
      · exact .inl ⟨a, ys.zip (qs.map toD), rfl, by rw [e1]; exact hq, dps_zip f rr, by rw [e2]; exact st, fun c hc => keep_l l s (rels_sort rr) r hc⟩
      · exact .inr ⟨a, ys.zip (qs.map toD), rfl, by rw [e1]; exact hq, dps_zip f rr, by rw [e2]; exact st, fun c hc => keep_l l s (rels_sort rr) r hc⟩
    · exact r.elim
  · exact r.elim
theorem le_sortA {X : Cx} {pos p : Pos} {e : Expr} {m : MA} (hu : X.A.units + 66 < cLine) (hm : X.mg "sorted" = none) (ha : LAn X [e] 1 m) (hg : Gl X "sorted" := by rfl) (h1 : starEach [e] X.env = (false, eval e X.env) :: starEach [] X.env := by rfl) :
    LE X (.Call (.Name "sorted" p) [e] [] pos) (mBlt rSortA m) := le_bltK ((cr_sort hu).or (cr_sortTup hu)) kf_sortA hm ha hg (h1 := h1) (h2 := rfl)
/-! ### list(text) -/
theorem vals_at : ∀ {ys : List V} {us : List Value}, ys.length = us.length → (∀ (j : Nat) (y : V) (u : Value), ys[j]? = some y → us[j]? = some u → RelV y u) → Vals ys us
  | [], [], _, _ => .nil
  | y :: ys, u :: us, hl, h => .cons (h 0 y u rfl rfl) (vals_at (by simpa using hl) fun j z w e1 e2 => h (j + 1) z w (by simpa using e1) (by simpa using e2))
  | [], _ :: _, hl, _ => by simp at hl
  | _ :: _, [], hl, _ => by simp at hl
def oListT : List V → Hp → VK → Prop := fun xs H Q => ∃ x : Str, xs = [.str x] ∧ x.length ≤ sizeLine ∧ ∀ l, H l = none → Q (.ref l) (upd H l (.lst ((cl x).map fun c => V.str (S [c]))))
theorem call_listT {X : Cx} (hc : X.calm = true) : CallR X (.type "list") oListT := by
  intro pins s σ H xs us Q I r h
  obtain ⟨x, rfl, hz, q⟩ := h
  obtain ⟨u, rfl, ru⟩ := vals1 r
  obtain ⟨t, rfl⟩ := ru
  refine call_list_str (I.ok.hd hc) x t (fun h' tk acc n kp e it => ?_) hz
  have hl : acc.size = (cl x).length := by rw [it.1]; simp [cl]
  have I2 := I.laid (t' := tk) (h' := h') (a := s.heap.objs.size) (o := .lst ((cl x).map fun c => V.str (S [c]))) kp (Nat.le_refl _) ⟨by rw [List.length_map, ← cl_length]; exact hz, acc.toList, n, ?_, by simpa using e⟩
  · exact ⟨.ref s.heap.objs.size, _, I2, rfl, q _ (I.hok.fresh (Nat.le_refl _))⟩
  · refine vals_at (by rw [List.length_map]; exact hl.symm) fun j y w e1 e2 => ?_
    obtain ⟨c, k, hc', rfl⟩ := it.2 j w (by simpa using e2)
    rw [List.getElem?_map] at e1
    have e3 : (cl x)[j]? = some c := by simpa [cl] using hc'
    rw [e3] at e1
    cases e1
    exact ⟨_, rfl⟩
/-- list(xs), xs a list, a tuple, a text -/
def rListA : PRA := fun ps h Q => match ps with
  | [.str x] => x.length ≤ SZ ∧ Q (.lst (ones x)) h
  | [p] => (match listed h p with | some xs => Q (.lst xs) h | none => False)
  | _ => False
theorem rels_ones {K : PySem.W.Frag} {H : Hp} (l : List Nat) : Rels K H (l.map fun c => PV.str (S [c])) (l.map fun c => V.str (S [c])) := by
  induction l with
  | nil => exact .nil
  | cons c l ih => exact .cons (rel_str.mpr rfl) ih
theorem kf_listA {K : PySem.W.Frag} : KfA K (fun xs H Q => oListOf K xs H Q ∨ oListT xs H Q) rListA := by
  intro xs H ps h Q' Q rp s r l
  unfold rListA at r
  split at r
  · rename_i x
    obtain ⟨v, rfl, r1⟩ := rp.one
    exact .inr ⟨x, by rw [rel_str.mp r1], sz_le r.1, fun c hc => keep_l l s (rels_ones (cl x)) r.2 hc⟩
  · split at r
    · rename_i e
      obtain ⟨v, rfl, r1⟩ := rp.one
      obtain ⟨a, ys, rfl, hq, rr⟩ := listed_sq r1 s e
      exact .inl ⟨a, ys, rfl, hq, fun c hc => keep_l l s rr r hc⟩
    · exact r.elim
  · exact r.elim
theorem le_listA {X : Cx} {pos p : Pos} {e : Expr} {m : MA} (hc : X.calm = true) (hm : X.mg "list" = none) (ha : LAn X [e] 1 m) (hg : Gl X "list" := by rfl) (h1 : starEach [e] X.env = (false, eval e X.env) :: starEach [] X.env := by rfl) :
    LE X (.Call (.Name "list" p) [e] [] pos) (mBlt rListA m) := le_tyK (call_list_of.or (call_listT hc)) kf_listA hm ha hg (h1 := h1) (h2 := rfl)
end N3

/-! targets with a star; targets of a list -/
namespace N3
open PySem PySem.Spec PyProof.Rows L2
/-- what the parts of `a, *b, c = list` are -/
theorem star_parts {prog : Program} {w : World} {A : Around} {E : Value → Shared → Prop} {s : Shared} {l : Addr} {its : Array Value} {n i : Nat} {Q : List Value → Shared → Prop} (hl : s.heap.IsList l its) (hh : A.handled = none) (hi : i < n) (hn : n ≤ its.size + 1) (hz : its.size ≤ sizeLine)
    (k : ∀ (g : Heap) (tk : Nat), (∀ b o, s.heap.get? b = some o → g.get? b = some o) → Q (its.toList.take i ++ [.ref g.objs.size] ++ (its.toList.drop i).drop (its.size + 1 - n)) { s with heap := g.push { cls := .type "list", data := .seq ((its.toList.drop i).take (its.size + 1 - n)).toArray }, toks := tk }) :
    wpAny (model prog w) A (unpackItems (.ref l) n (some i)) Q E s := by
  have far : l < s.heap.objs.size := let ⟨_, ho, _⟩ := hl; Heap.lt_size ho
  have ne : l ≠ s.heap.objs.size := Nat.ne_of_lt far
  unfold unpackItems notIterableAtAll
  refine wpAny_bind (wpAny_bind (wpAny_specialOf hl.typeIs slot_list_iter.lookup (wpAny_pure ?_)))
  simp only [Bool.false_eq_true, if_false]
  refine wpAny_bind (wpAny_holding (wpAny_pyIter_list hl (wpAny_bind (wpAny_holding (PySem.W.kun_draw ne i 0 _ _ ⟨_, Heap.get?_push_size _ rfl, rfl, rfl⟩ (hl.push _) (by omega) fun g1 at1 sm => ?_)))))
  have hl1 : g1.IsList l its := (hl.push _).extBut sm.extBut ne
  rw [Nat.zero_add] at at1
  have la : s.heap.objs.size < g1.objs.size := let ⟨_, ho, _⟩ := id at1; Heap.lt_size ho
  have lb : l < g1.objs.size := let ⟨_, ho, _⟩ := id hl1; Heap.lt_size ho
  rw [List.drop_zero]
  have f1 : (its.toList.take i).length = i := by rw [List.length_take, Array.length_toList]; omega
  have f2 : (its.toList.drop i).length = its.size - i := by rw [List.length_drop, Array.length_toList]
  have f3 : (its.toList.drop i).length - (n - 1 - i) = its.size + 1 - n := by rw [f2]; omega
  rw [if_neg (by rw [f1]; omega)]
  refine wpAny_bind (wpAny_holding (PySem.W.kun_collect (s := { s with heap := g1 }) (T := "list_iterator") (.inr (.inr (.inl rfl))) (Walks.list (A := A.in1) hh s.heap.objs.size l ne its) (fun _ _ st => st.1.typeIs) (k := i) (by omega) ⟨at1, hl1⟩ la lb (fun g2 tk kp => ?_) hz))
  dsimp only
  rw [if_neg (by rw [f2]; omega), f3]
  refine wpAny_bind (wpAny_newList (wpAny_pure ?_))
  have old : ∀ b o, s.heap.get? b = some o → g2.get? b = some o := fun b o e => kp b o (Nat.ne_of_lt (Heap.lt_size e)) (sm.extBut b o (Nat.ne_of_lt (Heap.lt_size e)) (Heap.get?_push_of_some _ e))
  exact k g2 tk old
def gStr (K : PySem.W.Frag) (n i : Nat) (t : TGs) : TG := fun v σ H Q => ∃ a xs, v = .ref a ∧ SqL K H a xs ∧ n ≤ xs.length + 1 ∧
  ∀ D o, H D = none → t (xs.take i ++ [.ref D] ++ (xs.drop i).drop (xs.length + 1 - n)) σ (upd H D (.frz o (.lst ((xs.drop i).take (xs.length + 1 - n))))) Q
section
variable {X : Cx} {pos : Pos} {es : List Expr} {vs : List Nat}
theorem pg_str {k : Nat} {t : TGs} {n i : Nat} (hc : X.calm = true) (h : PGs X es t) (hn : (assignEach es X.env).length = n := by rfl) (hst : (assignEach es X.env).findIdx? (·.1) = some i := by rfl) (hi : i < n := by decide) : PG X (.Tuple es k pos) (gStr X.K n i t) := by
  refine ⟨fun pins s σ H v u Q I r hw => ?_⟩
  obtain ⟨a, xs, rfl, hq, hl, hw⟩ := hw
  cases r
  obtain ⟨its, rv, pl, hz⟩ := I.list hq
  have ll := rv.length
  rw [PyProof.Rows.assign_Tuple]; refine wpAny_bind (wpAny_standAt ?_)
  unfold unpack; rw [hn, hst]
  refine wpAny_bind (wpAny_holding (star_parts pl.isList (I.ok.hd hc) hi (by simp; omega) (by simp; omega) fun g tk old => ?_))
  have I1 : Inv X pins σ H { s with heap := g } := I.kept (t' := s.toks) old
  have e : its.toArray.toList = its := rfl
  have ez : its.toArray.size = xs.length := by simp [ll]
  rw [e, ez]
  have I2 : Inv X pins σ (upd H g.objs.size (.lst ((xs.drop i).take (xs.length + 1 - n)))) { s with heap := g.push { cls := .type "list", data := .seq ((its.drop i).take (xs.length + 1 - n)).toArray }, toks := tk } :=
    I1.laid (a := g.objs.size) (t' := tk) (fun b o z => Heap.get?_push_of_some _ z) (Nat.le_refl _) ⟨by rw [List.length_take, List.length_drop]; omega, _, _, (rv.drop i).take _, Heap.get?_push_size _ rfl⟩
  obtain ⟨o, I3⟩ := Inv.keep I2 upd_same trivial
  rw [upd_upd] at I3
  have q := hw g.objs.size o (I1.hok.fresh (Nat.le_refl _))
  refine h.run pins _ σ _ _ _ Q I3 ?_ q
  exact ((rv.take i).append (Paired.cons (show RelV (.ref g.objs.size) (.ref g.objs.size) from rfl) .nil)).append ((rv.drop i).drop _)
/-- a, *b, c = list -/
def gS (n i : Nat) (g : MGs) : MG := fun p τ h Q => match seqL h p with
  | some ps => n ≤ ps.length + 1 ∧ g (ps.take i ++ [.lst ((ps.drop i).take (ps.length + 1 - n))] ++ (ps.drop i).drop (ps.length + 1 - n)) τ h Q
  | none => False
/-- a, b = list -/
def gL (n : Nat) (g : MGs) : MG := fun p τ h Q => match seqL h p with
  | some ps => ps.length = n ∧ g ps τ h Q
  | none => False
theorem lg_str {k : Nat} {g : MGs} {n i : Nat} (hc : X.calm = true) (h : LGs X es vs g) (hn : (assignEach es X.env).length = n := by rfl) (hst : (assignEach es X.env).findIdx? (·.1) = some i := by rfl) (hi : i < n := by decide) : LG X (.Tuple es k pos) vs (gS n i g) := by
  refine PG.weak (pg_str hc h hn hst hi) fun v σ H Q ⟨p, τ, h, Q', r, s, sh, q, l⟩ => ?_
  unfold gS at q
  cases e : seqL h p with
  | none => rw [e] at q; exact q.elim
  | some ps =>
    rw [e] at q
    obtain ⟨a, xs, rfl, sq, rr⟩ := seqL_sq r sh e
    have ll := rr.length
    have q2 := q.2
    rw [ll] at q2
    refine ⟨a, xs, rfl, sq, by rw [← ll]; exact q.1, fun D o hD => ?_⟩
    have m : Mono H (upd H D (.frz o (.lst ((xs.drop i).take (xs.length + 1 - n))))) := Mono.new hD
    refine ⟨_, τ, h, Q', ?_, s.mono m, sh.new hD, q2, fun τ1 h1 σ1 H1 q1 g1 s1 sh1 w1 => l τ1 h1 σ1 H1 q1 (Go.trans (.new hD) g1) s1 sh1 w1⟩
    refine Rels.append (Rels.append ((rr.take i).mono m) (.cons ?_ .nil)) (((rr.drop i).drop _).mono m)
    simp only [Rel]
    exact ⟨D, _, rfl, .inl ⟨o, upd_same⟩, ((rr.drop i).take _).mono m⟩
theorem lg_lst {k : Nat} {g : MGs} {n : Nat} (hc : X.calm = true) (h : LGs X es vs g) (hn : (assignEach es X.env).length = n := by rfl) (hst : (assignEach es X.env).findIdx? (·.1) = none := by rfl) : LG X (.Tuple es k pos) vs (gL n g) := by
  refine PG.weak (pg_unl hc h hn hst) fun v σ H Q ⟨p, τ, h, Q', r, s, sh, q, l⟩ => ?_
  unfold gL at q
  cases e : seqL h p with
  | none => rw [e] at q; exact q.elim
  | some ps =>
    rw [e] at q
    obtain ⟨a, xs, rfl, sq, rr⟩ := seqL_sq r sh e
    exact ⟨a, xs, rfl, sq, by rw [← rr.length, q.1], ps, τ, h, Q', rr, s, sh, q.2, l⟩
theorem lgs_star {e : Expr} {p : Pos} {g : MGs} (h : LGs X (e :: es) vs g) (hs : (assignEach (.Starred e p :: es) X.env).map (·.2) = (assignEach (e :: es) X.env).map (·.2) := by rfl) : LGs X (.Starred e p :: es) vs g :=
  ⟨fun pins s σ H ws us Q I r q => by rw [hs]; exact h.run pins s σ H ws us Q I r q⟩
end
/-! ### two keywords, exchanged -/
def cat2r {α : Type} (xs ys : List α) : List α := xs ++ ys.reverse
section
variable {X : Cx} {pos p : Pos} {j k : Nat} {x : Str} {st : Stmt} {ps : List Str} {sp : SpP}
theorem kwb_turned {K : PySem.W.Frag} {f : Addr} {fd : FuncData} {ks : List Str} {i m : Nat} (F : Fun K x x st f fd) (hl : i + m = ps.length)
    (h : ∀ (kV doc pm : Value) (an : Option Addr) (cdv ct : Value) (us ws : List Value), us.length = i → ws.length = m → bindArgs (PySem.W.fnOf x x (defArgs st) (defBody st) (defScope st) .none kV doc pm an cdv ct) ⟨us, ks.zip ws⟩ = pure (ps.zip (cat2r us ws))) :
    KwB fd ps ks cat2r cat2r cat2r i m := by
  obtain ⟨oc, od, kV, doc, pm, an, cdv, ct, osl, rfl, lk, hcd⟩ := F.ex
  exact ⟨fun s us ws h1 h2 => .of_eq (h kV doc pm an cdv ct us ws h1 h2), fun _ _ r1 r2 => r1.append r2.reverse, fun _ _ r1 r2 => r1.append r2.reverse, fun {qs zs} h1 h2 => by unfold cat2r; rw [List.length_append, List.length_reverse, h1, h2, hl]⟩
theorem le_fnKr {m' : Nat} {ks : List Str} {kws : List Keyword} {mk : MA} (c : Fn X.prog X.w X.K X.mg X.base j x st ps sp) (hr : Room k X.A) (hj : j ≤ k) (hG : X.A.guards = some []) (hl : 0 + m' = ps.length)
    (h : ∀ (kV doc pm : Value) (an : Option Addr) (cdv ct : Value) (us ws : List Value), us.length = 0 → ws.length = m' → bindArgs (PySem.W.fnOf x x (defArgs st) (defBody st) (defScope st) .none kV doc pm an cdv ct) ⟨us, ks.zip ws⟩ = pure (ps.zip (cat2r us ws)))
    (hkw : LKn X kws m' mk) (hg : Gl X x := by rfl) (hall : (backToKw pos (keywordEach kws X.env)).all (·.1.isSome) = true := by rfl) (hks : (backToKw pos (keywordEach kws X.env)).filterMap (·.1) = ks := by rfl)
    (hdb : (x == ("__debug__" : Str)) = false := by decide) (hpl : ((backTo pos (starEach [] X.env)).any (·.1) || (backToKw pos (keywordEach kws X.env)).any (·.1.isNone)) = false := by rfl) : LE X (.Call (.Name x p) [] kws pos) (mKw sp cat2r mNil mk) := by
  obtain ⟨f, fd, hm, F, hb, G⟩ := c.ex
  exact le_callK0 G (hr.mono hj) hG hm F.kp (kwb_turned F hl h) hkw hg hall hks hdb hpl
end
/-! ### a slice that may change -/
def rSlM (p : PV) (lo hi : Option Int) (h : PH) (Q : PK) : Prop := match seqL h p with
  | some xs => ∀ a, h a = none → Q (.ref a) (up h a (.lst (cut xs lo hi)))
  | none => False
theorem kf_slM {K : PySem.W.Frag} {x : V} {H : Hp} {p : PV} {lo hi : Option Int} {h : PH} {Q' : PK} {Q : VK} (rp : Rel K H p x) (s : Sim K H h) (r : rSlM p lo hi h Q') (l : LQ K H h Q' Q) : oSl K x lo hi H (kQ Q) := by
  unfold rSlM at r
  split at r
  · rename_i e
    obtain ⟨a, ys, rfl, hq, rr⟩ := seqL_sq rp s e
    exact .inl (.inl ⟨a, ys, rfl, hq, fun c hc => make_l l s (rr.cut lo hi) r hc⟩)
  · exact r.elim
def mSlM (m : ME) (ml mh : MO) : ME := fun τ h Q => m τ h fun p h1 => ml τ h1 fun lo h2 => mh τ h2 fun hi h3 => rSlM p lo hi h3 Q
section
variable {X : Cx} {pos p2 : Pos} {e : Expr} {lo hi : Option Expr}
theorem le_slM {m : ME} {ml mh : MO} (he : LE X e m) (hl : LO X lo ml) (hh : LO X hi mh) : LE X (.Subscript e (.Slice lo hi none p2) pos) (mSlM m ml mh) := by
  refine PE.weak (PE.kp (pe_slice sl_all he hl hh)) fun σ H Q ⟨τ, h, Q', s, sh, q, l⟩ => ?_
  refine ⟨τ, h, _, s, sh, q, fun p h1 v H1 q1 g1 r1 s1 => ⟨τ, h1, _, s.mono g1.mono, s1, q1, fun lo h2 H2 q2 g2 s2 => ?_⟩⟩
  refine ⟨τ, h2, _, (s.mono g1.mono).mono g2.mono, s2, q2, fun hi h3 H3 q3 g3 s3 => ?_⟩
  exact kf_slM (r1.mono (g2.trans g3).mono) s3 q3 (l.mono ((g1.trans g2).trans g3))
end
end N3

/-! enumerate of a tuple -/
namespace PySem
open PySem PySem.Spec PyProof.Rows L2
theorem enumT_made (l : Addr) (its : Array Value) :
    Meets (Builtin.«enumerate.__new__» ⟨[.type "enumerate", .ref l], []⟩) (fun _ R s => s.heap.IsTuple l its ∧
      R (.ok (.ret (.ref (s.heap.objs.size + 1)))) { s with heap := (s.heap.push { cls := .type "tuple_iterator", data := .fields #[.ref l, .int 0 0] }).push { cls := .type "enumerate", data := .fields #[.none, .bool false, .ref s.heap.objs.size, rawInt 0, .none, .none] } }) :=
  .of_wp fun prog w A R s h => by
    obtain ⟨hp, g, d, tk, os⟩ := s; obtain ⟨ht, h⟩ := h
    have hsub := sub_enumerate; have gone : ∀ {A' : Around} {E : Value → Shared → Prop} {Q : Value → Shared → Prop}, Q (.ref hp.objs.size) ⟨hp.push { cls := .type "tuple_iterator", data := .fields #[.ref l, .int 0 0] }, g, d, tk, os⟩ → wpAny (model prog w) A' (pyIter (.ref l)) Q E ⟨hp, g, d, tk, os⟩ := fun q => wpAny_pyIter_tuple ht q
    wp_walk using gone
    refine wpAny_stack_any fun st => wpAny_pure ?_
    rw [← Heap.size_push hp { cls := .type "tuple_iterator", data := .fields #[.ref l, .int 0 0] }] at h
    split
    · rename_i c _ _ _ _ _
      cases (c == Value.type "enumerate") <;> (wp_walk using gone; exact ⟨_, rfl, h⟩)
    · wp_walk using gone; exact ⟨_, rfl, h⟩
end PySem
namespace PySem
open PySem PySem.Spec PyProof.Rows L2
section
variable {prog : Program} {w : World} {A : Around} {E : Value → Shared → Prop} {s : Shared}
theorem enumT_call {l : Addr} {its : Array Value} {Q : Value → Shared → Prop} (ht : s.heap.IsTuple l its)
    (k : ∀ g, IsEnum g (s.heap.objs.size + 1) s.heap.objs.size 0 .none → g.IsTupleIter s.heap.objs.size l 0 → (∀ b o, s.heap.get? b = some o → g.get? b = some o) → Q (.ref (s.heap.objs.size + 1)) { s with heap := g }) :
    wpAny (model prog w) A (call (.type "enumerate") [.ref l]) Q E s := by
  refine callType_new F.called_enumerate (by decide) (F.typeCall_enumerate_1 _) (F.newCall_enumerate_1 _) (fun obj => F.args_object_init_2 obj _) F.entry_enumerate_new (enumT_made l its) ⟨ht, ?_⟩
  have z := Heap.size_push s.heap { cls := .type "tuple_iterator", data := .fields #[.ref l, .int 0 0] }
  have top := Heap.get?_push_size (s.heap.push { cls := .type "tuple_iterator", data := .fields #[.ref l, .int 0 0] }) (o := { cls := .type "enumerate", data := .fields #[.none, .bool false, .ref s.heap.objs.size, rawInt 0, .none, .none] }) rfl
  rw [z] at top
  exact ⟨⟨_, top, rfl⟩, k _ top ⟨_, Heap.get?_push_of_some _ (Heap.get?_push_size _ rfl), rfl, rfl⟩ fun b o x => Heap.get?_push_of_some _ (Heap.get?_push_of_some _ x)⟩
end
end PySem
namespace N3
open PySem PySem.Spec PyProof.Rows L2
/-- the tuple at a at each turn, each item in a new pair -/
def IteT (K : PySem.W.Frag) (a : Addr) : It :=
  ⟨fun i H => ∃ (xs : List V) (x : V), SqT K H a xs ∧ xs[i]? = some x, fun i H v H' => ∃ T x, v = .ref T ∧ H T = none ∧ H' = upd H T (.tup [.int (i : Nat), x]) ∧ ∀ xs, SqT K H a xs → xs[i]? = some x, fun i H => ∃ xs : List V, SqT K H a xs ∧ xs.length = i⟩
theorem turn_enumT {P : Program} {w : World} {K : PySem.W.Frag} {elts : List Expr} {kk : Nat} {tpos : Pos} (a e it : Addr) (hea : e ≠ a) (hia : a ≠ it) :
    Turn P w K (.Tuple elts kk tpos) (IteT K a) [e, it] e (fun i h => (∃ old, IsEnum h e it ((i : Nat) : Int) old) ∧ h.IsTupleIter it a i ∧ e ≠ it) where
  mem := by simp
  obj := fun i h st b hb => by
    obtain ⟨⟨old, he⟩, ⟨o, ho, hc, hd⟩, _⟩ := st
    rcases (show b = e ∨ b = it by simpa using hb) with rfl | rfl
    · exact ⟨_, he, fun v q => nomatch q⟩
    · exact ⟨o, ho, fun v q => by rw [hd] at q; cases q⟩
  keep := fun i h h' st k => ⟨let ⟨⟨old, he⟩, _⟩ := st; ⟨old, k e (by simp) _ he⟩, st.2.1.at fun o q => k it (by simp) o q, st.2.2⟩
  item := by
    intro X hP hw hK hc i pins s σ H E I hf st hg
    subst hP hw hK
    obtain ⟨⟨old, he⟩, hit, hne⟩ := st
    obtain ⟨xs, x, hq, hx⟩ := hg
    obtain ⟨its, rv, p, hz⟩ := I.tuple hq
    obtain ⟨u, hu, ru⟩ := rv.get hx
    have hel := Heap.lt_size he
    have hil : it < s.heap.objs.size := let ⟨_, q, _⟩ := hit; Heap.lt_size q
    refine wpAny_pyNext_enum_itemD (Draws.tuple (A := X.A.in1) (I.ok.hd hc) it a hia its.toArray) he ⟨hit, p⟩ (by rw [List.size_toArray]; exact (List.getElem?_eq_some_iff.mp hu).1) hne (by simp [hne, hea]) fun u' g tk pu out st' tup sz k => ?_
    obtain rfl : u' = u := by rw [List.getElem?_toArray] at pu; rw [hu] at pu; exact (Option.some.inj pu).symm
    refine ⟨_, rfl, wpAny_letOwnedTupleGo_enum (s := { s with heap := g, toks := tk + 1 }) out fun g2 he2 sb => ?_⟩
    have tup2 : g2.get? s.heap.objs.size = some { cls := .type "tuple", data := .seq #[.int i tk, u'] } := (sb.2 _ (Nat.ne_of_gt hel)).trans tup
    have fr := I.hok.fresh (Nat.le_refl s.heap.objs.size)
    have J : Inv X pins σ (upd H s.heap.objs.size (.tup [.int (i : Nat), x])) { s with heap := g2, toks := tk + 1 } :=
      I.turnedNew (ch := [e, it]) (fun b ob hb q => (sb.2 b fun z => hb (by simp [z])).trans (k b ob (fun z => hb (by simp [z])) (fun z => hb (by simp [z])) q)) hf (Nat.le_refl _)
        ⟨by show 2 ≤ sizeLine; decide, [.int i tk, u'], .cons ⟨_, rfl⟩ (.cons ru .nil), ⟨_, tup2, rfl, _, rfl⟩⟩
    refine ⟨.ref s.heap.objs.size, _, J, rfl, ⟨_, x, rfl, fr, rfl, fun ys hy => by rw [I.tuple_inj hy hq]; exact hx⟩, ⟨⟨u', by rw [show ((i + 1 : Nat) : Int) = (i : Int) + 1 by omega]; exact he2⟩, st'.1.at fun o q => (sb.2 it (Ne.symm hne)).trans q, hne⟩, fun b hb => ?_⟩
    have hb' : b < s.heap.objs.size := by
      rcases (show b = e ∨ b = it by simpa using hb) with rfl | rfl
      · exact hel
      · exact hil
    rw [upd_ne (Nat.ne_of_lt hb')]; exact (hf b hb).1
  done := by
    intro X hP hw hK hc i pins s σ H E I hf st hg
    subst hP hw hK
    obtain ⟨⟨old, he⟩, hit, hne⟩ := st
    obtain ⟨xs, hq, hx⟩ := hg
    obtain ⟨its, rv, p, hz⟩ := I.tuple hq
    obtain ⟨f0, f1, f2, f3, f4, f5⟩ := hf it (by simp)
    have ll := rv.length
    have ls : its.toArray.size = i := by rw [List.size_toArray]; omega
    exact wpAny_pyNext_enum_endD (Draws.tuple (A := X.A.in1) (I.ok.hd hc) it a hia its.toArray) he ⟨by rw [ls]; exact hit, p⟩ fun h' eb => ⟨rfl, I.turned (t' := s.toks) (fun b o hb q => eb b o hb q) f0 f1 f3 f4 f5⟩
  self := fun A i s Q E st h => let ⟨⟨_, he⟩, _⟩ := st; wpAny_pyIter_enum he h
/-- enumerate of a list or a tuple -/
def iEnumA (K : PySem.W.Frag) (ta : TA) : TI := fun σ H R => ta σ H fun vs H1 => (∃ a xs, vs = [.ref a] ∧ SqL K H1 a xs ∧ R (Ite K a) H1) ∨ ∃ a xs, vs = [.ref a] ∧ SqT K H1 a xs ∧ R (IteT K a) H1
theorem pi_enumA {X : Cx} {e : Expr} {ta : TA} {p pos tpos : Pos} {elts : List Expr} {kk : Nat} (hg : Gl X "enumerate") (hm : X.mg "enumerate" = none) (ha : PA X [e] ta) (hs : starEach [e] X.env = [(false, eval e X.env)] := by rfl) :
    PI X (.Tuple elts kk tpos) (.Call (.Name "enumerate" p) [e] [] pos) (iEnumA X.K ta) := by
  refine ⟨fun pins s σ H R I h => ?_⟩
  refine Call_ (ld_blt I hg hm boot_enumerate (PyProof.Rows.callWith_type1 (thn (ha.run pos pins s σ H _ I h) fun us s1 ⟨vs, H1, I1, r1, q1⟩ => ?_) hs rfl))
  have tl : ∀ b, b ∈ [s1.heap.objs.size + 1, s1.heap.objs.size] → s1.heap.objs.size ≤ b := fun b hb => by
    have e' : b = s1.heap.objs.size + 1 ∨ b = s1.heap.objs.size := by simpa using hb
    rcases e' with z | z
    · rw [z]; exact Nat.le_add_right _ _
    · rw [z]; exact Nat.le_refl _
  rcases q1 with ⟨a, xs, ex, hq, q⟩ | ⟨a, xs, ex, hq, q⟩
  · subst ex
    cases r1 with
    | cons r rr =>
      cases rr
      cases r
      obtain ⟨its, rv, p', hz⟩ := I1.list hq
      refine call_enumerate_list p'.isList fun h' he hit hsz hk => wpAny_pyIter_enum he ?_
      have I2 : Inv X pins σ H1 { s1 with heap := h' } := I1.kept (t' := s1.toks) hk
      exact ⟨s1.heap.objs.size + 1, [s1.heap.objs.size + 1, s1.heap.objs.size], _, _, H1, rfl, I2, turn_enum a (s1.heap.objs.size + 1) s1.heap.objs.size, ⟨⟨.none, he⟩, hit, Nat.succ_ne_self _⟩, fun b hb => I1.fpOk (tl b hb) (I1.hok.fresh (tl b hb)), q⟩
  · subst ex
    cases r1 with
    | cons r rr =>
      cases rr
      cases r
      obtain ⟨its, rv, p', hz⟩ := I1.tuple hq
      have ht : s1.heap.IsTuple a its.toArray := p'
      have hl : a < s1.heap.objs.size := by obtain ⟨o, q, _⟩ := ht; exact Heap.lt_size q
      refine enumT_call ht fun h' he hit hk => wpAny_pyIter_enum he ?_
      have I2 : Inv X pins σ H1 { s1 with heap := h' } := I1.kept (t' := s1.toks) hk
      exact ⟨s1.heap.objs.size + 1, [s1.heap.objs.size + 1, s1.heap.objs.size], _, _, H1, rfl, I2, turn_enumT a (s1.heap.objs.size + 1) s1.heap.objs.size (Nat.ne_of_gt (Nat.lt_succ_of_lt hl)) (Nat.ne_of_lt hl), ⟨⟨.none, he⟩, hit, Nat.succ_ne_self _⟩, fun b hb => I1.fpOk (tl b hb) (I1.hok.fresh (tl b hb)), q⟩
def mEnumA (m : MA) : MI := fun τ h Q => m τ h fun ps h1 => match ps with
  | [.tup xs] => xs.length ≤ SZ ∧ Q (enm xs) (fun _ => True) h1
  | [p] => (match seqL h1 p with | some xs => xs.length ≤ SZ ∧ Q (enm xs) (gdS p xs) h1 | none => False)
  | _ => False
section
variable {X : Cx} {tg e e2 : Expr} {pos p : Pos} {m : ME}
theorem enm_step {K : PySem.W.Frag} {H : Hp} {h : PH} {T : Addr} {i : Nat} {x : V} {p : PV} {xs : List PV} {us : List V} (sm : Sim K H h) (ru : Rels K H xs us) (hT : H T = none) (e : us[i]? = some x) (hp : (enm xs)[i]? = some p) :
    Go H h (upd H T (.tup [.int (i : Nat), x])) h ∧ Sim K (upd H T (.tup [.int (i : Nat), x])) h ∧ Rel K (upd H T (.tup [.int (i : Nat), x])) p (.ref T) := by
  unfold enm at hp
  rw [List.getElem?_map, List.getElem?_zipIdx] at hp
  cases ex : xs[i]? with
  | none => rw [ex] at hp; cases hp
  | some w =>
    rw [ex] at hp
    simp only [Option.map_some, Option.some.injEq, Nat.zero_add] at hp
    subst hp
    obtain ⟨w', e1, r3⟩ := ru.get ex
    rw [e] at e1; cases e1
    have mm : Mono H (upd H T (.tup [.int (i : Nat), x])) := Mono.new hT
    exact ⟨.new hT, sm.new hT, rel_tup.mpr ⟨T, _, rfl, .inl (.inl upd_same), .cons (rel_int.mpr rfl) (.cons (r3.mono mm) .nil)⟩⟩
theorem li_enumA {m : MA} {elts : List Expr} {kk : Nat} {tpos : Pos} (hm : X.mg "enumerate" = none) (ha : LAn X [e] 1 m) (hg : Gl X "enumerate" := by rfl) (hs : starEach [e] X.env = [(false, eval e X.env)] := by rfl) :
    LI X (.Tuple elts kk tpos) (.Call (.Name "enumerate" p) [e] [] pos) (mEnumA m) := by
  refine PI.weak (pi_enumA hg hm ha hs) fun σ H R ⟨τ, h, Q', s, sh, q, l⟩ => ?_
  refine ⟨τ, h, _, s, sh, q, fun ps h1 vs H1 q1 hl g1 r1 s1 => ?_⟩
  have hlen : ∀ xs, (enm xs).length = xs.length := fun xs => by unfold enm; simp
  split at q1
  · rename_i xs
    obtain ⟨v, rfl, r2⟩ := r1.one
    obtain ⟨a, ys, rfl, hq, rr⟩ := rel_tup.mp r2
    refine .inr ⟨a, ys, rfl, hq, l _ _ _ _ _ q1.2 g1 s1 ⟨by rw [hlen]; exact sz_le q1.1, fun i H h hi m sm g => ?_, fun H h m sm g => ?_, fun i H h y H' p hp m sm g hy => ?_⟩⟩
    · rw [hlen, rr.length] at hi
      exact ⟨ys, ys[i], m.sqT hq, List.getElem?_eq_getElem hi⟩
    · exact ⟨ys, m.sqT hq, by rw [hlen, rr.length]⟩
    · obtain ⟨T, x, rfl, hT, rfl, hy⟩ := hy
      exact enm_step sm (rr.mono m) hT (hy ys (m.sqT hq)) hp
  · rename_i p _
    obtain ⟨v, rfl, r2⟩ := r1.one
    split at q1
    · rename_i xs e
      obtain ⟨a, ys, rfl, hq, rr, later⟩ := seqL_walk r2 s1 e
      refine .inl ⟨a, ys, rfl, hq, l _ _ _ _ _ q1.2 g1 s1 ⟨by rw [hlen]; exact sz_le q1.1, fun i H h hi m sm g => ?_, fun H h m sm g => ?_, fun i H h y H' p hp m sm g hy => ?_⟩⟩
      · obtain ⟨us, hu, ru⟩ := later H h m sm g
        rw [hlen, ru.length] at hi
        exact ⟨us, us[i], hu, List.getElem?_eq_getElem hi⟩
      · obtain ⟨us, hu, ru⟩ := later H h m sm g
        exact ⟨us, hu, by rw [hlen, ru.length]; exact Nat.le_refl _⟩
      · obtain ⟨us, hu, ru⟩ := later H h m sm g
        obtain ⟨T, x, rfl, hT, rfl, hy⟩ := hy
        exact enm_step sm ru hT (hy us hu) hp
    · exact q1.elim
  · exact q1.elim
end
/-! ### a tuple, many times -/
def rMulT : PR2 := fun p q h Q => match p, q with
  | .tup xs, .int n => 0 ≤ n ∧ n ≤ 1000 ∧ xs ≠ [] ∧ xs.length ≤ 1000 ∧ Q (.tup (List.replicate n.toNat xs).flatten) h
  | p, q => rMul p q h Q
def oMulT (K : PySem.W.Frag) : R2 := fun x y H Q => oMul K x y H Q ∨ rRepT K x y H Q
theorem op_mulT {X : Cx} : OpR X (binaryOp .Mult) (oMulT X.K) := op_mulA.or op_repT
theorem kf_mulT {K : PySem.W.Frag} : Kf2 K (oMulT K) rMulT := by
  intro x y H p q h Q' Q rp rq s r l
  unfold rMulT at r
  split at r
  · rename_i ps n
    obtain ⟨n0, n1, hne, hl, r⟩ := r
    by_cases h2 : 2 ≤ n
    · obtain ⟨a, xs, e1, h1, r1⟩ := rel_tup.mp rp
      have ll := r1.length
      refine .inr ⟨a, n, xs, e1, rel_int.mp rq, h1, fun z => hne ?_, h2, n1, by omega, fun c hc => .inl (make_t l s (r1.rep n.toNat) r hc)⟩
      subst z
      exact List.eq_nil_of_length_eq_zero ll
    · refine .inl (kf_mul x y H _ _ h Q' Q rp rq s ⟨n0, by omega, ?_⟩ l)
      by_cases h1 : n = 1
      · subst h1
        rw [if_pos rfl]
        simpa using r
      · rw [if_neg h1]
        have : n = 0 := by omega
        subst this
        simpa using r
  · exact .inl (kf_mul x y H _ _ h Q' Q rp rq s r l)
end N3

/-! lists that may change: of a text cut, of two lists; a store as a target -/
namespace N3
open PySem PySem.Spec PyProof.Rows L2
def rSplitM : PV → List PV → PH → PK → Prop := fun p ps h Q => match p, ps with
  | .str x, [.str y] => (y.length == 0) = false ∧ x.length + 2 ≤ SZ ∧ ∀ a, h a = none → Q (.ref a) (up h a (.lst ((Txt.split x y).map PV.str)))
  | _, _ => False
section
variable {X : Cx} {pos apos cpos p2 : Pos} {o e i : Expr} {m : MA} {mo mk me : ME} {vs : List Nat}
theorem le_splitM (ho : LE X o mo) (ha : LAn X [e] 1 m) (hbase : attributeBase o "split" X.env (eval o X.env) = eval o X.env := by rfl)
    (hfew : ((backTo cpos (starEach [e] X.env)).all (fun x => !x.1) && (backToKw cpos (keywordEach [] X.env)).all (fun x => x.1.isSome) && decide (([e] : List Expr).length + ([] : List Keyword).length + (if ([] : List Keyword).isEmpty then 0 else 1) < 30)) = true := by rfl)
    (hline : (apos.endLine == cpos.line) = true := by rfl) (hs : starEach [e] X.env = (false, eval e X.env) :: starEach [] X.env := by rfl) (hs1 : starEach [e] X.env = [(false, eval e X.env)] := by rfl) :
    LE X (.Call (.Attribute o "split" apos) [e] [] cpos) (mM1 rSplitM mo m) := by
  refine PE.weak (PE.kp (pe_bm PySem.F.plainAttrs_str PySem.F.slot_str_split PySem.F.type_str_split mt_split ho ha hbase hfew hline hs rfl)) fun σ H Q ⟨τ, h, Q', s, sh, q, l⟩ => ?_
  refine ⟨τ, h, _, s, sh, q, fun p h1 v H1 ⟨⟨x, ex⟩, q1⟩ g1 r1 s1 => ⟨by subst ex; rw [rel_str.mp r1]; rfl, ?_⟩⟩
  refine ⟨τ, h1, _, s.mono g1.mono, s1, q1, ?_⟩
  rintro ps h2 vs H2 q2 _ g2 rr s2
  subst ex
  unfold rSplitM at q2
  split at q2
  · rename_i x' y ex _
    cases ex
    obtain ⟨w, rfl, rw'⟩ := rr.one
    obtain ⟨z1, z2, q2⟩ := q2
    exact ⟨_, _, rel_str.mp r1, by rw [rel_str.mp rw'], z1, sz_le z2, fun a ha => make_l (l.mono (g1.trans g2)) s2 (rels_of_strs _) q2 ha⟩
  · exact q2.elim
/-- a list and a list, that may change -/
def rAddM : PR2 := fun p q h Q => match seqL h p, seqL h q with
  | some xs, some ys => xs.length + ys.length ≤ SZ ∧ ∀ a, h a = none → Q (.ref a) (up h a (.lst (xs ++ ys)))
  | _, _ => False
theorem kf_addM {K : PySem.W.Frag} : Kf2 K (oAdd K) rAddM := by
  intro x y H p q h Q' Q rp rq s r l
  unfold rAddM at r
  split at r
  · rename_i xs ys e1 e2
    obtain ⟨a, us, ea, ha, ra⟩ := seqL_sq rp s e1
    obtain ⟨b, ws, eb, hb, rb⟩ := seqL_sq rq s e2
    refine .inr ⟨a, b, us, ws, ea, eb, ha, hb, ?_, fun c hc => make_l l s (ra.append rb) r.2 hc⟩
    rw [← ra.length, ← rb.length]; exact sz_le r.1
  · exact r.elim
/-- o[i] as a target -/
def gPut (mo mk : ME) : MG := fun p τ h Q => mo τ h fun d h2 => mk τ h2 fun q h3 => match d with
  | .ref a => (match h3 a with
    | some (.dct ks vs) => (match kOf q with | some k => ks.length < SZ ∧ Q τ (up h3 a (.dct (pk ks k) (pvs ks vs k p))) | none => False)
    | some (.lst xs) => (match q with | .int i => (match ixN xs.length i with | some j => Q τ (up h3 a (.lst (xs.set j p))) | none => False) | _ => False)
    | _ => False)
  | _ => False
theorem lg_put {o i : Expr} {pos' : Pos} (hu : X.A.units + 1 < cLine) (ho : LE X o mo) (hi : LE X i mk)
    (ha : ∀ u, assign (.Subscript o i pos') X.env u = (do let ov ← holding [u] (eval o X.env); let iv ← holding [u, ov] (eval i X.env); standAt pos'; holding [u, ov, iv] (setItem ov iv u); release [u, ov, iv] []) := by intro _; rfl) : LG X (.Subscript o i pos') vs (gPut mo mk) := by
  refine PG.weak (pg_sub ho hi (PSet_or (set_dict hu) set_list) ha) fun v σ H Q ⟨p, τ, h, Q', r, s, sh, q, l⟩ => ?_
  refine ⟨τ, h, _, s, sh, q, fun d h2 x H2 q2 g2 r2 s2 => ?_⟩
  refine ⟨τ, h2, _, s.mono g2.mono, s2, q2, fun q h3 y H3 q3 g3 r3 s3 => ?_⟩
  cases d with
  | ref a =>
    have hx := rel_ref.mp (r2.mono g3.mono)
    simp only at q3
    split at q3
    · rename_i ks us e
      split at q3
      · rename_i k ek
        obtain ⟨u, e1, kvs, rfl, rfl, rr⟩ := s3 a _ e
        have hy := kOf_rel r3 ek
        have hl : kvs.length < sizeLine := by
          have z := q3.1
          rw [List.length_map] at z
          exact sz_lt z
        subst hy hx
        have mm : Mono H3 (upd H3 a (.dK (putK kvs k v))) := Mono.dK e1
        obtain ⟨z1, z2⟩ := put_rel (k := k) rr ((r.mono g2.mono).mono g3.mono)
        refine .inl ⟨a, _, rfl, DPut.k e1 hl, l _ _ _ _ q3.2 ((g2.trans g3).trans (.wr e mm)) (((s.mono g2.mono).mono g3.mono).mono mm) (s3.put mm ⟨_, rfl, z1, z2.mono mm⟩) rfl⟩
      · exact q3.elim
    · rename_i xs e
      split at q3
      · rename_i i
        split at q3
        · rename_i j ej
          obtain ⟨u, e1, ys, rfl, rr⟩ := s3 a _ e
          have hy := rel_int.mp r3
          subst hy hx
          have mm : Mono H3 (upd H3 a (.lst (ys.set j v))) := Mono.lst e1
          refine .inr ⟨a, ys, i, j, rfl, rfl, e1, by rw [← rr.length]; exact ej, l _ _ _ _ q3 ((g2.trans g3).trans (.wr e mm)) (((s.mono g2.mono).mono g3.mono).mono mm) (s3.put mm ⟨_, rfl, (rr.set ((r.mono g2.mono).mono g3.mono) j).mono mm⟩) rfl⟩
        · exact q3.elim
      · exact q3.elim
    · exact q3.elim
  | _ => exact q3.elim
end
end N3

namespace N3
open PySem PySem.Spec PyProof.Rows L2
/-! ### xs[::e], e 1 or -1 -/
def mStep (m ms : ME) : ME := fun τ h Q => m τ h fun p h1 => ms τ h1 fun q h2 => match q with
  | .int i => (match seqL h2 p with
    | some xs => (i = 1 ∨ i = -1) ∧ Q (.lst (if i = 1 then xs else xs.reverse)) h2
    | none => False)
  | _ => False
def tStepA (K : PySem.W.Frag) (te ts : TE) : TE := fun σ H Q => te σ H fun x H1 => tPart ts σ H1 fun o H2 => ∃ i, o = some i ∧ (i = 1 ∨ i = -1) ∧ ∃ a xs, x = .ref a ∧ SqL K H2 a xs ∧ ∀ p, H2 p = none → Q (.ref p) (upd H2 p (.lst (if i = 1 then xs else xs.reverse)))
theorem pick_one (its : List Value) : slicePick its.toArray none none (some 1) = its.toArray := by
  have := slicePick_cut its none none
  rw [show slicePick its.toArray none none (some 1) = slicePick its.toArray none none none from rfl, this]
  unfold HT.sIx
  simp
section
variable {X : Cx} {pos p3 : Pos} {e es : Expr}
theorem pe_stepA {te ts : TE} (he : PE X e te) (hs : PE X es ts) : PE X (.Subscript e (.Slice none none (some es) p3) pos) (tStepA X.K te ts) := by
  refine ⟨fun pins s σ H Q I h => ?_⟩
  refine Subscript_ (thn (he.run pins s σ H _ I h) fun v s1 ⟨x, H1, I1, r1, q1⟩ => ?_)
  have hst : L2.PO X (some es) (tPart ts) := po_some hs
  refine wpAny_Slice (thn (po_none.run pins s1 σ H1 (fun o H2 => o = none ∧ H2 = H1) I1 ⟨rfl, rfl⟩) fun vl s2 ⟨l, H2, I2, pl, el, e2⟩ => ?_)
  subst el e2
  refine thn (po_none.run pins s2 σ H2 (fun o H3 => o = none ∧ H3 = H2) I2 ⟨rfl, rfl⟩) fun vu s3 ⟨u, H3, I3, pu, eu, e3⟩ => ?_
  subst eu e3
  refine thn (hst.run pins s3 σ H3 (fun o H4 => ∃ i, o = some i ∧ (i = 1 ∨ i = -1) ∧ ∃ a xs, x = .ref a ∧ SqL X.K H4 a xs ∧ ∀ p, H4 p = none → Q (.ref p) (upd H4 p (.lst (if i = 1 then xs else xs.reverse)))) I3 q1) fun vs s4 ⟨o, H4, I4, ps, i, eo, hi, a, xs, ex, hx, q⟩ => ?_
  subst eo
  subst ex
  cases r1
  have I5 : Inv X pins σ H4 { s4 with heap := s4.heap.push { cls := .type "slice", data := .fields #[vl, vu, vs] } } := I4.kept (t' := s4.toks) fun b ob q => Heap.get?_push_of_some _ q
  show wpAny (model X.prog X.w) X.A (subscriptTail e (.Slice none none (some es) p3) (.ref a) (.ref s4.heap.objs.size)) (EP X pins σ Q) X.xe { s4 with heap := s4.heap.push { cls := .type "slice", data := .fields #[vl, vu, vs] } }
  obtain ⟨its, r, ht, hz⟩ := I5.list hx
  have hlen := r.length
  refine tail_any (ops := [.ref a, .ref s4.heap.objs.size]) ht.isList.typeIs (PySem.slot_list_getitem.lookup) ?_ (by with_unfolding_all rfl)
  refine wpAny_getItem_list_slice ht.isList (Heap.IsSliceOf.new _ vl vu vs) pl pu ps (by rcases hi with rfl | rfl <;> decide) ?_ (by rw [List.size_toArray]; omega)
  rcases hi with rfl | rfl
  · rw [pick_one]
    rw [if_pos rfl] at q
    refine ⟨.ref _, _, I5.laid (t' := s4.toks) (o := .lst xs) (fun b ob q => Heap.get?_push_of_some _ q) (Nat.le_refl _) ?_, rfl, q _ (I5.hok.fresh (Nat.le_refl _))⟩
    exact ⟨hz, _, 0, r, Heap.get?_push_size _ rfl⟩
  · rw [PySem.W.krv_pick]
    rw [if_neg (by decide)] at q
    refine ⟨.ref _, _, I5.laid (t' := s4.toks) (o := .lst xs.reverse) (fun b ob q => Heap.get?_push_of_some _ q) (Nat.le_refl _) ?_, rfl, q _ (I5.hok.fresh (Nat.le_refl _))⟩
    exact ⟨by rw [List.length_reverse]; exact hz, _, 0, r.reverse, Heap.get?_push_size _ rfl⟩
theorem le_stp {m ms : ME} (he : LE X e m) (hs : LE X es ms) : LE X (.Subscript e (.Slice none none (some es) p3) pos) (mStep m ms) := by
  refine PE.weak (PE.kp (pe_stepA he hs)) fun σ H Q ⟨τ, h, Q', s, sh, q, l⟩ => ?_
  refine ⟨τ, h, _, s, sh, q, fun p h1 v H1 q1 g1 r1 s1 => ?_⟩
  refine ⟨τ, h1, _, s.mono g1.mono, s1, q1, fun q2 h2 y H2 q3 g2 r2 s2 => ?_⟩
  cases q2 with
  | int i =>
    have ey := rel_int.mp r2
    simp only at q3
    split at q3
    · rename_i xs e
      obtain ⟨a, ys, rfl, hq, rr⟩ := seqL_sq (r1.mono g2.mono) s2 e
      refine ⟨i, ey, i, rfl, q3.1, a, ys, rfl, hq, fun c hc => keep_l ((l.mono g1).mono g2) s2 ?_ q3.2 hc⟩
      split
      · exact rr
      · exact rr.reverse
    · exact q3.elim
  | _ => exact q3.elim
end
end N3

namespace N3
open PySem PySem.Spec PyProof.Rows L2
/-! ### the truth of any value; a or b, a and b as values -/
def trv (h : PH) : PV → Option Bool
  | .non => some false
  | .bl b => some b
  | .int i => some (i != 0)
  | .str x => if x.length ≤ SZ then some ((x.length : Int) != 0) else none
  | .tup xs => some (!xs.isEmpty)
  | p => match seqL h p with | some xs => some (!xs.isEmpty) | none => none
theorem isEmpty_rels {K : PySem.W.Frag} {H : Hp} {ps : List PV} {xs : List V} (r : Rels K H ps xs) : ps.isEmpty = xs.isEmpty := by
  cases ps with
  | nil => rw [Rels.nil_iff] at r; subst r; rfl
  | cons p ps => obtain ⟨v, vs, rfl, _, _⟩ := r.uncons; rfl
theorem trv_up {K : PySem.W.Frag} {H : Hp} {h : PH} {p : PV} {v : V} {k : Bool} (r : Rel K H p v) (s : Sim K H h) (e : trv h p = some k) : TruV K v H k := by
  have seq : ∀ {xs}, seqL h p = some xs → k = !xs.isEmpty → TruV K v H k := fun {xs} e1 e2 => by
    obtain ⟨a, ys, rfl, hq, rr⟩ := seqL_sq r s e1
    exact .inl ⟨ys, hq, by rw [e2, isEmpty_rels rr]⟩
  cases p with
  | non => rw [rel_non.mp r]; exact (Option.some.inj e).symm
  | bl b => rw [rel_bl.mp r]; exact (Option.some.inj e).symm
  | int i => rw [rel_int.mp r]; exact (Option.some.inj e).symm
  | str x =>
    rw [rel_str.mp r]
    simp only [trv] at e
    split at e
    · rename_i hz
      exact ⟨sz_le hz, (Option.some.inj e).symm⟩
    · cases e
  | tup xs =>
    obtain ⟨a, ys, rfl, hq, rr⟩ := rel_tup.mp r
    exact .inr (.inl ⟨ys, hq, by rw [← isEmpty_rels rr]; exact (Option.some.inj e).symm⟩)
  | lst xs => exact seq (xs := xs) rfl (Option.some.inj e).symm
  | ref a =>
    have e : (match seqL h (.ref a) with | some xs => some (!xs.isEmpty) | none => none) = some k := e
    split at e
    · rename_i xs e1
      exact seq e1 (Option.some.inj e).symm
    · cases e
  | dct ks vs => cases e
  | ty n => cases e
def mOrV (a b : ME) : ME := fun τ h Q => a τ h fun p h1 => match trv h1 p with
  | some k => if k = true then Q p h1 else b τ h1 Q
  | none => False
def mAndV (a b : ME) : ME := fun τ h Q => a τ h fun p h1 => match trv h1 p with
  | some k => if k = true then b τ h1 Q else Q p h1
  | none => False
section
variable {X : Cx} {a b e : Expr} {rest : List Expr} {pos : Pos}
theorem le_orV {ma mb : ME} (ha : LE X a ma) (hb : LE X (.BoolOp .Or (b :: rest) pos) mb) : LE X (.BoolOp .Or (a :: b :: rest) pos) (mOrV ma mb) := by
  refine PE.weak (pe_orT ha hb) fun σ H Q ⟨τ, h, Q', s, sh, q, l⟩ => ?_
  refine ⟨τ, h, _, s, sh, q, fun p h1 v H1 q1 m1 r s1 => ?_⟩
  split at q1
  · rename_i k e
    refine ⟨k, trv_up r s1 e, ?_⟩
    cases k with
    | true => exact l _ _ _ _ q1 m1 r s1
    | false => exact ⟨τ, h1, Q', s.mono m1.mono, s1, q1, l.mono m1⟩
  · exact q1.elim
theorem le_andV {ma mb : ME} (ha : LE X a ma) (hb : LE X (.BoolOp .And (b :: rest) pos) mb) : LE X (.BoolOp .And (a :: b :: rest) pos) (mAndV ma mb) := by
  refine PE.weak (pe_andT ha hb) fun σ H Q ⟨τ, h, Q', s, sh, q, l⟩ => ?_
  refine ⟨τ, h, _, s, sh, q, fun p h1 v H1 q1 m1 r s1 => ?_⟩
  split at q1
  · rename_i k e
    refine ⟨k, trv_up r s1 e, ?_⟩
    cases k with
    | true => exact ⟨τ, h1, Q', s.mono m1.mono, s1, q1, l.mono m1⟩
    | false => exact l _ _ _ _ q1 m1 r s1
  · exact q1.elim
end
end N3

/-! classes: fields, methods, instances made; calls by any pattern of places, keywords, defaults -/
namespace N3
open PySem PySem.Spec PyProof.Rows L2

/-! ### items by their places -/
def pick {α : Type} (π : List Nat) (l : List α) : List α := π.filterMap fun i => l[i]?
theorem Vals.pick {vs : List V} {us : List Value} (r : Vals vs us) : ∀ π : List Nat, Vals (pick π vs) (N3.pick π us)
  | [] => .nil
  | i :: π => by
    have ih := Vals.pick r π
    unfold N3.pick at ih ⊢
    cases e : vs[i]? with
    | none =>
      have e2 : us[i]? = none := by
        rw [List.getElem?_eq_none_iff] at e ⊢
        rw [← r.length]; exact e
      rw [List.filterMap_cons_none e, List.filterMap_cons_none e2]; exact ih
    | some v =>
      obtain ⟨u, e2, ru⟩ := r.get e
      rw [List.filterMap_cons_some e, List.filterMap_cons_some e2]
      exact .cons ru ih
theorem Rels.pick {K : PySem.W.Frag} {H : Hp} {ps : List PV} {vs : List V} (r : Rels K H ps vs) : ∀ π : List Nat, Rels K H (N3.pick π ps) (N3.pick π vs)
  | [] => .nil
  | i :: π => by
    have ih := Rels.pick r π
    unfold N3.pick at ih ⊢
    cases e : ps[i]? with
    | none =>
      have e2 : vs[i]? = none := by
        rw [List.getElem?_eq_none_iff] at e ⊢
        rw [← r.length]; exact e
      rw [List.filterMap_cons_none e, List.filterMap_cons_none e2]; exact ih
    | some v =>
      obtain ⟨u, e2, ru⟩ := r.get e
      rw [List.filterMap_cons_some e, List.filterMap_cons_some e2]
      exact .cons ru ih
/-- how a call is written: n values by place, keywords named ks, defaults ds; the parameters' values are those of all these at π -/
structure Pat where
  n : Nat
  ks : List Str
  π : List Nat
  ds : List PV
structure KbP (K : PySem.W.Frag) (fd : FuncData) (ps : List Str) (b : Pat) : Prop where
  ex : ∃ (mv : List Value) (dv : List V), Vals dv mv ∧ (∀ H, Rels K H b.ds dv) ∧
    ∀ (s : Shared) (us ws : List Value), K.In s.heap → us.length = b.n → ws.length = b.ks.length → BindsTo s fd ⟨us, b.ks.zip ws⟩ (ps.zip (pick b.π (us ++ ws ++ mv)))
  len : ∀ l : List PV, l.length = b.n + b.ks.length + b.ds.length → (pick b.π l).length = ps.length
/-- a def that is called by patterns -/
structure FnC (P : Program) (w : World) (K : PySem.W.Frag) (mg : Str → Option Value) (base : Heap) (k : Nat) (f : Addr) (fd : FuncData) (ps : List Str) (sp : SpP) (pats : List Pat) : Prop where
  kp : PySem.W.keepIn K (.ref f) = true
  b : ∀ p ∈ pats, KbP K fd ps p
  g : FnG P w K mg base k f fd ps sp
/-- .. as a method of a class -/
structure FnM (P : Program) (w : World) (K : PySem.W.Frag) (mg : Str → Option Value) (base : Heap) (k : Nat) (C : Addr) (m : Str) (ps : List Str) (sp : SpP) (pats : List Pat) : Prop where
  cl : Cls K C
  ex : ∃ (f : Addr) (fd : FuncData), Meth K C m f ∧ FnC P w K mg base k f fd ps sp pats
/-- .. as what makes an instance of a class that is called by its name -/
structure FnI (P : Program) (w : World) (K : PySem.W.Frag) (mg : Str → Option Value) (base : Heap) (k : Nat) (x : Str) (C : Addr) (ps : List Str) (sp : SpP) (pats : List Pat) : Prop where
  at_ : mg x = some (.ref C)
  ex : ∃ (f : Addr) (fd : FuncData), Mk K C f ∧ FnC P w K mg base k f fd ps sp pats

/-! ### an instance's fields -/
def fN (f : Str) : List Str → List Str
  | [] => [f]
  | k :: r => if k = f then k :: r else k :: fN f r
def fV (f : Str) (v : PV) : List Str → List PV → List PV
  | k :: r, x :: s => if k = f then v :: s else x :: fV f v r s
  | _, _ => [v]
def fG (f : Str) : List Str → List PV → Option PV
  | k :: r, x :: s => if k = f then some x else fG f r s
  | _, _ => none
theorem fN_put (f : Str) (y : V) : ∀ fs : List (Str × V), (putF f y fs).map (·.1) = fN f (fs.map (·.1))
  | [] => rfl
  | (k, x) :: r => by
    show (if k = f then (k, y) :: r else (k, x) :: putF f y r).map (·.1) = if k = f then k :: r.map (·.1) else k :: fN f (r.map (·.1))
    split
    · rfl
    · rw [List.map_cons, fN_put f y r]
theorem fV_put {K : PySem.W.Frag} {H : Hp} {f : Str} {p : PV} {y : V} (r : Rel K H p y) : ∀ {fs : List (Str × V)} {vs : List PV}, Rels K H vs (fs.map (·.2)) → Rels K H (fV f p (fs.map (·.1)) vs) ((putF f y fs).map (·.2))
  | [], vs, rr => by
    rw [show fV f p (([] : List (Str × V)).map (·.1)) vs = [p] by cases vs <;> rfl]
    exact .cons r .nil
  | (k, x) :: fs, vs, rr => by
    cases vs with
    | nil => exact absurd rr.length (by simp)
    | cons v vs =>
      obtain ⟨w, ws, e, r1, r2⟩ := rr.uncons
      injection e with e1 e2
      subst e1 e2
      show Rels K H (if k = f then p :: vs else v :: fV f p (fs.map (·.1)) vs) ((if k = f then (k, y) :: fs else (k, x) :: putF f y fs).map (·.2))
      split
      · exact .cons r r2
      · exact .cons r1 (fV_put r r2)
theorem fG_get {K : PySem.W.Frag} {H : Hp} {f : Str} {p : PV} : ∀ {fs : List (Str × V)} {vs : List PV}, Rels K H vs (fs.map (·.2)) → fG f (fs.map (·.1)) vs = some p → ∃ v, fs.lookup f = some v ∧ Rel K H p v
  | [], vs, rr, e => by cases vs <;> cases e
  | (k, x) :: fs, vs, rr, e => by
    cases vs with
    | nil => exact absurd rr.length (by simp)
    | cons v vs =>
      obtain ⟨w, ws, e0, r1, r2⟩ := rr.uncons
      injection e0 with e1 e2
      subst e1 e2
      have e : (if k = f then some v else fG f (fs.map (·.1)) vs) = some p := e
      by_cases hk : k = f
      · rw [if_pos hk] at e
        injection e with e
        subst e hk
        exact ⟨x, by simp [List.lookup], r1⟩
      · rw [if_neg hk] at e
        obtain ⟨u, e3, r3⟩ := fG_get r2 e
        refine ⟨u, ?_, r3⟩
        rw [List.lookup_cons, show (f == k) = false from beq_eq_false_iff_ne.mpr (Ne.symm hk)]
        exact e3
theorem noF_get {f : Str} : ∀ {fs : List (Str × V)}, f ∉ fs.map (·.1) → fs.lookup f = none
  | [], _ => rfl
  | (k, x) :: fs, h => by
    rw [List.map_cons, List.mem_cons, not_or] at h
    rw [List.lookup_cons, show (f == k) = false from beq_eq_false_iff_ne.mpr h.1]
    exact noF_get h.2
theorem Mono.own {H : Hp} {a : Addr} {o : HO} {x : Addr} (h : H a = some (.own x)) : Mono H (upd H a o) := .wr h (fun _ e => nomatch e) (fun _ _ e => nomatch e)
/-- o.f -/
def mFld (C : Addr) (f : Str) (m : ME) : ME := fun τ h Q => m τ h fun p h1 => match p with
  | .ref a => (match h1 a with
    | some (.ins C' ns vs) => C' = C ∧ (match fG f ns vs with | some v => Q v h1 | none => False)
    | _ => False)
  | _ => False
/-- o.f = e -/
def mPutF (C : Addr) (f : Str) (mo mv : ME) : MS := fun D τ h => mv τ h fun p h1 => mo τ h1 fun d h2 => match d with
  | .ref a => (match h2 a with
    | some (.ins C' ns vs) => C' = C ∧ ns.length < 1000 ∧ D.nx τ (up h2 a (.ins C (fN f ns) (fV f p ns vs)))
    | _ => False)
  | _ => False
/-- o.f += e, of ints -/
def mAugF (C : Addr) (f : Str) (g : Int → Int → Int) (mo mv : ME) : MS := fun D τ h => mo τ h fun d h1 => match d with
  | .ref a => (match h1 a with
    | some (.ins C' ns vs) => C' = C ∧ (match fG f ns vs with
      | some (.int i) => mv τ h1 fun q h2 => (match q with
        | .int j => (match h2 a with
          | some (.ins C2 ns2 vs2) => C2 = C ∧ ns2.length < 1000 ∧ D.nx τ (up h2 a (.ins C (fN f ns2) (fV f (.int (g i j)) ns2 vs2)))
          | _ => False)
        | _ => False)
      | _ => False)
    | _ => False)
  | _ => False
section
variable {X : Cx} {o e value : Expr} {es : List Expr} {f : Str} {pos pos' tpos apos : Pos} {mo mv m : ME} {C : Addr}
theorem le_fld (c : Cls X.K C) (n : NoAttr X.K C f) (he : LE X e m) (hb : attributeBase e f X.env (eval e X.env) = eval e X.env := by rfl) : LE X (.Attribute e f pos) (mFld C f m) := by
  refine PE.weak (pe_fld he hb) fun σ H Q ⟨τ, h, Q', s, sh, q, l⟩ => ?_
  refine ⟨τ, h, _, s, sh, q, fun p h1 v H1 q1 g1 r1 s1 => ?_⟩
  cases p with
  | ref a =>
    simp only at q1
    split at q1
    · rename_i C' ns vs e1
      obtain ⟨rfl, q1⟩ := q1
      split at q1
      · rename_i w ew
        obtain ⟨u, e2, dx, fs, rfl, rfl, rr⟩ := s1 a _ e1
        obtain ⟨y, ey, ry⟩ := fG_get rr ew
        exact ⟨a, C', dx, fs, y, rel_ref.mp r1, e2, c, n, ey, l _ _ _ _ q1 g1 ry s1⟩
      · exact q1.elim
    · exact q1.elim
  | _ => exact q1.elim
theorem ls_fld (c : Cls X.K C) (n : NoAttr X.K C f) (ho : LE X o mo) (hv : LE X value mv) (hs : swapsWith value (some (.Attribute o f pos')) pos.line X.env = pure false := by rfl) : LS X (.Assign [.Attribute o f pos'] value pos) (mPutF C f mo mv) := by
  refine PS.weak (ps_fld ho hv hs) fun D σ H ⟨τ, h, D', s, sh, q, l⟩ => ?_
  refine ⟨τ, h, _, s, sh, q, fun p h1 v H1 q1 g1 r1 s1 => ?_⟩
  refine ⟨τ, h1, _, s.mono g1.mono, s1, q1, fun d h2 x H2 q2 g2 r2 s2 => ?_⟩
  cases d with
  | ref a =>
    simp only at q2
    split at q2
    · rename_i C' ns vs e1
      obtain ⟨rfl, hl, q2⟩ := q2
      obtain ⟨u, e2, dx, fs, rfl, rfl, rr⟩ := s2 a _ e1
      have mm : Mono H2 (upd H2 a (.ins C' dx (putF f v fs))) := Mono.ins e2
      refine ⟨a, C', dx, fs, rel_ref.mp r2, e2, c, n, by simpa using hl, l.nx _ _ _ _ q2 ((g1.trans g2).trans (.wr e1 mm)) (((s.mono g1.mono).mono g2.mono).mono mm) (s2.put mm ⟨dx, _, rfl, (fN_put f v fs).symm, (fV_put (r1.mono g2.mono) rr).mono mm⟩)⟩
    · exact q2.elim
  | _ => exact q2.elim
theorem ls_augF {op : Operator} {g : Int → Int → Int} (c : Cls X.K C) (n : NoAttr X.K C f) (ho : LE X o mo) (hv : LE X value mv) (hop : InOp X op (fun x y H Q => ∃ i j, x = .int i ∧ y = .int j ∧ Q (.int (g i j)) H)) : LS X (.AugAssign (.Attribute o f tpos) op value pos) (mAugF C f g mo mv) := by
  refine PS.weak (ps_fldaug ho hv hop) fun D σ H ⟨τ, h, D', s, sh, q, l⟩ => ?_
  refine ⟨τ, h, _, s, sh, q, fun d h1 x H1 q1 g1 r1 s1 => ?_⟩
  cases d with
  | ref a =>
    simp only at q1
    split at q1
    · rename_i C' ns vs e1
      obtain ⟨rfl, q1⟩ := q1
      split at q1
      · rename_i i ei
        obtain ⟨u, e2, dx, fs, rfl, rfl, rr⟩ := s1 a _ e1
        obtain ⟨y, ey, ry⟩ := fG_get rr ei
        refine ⟨a, C', dx, fs, y, rel_ref.mp r1, e2, c, n, ey, τ, h1, _, s.mono g1.mono, s1, q1, fun p h2 v H2 q2 g2 r2 s2 => ?_⟩
        cases p with
        | int j =>
          simp only at q2
          split at q2
          · rename_i C2 ns2 vs2 e3
            obtain ⟨rfl, hl, q2⟩ := q2
            obtain ⟨u2, e4, dx2, fs2, rfl, rfl, rr2⟩ := s2 a _ e3
            have mm : Mono H2 (upd H2 a (.ins C2 dx2 (putF f (.int (g i j)) fs2))) := Mono.ins e4
            refine ⟨i, j, rel_int.mp ry, rel_int.mp r2, dx2, fs2, e4, by simpa using hl, l.nx _ _ _ _ q2 ((g1.trans g2).trans (.wr e3 mm)) (((s.mono g1.mono).mono g2.mono).mono mm) (s2.put mm ⟨dx2, _, rfl, (fN_put f _ fs2).symm, (fV_put (rel_int.mpr rfl) rr2).mono mm⟩)⟩
          · exact q2.elim
        | _ => exact q2.elim
      · exact q1.elim
    · exact q1.elim
  | _ => exact q1.elim
end
/-! ### methods -/
/-- o.m(..): the places' values, then the keywords' -/
def mMeth (C : Addr) (mn : Str) (sp : SpP) (b : Pat) (mo : ME) (m mk : MA) : ME := fun τ h Q => mo τ h fun p h1 => match p with
  | .ref a => (match h1 a with
    | some (.ins C' ns _) => C' = C ∧ mn ∉ ns ∧ m τ h1 fun ps h2 => mk τ h2 fun qs h3 => sp (pick b.π (.ref a :: ps ++ qs ++ b.ds)) h3 Q
    | _ => False)
  | _ => False
/-- C(..) -/
def mMake (C : Addr) (sp : SpP) (b : Pat) (m mk : MA) : ME := fun τ h Q => m τ h fun ps h1 => mk τ h1 fun qs h2 => ∀ a, h2 a = none → sp (pick b.π (.ref a :: ps ++ qs ++ b.ds)) (up h2 a (.ins C [] [])) fun v h3 => v = .non ∧ Q (.ref a) h3
section
variable {X : Cx} {k : Nat} {f C : Addr} {fd : FuncData} {ps : List Str} {sp : SpP} {pats : List Pat} {b : Pat} {x mn : Str} {p pos apos : Pos} {e o : Expr} {es : List Expr} {kws : List Keyword} {mo : ME} {m mk : MA}
/-- the callee runs -/
theorem call_c {pins : List (Addr × Obj)} {σ : L2.St} {H : Hp} {s : Shared} {Q : VK} {us ws : List Value} {vs zs : List V} {h : PH} {qs rs : List PV} {Q' : N3.PK} (F : FnC X.prog X.w X.K X.mg X.base k f fd ps sp pats) (hb : b ∈ pats) (hr : Room k X.A) (hG : X.A.guards = some [])
    (I : Inv X pins σ H s) (r1 : Vals vs us) (r2 : Vals zs ws) (rr1 : Rels X.K H qs vs) (rr2 : Rels X.K H rs zs) (sh : Sim X.K H h) (l1 : us.length = b.n) (l2 : ws.length = b.ks.length) (q : sp (pick b.π (qs ++ rs ++ b.ds)) h Q') (l : LQ X.K H h Q' Q) :
    wpAny (model X.prog X.w) X.A (call (.ref f) us (b.ks.zip ws)) (EP X pins σ Q) X.xe s := by
  obtain ⟨mv, dv, rv, rd, to⟩ := (F.b b hb).ex
  have R : Vals (pick b.π (vs ++ zs ++ dv)) (pick b.π (us ++ ws ++ mv)) := Vals.pick ((r1.append r2).append rv) b.π
  have RR : Rels X.K H (pick b.π (qs ++ rs ++ b.ds)) (pick b.π (vs ++ zs ++ dv)) := Rels.pick ((rr1.append rr2).append (rd H)) b.π
  have hl : (pick b.π (qs ++ rs ++ b.ds)).length = ps.length := (F.b b hb).len _ (by
    rw [List.length_append, List.length_append, rr1.length, rr2.length, r1.length, r2.length, l1, l2])
  exact call_g F.g hr hG I (to s us ws I.kIn l1 l2) R ⟨_, h, Q', hl, RR, sh, q, l⟩
theorem le_meth {pl : Sem Bool} (c : FnM X.prog X.w X.K X.mg X.base k C mn ps sp pats) {j n m' : Nat} (hb : pats[j]? = some b) {kk : Nat} (hr : Room kk X.A) (hj : k ≤ kk) (hG : X.A.guards = some []) (ho : LE X o mo) (ha : LAn X (e :: es) n m) (hkw : LKn X kws m' mk) (hn : n + 1 = b.n := by rfl) (hm : m' = b.ks.length := by rfl)
    (hst : starEach (e :: es) X.env = (false, eval e X.env) :: starEach es X.env := by rfl) (hall : (backToKw pos (keywordEach kws X.env)).all (·.1.isSome) = true := by rfl) (hks : (backToKw pos (keywordEach kws X.env)).filterMap (·.1) = b.ks := by rfl)
    (hpl : ((backTo pos (starEach (e :: es) X.env)).any (·.1) || (backToKw pos (keywordEach kws X.env)).any (·.1.isNone)) = false := by rfl)
    (ht : eval (.Call (.Attribute o mn apos) (e :: es) kws pos) X.env = (do
      let ov ← eval o X.env
      standAt apos.atName
      let (f, first) ← holding [ov] (getMethod ov mn pl)
      callWith pos f first (backTo pos (starEach (e :: es) X.env)) (backToKw pos (keywordEach kws X.env))) := by rfl) :
    LE X (.Call (.Attribute o mn apos) (e :: es) kws pos) (mMeth C mn sp b mo m mk) := by
  obtain ⟨f, fd, hM, F⟩ := c.ex
  have hbm : b ∈ pats := List.mem_of_getElem? hb
  refine ⟨fun pins s σ H Q I ⟨τ, h, Q', ss, sh, q, l⟩ => ?_⟩
  refine PySem.W.methodCall_KW (pl := pl) (thn (ho.run pins s σ H (fun v H1 => ∃ a ns vs h1, v = .ref a ∧ h1 a = some (.ins C ns vs) ∧ mn ∉ ns ∧ Go H h H1 h1 ∧ Sim X.K H1 h1 ∧ m τ h1 fun ps h2 => mk τ h2 fun qs h3 => sp (pick b.π (.ref a :: ps ++ qs ++ b.ds)) h3 Q') I
    ⟨τ, h, _, ss, sh, q, fun p h1 v H1 q1 g1 r1 s1 => ?_⟩) fun u s1 ⟨x, H1, I1, rx, a, ns, vs, h1, ex, ea, hns, g1, sh1, q1⟩ => ?_) ht
  · cases p with
    | ref a =>
      simp only at q1
      split at q1
      · rename_i C' ns vs e1
        obtain ⟨rfl, hns, q1⟩ := q1
        exact ⟨a, ns, vs, h1, rel_ref.mp r1, e1, hns, g1, s1, q1⟩
      · exact q1.elim
    | _ => exact q1.elim
  subst ex
  obtain rfl : u = Value.ref a := rx
  obtain ⟨ob, eo, dx, fs, rfl, rfl, rr⟩ := sh1 a _ ea
  refine getmeth_ok I1 eo c.cl hM (noF_get hns) ?_
  refine PySem.W.callWith_KW (first := [.ref a]) (h₀ := X.base) I1.ok.mod.kin hM.kp hall (thn (ha.run pos pins s1 σ H1 (fun vs H2 => ∃ qs h2, vs.length = n ∧ Rels X.K H2 qs vs ∧ Go H1 h1 H2 h2 ∧ Sim X.K H2 h2 ∧ mk τ h2 fun rs h3 => sp (pick b.π (.ref a :: qs ++ rs ++ b.ds)) h3 Q') I1
    ⟨τ, h1, _, ss.mono g1.mono, sh1, q1, fun qs h2 vs H2 q2 hl g2 r2 s2 => ⟨qs, h2, by rw [← r2.length, hl], r2, g2, s2, q2⟩⟩) fun us s2 ⟨vs, H2, I2, r2, qs, h2, lv, rq, g2, sh2, q2⟩ => ?_) hpl hst
  refine thn (hkw.run pos pins s2 σ H2 (fun zs H3 => ∃ rs h3, zs.length = m' ∧ Rels X.K H3 rs zs ∧ Go H2 h2 H3 h3 ∧ Sim X.K H3 h3 ∧ sp (pick b.π (.ref a :: qs ++ rs ++ b.ds)) h3 Q') I2
    ⟨τ, h2, _, (ss.mono g1.mono).mono g2.mono, sh2, q2, fun rs h3 zs H3 q3 hz g3 r3 s3 => ⟨rs, h3, by rw [← r3.length, hz], r3, g3, s3, q3⟩⟩) fun ws s3 ⟨zs, H3, I3, r3, rs, h3, lz, rz, g3, sh3, q3⟩ => ⟨I3.kIn, ?_⟩
  rw [hks]
  exact call_c (us := .ref a :: us) (vs := .ref a :: vs) (qs := .ref a :: qs) F hbm (hr.mono hj) hG I3 (.cons rfl r2) r3 (.cons (rel_ref.mpr rfl) (rq.mono g3.mono)) rz sh3 (by rw [List.length_cons, ← r2.length, lv, hn]) (by rw [← r3.length, lz, hm]) q3 (l.mono ((g1.trans g2).trans g3))
theorem le_meth0 {pl : Sem Bool} (c : FnM X.prog X.w X.K X.mg X.base k C mn ps sp pats) {j m' : Nat} (hb : pats[j]? = some b) {kk : Nat} (hr : Room kk X.A) (hj : k ≤ kk) (hG : X.A.guards = some []) (ho : LE X o mo) (hkw : LKn X kws m' mk) (hn : 1 = b.n := by rfl) (hm : m' = b.ks.length := by rfl)
    (hall : (backToKw pos (keywordEach kws X.env)).all (·.1.isSome) = true := by rfl) (hks : (backToKw pos (keywordEach kws X.env)).filterMap (·.1) = b.ks := by rfl)
    (hpl : ((backTo pos (starEach [] X.env)).any (·.1) || (backToKw pos (keywordEach kws X.env)).any (·.1.isNone)) = false := by rfl)
    (ht : eval (.Call (.Attribute o mn apos) [] kws pos) X.env = (do
      let ov ← eval o X.env
      standAt apos.atName
      let (f, first) ← holding [ov] (getMethod ov mn pl)
      callWith pos f first (backTo pos (starEach [] X.env)) (backToKw pos (keywordEach kws X.env))) := by rfl) :
    LE X (.Call (.Attribute o mn apos) [] kws pos) (mMeth C mn sp b mo mNil mk) := by
  obtain ⟨f, fd, hM, F⟩ := c.ex
  have hbm : b ∈ pats := List.mem_of_getElem? hb
  refine ⟨fun pins s σ H Q I ⟨τ, h, Q', ss, sh, q, l⟩ => ?_⟩
  refine PySem.W.methodCall_KW (pl := pl) (thn (ho.run pins s σ H (fun v H1 => ∃ a ns vs h1, v = .ref a ∧ h1 a = some (.ins C ns vs) ∧ mn ∉ ns ∧ Go H h H1 h1 ∧ Sim X.K H1 h1 ∧ mk τ h1 fun qs h3 => sp (pick b.π (.ref a :: [] ++ qs ++ b.ds)) h3 Q') I
    ⟨τ, h, _, ss, sh, q, fun p h1 v H1 q1 g1 r1 s1 => ?_⟩) fun u s1 ⟨x, H1, I1, rx, a, ns, vs, h1, ex, ea, hns, g1, sh1, q1⟩ => ?_) ht
  · cases p with
    | ref a =>
      simp only at q1
      split at q1
      · rename_i C' ns vs e1
        obtain ⟨rfl, hns, q1⟩ := q1
        exact ⟨a, ns, vs, h1, rel_ref.mp r1, e1, hns, g1, s1, q1⟩
      · exact q1.elim
    | _ => exact q1.elim
  subst ex
  obtain rfl : u = Value.ref a := rx
  obtain ⟨ob, eo, dx, fs, rfl, rfl, rr⟩ := sh1 a _ ea
  refine getmeth_ok I1 eo c.cl hM (noF_get hns) ?_
  refine PySem.W.callWith_KW0 (first := [.ref a]) (h₀ := X.base) I1.ok.mod.kin hM.kp hall (thn (hkw.run pos pins s1 σ H1 (fun zs H3 => ∃ rs h3, zs.length = m' ∧ Rels X.K H3 rs zs ∧ Go H1 h1 H3 h3 ∧ Sim X.K H3 h3 ∧ sp (pick b.π (.ref a :: [] ++ rs ++ b.ds)) h3 Q') I1
    ⟨τ, h1, _, ss.mono g1.mono, sh1, q1, fun rs h3 zs H3 q3 hz g3 r3 s3 => ⟨rs, h3, by rw [← r3.length, hz], r3, g3, s3, q3⟩⟩) fun ws s3 ⟨zs, H3, I3, r3, rs, h3, lz, rz, g3, sh3, q3⟩ => ⟨I3.kIn, ?_⟩) hpl
  rw [hks]
  exact call_c (us := [.ref a]) (vs := [.ref a]) (qs := [.ref a]) F hbm (hr.mono hj) hG I3 (.cons rfl .nil) r3 (.cons (rel_ref.mpr rfl) .nil) rz sh3 hn (by rw [← r3.length, lz, hm]) q3 (l.mono (g1.trans g3))
/-! ### instances made -/
theorem Go.made {H : Hp} {h : PH} {a dx : Addr} (e : H a = none) (e' : H dx = none) (n : dx ≠ a) : Go H h (upd (upd H dx (.own a)) a (.ins C dx [])) (up h a (.ins C [] [])) :=
  Go.trans (Go.new e') (Go.add (by rw [upd_ne (Ne.symm n)]; exact e))
theorem make_c {pins : List (Addr × Obj)} {σ : L2.St} {H : Hp} {s : Shared} {Q : VK} {us ws : List Value} {vs zs : List V} {h : PH} {qs rs : List PV} {Q' : N3.PK} (M : Mk X.K C f) (F : FnC X.prog X.w X.K X.mg X.base k f fd ps sp pats) (hb : b ∈ pats) (hr : Room (k + 1) X.A) (hG : X.A.guards = some [])
    (I : Inv X pins σ H s) (r1 : Vals vs us) (r2 : Vals zs ws) (rr1 : Rels X.K H qs vs) (rr2 : Rels X.K H rs zs) (sh : Sim X.K H h) (l1 : us.length + 1 = b.n) (l2 : ws.length = b.ks.length)
    (q : ∀ a, h a = none → sp (pick b.π (.ref a :: qs ++ rs ++ b.ds)) (up h a (.ins C [] [])) fun v h3 => v = .non ∧ Q' (.ref a) h3) (l : LQ X.K H h Q' Q) :
    wpAny (model X.prog X.w) X.A (call (.ref C) us (b.ks.zip ws)) (EP X pins σ Q) X.xe s := by
  have ea : H (s.heap.objs.size + 1) = none := I.hok.fresh (Nat.le_succ _)
  have ed : H s.heap.objs.size = none := I.hok.fresh (Nat.le_refl _)
  have ne : s.heap.objs.size ≠ s.heap.objs.size + 1 := Nat.ne_of_lt (Nat.lt_succ_self _)
  have I2 := Inv.made (C := C) I
  obtain ⟨mv, dv, rv, rd, to⟩ := (F.b b hb).ex
  have g := Go.made (C := C) (h := h) ea ed ne
  have mm := g.mono
  have R0 : Vals (.ref (s.heap.objs.size + 1) :: vs) (.ref (s.heap.objs.size + 1) :: us) := .cons rfl r1
  have R : Vals (pick b.π (.ref (s.heap.objs.size + 1) :: vs ++ zs ++ dv)) (pick b.π (.ref (s.heap.objs.size + 1) :: us ++ ws ++ mv)) := Vals.pick ((R0.append r2).append rv) b.π
  have RR : Rels X.K _ (pick b.π (.ref (s.heap.objs.size + 1) :: qs ++ rs ++ b.ds)) (pick b.π (.ref (s.heap.objs.size + 1) :: vs ++ zs ++ dv)) := Rels.pick (((Rels.cons (rel_ref.mpr rfl) (rr1.mono mm)).append (rr2.mono mm)).append (rd _)) b.π
  have hl : (pick b.π (.ref (s.heap.objs.size + 1) :: qs ++ rs ++ b.ds)).length = ps.length := (F.b b hb).len _ (by
    rw [List.length_append, List.length_append, List.length_cons, rr1.length, rr2.length, r1.length, r2.length, l1, l2])
  have sh2 : Sim X.K (upd (upd H s.heap.objs.size (.own (s.heap.objs.size + 1))) (s.heap.objs.size + 1) (.ins C s.heap.objs.size [])) (up h (s.heap.objs.size + 1) (.ins C [] [])) := by
    have s1 := sh.new (o := .own (s.heap.objs.size + 1)) ed
    exact s1.put (Mono.new (by rw [upd_ne (Ne.symm ne)]; exact ea)) ⟨_, [], rfl, rfl, .nil⟩
  refine wpAny_call (make_map (f := f) I.kIn M.makes M.init (beq_iff_eq.mp M.fn) (codeAny_mono (F.g.run _ X.stack _ _ ⟨Value.ref (s.heap.objs.size + 1) :: us, b.ks.zip ws⟩ _ _ (fun v H2 => v = .non ∧ Q (.ref (s.heap.objs.size + 1)) H2) (hr.make C us (b.ks.zip ws)) ?_
    (I2.env0.make C us (b.ks.zip ws)) (to _ (Value.ref (s.heap.objs.size + 1) :: us) ws I2.kIn (by rw [List.length_cons, l1]) l2) R ⟨_, _, _, hl, RR, sh2, q _ (sh.fresh ea), ?_⟩) fun r s' hq' => ?_))
  · exact hG
  · rintro v h3 y H3 ⟨rfl, q3⟩ g3 r3 s3
    exact ⟨rel_non.mp r3, l _ _ _ _ q3 (g.trans g3) (rel_ref.mpr rfl) s3⟩
  · cases r with
    | error e => exact False.elim hq'
    | ok fl =>
      cases fl with
      | ret u =>
        obtain ⟨v, H', I3, rv, ev, q3⟩ := I2.after hq'
        subst ev
        exact ⟨rv, ⟨V.ref (s.heap.objs.size + 1), H', I3, rfl, q3⟩⟩
      | next => exact False.elim hq'
      | brk => exact False.elim hq'
      | cont => exact False.elim hq'
theorem le_make (c : FnI X.prog X.w X.K X.mg X.base k x C ps sp pats) {j n m' : Nat} (hb : pats[j]? = some b) {kk : Nat} (hr : Room kk X.A) (hj : k + 1 ≤ kk) (hG : X.A.guards = some []) (ha : LAn X (e :: es) n m) (hkw : LKn X kws m' mk) (hn : n + 1 = b.n := by rfl) (hm : m' = b.ks.length := by rfl) (hg : Gl X x := by rfl)
    (hall : (backToKw pos (keywordEach kws X.env)).all (·.1.isSome) = true := by rfl) (hks : (backToKw pos (keywordEach kws X.env)).filterMap (·.1) = b.ks := by rfl) (hdb : (x == ("__debug__" : Str)) = false := by decide)
    (he : starEach (e :: es) X.env = (false, eval e X.env) :: starEach es X.env := by rfl) (hpl : ((backTo pos (starEach (e :: es) X.env)).any (·.1) || (backToKw pos (keywordEach kws X.env)).any (·.1.isNone)) = false := by rfl) :
    LE X (.Call (.Name x p) (e :: es) kws pos) (mMake C sp b m mk) := by
  obtain ⟨f, fd, M, F⟩ := c.ex
  have hbm : b ∈ pats := List.mem_of_getElem? hb
  refine ⟨fun pins s σ H Q I ⟨τ, h, Q', ss, sh, q, l⟩ => ?_⟩
  refine wpAny_Call_Name_kw (ld_glob I hg c.at_ ?_ hdb)
  refine PySem.W.callWith_KW (h₀ := X.base) I.ok.mod.kin M.kp hall (thn (ha.run pos pins s σ H (fun vs H2 => ∃ qs h2, vs.length = n ∧ Rels X.K H2 qs vs ∧ Go H h H2 h2 ∧ Sim X.K H2 h2 ∧ mk τ h2 fun rs h3 => ∀ a, h3 a = none → sp (pick b.π (.ref a :: qs ++ rs ++ b.ds)) (up h3 a (.ins C [] [])) fun v h4 => v = .non ∧ Q' (.ref a) h4) I
    ⟨τ, h, _, ss, sh, q, fun qs h2 vs H2 q2 hl g2 r2 s2 => ⟨qs, h2, by rw [← r2.length, hl], r2, g2, s2, q2⟩⟩) fun us s2 ⟨vs, H2, I2, r2, qs, h2, lv, rq, g2, sh2, q2⟩ => ?_) hpl he
  refine thn (hkw.run pos pins s2 σ H2 (fun zs H3 => ∃ rs h3, zs.length = m' ∧ Rels X.K H3 rs zs ∧ Go H2 h2 H3 h3 ∧ Sim X.K H3 h3 ∧ ∀ a, h3 a = none → sp (pick b.π (.ref a :: qs ++ rs ++ b.ds)) (up h3 a (.ins C [] [])) fun v h4 => v = .non ∧ Q' (.ref a) h4) I2
    ⟨τ, h2, _, ss.mono g2.mono, sh2, q2, fun rs h3 zs H3 q3 hz g3 r3 s3 => ⟨rs, h3, by rw [← r3.length, hz], r3, g3, s3, q3⟩⟩) fun ws s3 ⟨zs, H3, I3, r3, rs, h3, lz, rz, g3, sh3, q3⟩ => ⟨I3.kIn, ?_⟩
  rw [hks]
  exact make_c M F hbm (hr.mono hj) hG I3 r2 r3 (rq.mono g3.mono) rz sh3 (by show us.length + 1 = _; rw [← r2.length, lv, hn]) (by rw [← r3.length, lz, hm]) q3 (l.mono (g2.trans g3))
theorem le_make0 (c : FnI X.prog X.w X.K X.mg X.base k x C ps sp pats) {j m' : Nat} (hb : pats[j]? = some b) {kk : Nat} (hr : Room kk X.A) (hj : k + 1 ≤ kk) (hG : X.A.guards = some []) (hkw : LKn X kws m' mk) (hn : 1 = b.n := by rfl) (hm : m' = b.ks.length := by rfl) (hg : Gl X x := by rfl)
    (hall : (backToKw pos (keywordEach kws X.env)).all (·.1.isSome) = true := by rfl) (hks : (backToKw pos (keywordEach kws X.env)).filterMap (·.1) = b.ks := by rfl) (hdb : (x == ("__debug__" : Str)) = false := by decide)
    (hpl : ((backTo pos (starEach [] X.env)).any (·.1) || (backToKw pos (keywordEach kws X.env)).any (·.1.isNone)) = false := by rfl) :
    LE X (.Call (.Name x p) [] kws pos) (mMake C sp b mNil mk) := by
  obtain ⟨f, fd, M, F⟩ := c.ex
  have hbm : b ∈ pats := List.mem_of_getElem? hb
  refine ⟨fun pins s σ H Q I ⟨τ, h, Q', ss, sh, q, l⟩ => ?_⟩
  refine wpAny_Call_Name_kw (ld_glob I hg c.at_ ?_ hdb)
  refine PySem.W.callWith_KW0 (h₀ := X.base) I.ok.mod.kin M.kp hall (thn (hkw.run pos pins s σ H (fun zs H3 => ∃ rs h3, zs.length = m' ∧ Rels X.K H3 rs zs ∧ Go H h H3 h3 ∧ Sim X.K H3 h3 ∧ ∀ a, h3 a = none → sp (pick b.π (.ref a :: [] ++ rs ++ b.ds)) (up h3 a (.ins C [] [])) fun v h4 => v = .non ∧ Q' (.ref a) h4) I
    ⟨τ, h, _, ss, sh, q, fun rs h3 zs H3 q3 hz g3 r3 s3 => ⟨rs, h3, by rw [← r3.length, hz], r3, g3, s3, q3⟩⟩) fun ws s3 ⟨zs, H3, I3, r3, rs, h3, lz, rz, g3, sh3, q3⟩ => ⟨I3.kIn, ?_⟩) hpl
  rw [hks]
  exact make_c (us := []) (vs := []) (qs := []) M F hbm (hr.mono hj) hG I3 .nil r3 .nil rz sh3 hn (by rw [← r3.length, lz, hm]) q3 (l.mono g3)
end
end N3

/-! dicts: in, get, pop, del, +=; walks along keys and items; list, sorted, len; comprehensions of a dict; len of an instance -/
namespace N3
open PySem PySem.Spec PyProof.Rows L2

/-! ### in -/
def rInK (neg : Bool) : R2 := fun x y H Q => ∃ a ov, y = .ref a ∧ DGet H a x ov ∧ Q (.bl (if neg then !ov.isSome else ov.isSome)) H
theorem op_inK {X : Cx} (hu : X.A.units + 1 < cLine) : OpR X (compareOp .In) (rInK false) := by
  intro pins s σ H x y v u Q I rx ry h
  obtain ⟨a, ov, rfl, g, q⟩ := h
  cases ry
  exact d_in hu I g rx fun s3 I3 => ⟨.bl ov.isSome, H, I3, rfl, q⟩
theorem op_notInK {X : Cx} (hu : X.A.units + 1 < cLine) : OpR X (compareOp .NotIn) (rInK true) := by
  intro pins s σ H x y v u Q I rx ry h
  obtain ⟨a, ov, rfl, g, q⟩ := h
  cases ry
  exact d_notIn hu I g rx fun s3 I3 => ⟨.bl (!ov.isSome), H, I3, rfl, q⟩
/-- a key in a dict -/
def rInD (neg : Bool) : PR2 := fun p q h Q => match dctL h q, kOf p with
  | some (ks, vs), some k => Q (.bl ((lk ks vs k).isSome != neg)) h
  | _, _ => False
theorem lk_some {K : PySem.W.Frag} {H : Hp} {kvs : List (Key × V)} {vs : List PV} (k : Key) (r : Rels K H vs (kvs.map (·.2))) : (valV kvs k).isSome = (lk (kvs.map (·.1)) vs k).isSome := by
  have z := lk_val k r
  cases e : lk (kvs.map (·.1)) vs k with
  | none => rw [e] at z; rw [z]; rfl
  | some p => rw [e] at z; obtain ⟨v, ev, _⟩ := z; rw [ev]; rfl
theorem lf_inD {K : PySem.W.Frag} {neg : Bool} : Lf2 K (rInK neg) (rInD neg) := by
  intro x y H p q h Q' Q rp rq s r l
  unfold rInD at r
  split at r
  · rename_i ks vs k e ek
    obtain ⟨a, kvs, rfl, hd, rfl, rr⟩ := dctL_rd rq s e
    have ex := kOf_rel rp ek
    subst ex
    refine ⟨a, valV kvs k, rfl, .inl ⟨kvs, k, hd, rfl, rfl⟩, ?_⟩
    rw [lk_some k rr]
    have := l _ _ _ _ r .refl (rel_bl.mpr rfl) s
    cases neg with
    | true => simpa using this
    | false => simpa using this
  · exact r.elim
/-! ### get, pop, del, += -/
def mGet2 (mo mk mx : ME) : ME := fun τ h Q => mo τ h fun p h1 => (dctL h1 p).isSome = true ∧ mk τ h1 fun y h2 => mx τ h2 fun z h3 => match dctL h3 p, kOf y with
  | some (ks, vs), some k => Q ((lk ks vs k).getD z) h3
  | _, _ => False
def eK (ks : List Key) (k : Key) : List Key := ks.filter fun k' => decide (k' ≠ k)
def eV : List Key → List PV → Key → List PV
  | k' :: ks, v :: vs, k => if k' ≠ k then v :: eV ks vs k else eV ks vs k
  | _, _, _ => []
theorem drop_rel {K : PySem.W.Frag} {H : Hp} {k : Key} : ∀ {kvs : List (Key × V)} {vs : List PV}, Rels K H vs (kvs.map (·.2)) → eK (kvs.map (·.1)) k = (dropK kvs k).map (·.1) ∧ Rels K H (eV (kvs.map (·.1)) vs k) ((dropK kvs k).map (·.2))
  | [], vs, r => ⟨rfl, by cases vs <;> exact .nil⟩
  | kv :: kvs, vs, r => by
    cases vs with
    | nil => exact absurd r.length (by simp)
    | cons v vs =>
      obtain ⟨w, ws, e, r1, r2⟩ := r.uncons
      injection e with e1 e2
      subst e1 e2
      obtain ⟨i1, i2⟩ := drop_rel (k := k) r2
      unfold eK dropK at *
      by_cases hk : kv.1 ≠ k
      · simp only [List.map_cons, eV, if_pos hk, List.filter_cons, decide_eq_true hk, if_true]
        exact ⟨by rw [i1], .cons r1 i2⟩
      · simp only [List.map_cons, eV, if_neg hk, List.filter_cons, decide_eq_false hk, if_false, Bool.false_eq_true]
        exact ⟨i1, i2⟩
def mPopK (mo mk : ME) : ME := fun τ h Q => mo τ h fun p h1 => (dctL h1 p).isSome = true ∧ mk τ h1 fun y h2 => match p, kOf y with
  | .ref a, some k => (match h2 a with
    | some (.dct ks vs) => (match lk ks vs k with | some v => Q v (up h2 a (.dct (eK ks k) (eV ks vs k))) | none => False)
    | _ => False)
  | _, _ => False
def mDelK (mo mk : ME) : MS := fun D τ h => mo τ h fun p h1 => mk τ h1 fun y h2 => match p, kOf y with
  | .ref a, some k => (match h2 a with
    | some (.dct ks vs) => (lk ks vs k).isSome = true ∧ D.nx τ (up h2 a (.dct (eK ks k) (eV ks vs k)))
    | _ => False)
  | _, _ => False
def mAugD (g : Int → Int → Int) (mo mk mv : ME) : MS := fun D τ h => mo τ h fun p h1 => mk τ h1 fun y h2 => match p, kOf y with
  | .ref a, some k => (match h2 a with
    | some (.dct ks vs) => (match lk ks vs k with
      | some (.int i) => mv τ h2 fun q h3 => (match q with
        | .int j => (match h3 a with
          | some (.dct ks3 vs3) => ks3.length < SZ ∧ D.nx τ (up h3 a (.dct (pk ks3 k) (pvs ks3 vs3 k (.int (g i j)))))
          | _ => False)
        | _ => False)
      | _ => False)
    | _ => False)
  | _, _ => False
section
variable {X : Cx} {pos apos cpos tpos p2 : Pos} {o e f value : Expr} {mo mk mx mv : ME}
theorem isD_of {K : PySem.W.Frag} {H : Hp} {h : PH} {p : PV} {v : V} (r : Rel K H p v) (s : Sim K H h) (e : (dctL h p).isSome = true) : ∃ a, v = .ref a ∧ IsD H a := by
  obtain ⟨⟨ks, vs⟩, e⟩ := Option.isSome_iff_exists.mp e
  obtain ⟨a, kvs, rfl, hd, _⟩ := dctL_rd r s e
  exact ⟨a, rfl, .inl ⟨kvs, hd⟩⟩
theorem le_get2 (hu : X.A.units + 1 < cLine) (ho : LE X o mo) (he : LE X e mk) (hf : LE X f mx)
    (hbase : attributeBase o "get" X.env (eval o X.env) = eval o X.env := by rfl)
    (hfew : ((backTo cpos (starEach [e, f] X.env)).all (fun x => !x.1) && (backToKw cpos (keywordEach [] X.env)).all (fun x => x.1.isSome)
    && decide (([e, f] : List Expr).length + ([] : List Keyword).length + (if ([] : List Keyword).isEmpty then 0 else 1) < 30)) = true := by rfl)
    (hline : (apos.endLine == cpos.line) = true := by rfl) (htrees : backTo cpos (starEach [e, f] X.env) = [(false, eval e X.env), (false, eval f X.env)] := by rfl) :
    LE X (.Call (.Attribute o "get" apos) [e, f] [] cpos) (mGet2 mo mk mx) := by
  refine PE.weak (pe_dget2 hu ho he hf ⟨hbase, hfew, hline, htrees⟩) fun σ H Q ⟨τ, h, Q', s, sh, q, l⟩ => ?_
  refine ⟨τ, h, _, s, sh, q, fun p h1 v H1 ⟨q0, q1⟩ g1 r1 s1 => ?_⟩
  obtain ⟨a, rfl, hD⟩ := isD_of r1 s1 q0
  refine ⟨a, rfl, hD, τ, h1, _, s.mono g1.mono, s1, q1, fun y h2 w H2 q2 g2 r2 s2 => ?_⟩
  refine ⟨τ, h2, _, (s.mono g1.mono).mono g2.mono, s2, q2, fun z h3 u H3 q3 g3 r3 s3 => ?_⟩
  split at q3
  · rename_i ks vs k e3 ek
    obtain ⟨a', kvs, ea, hd, rfl, rr⟩ := dctL_rd (r1.mono (g2.trans g3).mono) s3 e3
    injection ea with ea
    subst ea
    have ew := kOf_rel r2 ek
    subst ew
    refine ⟨valV kvs k, .inl ⟨kvs, k, hd, rfl, rfl⟩, ?_⟩
    have z1 := lk_val k rr
    cases e5 : lk (kvs.map (·.1)) vs k with
    | none =>
      rw [e5] at z1 q3
      rw [z1]
      exact l _ _ _ _ q3 ((g1.trans g2).trans g3) r3 s3
    | some pv =>
      rw [e5] at z1 q3
      obtain ⟨vv, ev, rv⟩ := z1
      rw [ev]
      exact l _ _ _ _ q3 ((g1.trans g2).trans g3) rv s3
  · exact q3.elim
theorem le_popK (ho : LE X o mo) (he : LE X e mk)
    (hbase : attributeBase o "pop" X.env (eval o X.env) = eval o X.env := by rfl)
    (hfew : ((backTo cpos (starEach [e] X.env)).all (fun x => !x.1) && (backToKw cpos (keywordEach [] X.env)).all (fun x => x.1.isSome)
    && decide (([e] : List Expr).length + ([] : List Keyword).length + (if ([] : List Keyword).isEmpty then 0 else 1) < 30)) = true := by rfl)
    (hline : (apos.endLine == cpos.line) = true := by rfl) (htrees : backTo cpos (starEach [e] X.env) = [(false, eval e X.env)] := by rfl) :
    LE X (.Call (.Attribute o "pop" apos) [e] [] cpos) (mPopK mo mk) := by
  refine PE.weak (pe_dpop1 ho he ⟨hbase, hfew, hline, htrees⟩) fun σ H Q ⟨τ, h, Q', s, sh, q, l⟩ => ?_
  refine ⟨τ, h, _, s, sh, q, fun p h1 v H1 ⟨q0, q1⟩ g1 r1 s1 => ?_⟩
  obtain ⟨a, rfl, hD⟩ := isD_of r1 s1 q0
  refine ⟨a, rfl, hD, τ, h1, _, s.mono g1.mono, s1, q1, fun y h2 w H2 q2 g2 r2 s2 => ?_⟩
  cases ek : kOf y with
  | none => cases p <;> (rw [ek] at q2; exact q2.elim)
  | some k =>
    rw [ek] at q2
    cases p with
    | ref b =>
      obtain rfl : a = b := by have := rel_ref.mp r1; injection this
      simp only at q2
      split at q2
      · rename_i ks vs e2
        split at q2
        · rename_i pv epv
          obtain ⟨u, eu, kvs, rfl, rfl, rr⟩ := s2 a _ e2
          have ew := kOf_rel r2 ek
          subst ew
          have z1 := lk_val k rr
          rw [epv] at z1
          obtain ⟨vv, ev, rv⟩ := z1
          have mm : Mono H2 (upd H2 a (.dK (dropK kvs k))) := Mono.dK eu
          obtain ⟨d1, d2⟩ := drop_rel (k := k) rr
          exact ⟨kvs, k, vv, eu, rfl, ev, l _ _ _ _ q2 ((g1.trans g2).trans (.wr e2 mm)) (rv.mono mm) (s2.put mm ⟨_, rfl, d1, d2.mono mm⟩)⟩
        · exact q2.elim
      · exact q2.elim
    | _ => exact q2.elim
theorem ls_delK (ho : LE X o mo) (he : LE X e mk) : LS X (.Delete [.Subscript o e tpos] pos) (mDelK mo mk) := by
  refine PS.weak (ps_ddel ho he) fun D σ H ⟨τ, h, D', s, sh, q, l⟩ => ?_
  refine ⟨τ, h, _, s, sh, q, fun p h1 v H1 q1 g1 r1 s1 => ⟨τ, h1, _, s.mono g1.mono, s1, q1, fun y h2 w H2 q2 g2 r2 s2 => ?_⟩⟩
  cases ek : kOf y with
  | none => cases p <;> (rw [ek] at q2; exact q2.elim)
  | some k =>
    rw [ek] at q2
    cases p with
    | ref a =>
      simp only at q2
      split at q2
      · rename_i ks vs e2
        obtain ⟨q0, q2⟩ := q2
        obtain ⟨u, eu, kvs, rfl, rfl, rr⟩ := s2 a _ e2
        have ew := kOf_rel r2 ek
        subst ew
        have mm : Mono H2 (upd H2 a (.dK (dropK kvs k))) := Mono.dK eu
        obtain ⟨d1, d2⟩ := drop_rel (k := k) rr
        exact ⟨a, kvs, k, rel_ref.mp (r1.mono g2.mono), eu, rfl, by rw [lk_some k rr]; exact q0, l.nx _ _ _ _ q2 ((g1.trans g2).trans (.wr e2 mm)) (((s.mono g1.mono).mono g2.mono).mono mm) (s2.put mm ⟨_, rfl, d1, d2.mono mm⟩)⟩
      · exact q2.elim
    | _ => exact q2.elim
theorem ls_augD {op : Operator} {g : Int → Int → Int} (hu : X.A.units + 1 < cLine) (ho : LE X o mo) (he : LE X e mk) (hv : LE X value mv) (hop : InOp X op (fun x y H Q => ∃ i j, x = .int i ∧ y = .int j ∧ Q (.int (g i j)) H))
    (ha : ∀ ov iv new, augStore e ov iv new = (do holding [new, ov, iv] (setItem ov iv new); release [new, ov, iv] []; pure .next) := by intro _ _ _; rfl) : LS X (.AugAssign (.Subscript o e tpos) op value pos) (mAugD g mo mk mv) := by
  refine PS.weak (ps_daug hu ho he hv hop ha) fun D σ H ⟨τ, h, D', s, sh, q, l⟩ => ?_
  refine ⟨τ, h, _, s, sh, q, fun p h1 v H1 q1 g1 r1 s1 => ⟨τ, h1, _, s.mono g1.mono, s1, q1, fun y h2 w H2 q2 g2 r2 s2 => ?_⟩⟩
  cases ek : kOf y with
  | none => cases p <;> (rw [ek] at q2; exact q2.elim)
  | some k =>
    rw [ek] at q2
    cases p with
    | ref a =>
      simp only at q2
      split at q2
      · rename_i ks vs e2
        split at q2
        · rename_i i ei
          obtain ⟨u, eu, kvs, rfl, rfl, rr⟩ := s2 a _ e2
          have ew := kOf_rel r2 ek
          subst ew
          have z1 := lk_val k rr
          rw [ei] at z1
          obtain ⟨vv, ev, rv⟩ := z1
          refine ⟨a, vv, rel_ref.mp (r1.mono g2.mono), .inl ⟨kvs, k, .inl eu, rfl, ev.symm⟩, τ, h2, _, (s.mono g1.mono).mono g2.mono, s2, q2, fun q h3 w3 H3 q3 g3 r3 s3 => ?_⟩
          cases q with
          | int j =>
            simp only at q3
            split at q3
            · rename_i ks3 vs3 e4
              obtain ⟨hl, q3⟩ := q3
              obtain ⟨u3, eu3, kvs3, rfl, rfl, rr3⟩ := s3 a _ e4
              have mm : Mono H3 (upd H3 a (.dK (putK kvs3 k (.int (g i j))))) := Mono.dK eu3
              obtain ⟨z1, z2⟩ := put_rel (k := k) (p := .int (g i j)) (v := .int (g i j)) rr3 (rel_int.mpr rfl)
              exact ⟨i, j, rel_int.mp (rv.mono g3.mono), rel_int.mp r3, _, DPut.k eu3 (by have z := hl; rw [List.length_map] at z; exact sz_lt z), l.nx _ _ _ _ q3 (((g1.trans g2).trans g3).trans (.wr e4 mm)) ((((s.mono g1.mono).mono g2.mono).mono g3.mono).mono mm) (s3.put mm ⟨_, rfl, z1, z2.mono mm⟩)⟩
            · exact q3.elim
          | _ => exact q3.elim
        · exact q2.elim
      · exact q2.elim
    | _ => exact q2.elim
end
/-! ### walks along a dict -/
/-- a key as a value -/
def kP : Key → PV
  | .inl i => .int i
  | .inr x => .str x
theorem kP_rel {K : PySem.W.Frag} {H : Hp} (k : Key) : Rel K H (kP k) (kV k) := by
  cases k with
  | inl i => exact rel_int.mpr rfl
  | inr x => exact rel_str.mpr rfl
/-- the guard of a walk: the dict that is locked stays -/
def gdK (p : PV) (ks : List Key) (vs : List PV) : PH → Prop := match p with
  | .ref a => fun h => h a = some (.lck ks vs)
  | _ => fun _ => True
def mKeysI (m : ME) : MI := fun τ h Q => m τ h fun p h1 => match p with
  | .dct ks vs => ks.length ≤ SZ ∧ Q (ks.map kP) (fun _ => True) h1
  | .ref a => (match h1 a with | some (.lck ks vs) => ks.length ≤ SZ ∧ Q (ks.map kP) (gdK p ks vs) h1 | _ => False)
  | _ => False
def mItemsI (m : ME) : MI := fun τ h Q => m τ h fun p h1 => match p with
  | .dct ks vs => ks.length ≤ SZ ∧ Q (List.zipWith (fun k v => .tup [kP k, v]) ks vs) (fun _ => True) h1
  | .ref a => (match h1 a with | some (.lck ks vs) => ks.length ≤ SZ ∧ Q (List.zipWith (fun k v => .tup [kP k, v]) ks vs) (gdK p ks vs) h1 | _ => False)
  | _ => False
section
variable {X : Cx} {tg e : Expr} {pos apos cpos : Pos} {m : ME}
/-- a walked dict: frozen at a; what it is later -/
theorem frz_walk {K : PySem.W.Frag} {H1 : Hp} {h1 : PH} {p : PV} {v : V} {ks : List Key} {vs : List PV} (r : Rel K H1 p v) (s : Sim K H1 h1) (e : p = .dct ks vs ∨ ∃ a, p = .ref a ∧ h1 a = some (.lck ks vs)) :
    ∃ a o kvs, v = .ref a ∧ H1 a = some (.frz o (.dK kvs)) ∧ ks = kvs.map (·.1) ∧ Rels K H1 vs (kvs.map (·.2)) := by
  rcases e with rfl | ⟨a, rfl, e⟩
  · obtain ⟨a, kvs, e1, ⟨o, f⟩, e2, rr⟩ := rel_dct.mp r
    exact ⟨a, o, kvs, e1, f, e2, rr⟩
  · obtain ⟨u, e2, ob, kvs, rfl, e3, rr⟩ := s a _ e
    exact ⟨a, ob, kvs, rel_ref.mp r, e2, e3, rr⟩
theorem li_keys (he : LE X e m) : LI X tg e (mKeysI m) := by
  refine PI.weak (pi_keys he) fun σ H R ⟨τ, h, Q', s, sh, q, l⟩ => ?_
  refine ⟨τ, h, _, s, sh, q, fun p h1 v H1 q1 g1 r1 s1 => ?_⟩
  have go : ∀ (ks : List Key) (vs : List PV) (gd : PH → Prop), (p = .dct ks vs ∨ ∃ a, p = .ref a ∧ h1 a = some (.lck ks vs)) → ks.length ≤ SZ → Q' (ks.map kP) gd h1 →
      ∃ d o, v = .ref d ∧ ((∃ kvs, H1 d = some (.frz o (.dK kvs)) ∧ R (Itk d o kvs) H1) ∨ ∃ kvs, H1 d = some (.frz o (.dT kvs)) ∧ R (Itkt d o kvs) H1) := fun ks vs gd e hz q1 => by
    obtain ⟨a, o, kvs, rfl, hf, rfl, rr⟩ := frz_walk r1 s1 e
    refine ⟨a, o, rfl, .inl ⟨kvs, hf, l _ _ _ _ _ q1 g1 s1 ⟨by rw [List.length_map]; exact sz_le hz, fun i H h hi m _ _ => ?_, fun H h m _ _ => ?_, fun i H h y H' p hp m sh' _ hy => ?_⟩⟩⟩
    · exact ⟨m.f _ _ _ hf, by simpa using hi⟩
    · exact ⟨m.f _ _ _ hf, by simp⟩
    · obtain ⟨rfl, k, w, ek, rfl⟩ := hy
      rw [List.getElem?_map, List.getElem?_map, ek] at hp
      simp only [Option.map_some, Option.some.injEq] at hp
      subst hp
      exact ⟨.refl, sh', kP_rel k⟩
  split at q1
  · exact go _ _ _ (.inl rfl) q1.1 q1.2
  · rename_i a
    split at q1
    · rename_i ks vs e1
      exact go ks vs _ (.inr ⟨a, rfl, e1⟩) q1.1 q1.2
    · exact q1.elim
  · exact q1.elim
theorem li_items {elts : List Expr} {kk : Nat} {tpos : Pos} (he : LE X e m) (hbase : attributeBase e "items" X.env (eval e X.env) = eval e X.env := by rfl) (hline : (apos.endLine == cpos.line) = true := by rfl) :
    LI X (.Tuple elts kk tpos) (.Call (.Attribute e "items" apos) [] [] cpos) (mItemsI m) := by
  refine PI.weak (pi_items he hbase hline) fun σ H R ⟨τ, h, Q', s, sh, q, l⟩ => ?_
  refine ⟨τ, h, _, s, sh, q, fun p h1 v H1 q1 g1 r1 s1 => ?_⟩
  have go : ∀ (ks : List Key) (vs : List PV) (gd : PH → Prop), (p = .dct ks vs ∨ ∃ a, p = .ref a ∧ h1 a = some (.lck ks vs)) → ks.length ≤ SZ → Q' (List.zipWith (fun k v => .tup [kP k, v]) ks vs) gd h1 →
      ∃ d o kvs, v = .ref d ∧ H1 d = some (.frz o (.dK kvs)) ∧ R (Iti d o kvs) H1 := fun ks vs gd e hz q1 => by
    obtain ⟨a, o, kvs, rfl, hf, rfl, rr⟩ := frz_walk r1 s1 e
    have ll : vs.length = kvs.length := by rw [rr.length, List.length_map]
    refine ⟨a, o, kvs, rfl, hf, l _ _ _ _ _ q1 g1 s1 ⟨?_, fun i H h hi m _ _ => ?_, fun H h m _ _ => ?_, fun i H h y H' p hp m sh' _ hy => ?_⟩⟩
    · rw [List.length_zipWith, List.length_map, ll, Nat.min_self]
      rw [List.length_map] at hz
      exact sz_le hz
    · rw [List.length_zipWith, List.length_map, ll, Nat.min_self] at hi
      exact ⟨m.f _ _ _ hf, hi⟩
    · rw [List.length_zipWith, List.length_map, ll, Nat.min_self]
      exact ⟨m.f _ _ _ hf, Nat.le_refl _⟩
    · obtain ⟨T, k, w, ek, rfl, hT, rfl⟩ := hy
      rw [List.getElem?_zipWith, List.getElem?_map, ek] at hp
      obtain ⟨pw, epw, rw'⟩ := (rr.mono m).get' (i := i) (v := w) (by rw [List.getElem?_map, ek]; rfl)
      rw [epw] at hp
      simp only [Option.map_some, Option.some.injEq] at hp
      subst hp
      have mm : Mono H (upd H T (.tup [kV k, w])) := Mono.new hT
      exact ⟨.new hT, sh'.new hT, rel_tup.mpr ⟨T, _, rfl, .inl (.inl upd_same), .cons (kP_rel k) (.cons (rw'.mono mm) .nil)⟩⟩
  split at q1
  · exact go _ _ _ (.inl rfl) q1.1 q1.2
  · rename_i a
    split at q1
    · rename_i ks vs e1
      exact go ks vs _ (.inr ⟨a, rfl, e1⟩) q1.1 q1.2
    · exact q1.elim
  · exact q1.elim
end
/-! ### a dict is locked while it is gone along -/
/-! no kept dict stands in it -/
mutual
def nd : PV → Bool
  | .dct _ _ => false
  | .tup ps => nds ps
  | .lst ps => nds ps
  | _ => true
def nds : List PV → Bool
  | [] => true
  | p :: ps => nd p && nds ps
end
def ndO : PO → Bool
  | .lst ps => nds ps
  | .dct _ vs => nds vs
  | .ins _ _ vs => nds vs
  | .lck _ _ => true
  | .xd _ vs => nds vs
  | .tab _ => true
def ndS : PSt → Bool
  | [] => true
  | none :: r => ndS r
  | some p :: r => nd p && ndS r
def ndH (h : PH) : Prop := ∀ b o, h b = some o → ndO o = true
section
variable {K : PySem.W.Frag} {H1 : Hp} {a : Addr} {od : Obj} {kvs : List (Key × V)} {u : HO}
mutual
theorem nd_rel (hA : H1 a = some (.frz od (.dK kvs))) : ∀ (p : PV) (v : V), nd p = true → Rel K H1 p v → Rel K (upd H1 a u) p v
  | .non, _, _, h => by simpa only [Rel] using h
  | .bl _, _, _, h => by simpa only [Rel] using h
  | .int _, _, _, h => by simpa only [Rel] using h
  | .str _, _, _, h => by simpa only [Rel] using h
  | .ref _, _, _, h => by simpa only [Rel] using h
  | .ty _, _, _, h => by simpa only [Rel] using h
  | .dct _ _, _, n, _ => by simp [nd] at n
  | .tup ps, v, n, h => by
    obtain ⟨b, xs, e, h1, h2⟩ := rel_tup.mp h
    refine rel_tup.mpr ⟨b, xs, e, ?_, nds_rel hA ps xs (by simpa only [nd] using n) h2⟩
    rcases h1 with (q | ⟨o, q⟩) | q
    · have hb : b ≠ a := fun z => by rw [z, hA] at q; cases q
      exact .inl (.inl (by rw [upd_ne hb]; exact q))
    · have hb : b ≠ a := fun z => by rw [z, hA] at q; cases q
      exact .inl (.inr ⟨o, by rw [upd_ne hb]; exact q⟩)
    · exact .inr q
  | .lst ps, v, n, h => by
    obtain ⟨b, xs, e, h1, h2⟩ := rel_lst.mp h
    refine rel_lst.mpr ⟨b, xs, e, ?_, nds_rel hA ps xs (by simpa only [nd] using n) h2⟩
    rcases h1 with ⟨o, q⟩ | q
    · have hb : b ≠ a := fun z => by rw [z, hA] at q; cases q
      exact .inl ⟨o, by rw [upd_ne hb]; exact q⟩
    · exact .inr q
theorem nds_rel (hA : H1 a = some (.frz od (.dK kvs))) : ∀ (ps : List PV) (xs : List V), nds ps = true → Rels K H1 ps xs → Rels K (upd H1 a u) ps xs
  | [], _, _, h => by simpa only [Rels] using h
  | p :: ps, xs, n, h => by
    simp only [nds, Bool.and_eq_true] at n
    obtain ⟨v, vs, rfl, h1, h2⟩ := h.uncons
    exact .cons (nd_rel hA p v n.1 h1) (nds_rel hA ps vs n.2 h2)
end
theorem ndO_rel (hA : H1 a = some (.frz od (.dK kvs))) {b : Addr} (hb : b ≠ a) : ∀ {o : PO} {w : HO}, H1 b = some w → (∀ ks vs, o ≠ .lck ks vs) → ndO o = true → RelO K H1 o w → RelO K (upd H1 a u) o w
  | .lst ps, _, _, _, n, ⟨xs, e, r⟩ => ⟨xs, e, nds_rel hA _ _ n r⟩
  | .dct ks vs, _, _, _, n, ⟨kvs, e, r, q⟩ => ⟨kvs, e, r, nds_rel hA _ _ n q⟩
  | .ins C ns vs, _, _, _, n, ⟨dx, fs, e, m, r⟩ => ⟨dx, fs, e, m, nds_rel hA _ _ n r⟩
  | .lck ks vs, _, _, z, _, _ => absurd rfl (z ks vs)
  | .xd ns vs, _, _, _, n, ⟨fs, e, m, r⟩ => ⟨fs, e, m, nds_rel hA _ _ n r⟩
  | .tab q, _, _, _, _, ⟨ps, e, t⟩ => ⟨ps, e, t.1, fun pos cv z => let ⟨c, oc, vs, tk, e1, e2, r⟩ := t.2 pos cv z; ⟨c, oc, vs, tk, e1, by rw [upd_ne (fun y => by rw [y, hA] at e2; cases e2)]; exact e2, r⟩⟩
theorem ndS_rel {τ : PSt} {σ : L2.St} (hA : H1 a = some (.frz od (.dK kvs))) (n : ndS τ = true) (s : SimS K H1 σ τ) : SimS K (upd H1 a u) σ τ := by
  refine ⟨s.1, fun i p e => ?_⟩
  obtain ⟨v, e1, r⟩ := s.2 i p e
  refine ⟨v, e1, nd_rel hA p v ?_ r⟩
  have key : ∀ (τ : PSt) (i : Nat), ndS τ = true → gt τ i = some p → nd p = true := by
    intro τ
    induction τ with
    | nil => intro i _ e; cases i <;> cases e
    | cons x r ih =>
      intro i n e
      cases x with
      | none =>
        cases i with
        | zero => cases e
        | succ i => exact ih i n e
      | some q =>
        simp only [ndS, Bool.and_eq_true] at n
        cases i with
        | zero => cases e; exact n.1
        | succ i => exact ih i n.2 e
  exact key τ i n e
end
/-- but the one at a no dict is locked -/
def lk1 (a : Addr) (h : PH) : Prop := ∀ b ks vs, h b = some (.lck ks vs) → b = a
def unl (a : Addr) (ks : List Key) (vs : List PV) (D : PEnds) : PEnds :=
  ⟨fun τ h => (h a = some (.lck ks vs) ∧ ndS τ = true ∧ ndH h ∧ lk1 a h) ∧ D.nx τ (up h a (.dct ks vs)), fun p h => (h a = some (.lck ks vs) ∧ nd p = true ∧ ndH h ∧ lk1 a h) ∧ D.rt p (up h a (.dct ks vs)),
   fun τ h => (h a = some (.lck ks vs) ∧ ndS τ = true ∧ ndH h ∧ lk1 a h) ∧ D.bk τ (up h a (.dct ks vs)), fun τ h => (h a = some (.lck ks vs) ∧ ndS τ = true ∧ ndH h ∧ lk1 a h) ∧ D.ct τ (up h a (.dct ks vs))⟩
def mLockS (m : MS) : MS := fun D τ h => ∃ a ks vs, h a = some (.dct ks vs) ∧ m (unl a ks vs D) τ (up h a (.lck ks vs))
def mLockE (m : ME) : ME := fun τ h Q => ∃ a ks vs, h a = some (.dct ks vs) ∧ m τ (up h a (.lck ks vs)) fun p h1 => (h1 a = some (.lck ks vs) ∧ nd p = true ∧ ndH h1 ∧ lk1 a h1) ∧ Q p (up h1 a (.dct ks vs))
section
variable {K : PySem.W.Frag} {H H1 : Hp} {h h1 : PH} {a : Addr} {od : Obj} {kvs : List (Key × V)} {ks : List Key} {vs : List PV}
theorem lock_go (e : h a = some (.dct ks vs)) (he : H a = some (.dK kvs)) : Go H h (upd H a (.frz od (.dK kvs))) (up h a (.lck ks vs)) := .wr e (Mono.dK he)
theorem lock_sim (s : Sim K H h) (e : h a = some (.dct ks vs)) (he : H a = some (.dK kvs)) : Sim K (upd H a (.frz od (.dK kvs))) (up h a (.lck ks vs)) := by
  obtain ⟨u, e1, kvs', rfl, e2, rr⟩ := s a _ e
  rw [he] at e1
  cases e1
  exact s.put (Mono.dK he) ⟨od, _, rfl, e2, rr.mono (Mono.dK he)⟩
/-- the tuples, frozen things stay when a frozen dict is a dict again: by the lock's own address alone -/
theorem unlock_go (e0 : h a = some (.dct ks vs)) (he : H a = some (.dK kvs)) (g : Go (upd H a (.frz od (.dK kvs))) (up h a (.lck ks vs)) H1 h1) (e1 : H1 a = some (.frz od (.dK kvs))) : Go H h (upd H1 a (.dK kvs)) (up h1 a (.dct ks vs)) := by
  refine ⟨⟨fun b xs q => ?_, fun b o u q => ?_⟩, fun b u q n => ?_, fun b u q n => ?_, fun b q => ?_⟩
  · have hb : b ≠ a := fun z => by rw [z, he] at q; cases q
    rw [upd_ne hb]
    exact g.mono.t b xs (by rw [upd_ne hb]; exact q)
  · have hb : b ≠ a := fun z => by rw [z, he] at q; cases q
    rw [upd_ne hb]
    exact g.mono.f b o u (by rw [upd_ne hb]; exact q)
  · have hb : b ≠ a := fun z => by rw [z, e0] at n; cases n
    rw [upd_ne hb]
    exact g.frame b u (by rw [upd_ne hb]; exact q) (by rw [up_ne hb]; exact n)
  · have hb : b ≠ a := fun z => by rw [z, e0] at n; cases n
    rw [up_ne hb]
    exact g.dom b u (by rw [upd_ne hb]; exact q) (by rw [up_ne hb]; exact n)
  · have hb : b ≠ a := fun z => by rw [z, upd_same] at q; cases q
    rw [upd_ne hb] at q
    have := g.live b q
    rw [upd_ne hb] at this
    exact this
theorem unlock_sim (e0 : h a = some (.dct ks vs)) (he : H a = some (.dK kvs)) (s0 : Sim K H h) (g : Go (upd H a (.frz od (.dK kvs))) (up h a (.lck ks vs)) H1 h1) (e1 : H1 a = some (.frz od (.dK kvs))) (n : ndH h1) (n1 : lk1 a h1) (s : Sim K H1 h1) : Sim K (upd H1 a (.dK kvs)) (up h1 a (.dct ks vs)) := by
  have g2 := unlock_go e0 he g e1
  intro b o q
  by_cases hb : b = a
  · subst hb
    rw [up_same] at q
    cases q
    obtain ⟨u, e2, kvs', rfl, e3, rr⟩ := s0 b _ e0
    rw [he] at e2
    cases e2
    exact ⟨_, upd_same, _, rfl, e3, rr.mono g2.mono⟩
  · rw [up_ne hb] at q
    obtain ⟨w, e2, r⟩ := s b o q
    refine ⟨w, by rw [upd_ne hb]; exact e2, ndO_rel e1 hb e2 (fun ks vs z => hb (n1 b ks vs (by rw [q, z]))) (n b o q) r⟩
end
section
variable {X : Cx} {e : Expr} {st : Stmt} {m : ME} {ms : MS}
theorem le_lockE (he : LE X e m) : LE X e (mLockE m) := by
  refine PE.weak (pe_lock he) fun σ H Q ⟨τ, h, Q', s, sh, ⟨a, ks, vs, ea, q⟩, l⟩ => ?_
  obtain ⟨u, eu, kvs, rfl, e3, rr⟩ := sh a _ ea
  refine ⟨a, _, eu, trivial, fun od => ?_⟩
  have g0 := lock_go (od := od) ea eu
  refine ⟨τ, _, _, s.mono g0.mono, lock_sim sh ea eu, q, fun p h1 v H1 ⟨⟨q1, q2, q3, q4⟩, q5⟩ g1 r1 s1 => ?_⟩
  have e1 : H1 a = some (.frz od (.dK kvs)) := g1.mono.f a od _ upd_same
  exact ⟨e1, l _ _ _ _ q5 (unlock_go ea eu g1 e1) (nd_rel e1 p v q2 r1) (unlock_sim ea eu sh g1 e1 q3 q4 s1)⟩
theorem ls_lockS (hs : LS X st ms) : LS X st (mLockS ms) := by
  refine PS.weak (ps_lock hs) fun D σ H ⟨τ, h, D', s, sh, ⟨a, ks, vs, ea, q⟩, l⟩ => ?_
  obtain ⟨u, eu, kvs, rfl, e3, rr⟩ := sh a _ ea
  refine ⟨a, _, eu, trivial, fun od => ?_⟩
  have g0 := lock_go (od := od) ea eu
  refine ⟨τ, _, _, s.mono g0.mono, lock_sim sh ea eu, q, ⟨?_, ?_, ?_, ?_⟩⟩
  · rintro τ1 h1 σ1 H1 ⟨⟨q1, q2, q3, q4⟩, q5⟩ g1 ss1 s1
    have e1 : H1 a = some (.frz od (.dK kvs)) := g1.mono.f a od _ upd_same
    exact ⟨e1, l.nx _ _ _ _ q5 (unlock_go ea eu g1 e1) (ndS_rel e1 q2 ss1) (unlock_sim ea eu sh g1 e1 q3 q4 s1)⟩
  · rintro p h1 v H1 ⟨⟨q1, q2, q3, q4⟩, q5⟩ g1 r1 s1
    have e1 : H1 a = some (.frz od (.dK kvs)) := g1.mono.f a od _ upd_same
    exact ⟨e1, l.rt _ _ _ _ q5 (unlock_go ea eu g1 e1) (nd_rel e1 p v q2 r1) (unlock_sim ea eu sh g1 e1 q3 q4 s1)⟩
  · rintro τ1 h1 σ1 H1 ⟨⟨q1, q2, q3, q4⟩, q5⟩ g1 ss1 s1
    have e1 : H1 a = some (.frz od (.dK kvs)) := g1.mono.f a od _ upd_same
    exact ⟨e1, l.bk _ _ _ _ q5 (unlock_go ea eu g1 e1) (ndS_rel e1 q2 ss1) (unlock_sim ea eu sh g1 e1 q3 q4 s1)⟩
  · rintro τ1 h1 σ1 H1 ⟨⟨q1, q2, q3, q4⟩, q5⟩ g1 ss1 s1
    have e1 : H1 a = some (.frz od (.dK kvs)) := g1.mono.f a od _ upd_same
    exact ⟨e1, l.ct _ _ _ _ q5 (unlock_go ea eu g1 e1) (ndS_rel e1 q2 ss1) (unlock_sim ea eu sh g1 e1 q3 q4 s1)⟩
end
end N3

/-! comprehensions of a dict; list, sorted, len of a dict; len of an instance -/
namespace N3
open PySem PySem.Spec PyProof.Rows L2

def dcL (gd : PH → Prop) (τ : PSt) (g : MG) (t : MT) (mk mv : ME) : List PV → List Key → List PV → PH → (List Key → List PV → PH → Prop) → Prop
  | [], ks, vs, h, Q => gd h ∧ Q ks vs h
  | p :: ps, ks, vs, h, Q => gd h ∧ g p τ h fun τ1 h1 => t τ1 h1 fun b h2 => if b = true then mk τ1 h2 fun y h3 => mv τ1 h3 fun z h4 => (match kOf y with
    | some k => dcL gd τ g t mk mv ps (pk ks k) (pvs ks vs k z) h4 Q
    | none => False) else dcL gd τ g t mk mv ps ks vs h2 Q
def mDc (mi : MI) (vs : List Nat) (g : MG) (t : MT) (mk mv : ME) : ME := fun τ h Q => mi τ h fun ps gd h1 => dcL gd (wp τ vs) g t mk mv ps [] [] h1 fun ks us h2 => Q (.dct ks us) h2
def mDcM (mi : MI) (vs : List Nat) (g : MG) (t : MT) (mk mv : ME) : ME := fun τ h Q => mi τ h fun ps gd h1 => dcL gd (wp τ vs) g t mk mv ps [] [] h1 fun ks us h2 => ∀ a, h2 a = none → Q (.ref a) (up h2 a (.dct ks us))
theorem putK_len (kvs : List (Key × V)) (k : Key) (v : V) : (putK kvs k v).length ≤ kvs.length + 1 := by
  unfold putK
  split
  · rw [List.length_map]; omega
  · rw [List.length_append]; simp
theorem dc_up {K : PySem.W.Frag} {mi : MI} {vs : List Nat} {g : MG} {t : MT} {mk mv : ME} {Y : List Key → List PV → PH → Prop} {σ : L2.St} {H0 : Hp} {τ : PSt} {h0 : PH} {Q : VK} (s0 : SimS K H0 σ τ) (sh0 : Sim K H0 h0)
    (q : mi τ h0 fun ps gd h1 => dcL gd (wp τ vs) g t mk mv ps [] [] h1 Y)
    (fin : ∀ ks us h2 kvs D H2, Y ks us h2 → H0 D = none → H2 D = some (.dK kvs) → h2 D = none → Sim K H2 h2 → ks = kvs.map (·.1) → Rels K H2 us (kvs.map (·.2)) → Go H0 h0 H2 h2 → Q (.ref D) H2) :
    tDc (upI K mi) (upG K vs g) (upT K t) (upE K mk) (upE K mv) vs σ H0 Q := by
  refine ⟨τ, h0, _, s0, sh0, q, fun ps gd h1 H1 J q1 g1 s1 wk D hD => ?_⟩
  have hD1 : h1 D = none := s1.fresh hD
  have gD : Go H1 h1 (upd H1 D (.dK [])) h1 := .new hD
  refine ⟨fun i n H => ∃ h ks us kvs, i ≤ ps.length ∧ n = ps.length - i ∧ Go H1 h1 H h ∧ H D = some (.dK kvs) ∧ h D = none ∧ ks = kvs.map (·.1) ∧ Rels K H us (kvs.map (·.2)) ∧ kvs.length ≤ i ∧ Sim K H h ∧ dcL gd (wp τ vs) g t mk mv (ps.drop i) ks us h Y,
    ⟨ps.length, h1, [], [], [], Nat.zero_le _, rfl, gD, upd_same, hD1, rfl, .nil, Nat.le_refl _, s1.new hD, q1⟩, ?_⟩
  rintro i n H ⟨h, ks, us, kvs, hi, rfl, gg, hx, hd, rk, ra, hl, sh, q⟩
  by_cases hlt : i < ps.length
  · have e : ps.drop i = ps[i] :: ps.drop (i + 1) := List.drop_eq_getElem_cons hlt
    rw [e] at q
    obtain ⟨hgd, q⟩ := q
    refine .inr ⟨wk.goes i H h hlt gg.mono sh hgd, fun H' => ∃ h ks us kvs, Go H1 h1 H' h ∧ H' D = some (.dK kvs) ∧ h D = none ∧ ks = kvs.map (·.1) ∧ Rels K H' us (kvs.map (·.2)) ∧ kvs.length ≤ i + 1 ∧ Sim K H' h ∧ dcL gd (wp τ vs) g t mk mv (ps.drop (i + 1)) ks us h Y,
      fun H' ⟨h, ks, us, kvs, a1, a2, a3, a4, a5, a6, a7, a8⟩ => ⟨ps.length - (i + 1), by omega, h, ks, us, kvs, hlt, rfl, a1, a2, a3, a4, a5, a6, a7, a8⟩, fun x H' y => ?_⟩
    obtain ⟨g2, sh2, rx⟩ := wk.yields i H h x H' ps[i] (List.getElem?_eq_getElem hlt) gg.mono sh hgd y
    have gw : Mono H0 H' := (g1.trans (gg.trans g2)).mono
    refine ⟨ps[i], wp τ vs, h, _, rx, (s0.mono gw).wipe vs, sh2, q, fun τ3 h3 σ3 H3 q3 g3 s3 sh3 w3 => ⟨by rw [w3, wipe_wipe], ?_⟩⟩
    refine ⟨τ3, h3, _, s3, sh3, q3, fun b h4 H4 q4 g4 s4 => ?_⟩
    have g24 := (g2.trans g3).trans g4
    have x4 : H4 D = some (.dK kvs) := g24.frame D _ hx hd
    have d4 : h4 D = none := g24.dom D _ hx hd
    cases b with
    | true =>
      simp only [if_true] at q4 ⊢
      refine ⟨τ3, h4, _, s3.mono g4.mono, s4, q4, fun yk h5 yv H5 q5 g5 r5 s5 => ?_⟩
      refine ⟨τ3, h5, _, (s3.mono g4.mono).mono g5.mono, s5, q5, fun zv h6 z6 H6 q6 g6 r6 s6 => ?_⟩
      have g56 := g5.trans g6
      have x6 : H6 D = some (.dK kvs) := g56.frame D _ x4 d4
      have d6 : h6 D = none := g56.dom D _ x4 d4
      have few := wk.few
      cases ek : kOf yk with
      | none => rw [ek] at q6; exact q6.elim
      | some k =>
        rw [ek] at q6
        have ey := kOf_rel r5 ek
        subst ey
        have mm : Mono H6 (upd H6 D (.dK (putK kvs k z6))) := Mono.dK x6
        obtain ⟨z1, z2⟩ := put_rel (k := k) (ra.mono (g24.trans g56).mono) r6
        have pl := putK_len kvs k z6
        refine ⟨kvs, k, rfl, x6, by omega, h6, pk ks k, pvs ks us k zv, putK kvs k z6, ?_, upd_same, d6, ?_, ?_, by omega, s6.drop mm d6, q6⟩
        · exact (((gg.trans g24).trans g56)).renew hD mm
        · rw [rk]; exact z1
        · rw [rk]; exact z2.mono mm
    | false =>
      simp only [Bool.false_eq_true, if_false] at q4 ⊢
      exact ⟨h4, ks, us, kvs, gg.trans g24, x4, d4, rk, ra.mono g24.mono, by omega, s4, q4⟩
  · have e : i = ps.length := by omega
    subst e
    rw [List.drop_length] at q
    have g0 := g1.trans gg
    exact .inl ⟨wk.stops H h gg.mono sh q.1, fin ks us h kvs D H q.2 (g1.live D hD) hx hd sh rk ra g0⟩
section
variable {X : Cx} {pos : Pos}
theorem le_dc {kx vx tg iter : Expr} {ifs : List Expr} {scope : Scope} {mi : MI} {g : MG} {t : MT} {mk mv : ME} (own : List (Str × Nat)) (hc : X.calm = true) (hN : X.N.Nodup) (hi : LI X tg iter mi) (ok : BlkOk X.N X.env.scope scope own)
    (hg : ∀ (s : Shared) (H : Hp) (C : Addr) (cl : List (Str × Addr)) (fp : List Addr), LG (X.blk s H scope (compEnvC scope cl C X.env) fp) tg (own.map (·.2)) g) (ht : ∀ (s : Shared) (H : Hp) (C : Addr) (cl : List (Str × Addr)) (fp : List Addr), LTs (X.blk s H scope (compEnvC scope cl C X.env) fp) ifs t)
    (hk : ∀ (s : Shared) (H : Hp) (C : Addr) (cl : List (Str × Addr)) (fp : List Addr), LE (X.blk s H scope (compEnvC scope cl C X.env) fp) kx mk)
    (he : ∀ (s : Shared) (H : Hp) (C : Addr) (cl : List (Str × Addr)) (fp : List Addr), LE (X.blk s H scope (compEnvC scope cl C X.env) fp) vx mv) (hs : ∀ x, foldedSetIterable iter X.env x = pure x := by intro _; rfl) :
    LE X (.DictComp kx vx [⟨tg, iter, ifs, 0⟩] scope pos) (mDc mi (own.map (·.2)) g t mk mv) :=
  PE.weak (PE.kp (pe_dc hc hN hi ok hg ht hk he hs)) fun σ H Q ⟨τ, h, Q', s, sh, q, l⟩ => dc_up s sh q fun ks us h2 kvs D H2 q2 h0 hD hd s2 rk r2 g2 => .inr ⟨D, _, rfl, hD, trivial, fun o => by
    have mm : Mono H2 (upd H2 D (.frz o (.dK kvs))) := Mono.dK hD
    refine l (.dct ks us) h2 (.ref D) _ q2 (g2.renew h0 mm) ?_ (s2.drop mm hd)
    exact rel_dct.mpr ⟨D, kvs, rfl, ⟨o, upd_same⟩, rk, r2.mono mm⟩⟩
theorem le_dcM {kx vx tg iter : Expr} {ifs : List Expr} {scope : Scope} {mi : MI} {g : MG} {t : MT} {mk mv : ME} (own : List (Str × Nat)) (hc : X.calm = true) (hN : X.N.Nodup) (hi : LI X tg iter mi) (ok : BlkOk X.N X.env.scope scope own)
    (hg : ∀ (s : Shared) (H : Hp) (C : Addr) (cl : List (Str × Addr)) (fp : List Addr), LG (X.blk s H scope (compEnvC scope cl C X.env) fp) tg (own.map (·.2)) g) (ht : ∀ (s : Shared) (H : Hp) (C : Addr) (cl : List (Str × Addr)) (fp : List Addr), LTs (X.blk s H scope (compEnvC scope cl C X.env) fp) ifs t)
    (hk : ∀ (s : Shared) (H : Hp) (C : Addr) (cl : List (Str × Addr)) (fp : List Addr), LE (X.blk s H scope (compEnvC scope cl C X.env) fp) kx mk)
    (he : ∀ (s : Shared) (H : Hp) (C : Addr) (cl : List (Str × Addr)) (fp : List Addr), LE (X.blk s H scope (compEnvC scope cl C X.env) fp) vx mv) (hs : ∀ x, foldedSetIterable iter X.env x = pure x := by intro _; rfl) :
    LE X (.DictComp kx vx [⟨tg, iter, ifs, 0⟩] scope pos) (mDcM mi (own.map (·.2)) g t mk mv) :=
  PE.weak (pe_dc hc hN hi ok hg ht hk he hs) fun σ H Q ⟨τ, h, Q', s, sh, q, l⟩ => dc_up s sh q fun ks us h2 kvs D H2 q2 h0 hD hd s2 rk r2 g2 => by
    refine l (.ref D) _ (.ref D) H2 (q2 D hd) (g2.own h0) (by simp only [Rel]) fun b p e => ?_
    by_cases hb : b = D
    · subst hb
      rw [up_same] at e; cases e
      exact ⟨_, hD, kvs, rfl, rk, r2⟩
    · rw [up_ne hb] at e
      exact s2 b p e
end
/-! ### list, sorted, len of a dict -/
def rListK : PRA := fun ps h Q => match ps with
  | [p] => (match dctL h p with | some (ks, _) => Q (.lst (ks.map kP)) h | none => False)
  | _ => False
def rSortK : PRA := fun ps h Q => match ps with
  | [p] => (match dctL h p with | some (ks, _) => ∃ xs : List Str, ks = xs.map Sum.inr ∧ xs.length < 64 ∧ ∀ ys : List Str, ys.Perm xs → sortedS ys = true → Q (.lst (ys.map PV.str)) h | none => False)
  | _ => False
def rLenK : PRA := fun ps h Q => match ps with
  | [.ref a] => (match h a with | some (.dct ks _) => Q (.int (ks.length : Nat)) h | _ => False)
  | _ => False
theorem keys_rel {K : PySem.W.Frag} {H : Hp} : ∀ kvs : List (Key × V), Rels K H ((kvs.map (·.1)).map kP) (kvs.map fun kv => kV kv.1)
  | [] => .nil
  | kv :: kvs => .cons (kP_rel kv.1) (keys_rel kvs)
section
variable {X : Cx} {pos p : Pos} {e : Expr} {m : MA}
theorem le_listK (hc : X.calm = true) (hm : X.mg "list" = none) (ha : LAn X [e] 1 m) (hg : Gl X "list" := by rfl) (h1 : starEach [e] X.env = (false, eval e X.env) :: starEach [] X.env := by rfl) (h2 : (backTo pos (starEach [] X.env)).any (·.1) = false := by rfl) : LE X (.Call (.Name "list" p) [e] [] pos) (mBlt rListK m) := by
  refine le_tyK (T := "list") (call_listD hc) ?_ hm ha hg (by decide +kernel) (by decide) (by decide) h1 h2
  intro xs H ps h Q' Q rp s r l
  unfold rListK at r
  split at r
  · rename_i p
    obtain ⟨v, rfl, r1⟩ := rp.one
    split at r
    · rename_i ks vs e
      obtain ⟨a, kvs, rfl, hd, rfl, rr⟩ := dctL_rd r1 s e
      exact ⟨a, kvs, rfl, hd, fun c hc => keep_l l s (keys_rel kvs) r hc⟩
    · exact r.elim
  · exact r.elim
theorem le_sortK (hc : X.calm = true) (hm : X.mg "sorted" = none) (ha : LAn X [e] 1 m) (hg : Gl X "sorted" := by rfl) (h1 : starEach [e] X.env = (false, eval e X.env) :: starEach [] X.env := by rfl) (h2 : (backTo pos (starEach [] X.env)).any (·.1) = false := by rfl) : LE X (.Call (.Name "sorted" p) [e] [] pos) (mBlt rSortK m) := by
  refine le_bltK (id := "sorted") (call_sortedD hc) ?_ hm ha hg (by decide +kernel) (by decide) (by decide) h1 h2
  intro xs H ps h Q' Q rp s r l
  unfold rSortK at r
  split at r
  · rename_i p
    obtain ⟨v, rfl, r1⟩ := rp.one
    split at r
    · rename_i ks vs e
      obtain ⟨a, kvs, rfl, hd, rfl, rr⟩ := dctL_rd r1 s e
      obtain ⟨ys, ey, hl, r⟩ := r
      exact ⟨a, kvs, ys, rfl, hd, ey, hl, fun zs c hp hs hc => keep_l l s (rels_of_strs zs) (r zs hp hs) hc⟩
    · exact r.elim
  · exact r.elim
theorem le_lenK (hm : X.mg "len" = none) (ha : LAn X [e] 1 m) (hg : Gl X "len" := by rfl) (h1 : starEach [e] X.env = (false, eval e X.env) :: starEach [] X.env := by rfl) (h2 : (backTo pos (starEach [] X.env)).any (·.1) = false := by rfl) : LE X (.Call (.Name "len" p) [e] [] pos) (mBlt rLenK m) := by
  refine le_blt (id := "len") call_lenD ?_ hm ha hg (by decide +kernel) (by decide) (by decide) h1 h2
  intro xs H ps h Q' Q rp s r l
  unfold rLenK at r
  split at r
  · rename_i a
    obtain ⟨v, rfl, r1⟩ := rp.one
    have ev := rel_ref.mp r1
    subst ev
    split at r
    · rename_i ks vs e
      obtain ⟨u, eu, kvs, rfl, rfl, rr⟩ := s a _ e
      rw [List.length_map] at r
      exact ⟨a, kvs, rfl, eu, l _ _ _ _ r .refl (rel_int.mpr rfl) s⟩
    · exact r.elim
  · exact r.elim
end
/-! ### len of an instance -/
section
variable {prog : Program} {w : World} {A : Around} {E : Value → Shared → Prop} {K : PySem.W.Frag} {s : Shared} {a ox C f : Addr} {od : Option Obj}
theorem special_meth {ob : Obj} {name : Str} {args : List Value} {Q : Option Value → Shared → Prop} (X : K.In s.heap) (I : PySem.W.InstAt s.heap a ob C od) (hf : PySem.W.findIn K (.ref C) name = some (some (.ref f))) (ht : PySem.W.isFn K (.ref f) = true)
    (hc : wpAny (model prog w) A (call (.ref f) (.ref a :: args)) (fun v s' => Q (some v) s') E s) : wpAny (model prog w) A (callSpecial? (.ref a) name args) Q E s := by
  unfold callSpecial? specialOf
  refine wpAny_bind (wpAny_bind (I.type.here ((PySem.W.looks_findIn X hf).here ?_)))
  refine wpAny_holding (wpAny_bind ((PySem.W.bind_fn X (.ref a) (beq_iff_eq.mp ht)).here ?_))
  exact wpAny_bind (wpAny_mono hc (fun v s' h => wpAny_pure h) fun _ _ z => z)
theorem len_ins {ob : Obj} {Q : Value → Shared → Prop} (X : K.In s.heap) (I : PySem.W.InstAt s.heap a ob C od) (hf : PySem.W.findIn K (.ref C) "__len__" = some (some (.ref f))) (ht : PySem.W.isFn K (.ref f) = true)
    (hcall : wpAny (model prog w) A.in1 (call (.ref f) [.ref a]) (fun r s' => ∃ n u, r = .int n u ∧ 0 ≤ n ∧ n < 2 ^ 63 ∧ Q (.int n s'.toks) { s' with toks := s'.toks + 1 }) E s) :
    wpAny (model prog w) A (call (.builtin "len") [.ref a]) Q E s := by
  refine Calls.call_function_entry kind_len plain_len entry_len (args_len1 _) ?_
  unfold Builtin.«len»
  refine wpAny_bind (m := oneArg "len" _) (wpAny_pure ?_)
  refine wpAny_bind (m := callSpecial? (.ref a) (Str.ofString "__len__")) (special_meth X I hf ht (wpAny_mono hcall (fun r s' hr => ?_) fun _ _ y => y))
  obtain ⟨n, u, rfl, h0, h1, hq⟩ := hr
  refine wpAny_bind (wpAny_holding (wpAny_pure ?_))
  refine wpAny_bind (wpAny_letGo ?_)
  show wpAny _ _ (if n < 0 then _ else _) _ _ _
  rw [if_neg (by omega)]
  show wpAny _ _ (if n ≥ 2 ^ 63 then _ else _) _ _ _
  rw [if_neg (by omega)]
  exact wpAny_bind (wpAny_mkInt (wpAny_pure ⟨_, rfl, hq⟩))
end
def pat1 : Pat := ⟨1, [], [0], []⟩
/-- len(o) -/
def rLenO (C : Addr) (sp : SpP) : PRA := fun ps h Q => match ps with
  | [.ref a] => (match h a with
    | some (.ins C' _ _) => C' = C ∧ sp [.ref a] h fun v h2 => ∃ n : Nat, v = .int n ∧ n ≤ SZ ∧ Q v h2
    | _ => False)
  | _ => False
section
variable {X : Cx} {pos p : Pos} {e : Expr} {m : MA} {k : Nat} {C : Addr} {ps : List Str} {sp : SpP} {pats : List Pat}
theorem call_lenO (c : FnM X.prog X.w X.K X.mg X.base k C "__len__" ps sp pats) (hb : pat1 ∈ pats) {kk : Nat} (hr : Room kk X.A) (hj : k + 1 ≤ kk) (hG : X.A.guards = some []) :
    CallR X (.builtin "len") (fun xs H Q => ∃ a dx fs h Q', xs = [.ref a] ∧ H a = some (.ins C dx fs) ∧ Sim X.K H h ∧ sp [.ref a] h Q' ∧ LQ X.K H h Q' (fun v H2 => ∃ n : Nat, v = .int n ∧ n ≤ SZ ∧ Q v H2)) := by
  intro pins s σ H xs us Q I r hq
  obtain ⟨a, dx, fs, h, Q', rfl, ha, sh, q, l⟩ := hq
  obtain ⟨u, rfl, ru⟩ := vals1 r
  obtain rfl : u = Value.ref a := ru
  obtain ⟨f, fd, hM, F⟩ := c.ex
  obtain ⟨mA, O, _, _, _, _⟩ := ins_get I.hok ha
  obtain ⟨od, J, _⟩ := O.look
  obtain ⟨mv, dv, rv, rd, to⟩ := (F.b pat1 hb).ex
  have hl : (pick pat1.π ([PV.ref a] ++ [] ++ pat1.ds)).length = ps.length := (F.b pat1 hb).len _ rfl
  have R0 : Vals [V.ref a] [Value.ref a] := .cons rfl .nil
  have R : Vals (pick pat1.π ([V.ref a] ++ [] ++ dv)) (pick pat1.π ([Value.ref a] ++ [] ++ mv)) := Vals.pick ((R0.append (.nil : Vals [] [])).append rv) pat1.π
  have RR : Rels X.K H (pick pat1.π ([PV.ref a] ++ [] ++ pat1.ds)) (pick pat1.π ([V.ref a] ++ [] ++ dv)) := Rels.pick (((Rels.cons (rel_ref.mpr rfl) .nil).append .nil).append (rd H)) pat1.π
  refine len_ins I.kIn J hM.at_ hM.fn (wpAny_call (codeAny_mono (F.g.run X.A.in1 X.stack s H ⟨[.ref a], []⟩ _ _ (fun v H2 => ∃ n : Nat, v = .int n ∧ n ≤ SZ ∧ Q v H2) (hr.mono hj).in1 hG I.env0.in1 (to s [.ref a] [] I.kIn rfl rfl) R ⟨_, h, Q', hl, RR, sh, q, l⟩) fun r s' hq' => ?_))
  cases r with
  | error e => exact False.elim hq'
  | ok fl =>
    cases fl with
    | ret u =>
      obtain ⟨v, H', I3, rv, n, rfl, hn, q3⟩ := I.after hq'
      obtain ⟨t, rfl⟩ := rv
      have hz : SZ = 16777216 := rfl
      exact ⟨_, _, rfl, by omega, by omega, ⟨.int n, H', I3.tok _, ⟨_, rfl⟩, q3⟩⟩
    | next => exact False.elim hq'
    | brk => exact False.elim hq'
    | cont => exact False.elim hq'
theorem le_lenO (c : FnM X.prog X.w X.K X.mg X.base k C "__len__" ps sp pats) (hb : pat1 ∈ pats) {kk : Nat} (hr : Room kk X.A) (hj : k + 1 ≤ kk) (hG : X.A.guards = some []) (hm : X.mg "len" = none) (ha : LAn X [e] 1 m) (hg : Gl X "len" := by rfl)
    (h1 : starEach [e] X.env = (false, eval e X.env) :: starEach [] X.env := by rfl) (h2 : (backTo pos (starEach [] X.env)).any (·.1) = false := by rfl) : LE X (.Call (.Name "len" p) [e] [] pos) (mBlt (rLenO C sp) m) := by
  refine le_blt (id := "len") (call_lenO c hb hr hj hG) ?_ hm ha hg (by decide +kernel) (by decide) (by decide) h1 h2
  intro xs H ps h Q' Q rp s r l
  unfold rLenO at r
  split at r
  · rename_i a
    obtain ⟨v, rfl, r1⟩ := rp.one
    have ev := rel_ref.mp r1
    subst ev
    split at r
    · rename_i C' ns vs e
      obtain ⟨rfl, r⟩ := r
      obtain ⟨u, eu, dx, fs, rfl, rfl, rr⟩ := s a _ e
      refine ⟨a, dx, fs, h, _, rfl, eu, s, r, fun p h1 v H1 ⟨n, en, hn, q⟩ g1 r1 s1 => ?_⟩
      subst en
      exact ⟨n, rel_int.mp r1, hn, l _ _ _ _ q g1 r1 s1⟩
    · exact r.elim
  · exact r.elim
end
end N3

/-! what a call binds, by patterns -/
namespace N3
open PySem PySem.Spec PyProof.Rows L2
def Kwd (K : PySem.W.Frag) (D : Addr) (ms : List (Str × V)) : Prop := ∀ q ∈ ms, ∃ u, PySem.W.nsIn K D q.1 = some (some u) ∧ RelV q.2 u
theorem kwd_nil {K : PySem.W.Frag} {D : Addr} : Kwd K D [] := fun _ h => nomatch h
theorem kwd_cons {K : PySem.W.Frag} {D : Addr} {x : Str} {v : V} {u : Value} {ms : List (Str × V)} (h : PySem.W.nsIn K D x = some (some u)) (r : RelV v u) (t : Kwd K D ms) : Kwd K D ((x, v) :: ms) := List.forall_mem_cons.mpr ⟨⟨u, h, r⟩, t⟩
def toV : PV → V
  | .int n => .int n
  | .bl b => .bl b
  | .str s => .str s
  | _ => .non
theorem toV_rel {K : PySem.W.Frag} {H : Hp} : ∀ {ps : List PV} {vs : List V}, vs = ps.map toV → (∀ p ∈ ps, match p with | .int _ | .bl _ | .str _ | .non => True | _ => False) → Rels K H ps vs
  | [], _, rfl, _ => .nil
  | p :: ps, _, rfl, h => by
    refine .cons ?_ (toV_rel rfl fun q hq => h q (List.mem_cons_of_mem _ hq))
    have := h p (List.mem_cons_self ..)
    cases p with
    | int n => exact rel_int.mpr rfl
    | bl b => simp only [Rel, toV]
    | str s => exact rel_str.mpr rfl
    | non => exact rel_non.mpr rfl
    | _ => exact this.elim
section
variable {K : PySem.W.Frag} {x qual : Str} {st : Stmt} {ps : List Str} {b : Pat} {kV doc pm cdv ct : Value} {an : Option Addr} {D : Addr}
theorem kb_all (e : b.ds = []) (h : ∀ us ws : List Value, us.length = b.n → ws.length = b.ks.length → bindArgs (PySem.W.fnOf x qual (defArgs st) (defBody st) (defScope st) .none kV doc pm an cdv ct) ⟨us, b.ks.zip ws⟩ = pure (ps.zip (pick b.π (us ++ ws ++ []))))
    (hl : ∀ l : List PV, l.length = b.n + b.ks.length + b.ds.length → (pick b.π l).length = ps.length) : KbP K (PySem.W.fnOf x qual (defArgs st) (defBody st) (defScope st) .none kV doc pm an cdv ct) ps b :=
  ⟨⟨[], [], .nil, fun H => by rw [e]; exact .nil, fun s us ws _ h1 h2 => BindsTo.of_eq (h us ws h1 h2)⟩, hl⟩
theorem kb_kwo {ms : List (Str × V)} (e : ms.map (·.2) = b.ds.map toV) (hd : Kwd K D ms)
    (h : ∀ us mv ws : List Value, us.length = b.n → mv.length = ms.length → ws.length = b.ks.length → KwChain D ((ms.map (·.1)).zip mv) (bindArgs (PySem.W.fnOf x qual (defArgs st) (defBody st) (defScope st) .none (.ref D) doc pm an cdv ct) ⟨us, b.ks.zip ws⟩) (ps.zip (pick b.π (us ++ ws ++ mv))))
    (hl : ∀ l : List PV, l.length = b.n + b.ks.length + b.ds.length → (pick b.π l).length = ps.length) (hp : ∀ p ∈ b.ds, match p with | .int _ | .bl _ | .str _ | .non => True | _ => False) : KbP K (PySem.W.fnOf x qual (defArgs st) (defBody st) (defScope st) .none (.ref D) doc pm an cdv ct) ps b := by
  obtain ⟨mv, l, rk, hks⟩ := kwd_vals hd
  exact ⟨⟨mv, ms.map (·.2), rk, fun H => toV_rel e hp, fun s us ws X h1 h2 => BindsTo.of_looks fun M => KwChain.looks X hks (h us mv ws h1 l h2)⟩, hl⟩
end
end N3

/-! a dict's values gone along; plain defs called by patterns -/
namespace N3
open PySem PySem.Spec PyProof.Rows L2
def mValsI (m : ME) : MI := fun τ h Q => m τ h fun p h1 => match p with
  | .dct ks vs => ks.length ≤ SZ ∧ Q vs (fun _ => True) h1
  | .ref a => (match h1 a with | some (.lck ks vs) => ks.length ≤ SZ ∧ Q vs (gdK p ks vs) h1 | _ => False)
  | _ => False
section
variable {X : Cx} {tg e : Expr} {pos apos cpos : Pos} {m : ME}
theorem li_vals (he : LE X e m) (hbase : attributeBase e "values" X.env (eval e X.env) = eval e X.env := by rfl) (hline : (apos.endLine == cpos.line) = true := by rfl) :
    LI X tg (.Call (.Attribute e "values" apos) [] [] cpos) (mValsI m) := by
  refine PI.weak (pi_values he hbase hline) fun σ H R ⟨τ, h, Q', s, sh, q, l⟩ => ?_
  refine ⟨τ, h, _, s, sh, q, fun p h1 v H1 q1 g1 r1 s1 => ?_⟩
  have go : ∀ (ks : List Key) (vs : List PV) (gd : PH → Prop), (p = .dct ks vs ∨ ∃ a, p = .ref a ∧ h1 a = some (.lck ks vs)) → ks.length ≤ SZ → Q' vs gd h1 →
      ∃ d o kvs, v = .ref d ∧ H1 d = some (.frz o (.dK kvs)) ∧ R (Itd d o kvs) H1 := fun ks vs gd e hz q1 => by
    obtain ⟨a, o, kvs, rfl, hf, rfl, rr⟩ := frz_walk r1 s1 e
    have ll : vs.length = kvs.length := by rw [rr.length, List.length_map]
    refine ⟨a, o, kvs, rfl, hf, l _ _ _ _ _ q1 g1 s1 ⟨?_, fun i H h hi m _ _ => ?_, fun H h m _ _ => ?_, fun i H h y H' p hp m sh' _ hy => ?_⟩⟩
    · rw [ll]
      rw [List.length_map] at hz
      exact sz_le hz
    · rw [ll] at hi
      exact ⟨m.f _ _ _ hf, hi⟩
    · rw [ll]
      exact ⟨m.f _ _ _ hf, Nat.le_refl _⟩
    · obtain ⟨rfl, k, ek⟩ := hy
      obtain ⟨pw, epw, rw'⟩ := (rr.mono m).get' (i := i) (v := y) (by rw [List.getElem?_map, ek]; rfl)
      rw [epw] at hp
      simp only [Option.some.injEq] at hp
      subst hp
      exact ⟨.refl, sh', rw'⟩
  split at q1
  · exact go _ _ _ (.inl rfl) q1.1 q1.2
  · rename_i a
    split at q1
    · rename_i ks vs e1
      exact go ks vs _ (.inr ⟨a, rfl, e1⟩) q1.1 q1.2
    · exact q1.elim
  · exact q1.elim
end
/-- a def of the top that is called by patterns -/
structure FnP (P : Program) (w : World) (K : PySem.W.Frag) (mg : Str → Option Value) (base : Heap) (k : Nat) (x : Str) (ps : List Str) (sp : SpP) (pats : List Pat) : Prop where
  ex : ∃ (f : Addr) (fd : FuncData), mg x = some (.ref f) ∧ FnC P w K mg base k f fd ps sp pats
def mCallP (sp : SpP) (b : Pat) (m mk : MA) : ME := fun τ h Q => m τ h fun ps h1 => mk τ h1 fun qs h2 => sp (pick b.π (ps ++ qs ++ b.ds)) h2 Q
section
variable {X : Cx} {k : Nat} {ps : List Str} {sp : SpP} {pats : List Pat} {b : Pat} {x : Str} {p pos : Pos} {e : Expr} {es : List Expr} {kws : List Keyword} {m mk : MA}
theorem le_fnP (c : FnP X.prog X.w X.K X.mg X.base k x ps sp pats) {j n m' : Nat} (hb : pats[j]? = some b) {kk : Nat} (hr : Room kk X.A) (hj : k ≤ kk) (hG : X.A.guards = some []) (ha : LAn X (e :: es) n m) (hkw : LKn X kws m' mk) (hn : n = b.n := by rfl) (hm : m' = b.ks.length := by rfl) (hg : Gl X x := by rfl)
    (hall : (backToKw pos (keywordEach kws X.env)).all (·.1.isSome) = true := by rfl) (hks : (backToKw pos (keywordEach kws X.env)).filterMap (·.1) = b.ks := by rfl) (hdb : (x == ("__debug__" : Str)) = false := by decide)
    (he : starEach (e :: es) X.env = (false, eval e X.env) :: starEach es X.env := by rfl) (hpl : ((backTo pos (starEach (e :: es) X.env)).any (·.1) || (backToKw pos (keywordEach kws X.env)).any (·.1.isNone)) = false := by rfl) :
    LE X (.Call (.Name x p) (e :: es) kws pos) (mCallP sp b m mk) := by
  obtain ⟨f, fd, at_, F⟩ := c.ex
  have hbm : b ∈ pats := List.mem_of_getElem? hb
  refine ⟨fun pins s σ H Q I ⟨τ, h, Q', ss, sh, q, l⟩ => ?_⟩
  refine wpAny_Call_Name_kw (ld_glob I hg at_ ?_ hdb)
  refine PySem.W.callWith_KW (h₀ := X.base) I.ok.mod.kin F.kp hall (thn (ha.run pos pins s σ H (fun vs H2 => ∃ qs h2, vs.length = n ∧ Rels X.K H2 qs vs ∧ Go H h H2 h2 ∧ Sim X.K H2 h2 ∧ mk τ h2 fun rs h3 => sp (pick b.π (qs ++ rs ++ b.ds)) h3 Q') I
    ⟨τ, h, _, ss, sh, q, fun qs h2 vs H2 q2 hl g2 r2 s2 => ⟨qs, h2, by rw [← r2.length, hl], r2, g2, s2, q2⟩⟩) fun us s2 ⟨vs, H2, I2, r2, qs, h2, lv, rq, g2, sh2, q2⟩ => ?_) hpl he
  refine thn (hkw.run pos pins s2 σ H2 (fun zs H3 => ∃ rs h3, zs.length = m' ∧ Rels X.K H3 rs zs ∧ Go H2 h2 H3 h3 ∧ Sim X.K H3 h3 ∧ sp (pick b.π (qs ++ rs ++ b.ds)) h3 Q') I2
    ⟨τ, h2, _, ss.mono g2.mono, sh2, q2, fun rs h3 zs H3 q3 hz g3 r3 s3 => ⟨rs, h3, by rw [← r3.length, hz], r3, g3, s3, q3⟩⟩) fun ws s3 ⟨zs, H3, I3, r3, rs, h3, lz, rz, g3, sh3, q3⟩ => ⟨I3.kIn, ?_⟩
  rw [hks]
  exact call_c F hbm (hr.mono hj) hG I3 r2 r3 (rq.mono g3.mono) rz sh3 (by show us.length = _; rw [← r2.length, lv, hn]) (by rw [← r3.length, lz, hm]) q3 (l.mono (g2.trans g3))
end
end N3

/-! sets of tuples of any depth: fewer than 64 -/
namespace N3
open PySem PySem.Spec PyProof.Rows L2 PySem.Froz

/-! ### what a set asks of a tuple -/
theorem dep_mem : ∀ {ks : List NestedKey} {k : NestedKey}, k ∈ ks → k.depth ≤ NestedKey.depthAll ks
  | x :: ks, k, m => by
    rw [NestedKey.depthAll]
    rcases List.mem_cons.mp m with rfl | m
    · exact Nat.le_max_left _ _
    · exact Nat.le_trans (dep_mem m) (Nat.le_max_right _ _)
theorem nest_mem {h : Heap} : ∀ {ks : List NestedKey} {vs : List Value}, NestedAll h ks vs → ∀ v ∈ vs, ∃ k ∈ ks, NestedIs h k v
  | _, _, .nil, v, m => (List.not_mem_nil m).elim
  | _, _, .cons r rs, v, m => by
    rcases List.mem_cons.mp m with rfl | m
    · exact ⟨_, List.mem_cons_self, r⟩
    · obtain ⟨k, mk, e⟩ := nest_mem rs v m
      exact ⟨k, List.mem_cons_of_mem _ mk, e⟩
section
variable {P : Program} {w : World} {A : Around} {E : Value → Shared → Prop} {s : Shared}
theorem nest_cls (n : Nat) : ∀ (k : NestedKey) (v : Value) (Q : Bool → Shared → Prop), NestedIs s.heap k v → k.depth ≤ n → Q false s → wpAny (model P w) A (ofAClassStatement n v) Q E s := by
  induction n with
  | zero =>
    intro k v Q r d q
    cases r with
    | tup => rw [NestedKey.depth] at d; omega
    | _ => exact wpAny_pure q
  | succ n ih =>
    intro k v Q r d q
    cases r with
    | @tup a o vs m ks e1 e2 e3 rs =>
      rw [NestedKey.depth] at d
      unfold ofAClassStatement
      refine wpAny_bind (wpAny_typeOf ⟨o, e1, e2⟩ ?_)
      dsimp only
      rw [show (("tuple" : String) == "tuple") = true from by decide]
      simp only [if_true]
      refine wpAny_bind (wpAny_pure ?_)
      simp only [Bool.not_true, Bool.false_eq_true, if_false]
      refine wpAny_bind (wpAny_seqItems e1 e3 ?_)
      dsimp only
      refine wpAny_bind ?_
      show wpAny _ _ (forIn vs _ _) _ _ s
      rw [← Array.forIn_toList]
      refine wpAny_forIn_list _ (fun l r z => r.1 = none ∧ z = s ∧ ∀ v ∈ l, v ∈ vs.toList) _ ?_ ?_ _ _ ⟨rfl, rfl, fun v m => m⟩
      · intro v l r z ⟨_, ez, al⟩
        rw [ez]
        obtain ⟨k', mk, e⟩ := nest_mem rs v (al v List.mem_cons_self)
        refine wpAny_bind (ih k' v _ e (Nat.le_trans (dep_mem mk) (by omega)) ?_)
        simp only [Bool.false_eq_true, if_false]
        exact wpAny_pure ⟨rfl, rfl, fun u m => al u (List.mem_cons_of_mem _ m)⟩
      · rintro ⟨r1, r2⟩ z ⟨e, ez, _⟩
        obtain rfl : r1 = none := e
        rw [ez]
        exact wpAny_pure q
    | _ => exact wpAny_pure q
/-- whether a hash is one by value: true or false -/
theorem nest_byValue (n : Nat) : ∀ (k : NestedKey) (v : Value) (Q : Bool → Shared → Prop), NestedIs s.heap k v → (∀ b, Q b s) → wpAny (model P w) A (hashByValue n v) Q E s := by
  induction n with
  | zero =>
    intro k v Q r q
    cases r <;> exact wpAny_pure (q _)
  | succ n ih =>
    intro k v Q r q
    cases r with
    | @tup a o vs m ks e1 e2 e3 rs =>
      unfold hashByValue
      refine wpAny_bind (wpAny_specialOf ⟨o, e1, e2⟩ F.slot_tuple_hash.lookup ?_)
      show wpAny _ _ (seqItems? (.ref a) >>= _) _ _ s
      refine wpAny_bind (wpAny_seqItems e1 e3 ?_)
      refine wpAny_bind ?_
      show wpAny _ _ (forIn vs _ _) _ _ s
      rw [← Array.forIn_toList]
      refine wpAny_forIn_list _ (fun l r z => r.1 = none ∧ z = s ∧ ∀ v ∈ l, v ∈ vs.toList) _ ?_ ?_ _ _ ⟨rfl, rfl, fun v m => m⟩
      · intro v l r z ⟨_, ez, al⟩
        rw [ez]
        obtain ⟨k', mk, e⟩ := nest_mem rs v (al v List.mem_cons_self)
        refine wpAny_bind (ih k' v _ e fun b => ?_)
        cases b
        · simp only [Bool.not_false, if_true]
          refine wpAny_pure ?_
          exact wpAny_pure (q false)
        · simp only [Bool.not_true, Bool.false_eq_true, if_false]
          exact wpAny_pure ⟨rfl, rfl, fun u m => al u (List.mem_cons_of_mem _ m)⟩
      · rintro ⟨r1, r2⟩ z ⟨e, ez, _⟩
        rw [ez]
        obtain rfl : r1 = none := e
        exact wpAny_pure (q true)
    | _ => exact wpAny_pure (q _)
/-- an element: a tuple at an address -/
abbrev isE (h : Heap) (e : NestedKey × Addr) : Prop := NestedIs h e.1 (.ref e.2) ∧ e.1.depth ≤ 8
theorem nest_unseen {e : NestedKey × Addr} {ys : List Value} {Q : Bool → Shared → Prop} (he : isE s.heap e) (hy : ∀ y ∈ ys, ∃ a k, y = Value.ref a ∧ isE s.heap (k, a)) (q : Q false s) : wpAny (model P w) A (searchCouldBeSeen (.ref e.2) ys) Q E s := by
  unfold searchCouldBeSeen
  refine wpAny_bind (wpAny_forIn_list _ (fun l r z => r.1 = none ∧ z = s ∧ ∀ y ∈ l, y ∈ ys) _ ?_ ?_ _ _ ⟨rfl, rfl, fun y m => m⟩)
  · rintro y l r z ⟨_, rfl, al⟩
    have al' : ∀ u ∈ l, u ∈ ys := fun u m => al u (List.mem_cons_of_mem _ m)
    obtain ⟨a, k, rfl, hk⟩ := hy y (al y List.mem_cons_self)
    dsimp only
    by_cases c : (e.2 == a || (carriedByValue (.ref e.2) && carriedByValue (.ref a))) = true
    · exact wp_if_pos c (wpAny_pure ⟨rfl, rfl, al'⟩)
    · refine wp_if_neg c (wpAny_bind ((nestedKind P w).quiet he ?_))
      simp only [Bool.not_true, Bool.false_eq_true, if_false]
      refine wpAny_bind ((nestedKind P w).quiet hk ?_)
      simp only [Bool.not_true, Bool.false_eq_true, if_false]
      refine wpAny_bind (nest_cls 8 _ _ _ he.1 he.2 ?_)
      simp only [Bool.false_eq_true, if_false]
      refine wpAny_bind (nest_cls 8 _ _ _ hk.1 hk.2 ?_)
      simp only [Bool.false_eq_true, if_false]
      exact wpAny_pure ⟨rfl, rfl, al'⟩
  · rintro ⟨r1, r2⟩ z ⟨e', rfl, _⟩
    obtain rfl : r1 = none := e'
    exact wpAny_pure q
end

/-! ### the table -/
abbrev entry (w : World) (e : NestedKey × Addr) : Int × Value := (e.1.hash w, .ref e.2)
structure NTab (w : World) (D : SD) (L : List (NestedKey × Addr)) : Prop where
  rows : D.1.toList = L.map (entry w)
  tab : L2.TabOk D.2.2 (L.map fun e => e.1.hash w)
  nd : (L.map Prod.fst).Nodup
  led : w.params.followText "set-order" = true ∨ D.2.2.led = true
  room : L.length * 5 < D.2.2.mask * 3
  few : L.length < 64
section
variable {w : World} {D : SD} {L : List (NestedKey × Addr)}
theorem NTab.len (T : NTab w D L) : D.1.size = L.length := by rw [← Array.length_toList, T.rows, List.length_map]
theorem NTab.pl (T : NTab w D L) : D.2.2.place.size = L.length := by rw [T.tab.sz, List.length_map]
theorem NTab.fit (T : NTab w D L) : D.2.2.fits D.1.size = true := by
  have := T.room
  have := T.pl
  have := T.len
  unfold SetTable.fits SetTable.fill
  rw [T.tab.dm]
  simp only [Bool.and_eq_true, beq_iff_eq, decide_eq_true_eq]
  exact ⟨by omega, by show _ + 0 ≤ _; omega⟩
theorem NTab.get (T : NTab w D L) {i : Nat} {e : NestedKey × Addr} (h : L[i]? = some e) : D.1[i]? = some (entry w e) := by
  rw [← Array.getElem?_toList, T.rows, List.getElem?_map, h]; rfl
theorem NTab.hash (T : NTab w D L) {i : Nat} {e : NestedKey × Addr} (h : L[i]? = some e) : (D.1[i]?.map (·.1)).getD 0 = e.1.hash w := by
  rw [T.get h]; rfl
theorem NTab.whole (T : NTab w D L) : ¬ D.2.2.gaveWay = true := by
  unfold SetTable.gaveWay
  rw [mask_odd T.tab.mok]
  decide
end
theorem nth_plain (m : Nat) : ∀ (n : Nat) (p : SetTable.Probe), p.dummy = none → (nth m p n).dummy = none
  | 0, _, h => h
  | n + 1, p, h => nth_plain m n (adv m p) (by unfold adv; split <;> exact h)

section
variable {P : Program} {w : World} {A : Around} {E : Value → Shared → Prop} {s : Shared} {S : Addr} {D : SD} {L : List (NestedKey × Addr)}
/-- the search, from a step of its way on -/
theorem nset_find (T : NTab w D L) (ho : s.heap.get? S = some (sObj "set" D)) (al : ∀ e ∈ L, isE s.heap e) {x : NestedKey × Addr} (hx : isE s.heap x) (hu : A.units + 8 < cLine) {K : Nat} (hK : K < 10 * SetTable.turns D.2.2.mask)
    (free : way D.2.2.mask (x.1.hash w) K ∉ D.2.2.place.toList) (full : ∀ c, c < K → way D.2.2.mask (x.1.hash w) c ∈ D.2.2.place.toList) {Q : SetFound → Shared → Prop}
    (yes : x.1 ∈ L.map Prod.fst → Q (.there none) s) (no : x.1 ∉ L.map Prod.fst → Q (.free (way D.2.2.mask (x.1.hash w) K) false) s) :
    ∀ (f c : Nat) (st : Option SetTable.Probe), st.getD (D.2.2.probeStart (x.1.hash w)) = nth D.2.2.mask (D.2.2.probeStart (x.1.hash w)) c → c ≤ K → K < c + f →
      (∀ (i : Nat) (e : NestedKey × Addr) (c' : Nat), L[i]? = some e → e.1 = x.1 → D.2.2.place.toList[i]? = some (way D.2.2.mask (x.1.hash w) c') → c ≤ c') → wpAny (model P w) A (setSearchFrom S (.ref x.2) (x.1.hash w) true f st) Q E s := by
  obtain ⟨es, ep, t⟩ := D
  obtain ⟨k, xa⟩ := x
  dsimp only at *
  generalize hH : k.hash w = H at *
  intro f
  induction f with
  | zero => intro c st _ h1 h2; omega
  | succ f ih =>
    intro c st e h1 h2 ahead
    have step : ∀ q, nth t.mask (nth t.mask (t.probeStart H) c) q = nth t.mask (t.probeStart H) (c + q) := fun q => (nth_add t.mask c _ q).symm
    have pos : ∀ q, (nth t.mask (nth t.mask (t.probeStart H) c) q).j = way t.mask H (c + q) := fun q => by rw [step]; rfl
    have last : c + (K - c) = K := by omega
    rw [setSearchFrom_succ]
    refine wpAny_bind (wpAny_setState_of ho rfl T.fit ?_)
    dsimp only
    refine wp_if_neg T.whole ?_
    try refine wpAny_bind (wpAny_pure ?_)
    rw [e]
    have spec := go_spec t T.tab.ris T.tab.dm (fun i => (es[i]?.map (·.1)).getD 0) H (10 * SetTable.turns t.mask) (K - c) (nth t.mask (t.probeStart H) c) (nth_plain _ _ _ rfl) (by omega)
      (fun q hq => by rw [pos]; exact full _ (by omega)) (by rw [pos, last]; exact free)
    rcases spec with ⟨q, i, hq, hi, hh, none, pr⟩ | ⟨none, pr⟩
    · have pr' : t.probe (fun i => (es[i]?.map (·.1)).getD 0) H (nth t.mask (t.probeStart H) c) = some (.candidate (way t.mask H (c + q)) i (nth t.mask (t.probeStart H) (c + q + 1))) := by
        rw [← pos, Nat.add_assoc, ← step]; exact pr
      rw [pr']
      dsimp only
      rw [pos] at hi
      have il : i < L.length := by
        have := (List.getElem?_eq_some_iff.mp hi).1
        rw [Array.length_toList] at this
        have := T.pl
        dsimp only at this
        omega
      obtain ⟨y, hy⟩ : ∃ y, L[i]? = some y := ⟨_, List.getElem?_eq_getElem il⟩
      have my := List.mem_of_getElem? hy
      have slot : t.slot (way t.mask H (c + q)) = .live i := slot_live T.tab.ris hi
      have rest : wpAny (model P w) A (searchRest S (.ref xa) H true f es t (way t.mask H (c + q)) i (nth t.mask (t.probeStart H) (c + q + 1))) Q E s := by
        unfold searchRest
        rw [T.get hy]
        dsimp only
        refine wpAny_bind (wpAny_holding ((nestedKind P w).eqBool (x := y.1) (y := k) hu (al y my) hx ?_))
        refine wpAny_bind (wpAny_setState_of ho rfl T.fit ?_)
        dsimp only
        by_cases same : y.1 = k
        · refine wp_if_pos (by simp [same]) (wpAny_pure (yes ?_))
          exact List.mem_map.mpr ⟨y, my, same⟩
        · refine wp_if_neg (by simp [same]) ?_
          try refine wpAny_bind (wpAny_pure ?_)
          rw [sameMem]
          dsimp only
          simp only [if_true, slot, T.get hy]
          refine wpAny_bind (wpAny_isSame_ref_self (wpAny_bind (wpAny_pure ?_)))
          simp only [if_true]
          refine wp_if_neg (by simp [same]) (ih (c + q + 1) _ rfl (by omega) (by omega) fun i2 e2 c2 g1 g2 g3 => ?_)
          have a1 := ahead i2 e2 c2 g1 g2 g3
          rcases Nat.lt_trichotomy c2 (c + q) with z | z | z
          · refine absurd ?_ (none (c2 - c) i2 (by omega) (by rw [pos, show c + (c2 - c) = c2 by omega]; exact g3))
            rw [← hH, ← g2]
            exact T.hash g1
          · rw [z] at g3
            have := slot_live T.tab.ris g3
            rw [slot] at this
            injection this with this
            rw [← this, hy] at g1
            cases g1
            exact absurd g2 same
          · omega
      by_cases ld : t.led = true
      · refine wp_if_neg (by simp [ld]) ?_
        try refine wpAny_bind (wpAny_pure ?_)
        exact rest
      · refine wp_if_pos (by simp [ld]) (wpAny_bind (nest_unseen (e := (k, xa)) hx (fun v hv => ?_) ?_))
        · obtain ⟨d, hd, rfl⟩ := List.mem_map.mp hv
          have hd : d ∈ es ∧ d.1 = H := by simpa using hd
          have m2 : d ∈ es.toList := by simpa using hd.1
          rw [T.rows] at m2
          obtain ⟨e2, m3, rfl⟩ := List.mem_map.mp m2
          exact ⟨e2.2, e2.1, rfl, al e2 m3⟩
        · refine wp_if_neg (by decide) ?_
          try refine wpAny_bind (wpAny_pure ?_)
          exact rest
    · have pr' : t.probe (fun i => (es[i]?.map (·.1)).getD 0) H (nth t.mask (t.probeStart H) c) = some (.empty (way t.mask H K) .none) := by
        rw [← last, ← pos]; exact pr
      rw [pr']
      dsimp only
      refine wpAny_pure (no fun m => ?_)
      obtain ⟨y, my, ey⟩ := List.mem_map.mp m
      obtain ⟨i, hi⟩ := List.mem_iff_getElem?.mp my
      have il : i < t.place.toList.length := by
        rw [Array.length_toList]
        have := T.pl
        have := (List.getElem?_eq_some_iff.mp hi).1
        dsimp only at *
        omega
      have hj := List.getElem?_eq_getElem il
      obtain ⟨c2, b1, b2⟩ := T.tab.before free (by rw [List.getElem?_map, hi, ← hH, ← ey]; rfl) hj
      rw [← b2] at hj
      have := ahead i y c2 hi ey hj
      refine absurd ?_ (none (c2 - c) i (by omega) (by rw [pos, show c + (c2 - c) = c2 by omega]; exact hj))
      rw [← hH, ← ey]
      exact T.hash hi
end
end N3

/-! sets of tuples of any depth: what is put in -/
namespace N3
open PySem PySem.Spec PyProof.Rows L2 PySem.Froz

theorem range_pick {α : Type} : ∀ L : List α, (List.range L.length).filterMap (fun i => L[i]?) = L
  | [] => rfl
  | x :: L => by
    rw [List.length_cons, List.range_succ_eq_map, List.filterMap_cons_some (show (x :: L)[0]? = some x from rfl), List.filterMap_map]
    exact congrArg (x :: ·) (range_pick L)
theorem pick_all {α β : Type} {f : α → Option β} {g : α → β} : ∀ {l : List α}, (∀ x ∈ l, f x = some (g x)) → l.filterMap f = l.map g
  | [], _ => rfl
  | x :: l, h => by
    rw [List.filterMap_cons_some (h x List.mem_cons_self), pick_all fun y m => h y (List.mem_cons_of_mem _ m)]; rfl
/-- entries in another order -/
theorem turned_rows {w : World} {es : Array (Int × Value)} {L : List (NestedKey × Addr)} (hr : es.toList = L.map (entry w)) {o : Array Nat} (hp : o.toList.Perm (List.range L.length)) :
    ∃ M : List (NestedKey × Addr), M.Perm L ∧ (o.filterMap (es[·]?)).toList = M.map (entry w) ∧ (o.toList.map fun i => (es.map (·.1)).getD i 0) = M.map fun e => e.1.hash w := by
  have ge : ∀ i : Nat, es[i]? = (L[i]?).map (entry w) := fun i => by rw [← Array.getElem?_toList, hr, List.getElem?_map]
  refine ⟨o.toList.filterMap fun i => L[i]?, ?_, ?_, ?_⟩
  · have := hp.filterMap fun i => L[i]?
    rw [range_pick] at this
    exact this
  · rw [Array.toList_filterMap, List.map_filterMap]
    exact congrArg (fun f => List.filterMap f o.toList) (funext ge)
  · rw [List.map_filterMap]
    refine (pick_all fun i m => ?_).symm
    have il : i < L.length := List.mem_range.mp (hp.mem_iff.mp m)
    have e1 : (es.map (·.1))[i]? = some (L[i].1.hash w) := by rw [Array.getElem?_map, ge, List.getElem?_eq_getElem il]; rfl
    rw [List.getElem?_eq_getElem il, Array.getD_eq_getD_getElem?, e1]; rfl
theorem isE_but {h h' : Heap} {S : Addr} {D : SD} {e : NestedKey × Addr} (he : isE h e) (ho : h.get? S = some (sObj "set" D)) (hs : Heap.SameBut S h h') : isE h' e :=
  ⟨NestedIs.at (fun a o vs n g d => by
    refine (hs.2 a fun z => ?_).trans g
    rw [z, ho] at g
    cases g
    cases d) _ _ he.1, he.2⟩
theorem isE_kept {h h' : Heap} {e : NestedKey × Addr} (he : isE h e) (hk : ∀ b o, h.get? b = some o → h'.get? b = some o) : isE h' e :=
  ⟨NestedIs.at (fun a o vs n g d => hk a o g) _ _ he.1, he.2⟩
/-- the set of some elements lies there -/
def NSet (w : World) (h : Heap) (S : Addr) (L : List (NestedKey × Addr)) : Prop := ∃ D, h.get? S = some (sObj "set" D) ∧ NTab w D L
section
variable {P : Program} {w : World} {A : Around} {E : Value → Shared → Prop} {s : Shared} {S : Addr} {D : SD} {L : List (NestedKey × Addr)}
theorem nset_relay (ho : s.heap.get? S = some (sObj "set" D)) (rows : D.1.toList = L.map (entry w)) (pl : D.2.2.place.size = L.length) (dm : D.2.2.dummies = #[]) (le : L.length ≤ D.2.2.mask) (nd : (L.map Prod.fst).Nodup)
    (ld : w.params.followText "set-order" = true ∨ D.2.2.led = true) (few : L.length < 64) {n M : Nat} (hM : SetTable.sizeAbove n = M + 1) (ok : MaskOk M) (big : L.length * 5 < M * 3) {Q : Unit → Shared → Prop}
    (q : ∀ h' L', Heap.SameBut S s.heap h' → L'.Perm L → NSet w h' S L' → Q () { s with heap := h' }) : wpAny (model P w) A (setRelay S n) Q E s := by
  obtain ⟨es, ep, t⟩ := D
  dsimp only at *
  have sz : es.size = L.length := by rw [← Array.length_toList, rows, List.length_map]
  have M128 : M ≤ 127 := by rcases ok with e | e | e <;> omega
  obtain ⟨t2, o, e1, e2, T, e3, e4, e5, e6⟩ := relaid_ok t (hs := es.map (·.1)) (wanted := n) (by rw [hM]; rfl) ok (by rw [Array.size_map, sz]; omega)
  rw [Array.size_map, sz] at e2
  obtain ⟨L', p1, p2, p3⟩ := turned_rows rows e2
  rw [p3] at T
  have sz2 : (o.filterMap (es[·]?)).size = L'.length := by rw [← Array.length_toList, p2, List.length_map]
  rw [setRelay_eq]
  refine wpAny_bind (wpAny_setState_of ho rfl ?_ ?_)
  · show t.fits es.size = true
    unfold SetTable.fits SetTable.fill
    rw [dm]
    simp only [Bool.and_eq_true, beq_iff_eq, decide_eq_true_eq]
    exact ⟨by omega, by show _ + 0 ≤ _; omega⟩
  · dsimp only
    refine wp_if_neg (by rw [hM, sizeLine_eq]; omega) ?_
    try refine wpAny_bind (wpAny_pure ?_)
    rw [e1]
    dsimp only
    refine wpAny_bind (wp_if_neg (by rw [sz2, sz, p1.length_eq]; simp) ?_)
    try refine wpAny_bind (wpAny_pure ?_)
    refine wpAny_pure ?_
    dsimp only
    refine wpAny_storeSet_of ho rfl (q _ L' (Heap.SameBut.update ..) p1 ⟨(o.filterMap (es[·]?), ep + 1, t2), store_at ho rfl, p2, T, (p1.map _).nodup_iff.mpr nd, ?_, ?_, ?_⟩) (by rw [sz2, p1.length_eq, sizeLine_eq]; omega)
    · show _ ∨ t2.led = true
      rw [e4]; exact ld
    · show _ < t2.mask * 3
      rw [e3, p1.length_eq]; exact big
    · rw [p1.length_eq]; exact few
theorem grown_some {w : World} {D : SD} {L : List (NestedKey × Addr)} (T : NTab w D L) (full : ¬ (L.length + 1) * 5 < D.2.2.mask * 3) (few : L.length + 1 < 64) : ∃ M, SetTable.sizeAbove (SetTable.grown (L.length + 1)) = M + 1 ∧ MaskOk M ∧ (L.length + 1) * 5 < M * 3 := by
  have := T.room
  rcases T.tab.mok with e | e | e
  · have : L.length = 4 := by omega
    rw [this]
    exact ⟨31, size_20, .inr (.inl rfl), by decide⟩
  · have : L.length = 18 := by omega
    rw [this]
    exact ⟨127, size_76, .inr (.inr rfl), by decide⟩
  · omega
theorem nset_put (N : NSet w s.heap S L) (al : ∀ e ∈ L, isE s.heap e) {x : NestedKey × Addr} (hx : isE s.heap x) (hu : A.units + 8 < cLine) (few : L.length + 1 < 64) {Q : Bool → Shared → Prop}
    (q : ∀ b h' L', Heap.SameBut S s.heap h' → NSet w h' S L' → (x.1 ∈ L.map Prod.fst → L' = L) → (x.1 ∉ L.map Prod.fst → L'.Perm (x :: L)) → Q b { s with heap := h' }) : wpAny (model P w) A (setAddHashed S (.ref x.2) (x.1.hash w)) Q E s := by
  obtain ⟨⟨es, ep, t⟩, ho, T⟩ := N
  unfold setAddHashed
  refine wpAny_holding ?_
  rw [show (100000 : Nat) = 99999 + 1 from rfl, setAddHashedIn_succ]
  refine wpAny_bind (wpAny_setState_of ho rfl T.fit ?_)
  dsimp only
  refine wp_if_neg (by simp [byScan, Value.scannable]) ?_
  try refine wpAny_bind (wpAny_pure ?_)
  have rm := T.room
  have fewL := T.few
  obtain ⟨K, k1, k2, k3⟩ := T.tab.first (by rw [List.length_map]; omega) (x.1.hash w)
  have small : K < 100000 := by
    refine Nat.lt_trans k1 ?_
    unfold SetTable.turns
    rcases T.tab.mok with e | e | e <;> rw [e] <;> decide
  unfold setSearch
  refine wpAny_bind (nset_find T ho al hx hu k1 k2 k3 (fun m => ?_) (fun nm => ?_) 100000 0 none rfl (Nat.zero_le _) (by omega) fun _ _ _ _ _ _ => Nat.zero_le _)
  · exact wpAny_pure (q false s.heap L (Heap.SameBut.refl _ _) ⟨_, ho, T⟩ (fun _ => rfl) fun z => absurd m z)
  · dsimp only
    refine wpAny_bind (wpAny_setState_of ho rfl T.fit ?_)
    dsimp only
    obtain ⟨g1, g2, G, g4, g5, g6, -, -, g9⟩ := T.tab.put k2 k3
    dsimp only at g1 g2 G g4 g5 g6 g9
    have g9' : (t.put (way t.mask (x.1.hash w) K)).1.fill = L.length + 1 := by rw [g9, List.length_map]
    generalize hpt : t.put (way t.mask (x.1.hash w) K) = pt at g1 G g4 g5 g6 g9'
    obtain ⟨t1, p⟩ := pt
    dsimp only at g1 G g4 g5 g6 g9' ⊢
    subst g1
    generalize SetTable.below t.place (way t.mask (x.1.hash w) K) = p at g2 G
    have hv : ∀ (f : Bool → Sem Bool), (∀ b, wpAny (model P w) A (f b) Q E s) → wpAny (model P w) A (if t1.plain = true then hashByValue 8 (.ref x.2) >>= f else pure true >>= f) Q E s := fun f h => by
      by_cases c : t1.plain = true
      · exact wp_if_pos c (wpAny_bind (nest_byValue 8 _ _ _ hx.1 h))
      · exact wp_if_neg c (wpAny_bind (wpAny_pure (h true)))
    have pm : (L.take p ++ x :: L.drop p).Perm (x :: L) := List.perm_middle.trans (List.Perm.of_eq (by rw [List.take_append_drop]))
    have rows : (SetTable.insertAt es p (x.1.hash w, .ref x.2)).toList = (L.take p ++ x :: L.drop p).map (entry w) := by
      have := T.rows
      dsimp only at this
      rw [SetTable.toList_insertAt, this, List.map_append, List.map_cons, List.map_take, List.map_drop]
    have G' : L2.TabOk t1 ((L.take p ++ x :: L.drop p).map fun e => e.1.hash w) := by
      rw [List.map_append, List.map_cons, List.map_take, List.map_drop]; exact G
    generalize L.take p ++ x :: L.drop p = L1 at pm rows G'
    have len1 : L1.length = L.length + 1 := pm.length_eq
    generalize SetTable.insertAt es p (x.1.hash w, Value.ref x.2) = es1 at rows
    have esz : es1.size = L.length + 1 := by rw [← Array.length_toList, rows, List.length_map, len1]
    have nd1 : (L1.map Prod.fst).Nodup := (pm.map _).nodup_iff.mpr (by rw [List.map_cons]; exact List.nodup_cons.mpr ⟨nm, T.nd⟩)
    have ld1 : w.params.followText "set-order" = true ∨ t1.led = true := by rw [g5]; exact T.led
    refine hv _ fun b => ?_
    have go : ∀ t3 : SetTable, t3.place = t1.place → t3.dummies = t1.dummies → t3.mask = t1.mask → t3.led = t1.led →
        wpAny (model P w) A (do
          storeSet S es1 t3
          if !false && t3.tooFull then (do setRelay S (SetTable.grown (es.size + 1)); pure true) else pure true) Q E s := fun t3 e1 e2 e3 e4 => by
      have G3 : L2.TabOk t3 (L1.map fun e => e.1.hash w) := ⟨by rw [e1]; exact G'.ris, by rw [e2]; exact G'.dm, by rw [e1]; exact G'.sz, by rw [e3]; exact G'.mok, by rw [e1, e3]; exact G'.bd, by rw [e1, e3]; exact G'.reach⟩
      have fill : t3.fill = L.length + 1 := by rw [← g9']; unfold SetTable.fill; rw [e1, e2]
      refine wpAny_bind (wpAny_storeSet_of ho rfl ?_ (by rw [esz, sizeLine_eq]; omega))
      have ho1 : (s.heap.update S (Obj.putSet es1 t3)).get? S = some (sObj "set" (es1, ep + 1, t3)) := store_at ho rfl
      have sb : Heap.SameBut S s.heap (s.heap.update S (Obj.putSet es1 t3)) := Heap.SameBut.update ..
      generalize s.heap.update S (Obj.putSet es1 t3) = h1 at ho1 sb
      by_cases c : t3.tooFull = true
      · have cc := c
        unfold SetTable.tooFull at cc
        rw [decide_eq_true_eq, fill, e3, g4] at cc
        obtain ⟨M, m1, m2, m3⟩ := grown_some T (by dsimp only; omega) few
        refine wp_if_pos (by simp [c]) (wpAny_bind ?_)
        have esz0 : es.size = L.length := T.len
        rw [esz0]
        refine nset_relay (s := { s with heap := h1 }) (L := L1) ho1 rows (by rw [← List.length_map (f := fun e : NestedKey × Addr => e.1.hash w)]; exact G3.sz) G3.dm (by show _ ≤ t3.mask; rw [e3, g4, len1]; dsimp only at rm; omega) nd1 (by show _ ∨ t3.led = true; rw [e4]; exact ld1) (by omega) m1 m2 (by rw [len1]; exact m3) fun h2 L2 sb2 p2 N2 => ?_
        exact wpAny_pure (q true h2 L2 (sb.trans sb2) N2 (fun z => absurd z nm) fun _ => p2.trans pm)
      · have cc := c
        unfold SetTable.tooFull at cc
        rw [decide_eq_true_eq, fill, e3, g4] at cc
        refine wp_if_neg (by simp [c]) ?_
        exact wpAny_pure (q true h1 L1 sb ⟨_, ho1, rows, G3, nd1, by show _ ∨ t3.led = true; rw [e4]; exact ld1, by show _ < t3.mask * 3; rw [e3, g4, len1]; omega, by omega⟩ (fun z => absurd z nm) fun _ => pm)
    cases b
    · exact go { t1 with plain := false } rfl rfl rfl rfl
    · exact go t1 rfl rfl rfl rfl
end
end N3

/-! set(xs), sorted(set(xs)): tuples of any depth -/
namespace N3
open PySem PySem.Spec PyProof.Rows L2 PySem.Froz

/-- what a set has of the first i things -/
structure NGot (ks : List (NestedKey × Addr)) (i : Nat) (L : List (NestedKey × Addr)) : Prop where
  sub : ∀ e ∈ L, e ∈ ks
  all : ∀ e ∈ ks.take i, e.1 ∈ L.map Prod.fst
  len : L.length ≤ i
theorem NGot.start (ks : List (NestedKey × Addr)) : NGot ks 0 [] := ⟨fun e m => (List.not_mem_nil m).elim, fun e m => (by simp at m), Nat.le_refl _⟩
theorem NGot.next {ks L L' : List (NestedKey × Addr)} {i : Nat} {x : NestedKey × Addr} (g : NGot ks i L) (h : ks[i]? = some x) (c1 : x.1 ∈ L.map Prod.fst → L' = L) (c2 : x.1 ∉ L.map Prod.fst → L'.Perm (x :: L)) : NGot ks (i + 1) L' := by
  have tk : ks.take (i + 1) = ks.take i ++ [x] := by rw [List.take_add_one, h]; rfl
  by_cases c : x.1 ∈ L.map Prod.fst
  · rw [c1 c]
    refine ⟨g.sub, fun e m => ?_, Nat.le_succ_of_le g.len⟩
    rw [tk] at m
    rcases List.mem_append.mp m with m | m
    · exact g.all e m
    · rw [List.mem_singleton.mp m]; exact c
  · have p := c2 c
    refine ⟨fun e m => ?_, fun e m => ?_, by rw [p.length_eq, List.length_cons]; exact Nat.succ_le_succ g.len⟩
    · rcases List.mem_cons.mp (p.mem_iff.mp m) with rfl | m
      · exact List.mem_of_getElem? h
      · exact g.sub e m
    · rw [tk] at m
      refine (p.map Prod.fst).mem_iff.mpr ?_
      rcases List.mem_append.mp m with m | m
      · exact List.mem_cons_of_mem _ (g.all e m)
      · rw [List.mem_singleton.mp m]; exact List.mem_cons_self
theorem NSet.at {w : World} {h h' : Heap} {S : Addr} {L : List (NestedKey × Addr)} (N : NSet w h S L) (k : ∀ o, h.get? S = some o → h'.get? S = some o) : NSet w h' S L := by
  obtain ⟨D, e, T⟩ := N
  exact ⟨D, k _ e, T⟩
theorem nset_new {w : World} {h : Heap} {S : Addr} (ho : h.get? S = some { cls := .type "set", dict := none, data := .set #[] 0 (.fresh 0 0 (!w.params.followText "set-order")) }) : NSet w h S [] :=
  ⟨(#[], 0, .fresh 0 0 (!w.params.followText "set-order")), ho, rfl, ⟨List.Pairwise.nil, rfl, rfl, .inl rfl, fun x m => (nomatch m), fun i h j e => (by simp at e)⟩, .nil, by
    show _ ∨ (!w.params.followText "set-order") = true
    cases w.params.followText "set-order"
    · exact .inr rfl
    · exact .inl rfl, by show 0 * 5 < 7 * 3; decide, by decide⟩
section
variable {P : Program} {w : World} {A : Around} {E : Value → Shared → Prop} {s : Shared}
theorem nset_loop {I : Addr} {fp wr : List Addr} {G : Array GenState → Array GenState → Prop} {n : Nat} {Pv : Nat → Value → Prop} {St : Nat → Shared → Prop} {R : Result → Shared → Prop}
    (W : WalksS P w A.in1 I fp wr G n Pv St) (S : Addr) (hSf : S ∉ fp) (ks : List (NestedKey × Addr)) (hn : n = ks.length) (few : ks.length < 64) (hval : ∀ i v, Pv i v → ∃ e, ks[i]? = some e ∧ v = .ref e.2)
    (h0 : Heap) (ok : ∀ e ∈ ks, isE h0 e) (nS : h0.get? S = none) (nw : ∀ b ∈ wr, h0.get? b = none) (hu : A.in1.units + 8 < cLine) :
    ∀ (k i : Nat) (s : Shared), n - i = k → i ≤ n → St i s → (∀ b o, h0.get? b = some o → s.heap.get? b = some o) → (∃ L, NSet w s.heap S L ∧ NGot ks i L) →
      (∀ s' L, Moved (S :: wr) G s s' → NSet w s'.heap S L → NGot ks n L → (∀ b o, h0.get? b = some o → s'.heap.get? b = some o) → R (.ok (.ret .none)) s') →
      codeAny (model P w) A (.builtin "set.update.loop" ⟨[.ref S, .ref I], []⟩) R s := by
  have hSw : S ∉ wr := fun h => hSf (W.sub _ h)
  have hsub : ∀ b ∈ wr, b ∈ S :: wr := fun b hb => List.mem_cons_of_mem _ hb
  have stay : ∀ {s s' : Shared}, Moved wr G s s' → (∀ b o, h0.get? b = some o → s.heap.get? b = some o) → ∀ b o, h0.get? b = some o → s'.heap.get? b = some o := fun m k b o e =>
    m.heap b o (fun z => by rw [nw b z] at e; cases e) (k b o e)
  intro k
  induction k with
  | zero =>
    intro i s hk' hi hst kp ⟨L, N, g⟩ hR
    have hin : i = n := by omega
    subst hin
    refine codeAny_builtin F.entry_set_update_loop ?_
    rw [Around.under_plainId F.plain_set_update_loop _]
    show wpAny _ A.in1 (pyNext (.ref I) >>= _) _ _ s
    refine wpAny_bind (W.done s _ _ hst fun s' hm => ?_)
    show wpAny _ A.in1 (ret Value.none) _ _ s'
    exact wpAny_pure (hR s' L (hm.mono hsub) (N.at fun o e => hm.heap S o hSw e) g (stay hm kp))
  | succ k ih =>
    intro i s hk' hi hst kp ⟨L, N, g⟩ hR
    have hlt : i < n := by omega
    refine codeAny_builtin F.entry_set_update_loop ?_
    rw [Around.under_plainId F.plain_set_update_loop _]
    show wpAny _ A.in1 (pyNext (.ref I) >>= _) _ _ s
    refine wpAny_bind (W.item i s _ _ hlt hst fun v s' hP hst' hm => ?_)
    obtain ⟨x, hx, rfl⟩ := hval i v hP
    have kp' := stay hm kp
    have N' : NSet w s'.heap S L := N.at fun o e => hm.heap S o hSw e
    have al : ∀ e ∈ ks, isE s'.heap e := fun e m => isE_kept (ok e m) kp'
    have xE := al x (List.mem_of_getElem? hx)
    show wpAny _ A.in1 (holding [Value.ref x.2] (setAdd S (.ref x.2)) >>= _) _ _ s'
    refine wpAny_bind (wpAny_holding ?_)
    unfold setAdd
    refine wpAny_holding ?_
    refine wpAny_bind ((nestedKind P w).pyHash (k := x.1) hu xE ?_)
    have gl := g.len
    refine nset_put (s := { s' with toks := s'.toks + (nestedKind P w).draws x.1 }) N' (fun e m => al e (g.sub e m)) xE hu (by omega) fun b h' L' hsb N2 c1 c2 => ?_
    have kp2 : ∀ b o, h0.get? b = some o → h'.get? b = some o := fun b o e => (hsb.2 b (fun z => by rw [z, nS] at e; cases e)).trans (kp' b o e)
    refine wpAny_pure ⟨plainId_quiet F.plain_set_update_loop _, ih (i + 1) _ (by omega) hlt (W.frame _ s' _ _ hst' (Nat.le_add_right _ _) fun b hb o e => ?_) kp2 ⟨L', N2, g.next hx c1 c2⟩ fun s'' L2 hm'' N'' g'' kp'' => ?_⟩
    · rw [hsb.2 b (fun h : b = S => hSf (by rw [← h]; exact hb))]; exact e
    · refine hR s'' L2 (Moved.trans W.gtrans ((hm.mono hsub).then_heap (Nat.le_add_right _ _) fun b o hb e => ?_) hm'') N'' g'' kp''
      rw [hsb.2 b (fun h : b = S => hb (by rw [h]; exact List.mem_cons_self))]; exact e
theorem nset_list {l : Addr} {items : Array Value} (ks : List (NestedKey × Addr)) {Q : Value → Shared → Prop} (hh : A.handled = none) (hl : s.heap.IsList l items) (hi : items.toList = ks.map fun e => Value.ref e.2) (ok : ∀ e ∈ ks, isE s.heap e) (few : ks.length < 64) (hu : A.units + 30 < cLine)
    (h : ∀ (h' : Heap) (tk : Nat) (L : List (NestedKey × Addr)), NSet w h' s.heap.objs.size L → NGot ks ks.length L → (∀ b o, s.heap.get? b = some o → h'.get? b = some o) → Q (.ref s.heap.objs.size) { s with heap := h', toks := tk }) :
    wpAny (model P w) A (call (.type "set") [.ref l]) Q E s := by
  have hn : items.size = ks.length := by rw [← Array.length_toList, hi, List.length_map]
  obtain ⟨c, tl, hmro⟩ := F.called_set.mro
  have hmade := F.called_set.made
  have hsub := F.called_set.sub
  refine wpAny_call (codeAny_of_tree ?_)
  show wpAny _ _ (callAny (.type "set") _) _ _ _
  refine wpAny_pure ⟨Code.quiet_builtin _ (by decide +kernel), codeAny_builtin F.entry_type_call ?_⟩
  rw [Around.under_plain (weight_type_call_type "set" [.ref l] []) rfl]
  have h1 := F.called_set.notType
  have h2 := F.called_set.canCreate
  have hct := F.typeCall_set_1 (.ref l)
  repeat (any_goals (first | assumption | wp_step))
  generalize hh0 : s.heap.push { cls := .type "set", dict := none, data := .set #[] 0 (.fresh 0 0 (!w.params.followText "set-order")) } = h0
  have hsz : h0.objs.size = s.heap.objs.size + 1 := by rw [← hh0]; exact Heap.size_push ..
  have hS : h0.get? s.heap.objs.size = some { cls := .type "set", dict := none, data := .set #[] 0 (.fresh 0 0 (!w.params.followText "set-order")) } := by rw [← hh0]; exact Heap.get?_push_size _ rfl
  have hk0 : ∀ b o, s.heap.get? b = some o → h0.get? b = some o := fun b o e => by rw [← hh0]; exact Heap.get?_push_of_some _ e
  refine codeAny_mono (code_set_led1 (.ref l) (E := E) (Q₁ := fun obj s₁ => obj = .ref s.heap.objs.size ∧ s₁ = { s with heap := h0 }) ⟨rfl, by rw [hh0]⟩) fun r s₁ hr => ?_
  cases r with
  | error e => exact hr
  | ok fl =>
    cases fl with
    | ret obj =>
      obtain ⟨rfl, rfl⟩ := hr
      have hT : Shared.TypeIs { s with heap := h0 } (.ref s.heap.objs.size) "set" := ⟨_, hS, rfl⟩
      have hli := F.called_set.init.lookup
      have hbi := F.called_set.init.bind (.ref s.heap.objs.size)
      repeat (any_goals (first | assumption | wp_step))
      refine codeAny_mono (codeAny_call_builtin (R := wants (fun r s₂ => r = .none ∧ ∃ h' tk L, s₂ = { s with heap := h', toks := tk } ∧ NSet w h' s.heap.objs.size L ∧ NGot ks ks.length L ∧
          (∀ b o, s.heap.get? b = some o → h'.get? b = some o)) E) F.called_set.init.plain F.entry_set_init (check_set_init_1 hT ?_)) fun r₂ s₂ hr₂ => ?_
      · obtain ⟨ol, hol, hcl, nl, hdl⟩ := hl
        obtain ⟨ocls, odict, odata, oslots⟩ := ol
        simp only at hcl hdl
        subst hcl; subst hdl
        have hol' := hk0 _ _ hol
        have hsls := F.sub_list_set
        have hslf := F.sub_list_frozenset
        have hne : (Value.type "list" == Value.type "dict") = false := by decide
        have hl1 : h0.IsList l items := ⟨_, hol', rfl, nl, rfl⟩
        unfold Builtin.«set.__init__» noKeywords Builtin.Frozenset.updateFrom
        generalize hPI : pyIter = PI
        wp_walk
        subst hPI
        refine wpAny_pyIter_list hl1 ?_
        refine wpAny_bind (wpAny_runValue ?_)
        have hlS : l < s.heap.objs.size := Heap.lt_size hol
        have hh3 : A.in1.in1.in1.handled = none := by simp [hh]
        have hneI : l ≠ h0.objs.size := by rw [hsz]; exact Nat.ne_of_lt (Nat.lt_succ_of_lt hlS)
        have hSf : s.heap.objs.size ∉ [h0.objs.size, l] := by
          simp only [List.mem_cons, List.not_mem_nil, or_false, not_or]
          exact ⟨by rw [hsz]; exact Nat.ne_of_lt (Nat.lt_succ_self _), Nat.ne_of_gt hlS⟩
        have gone : ∀ b, s.heap.objs.size ≤ b → s.heap.get? b = none := fun b hb => by
          rcases e : s.heap.get? b with _ | o
          · rfl
          · exact absurd (Heap.lt_size e) (Nat.not_lt.mpr hb)
        refine nset_loop ((Walks.list hh3 _ l hneI items).toS) s.heap.objs.size hSf ks hn few (fun i v e => ?_) s.heap ok (gone _ (Nat.le_refl _)) (fun b hb => ?_) (by simp; omega) (items.size - 0) 0 _ (by omega) (Nat.zero_le _)
          ⟨⟨_, Heap.get?_push_size _ rfl, rfl, rfl⟩, (hl1.push _)⟩ (fun b o e => Heap.get?_push_of_some _ (hk0 b o e)) ⟨[], nset_new (Heap.get?_push_of_some _ hS), NGot.start ks⟩ ?hR
        · have e' : items.toList[i]? = some v := by rw [Array.getElem?_toList]; exact e
          rw [hi, List.getElem?_map] at e'
          obtain ⟨x, hx, rfl⟩ := Option.map_eq_some_iff.mp e'
          exact ⟨x, hx, rfl⟩
        · rw [List.mem_singleton.mp hb]
          exact gone _ (by rw [hsz]; exact Nat.le_succ _)
        intro s' L hm N g kp
        obtain ⟨h', g2, d', tk', os'⟩ := s'
        have eg : g2 = s.gens := hm.gens
        have ed : d' = s.drawn := hm.drawn
        have eo : os' = s.os := hm.os
        subst eg; subst ed; subst eo
        show wpAny _ _ _ _ _ _
        refine wpAny_pure ?_
        show wpAny _ _ (ret Value.none) _ _ _
        exact wpAny_pure ⟨rfl, h', tk', L, rfl, N, by rw [← hn]; exact g, kp⟩
      · cases r₂ with
        | error e => exact hr₂
        | ok fl₂ =>
          cases fl₂ with
          | ret r =>
            obtain ⟨rfl, h', tk, L, rfl, N, g, hk'⟩ := hr₂
            repeat (any_goals (first | assumption | wp_step))
            exact h _ _ _ N g hk'
          | _ => exact hr₂.elim
    | _ => exact hr.elim
/-! ### sorted(set) -/
theorem perm_pull {α β : Type} {f : α → β} {l1 l2 : List β} (h : l1.Perm l2) : ∀ L : List α, l2 = L.map f → ∃ M : List α, M.Perm L ∧ l1 = M.map f := by
  induction h with
  | nil => exact fun L e => ⟨L, .refl _, e⟩
  | cons x _ ih =>
    intro L e
    cases L with
    | nil => simp at e
    | cons y L =>
      rw [List.map_cons] at e
      injection e with e1 e2
      obtain ⟨M, p, e3⟩ := ih L e2
      exact ⟨y :: M, p.cons y, by rw [List.map_cons, e1, e3]⟩
  | swap x y l =>
    intro L e
    match L, e with
    | a :: b :: L, e =>
      simp only [List.map_cons, List.cons.injEq] at e
      exact ⟨b :: a :: L, .swap a b L, by rw [List.map_cons, List.map_cons, e.1, e.2.1, e.2.2]⟩
  | trans _ _ i1 i2 =>
    intro L e
    obtain ⟨M, p, e1⟩ := i2 L e
    obtain ⟨M2, p2, e2⟩ := i1 M e1
    exact ⟨M2, p2.trans p, e2⟩
theorem Srtb.mono {as bs : List PyData} (h : Srtb as) (m : ∀ b ∈ bs, b ∈ as) : Srtb bs :=
  ⟨fun d hd e he => h.al d (m d hd) e (m e he), h.so.imp (fun k d hd => k d (m d hd)) (fun k d hd => k d (m d hd)), fun b hb => h.nd b (m b hb), fun b hb => h.dp b (m b hb)⟩
theorem each_refs {R : Value → NestedKey × Addr → Prop} : ∀ {M : List (NestedKey × Addr)}, (∀ e ∈ M, R (.ref e.2) e) → PySem.W.EachIs R (M.map fun e => Value.ref e.2) M
  | [], _ => .nil
  | e :: M, h => .cons (h e List.mem_cons_self) (each_refs fun x m => h x (List.mem_cons_of_mem _ m))
open PySem.W in
theorem sorted_nset {S : Addr} {L : List (NestedKey × Addr)} {Q : Value → Shared → Prop} (N : NSet w s.heap S L) (hh : A.handled = none) (hu : A.units + 66 < cLine) (rd : ∀ e ∈ L, ∃ as, Reads s.heap (.ref e.2) e.1.data as) (st : Srtb (L.map fun e => e.1.data))
    (hQ : ∀ s' p (M : List (NestedKey × Addr)) (out : Array Value) (c : Nat), (∀ b o, s.heap.get? b = some o → s'.heap.get? b = some o) → s'.gens = s.gens → s'.os = s.os → s.heap.objs.size ≤ p →
      s'.heap.get? p = some (seqObj "list" out c) → M.Perm L → EachIs (fun v e => v = Value.ref e.2) out.toList (M.mergeSort (dataLe false fun e => e.1.data)) → Q (.ref p) s') :
    wpAny (model P w) A (call (.builtin "sorted") [.ref S]) Q E s := by
  obtain ⟨⟨es, ep, t⟩, ho, T⟩ := N
  have hsz : es.size = L.length := T.len
  have few := T.few
  refine Calls.call_function_entry kind_sorted plain_sorted entry_sorted (args_sorted1 _) ?_
  unfold Builtin.«sorted»
  refine wpAny_bind (m := checkCount "sorted" 1 1 _) (wpAny_pure ?_)
  refine wpAny_bind (collect_set (A := A.in1) hh ⟨_, ho, rfl, rfl⟩ T.fit (by rw [hsz]; unfold scanBound; omega) T.tab.ris T.led fun s1 vs k1 hz1 g1 o1 pm => ?_)
  obtain ⟨M, pM, rfl⟩ := perm_pull (f := fun e : NestedKey × Addr => Value.ref e.2) pm L (by
    have := T.rows
    dsimp only at this ⊢
    rw [this, List.map_map]; rfl)
  have hvz : (M.map fun e => Value.ref e.2).length ≤ sizeLine := by rw [List.length_map, pM.length_eq, sizeLine_eq]; omega
  refine wpAny_bind (wpAny_newList ?_ hvz)
  generalize hvs : (M.map fun e => Value.ref e.2) = vs at *
  have hoL : (s1.heap.push (seqObj "list" vs.toArray 0)).get? s1.heap.objs.size = some (seqObj "list" vs.toArray 0) := Heap.get?_push_size _ rfl
  have sold : ∀ b o, s1.heap.get? b = some o → (sortingHeap (s1.heap.push (seqObj "list" vs.toArray 0)) s1.heap.objs.size vs).get? b = some o := fun b o e => by
    unfold sortingHeap
    have hb : b < s1.heap.objs.size := Heap.lt_size e
    refine Heap.get?_push_of_some _ (Heap.get?_push_of_some _ ?_)
    exact (Heap.get?_update_other _ _ (Nat.ne_of_gt hb)).trans (Heap.get?_push_of_some _ e)
  have e0 : EachIs (fun v (e : NestedKey × Addr) => v = Value.ref e.2) vs M := by rw [← hvs]; exact each_refs fun _ _ => rfl
  have er : EachIs (fun v (e : NestedKey × Addr) => ∃ as, Reads (sortingHeap (s1.heap.push (seqObj "list" vs.toArray 0)) s1.heap.objs.size vs) v e.1.data as) vs M := by
    have key : ∀ e ∈ M, ∃ as, Reads (sortingHeap (s1.heap.push (seqObj "list" vs.toArray 0)) s1.heap.objs.size vs) (.ref e.2) e.1.data as := fun e m => by
      obtain ⟨as, r⟩ := rd e (pM.mem_iff.mp m)
      exact ⟨as, PyProof.Rows.Reads.keeps (fun b o z => sold b o (k1 b o z)) r⟩
    revert key
    generalize sortingHeap (s1.heap.push (seqObj "list" vs.toArray 0)) s1.heap.objs.size vs = hp
    intro key
    rw [← hvs]
    exact each_refs key
  have st2 : Srtb (M.map fun e => e.1.data) := st.mono fun b m => ((pM.map _).mem_iff.mp m)
  refine wpAny_bind (wpAny_holding (wpAny_call_entry slot_list_sort ⟨_, hoL, rfl⟩ entry_list_sort
    (list_sort_vals (κ := dataKind (sortingHeap (s1.heap.push (seqObj "list" vs.toArray 0)) s1.heap.objs.size vs) (M.map fun e => e.1.data)) (s := { s1 with heap := s1.heap.push (seqObj "list" vs.toArray 0) }) hoL
      (SortsAt.data (s := { s1 with heap := sortingHeap (s1.heap.push (seqObj "list" vs.toArray 0)) s1.heap.objs.size vs }) (each_map (R := fun v d => ∃ as, Reads (sortingHeap (s1.heap.push (seqObj "list" vs.toArray 0)) s1.heap.objs.size vs) v d as) (fun e : NestedKey × Addr => e.1.data) er) st2.al st2.so (fun d hd => by
        have := st2.dp d hd
        show A.units + 1 + 1 + d.depth < cLine
        omega)) hvz ⟨.none, rfl, ?_⟩) (args_list_sort _)))
  obtain ⟨c, hc⟩ := sortedHeap_at (vs := vs) (out := (sortVals (dataKind (sortingHeap (s1.heap.push (seqObj "list" vs.toArray 0)) s1.heap.objs.size vs) (M.map fun e => e.1.data)) false vs vs).toArray) hoL
  have eo := sortVals_data (h' := sortingHeap (s1.heap.push (seqObj "list" vs.toArray 0)) s1.heap.objs.size vs) false e0 er st2.al
  refine wpAny_pure ⟨_, rfl, hQ _ s1.heap.objs.size M _ c (fun b u e => ?_) g1 o1 hz1 hc pM (by rw [List.toList_toArray]; exact eo)⟩
  have q := k1 b u e
  have hlt := Heap.lt_size q
  show (sortedHeap (s1.heap.push (seqObj "list" vs.toArray 0)) s1.heap.objs.size vs _).get? b = some u
  rw [sortedHeap_old (Nat.ne_of_lt hlt) (by rw [size_push']; exact Nat.lt_succ_of_lt hlt)]
  exact Heap.get?_push_of_some _ q
end
end N3

/-! sorted(set(xs)) of tuples of any depth: as an expression -/
namespace N3
open PySem PySem.Spec PyProof.Rows L2 PySem.Froz

/-! ### keys as they are shown -/
mutual
def keyP : PV → Bool
  | .non => true
  | .int _ => true
  | .str _ => true
  | .tup ps => keysP ps
  | _ => false
def keysP : List PV → Bool
  | [] => true
  | p :: ps => keyP p && keysP ps
end
mutual
def nkOf : PV → NestedKey
  | .int i => .num i
  | .str x => .text x
  | .tup ps => .tup (nkOfs ps)
  | _ => .none
def nkOfs : List PV → List NestedKey
  | [] => []
  | p :: ps => nkOf p :: nkOfs ps
end
mutual
def pK : NestedKey → PV
  | .none => .non
  | .num i => .int i
  | .text x => .str x
  | .tup ks => .tup (pKs ks)
def pKs : List NestedKey → List PV
  | [] => []
  | k :: ks => pK k :: pKs ks
end
mutual
theorem pK_nk : ∀ p, keyP p = true → pK (nkOf p) = p
  | .non, _ => by simp only [nkOf, pK]
  | .int _, _ => by simp only [nkOf, pK]
  | .str _, _ => by simp only [nkOf, pK]
  | .tup ps, f => by simp only [nkOf, pK]; rw [pKs_nks ps (by simpa only [keyP] using f)]
  | .bl _, f => by simp [keyP] at f
  | .lst _, f => by simp [keyP] at f
  | .dct _ _, f => by simp [keyP] at f
  | .ref _, f => by simp [keyP] at f
  | .ty _, f => by simp [keyP] at f
theorem pKs_nks : ∀ ps, keysP ps = true → pKs (nkOfs ps) = ps
  | [], _ => by simp only [nkOfs, pKs]
  | p :: ps, f => by
    simp only [keysP, Bool.and_eq_true] at f
    simp only [nkOfs, pKs]
    rw [pK_nk p f.1, pKs_nks ps f.2]
end
mutual
theorem nk_pK : ∀ k, nkOf (pK k) = k
  | .none => by simp only [pK, nkOf]
  | .num _ => by simp only [pK, nkOf]
  | .text _ => by simp only [pK, nkOf]
  | .tup ks => by simp only [pK, nkOf]; rw [nks_pKs ks]
theorem nks_pKs : ∀ ks, nkOfs (pKs ks) = ks
  | [] => by simp only [pKs, nkOfs]
  | k :: ks => by simp only [pKs, nkOfs]; rw [nk_pK k, nks_pKs ks]
end
mutual
theorem toD_pK : ∀ k, toD (pK k) = k.data
  | .none => by simp only [pK, toD, NestedKey.data]
  | .num _ => by simp only [pK, toD, NestedKey.data]
  | .text _ => by simp only [pK, toD, NestedKey.data]
  | .tup ks => by simp only [pK, toD, NestedKey.data]; rw [toDs_pKs ks]
theorem toDs_pKs : ∀ ks, toDs (pKs ks) = NestedKey.datas ks
  | [] => by simp only [pKs, toDs, NestedKey.datas]
  | k :: ks => by simp only [pKs, toDs, NestedKey.datas]; rw [toD_pK k, toDs_pKs ks]
end
mutual
theorem flat_pK : ∀ k, flat (pK k) = true
  | .none => by simp only [pK, flat]
  | .num _ => by simp only [pK, flat]
  | .text _ => by simp only [pK, flat]
  | .tup ks => by simp only [pK, flat]; exact flats_pKs ks
theorem flats_pKs : ∀ ks, flats (pKs ks) = true
  | [] => by simp only [pKs, flats]
  | k :: ks => by simp only [pKs, flats]; rw [flat_pK k, flats_pKs ks]; rfl
end
section
variable {X : Cx} {pins : List (Addr × Obj)} {σ : L2.St} {H : Hp} {s : Shared}
mutual
theorem dp_nest (I : Inv X pins σ H s) : ∀ (k : NestedKey) (v : V) (u : Value), Dp X.K H v k.data → RelV v u → NestedIs s.heap k u
  | .none, _, _, h, r => by
    rw [NestedKey.data] at h
    cases h
    cases r
    exact .none
  | .num i, _, _, h, r => by
    rw [NestedKey.data] at h
    cases h
    obtain ⟨t, rfl⟩ := r
    exact .int i t
  | .text x, _, _, h, r => by
    rw [NestedKey.data] at h
    cases h
    obtain ⟨t, rfl⟩ := r
    exact .text x t
  | .tup ks, _, _, h, r => by
    rw [NestedKey.data] at h
    cases h with
    | tup hs ha =>
      cases r
      obtain ⟨its, rv, ⟨o, ho, hc, n, hd⟩, _⟩ := I.tuple hs
      exact .tup ho hc hd (by simpa using dps_nest I ks _ its ha rv)
theorem dps_nest (I : Inv X pins σ H s) : ∀ (ks : List NestedKey) (vs : List V) (us : List Value), DpAll X.K H vs (NestedKey.datas ks) → Vals vs us → NestedAll s.heap ks us
  | [], _, _, h, r => by
    rw [NestedKey.datas] at h
    cases h
    cases r
    exact .nil
  | k :: ks, _, _, h, r => by
    rw [NestedKey.datas] at h
    cases h with
    | cons h1 h2 =>
      cases r with
      | cons r1 r2 => exact .cons (dp_nest I k _ _ h1 r1) (dps_nest I ks _ _ h2 r2)
end
end
def NSetO (w : World) (S : Addr) (L : List (NestedKey × Addr)) : HO := .ext fun h => NSet w h S L
theorem nsetO_new {P : Program} {w : World} {H : Hp} {h : Heap} {S : Addr} {L : List (NestedKey × Addr)} (R : NSet w h S L) : ObjOk P w H h S (NSetO w S L) := by
  have ⟨D, e, F⟩ := R
  exact ⟨R, ⟨_, e⟩, fun h1 h2 p k => NSet.at p k⟩
theorem vals_ats : ∀ {ks : List (NestedKey × Addr)} {us : List Value}, Vals (ks.map fun e => V.ref e.2) us → us = ks.map fun e => Value.ref e.2
  | [], _, r => by cases r; rfl
  | e :: ks, _, r => by
    cases r with
    | cons r1 r2 =>
      cases r1
      rw [vals_ats r2]; rfl
theorem ats_vals : ∀ {ks : List (NestedKey × Addr)} {us : List Value}, PySem.W.EachIs (fun v (e : NestedKey × Addr) => v = Value.ref e.2) us ks → Vals (ks.map fun e => V.ref e.2) us
  | _, _, .nil => .nil
  | _, _, .cons h t => .cons (by subst h; exact rfl) (ats_vals t)
def oSetN (K : PySem.W.Frag) (w : World) : List V → Hp → VK → Prop := fun vs H Q => ∃ (a : Addr) (ks : List (NestedKey × Addr)), vs = [.ref a] ∧ SqL K H a (ks.map fun e => V.ref e.2) ∧ (∀ e ∈ ks, Dp K H (.ref e.2) e.1.data ∧ e.1.depth ≤ 8) ∧ ks.length < 64 ∧
  ∀ p L, NGot ks ks.length L → (L.map Prod.fst).Nodup → H p = none → Q (.ref p) (upd H p (NSetO w p L))
theorem cr_setN {X : Cx} (hc : X.calm = true) (hu : X.A.units + 66 < cLine) : CallR X (.type "set") (oSetN X.K X.w) := by
  intro pins s σ H vs us Q I r h
  obtain ⟨a, ks, rfl, hq, ok, few, q⟩ := h
  rw [Vals.ref1 r]
  obtain ⟨its, rv, pl, hz⟩ := I.list hq
  refine nset_list (P := X.prog) (w := X.w) ks (I.ok.hd hc) pl.isList (by simpa using vals_ats rv) (fun e m => ⟨dp_nest I e.1 _ _ (ok e m).1 rfl, (ok e m).2⟩) few (by omega) fun h' tk L N g k => ?_
  have nd : (L.map Prod.fst).Nodup := by obtain ⟨D, _, T⟩ := N; exact T.nd
  exact ⟨.ref s.heap.objs.size, upd H s.heap.objs.size (NSetO X.w s.heap.objs.size L), I.laid (t' := tk) k (Nat.le_refl _) (nsetO_new N), rfl, q _ _ g nd (I.hok.fresh (Nat.le_refl _))⟩
def oSortN (K : PySem.W.Frag) (w : World) : List V → Hp → VK → Prop := fun vs H Q => ∃ (a : Addr) (L : List (NestedKey × Addr)), vs = [.ref a] ∧ H a = some (NSetO w a L) ∧ (∀ e ∈ L, Dp K H (.ref e.2) e.1.data) ∧ Srtb (L.map fun e => e.1.data) ∧ L.length < 64 ∧
  ∀ (M : List (NestedKey × Addr)) (p : Addr), M.Perm L → H p = none → Q (.ref p) (upd H p (.lst ((M.mergeSort (PySem.W.dataLe false fun e => e.1.data)).map fun e => V.ref e.2)))
theorem cr_sortN {X : Cx} (hc : X.calm = true) (hu : X.A.units + 66 < cLine) : CallR X (.builtin "sorted") (oSortN X.K X.w) := by
  intro pins s σ H vs us Q I r h
  obtain ⟨a, L, rfl, ha, rd, st, few, q⟩ := h
  have R0 : NSet X.w s.heap a L := (I.hok a _ ha).1
  rw [Vals.ref1 r]
  refine sorted_nset R0 (I.ok.hd hc) (by omega) (fun e m => Dp.reads I _ _ _ (rd e m) rfl) st fun s' p M out c k g o hp hg pm eo => ?_
  have hn : H p = none := I.hok.fresh hp
  have hv := ats_vals eo
  have hlen : ((M.mergeSort (PySem.W.dataLe false fun e : NestedKey × Addr => e.1.data)).map fun e => V.ref e.2).length ≤ sizeLine := by
    rw [List.length_map, List.length_mergeSort, pm.length_eq, sizeLine_eq]
    omega
  have J : Inv X pins σ (upd H p (.lst ((M.mergeSort (PySem.W.dataLe false fun e : NestedKey × Addr => e.1.data)).map fun e => V.ref e.2))) { s with heap := s'.heap, gens := s'.gens, drawn := s'.drawn, toks := s'.toks } :=
    I.call (ch := []) (Un.laid k hp hn) (I.hok.laid k hp ⟨hlen, out.toList, c, hv, hg⟩) (by rw [g]; exact I.bare) (fun _ z => nomatch z)
  have e : s' = { s with heap := s'.heap, gens := s'.gens, drawn := s'.drawn, toks := s'.toks } := by
    cases s'
    cases s
    cases o
    rfl
  rw [e]
  exact ⟨.ref p, _, J, rfl, q M p pm hn⟩
/-- sorted(set(xs)), xs a list of tuples of any depth -/
def rNestSet : PRA := fun ps h Q => match ps with
  | [p] => (match seqL h p with
    | some xs => (∀ x ∈ xs, keyP x = true ∧ (∃ ys, x = .tup ys) ∧ (nkOf x).depth ≤ 8) ∧ xs.length < 64 ∧ Srtb (xs.map toD) ∧ ∀ bs : List PV, bs.Nodup → (∀ x, x ∈ bs ↔ x ∈ xs) → Q (.lst (bs.mergeSort (PySem.W.dataLe false toD))) h
    | none => False)
  | _ => False
theorem keyed {K : PySem.W.Frag} {H : Hp} : ∀ {xs : List PV} {ys : List V}, (∀ x ∈ xs, keyP x = true ∧ (∃ ys, x = .tup ys) ∧ (nkOf x).depth ≤ 8) → Rels K H xs ys →
    ∃ ks : List (NestedKey × Addr), ys = (ks.map fun e => V.ref e.2) ∧ xs = (ks.map fun e => pK e.1) ∧ ∀ e ∈ ks, Rel K H (pK e.1) (.ref e.2) ∧ e.1.depth ≤ 8
  | [], ys, _, r => by rw [Rels.nil_iff] at r; subst r; exact ⟨[], rfl, rfl, fun e m => (List.not_mem_nil m).elim⟩
  | x :: xs, ys, h, r => by
    obtain ⟨v, vs, rfl, r1, r2⟩ := r.uncons
    obtain ⟨h1, ⟨zs, h2⟩, h3⟩ := h x List.mem_cons_self
    obtain ⟨ks, e1, e2, e3⟩ := keyed (fun y m => h y (List.mem_cons_of_mem _ m)) r2
    have r0 := r1
    rw [h2] at r0
    obtain ⟨a, ws, rfl, -, -⟩ := rel_tup.mp r0
    refine ⟨(nkOf x, a) :: ks, by rw [e1]; rfl, by rw [List.map_cons, ← e2, pK_nk x h1], fun e m => ?_⟩
    rcases List.mem_cons.mp m with rfl | m
    · exact ⟨by rw [pK_nk x h1]; exact r1, h3⟩
    · exact e3 e m
theorem rels_keys {K : PySem.W.Frag} {H : Hp} : ∀ {ks : List (NestedKey × Addr)}, (∀ e ∈ ks, Rel K H (pK e.1) (.ref e.2)) → Rels K H (ks.map fun e => pK e.1) (ks.map fun e => V.ref e.2)
  | [], _ => .nil
  | e :: ks, h => .cons (h e List.mem_cons_self) (rels_keys fun x m => h x (List.mem_cons_of_mem _ m))
theorem le_nestSet {X : Cx} {pos pos2 p p2 : Pos} {e : Expr} {m : MA} (hc : X.calm = true) (hu : X.A.units + 66 < cLine) (hm : X.mg "sorted" = none) (hm2 : X.mg "set" = none) (ha : LAn X [e] 1 m) (hg : Gl X "sorted" := by rfl) (hg2 : Gl X "set" := by rfl) (h1 : starEach [e] X.env = (false, eval e X.env) :: starEach [] X.env := by rfl) :
    LE X (.Call (.Name "sorted" p) [.Call (.Name "set" p2) [e] [] pos2] [] pos) (mBlt rNestSet m) := by
  have he : PE X (.Call (.Name "set" p2) [e] [] pos2) (tCB (oSetN X.K X.w) (upL X.K 1 m)) := pe_callTy (T := "set") (cr_setN hc hu) hg2 hm2 (by decide +kernel) ha (by decide) (by decide) h1 rfl
  refine PE.weak (PE.kp (pe_callB (id := "sorted") (cr_sortN hc hu) hg hm (by decide +kernel) (pa_cons he pa_nil rfl) (by decide) (by decide) rfl rfl)) fun σ H Q ⟨τ, h, Q', s, sh, q, l⟩ => ?_
  refine ⟨τ, h, _, s, sh, q, fun ps h1 vs H1 q1 hl m1 r1 s1 => ?_⟩
  unfold rNestSet at q1
  split at q1
  · split at q1
    · rename_i p _ qs e
      obtain ⟨v, rfl, r2⟩ := r1.one
      obtain ⟨a, ys, rfl, hq, rr⟩ := seqL_sq r2 s1 e
      obtain ⟨ok, few, st, q1⟩ := q1
      obtain ⟨ks, rfl, rfl, rk⟩ := keyed ok rr
      rw [List.length_map] at few
      have dp : ∀ {H2 : Hp} {e : NestedKey × Addr}, Rel X.K H2 (pK e.1) (.ref e.2) → Dp X.K H2 (.ref e.2) e.1.data := fun {H2 e} r => by
        rw [← toD_pK]; exact Rel.dp _ _ (flat_pK _) r
      refine ⟨a, ks, rfl, hq, fun e m => ⟨dp (rk e m).1, (rk e m).2⟩, few, fun p L g nd hp => ⟨p, L, rfl, upd_same, fun e m => dp ((rk e (g.sub e m)).1.mono (Mono.new hp)), ?_, ?_, fun M p2 pm hp2 => ?_⟩⟩
      · refine st.mono fun b mb => ?_
        obtain ⟨e, m, rfl⟩ := List.mem_map.mp mb
        rw [← toD_pK]
        exact List.mem_map_of_mem (List.mem_map_of_mem (g.sub e m))
      · exact Nat.lt_of_le_of_lt g.len few
      · have es : (M.mergeSort (PySem.W.dataLe false fun e : NestedKey × Addr => e.1.data)).map (fun e => pK e.1) = (M.map fun e => pK e.1).mergeSort (PySem.W.dataLe false toD) :=
          PySem.W.sort_maps (r := PySem.W.dataLe false fun e : NestedKey × Addr => e.1.data) (s := PySem.W.dataLe false toD) (fun e => pK e.1) (l := M) (fun x _ y _ => by
            show (PySem.W.dataLe false fun e : NestedKey × Addr => e.1.data) x y = PySem.W.dataLe false toD (pK x.1) (pK y.1)
            rw [show (fun e : NestedKey × Addr => e.1.data) = fun e => toD (pK e.1) from funext fun e => (toD_pK _).symm]; rfl)
        have ndM : (M.map fun e => pK e.1).Nodup := by
          have n1 : (M.map Prod.fst).Nodup := (pm.map _).nodup_iff.mpr nd
          have e1 : (M.map fun e => pK e.1) = (M.map Prod.fst).map pK := by rw [List.map_map]; rfl
          rw [e1]
          refine List.Pairwise.map _ (fun x y ne z => ne ?_) n1
          rw [← nk_pK x, z, nk_pK]
        have key := q1 (M.map fun e => pK e.1) ndM fun x => ⟨fun mx => ?_, fun mx => ?_⟩
        · rw [← es] at key
          refine keep_l ((l.mono m1).mono (Go.new hp)) (s1.new hp) (rels_keys fun e m => ?_) key hp2
          exact (rk e (g.sub e (pm.mem_iff.mp (List.mem_mergeSort.mp m)))).1.mono (Mono.new hp)
        · obtain ⟨e, m, rfl⟩ := List.mem_map.mp mx
          exact List.mem_map_of_mem (f := fun e : NestedKey × Addr => pK e.1) (g.sub e (pm.mem_iff.mp m))
        · obtain ⟨e, m, rfl⟩ := List.mem_map.mp mx
          have := g.all e (by rw [List.take_length]; exact m)
          have := (pm.map Prod.fst).mem_iff.mpr this
          obtain ⟨e2, m2, ee⟩ := List.mem_map.mp this
          exact List.mem_map.mpr ⟨e2, m2, by rw [ee]⟩
    · exact q1.elim
  · exact q1.elim
end N3

/-! sorted(xs, key=lambda x: f(x)): a lambda of one name that captures nothing -/
namespace N3
open PySem PySem.Spec PyProof.Rows L2 LamX

section
variable {X : Cx} {pins : List (Addr × Obj)} {σ : L2.St} {H : Hp} {s : Shared}
/-- an object of ours is known from now on -/
theorem know_own {a : Addr} {o : Obj} (I : Inv X pins σ H s) (f : FpOk X pins H a) (ho : s.heap.get? a = some o) : Inv X pins σ (upd H a (.frz o (.own 0))) s :=
  I.take (h' := s.heap) (t' := s.toks) (fun _ _ _ e => e) f ⟨ho, o, ho⟩
end
/-- the function that a lambda makes -/
abbrev lamO (q : Str) (params : Arguments) (body : Expr) (scope : Scope) (pm : Value) (c' : Addr) (ctv : Value) : Obj := PySem.W.kla_obj "<lambda>" q params body scope [] pm c' ctv
structure LamAt (q : Str) (params : Arguments) (body : Expr) (scope : Scope) (H : Hp) (f : Addr) : Prop where
  ex : ∃ (c' : Addr) (pm ctv : Value) (oc : Obj) (vs : Array Value) (t : Tok), H f = some (.frz (lamO q params body scope pm c' ctv) (.own 0)) ∧ H c' = some (.frz oc (.own 0)) ∧ oc.data = .fields vs ∧ vs[1]? = some (.str q t)
theorem LamAt.mono {q : Str} {params : Arguments} {body : Expr} {scope : Scope} {H H1 : Hp} {f : Addr} (l : LamAt q params body scope H f) (m : Mono H H1) : LamAt q params body scope H1 f := by
  obtain ⟨c', pm, ctv, oc, vs, t, e1, e2, r⟩ := l.ex
  exact ⟨c', pm, ctv, oc, vs, t, m.f _ _ _ e1, m.f _ _ _ e2, r⟩
structure LamNew (P : Addr) (q : Str) (params : Arguments) (body : Expr) (scope : Scope) (H : Hp) (f : Addr) (H1 : Hp) : Prop where
  old : ∀ b u, b ≠ P → H b = some u → H1 b = some u
  live : ∀ b, H1 b = none → H b = none
  tab : ∃ ps, H1 P = some (.tbl ps) ∧ TabOk H1 q ps
  fn : LamAt q params body scope H1 f
section
variable {X : Cx}
theorem pe_lam {P c : Addr} {q : Str} {params : Arguments} {body : Expr} {scope : Scope} {pos : Pos} (TB : TabB X.base X.mg c P) (hcode : X.env.code = .ref c) (eq : X.env.qual ++ "<lambda>" = q) (hfree : ∀ y ∈ scope.names, y.2 ≠ .free) (hclo : cloFrom X.env.cells scope.names [] = [])
    (hdef : defaultsOf params X.env = ([], [])) :
    PE X (.Lambda params body scope pos) (fun _ H Q => ∃ ps, H P = some (.tbl ps) ∧ TabOk H q ps ∧ ∀ f H1, LamNew P q params body scope H f H1 → Q (.ref f) H1) := by
  subst eq
  refine ⟨fun pins s σ H Q I ⟨ps, hP, ht, h⟩ => ?_⟩
  refine PySem.W.kla_eval hdef ?_
  have bP : s.heap.BuiltinsAt X.mg P := TB.bm.keeps I.bk
  have hP' : s.heap.get? P = some { cls := .none, data := .fields ps } := I.hok P _ hP
  have hcl : closureFor scope X.env = pure [] := by rw [closure_ok (fun y hy e => absurd e (hfree y hy)), hclo]
  have oldN : ∀ {b : Addr} {H1 : Hp}, s.heap.objs.size ≤ b → ∀ a u, H a = some u → a ≠ b := fun {b H1} hb a u e z => by
    rw [z, I.hok.fresh hb] at e; cases e
  cases hc : codeAmong pos ps.toList with
  | none =>
    refine PySem.W.kla_makeFunction (mg := X.mg) (c := c) (P := P) (ps := ps) hcl I.ok.glob (I.mod.glob.keeps I.bk) hcode (TB.code.keeps I.bk) hP' ht.1 hc TB.gP bP fun c' ctv h' tk hx hge hlt hrec htb => ?_
    obtain ⟨c2, oc, vs, t, e2, hoc, hd, hv⟩ := hrec
    cases e2
    have hsz : s.heap.objs.size ≤ h'.objs.size := Nat.le_trans hge (Nat.le_of_lt hlt)
    have I1 := GxR.inv_tab (g' := s.gens) (d' := s.drawn) (t' := tk) (more := #[rawInt pos.line, rawInt pos.col, .ref c']) (h' := h'.push (lamO (X.env.qual ++ "<lambda>") params body scope ((X.mg "__name__").getD .none) c' ctv)) I hP
      (fun b o hb e => Heap.get?_push_of_some _ (hx b o hb e)) (Heap.get?_push_of_some _ htb) I.bare
    have nPc : P ≠ c' := ne_of_none hP (I.hok.fresh hge)
    have nPf : P ≠ h'.objs.size := ne_of_none hP (I.hok.fresh hsz)
    have nc : upd H P (.tbl (ps ++ #[rawInt pos.line, rawInt pos.col, .ref c'])) c' = none := by rw [upd_ne nPc.symm]; exact I.hok.fresh hge
    have fc : FpOk X pins _ c' := ⟨nc, (I.fpOk hge (I.hok.fresh hge)).2⟩
    have I2 := know_own I1 fc (Heap.get?_push_of_some _ hoc)
    have ncf : h'.objs.size ≠ c' := Nat.ne_of_gt hlt
    have nf : upd (upd H P (.tbl (ps ++ #[rawInt pos.line, rawInt pos.col, .ref c']))) c' (.frz oc (.own 0)) h'.objs.size = none := by rw [upd_ne ncf, upd_ne nPf.symm]; exact I.hok.fresh hsz
    have I3 := know_own I2 ⟨nf, (I.fpOk hsz (I.hok.fresh hsz)).2⟩ (Heap.get?_push_size _ rfl)
    have mm : Mono H (upd (upd (upd H P (.tbl (ps ++ #[rawInt pos.line, rawInt pos.col, .ref c']))) c' (.frz oc (.own 0))) h'.objs.size (.frz (lamO (X.env.qual ++ "<lambda>") params body scope ((X.mg "__name__").getD .none) c' ctv) (.own 0))) := by
      refine ⟨fun b xs e => ?_, fun b o u e => ?_⟩
      · rw [upd_ne (ne_of_none e (I.hok.fresh hsz)), upd_ne (ne_of_none e (I.hok.fresh hge)), upd_ne (fun z => by rw [z, hP] at e; cases e)]; exact e
      · rw [upd_ne (ne_of_none e (I.hok.fresh hsz)), upd_ne (ne_of_none e (I.hok.fresh hge)), upd_ne (fun z => by rw [z, hP] at e; cases e)]; exact e
    have eL : (ps ++ #[rawInt pos.line, rawInt pos.col, .ref c']).toList = ps.toList ++ [rawInt pos.line, rawInt pos.col, .ref c'] := by simp
    refine ⟨.ref h'.objs.size, _, I3, rfl, h _ _ ⟨fun b u hb e => ?_, fun b e => ?_, ⟨ps ++ #[rawInt pos.line, rawInt pos.col, .ref c'], ?_, ?_⟩, ⟨c', _, ctv, oc, vs, t, upd_same, ?_, hd, hv⟩⟩⟩
    · rw [upd_ne (ne_of_none e (I.hok.fresh hsz)), upd_ne (ne_of_none e (I.hok.fresh hge)), upd_ne hb]; exact e
    · exact live_upd b (live_upd b (live_upd b e))
    · rw [upd_ne nPf, upd_ne nPc, upd_same]
    · refine ⟨by rw [eL]; exact PySem.TriplesOk_snoc _ _ _ _ ht.1, fun p' cv hcv => ?_⟩
      rw [eL] at hcv
      rcases among_app _ ht.1 hcv with z | z
      · obtain ⟨c0, oc0, vs0, t0, e1, e2, r⟩ := (ht.mono mm).2 p' cv z
        exact ⟨c0, oc0, vs0, t0, e1, e2, r⟩
      · exact ⟨c', oc, vs, t, z, by rw [upd_ne ncf.symm, upd_same], hd, hv⟩
    · rw [upd_ne ncf.symm, upd_same]
  | some cv =>
    obtain ⟨c', oc, vs, t, e, hco, hd, hv⟩ := ht.2 pos cv hc
    subst e
    refine PySem.W.kla_makeFunctionHit (mg := X.mg) (c := c) (P := P) (ps := ps) hcl I.ok.glob (I.mod.glob.keeps I.bk) hcode (TB.code.keeps I.bk) hP' ht.1 hc bP fun ctv h' tk hx hsz => ?_
    have I1 : Inv X pins σ H { s with heap := h'.push (lamO (X.env.qual ++ "<lambda>") params body scope ((X.mg "__name__").getD .none) c' ctv), toks := tk } := I.kept fun b o e => Heap.get?_push_of_some _ (hx b o e)
    have hn := I.hok.fresh hsz
    have I2 := know_own I1 (I.fpOk hsz hn) (Heap.get?_push_size _ rfl)
    have mm : Mono H (upd H h'.objs.size (.frz (lamO (X.env.qual ++ "<lambda>") params body scope ((X.mg "__name__").getD .none) c' ctv) (.own 0))) := Mono.new hn
    exact ⟨.ref h'.objs.size, _, I2, rfl, h _ _ ⟨fun b u _ e => by rw [upd_ne (ne_of_none e hn)]; exact e, live_upd, ⟨ps, by rw [upd_ne (ne_of_none hP hn)]; exact hP, ht.mono mm⟩, ⟨c', _, ctv, oc, vs, t, upd_same, mm.f _ _ _ hco, hd, hv⟩⟩⟩
end
/-! ### the lambda is called -/
/-- what its body does -/
structure LamB (P : Program) (w : World) (K : PySem.W.Frag) (mg : Str → Option Value) (base : Heap) (k : Nat) (q a : Str) (params : Arguments) (scope : Scope) (body : Expr) (mb : ME) : Prop where
  sc : FnScope [a] [a] scope
  bind : ∀ (pm cv ctv u : Value), bindArgs (PySem.W.kla_fn "<lambda>" q params body scope [] pm cv ctv) ⟨[u], []⟩ = pure [(a, u)]
  run : ∀ (f : Addr) (cv : Value) (A : Around) (outer : List Env) (s : Shared) (H : Hp) (E : XK), Room k (A.deeper (envOfC q scope s.heap.objs.size f cv)) → A.guards = some [] → LE (cxOf CX0 P w K mg base [a] q scope f cv A outer s H E).nox body mb
section
variable {X : Cx} {pins : List (Addr × Obj)} {σ : L2.St} {H : Hp} {s : Shared}
theorem lam_call {k : Nat} {q a : Str} {params : Arguments} {body : Expr} {scope : Scope} {mb : ME} {f : Addr} {A : Around} {h : PH} {p : PV} {x : V} {u : Value} {Q' : PK} {Q : VK} (B : LamB X.prog X.w X.K X.mg X.base k q a params scope body mb)
    (I : Inv X pins σ H s) (L : LamAt q params body scope H f) (hr : Room (k + 1) A) (fr : A.frames = X.A.frames) (hG : A.guards = some []) (rx : RelV x u) (rp : Rel X.K H p x) (sh : Sim X.K H h) (m : mb [some p] h Q') (l : LQ X.K H h Q' Q) :
    wpAny (model X.prog X.w) A (call (.ref f) [u]) (fun v s2 => CE X.stack X.prog X.w H s Q v s2) (fun _ _ => False) s := by
  obtain ⟨c', pm, ctv, oc, vs, t, hf, hco, hd, hv⟩ := L.ex
  have of1 : s.heap.get? f = some (lamO q params body scope pm c' ctv) := (I.hok f _ hf).1
  have oc1 : s.heap.get? c' = some oc := (I.hok c' _ hco).1
  have e00 := I.env0
  have e0 : Env0 X.prog X.w X.K X.mg X.base A X.stack s H := ⟨fr.trans e00.frames, e00.mod, e00.bs, e00.bsz, e00.funs, e00.frf, e00.hok, e00.bare⟩
  have hkind : ∀ y ∈ [(a, u)], scope.names.lookup y.1 = some .local ∨ (scope.names.lookup y.1 = some .cell ∧ ((cellsFrom (s.heap.objs.size + 1) scope.names []).lookup y.1).isSome = true) := fun ⟨n, v⟩ hy => by
    have e : n = a := by simpa using congrArg Prod.fst (List.mem_singleton.mp hy)
    subst e
    exact (B.sc.par n (by simp)).imp id fun z => ⟨z, PySem.W.cellsFrom_some _ _ _ (.inl z)⟩
  refine wpAny_call (codeAny_mono (R := CR CX0 X.stack X.prog X.w H s Q E0) ?_ fun r s' hq => ?_)
  · refine PySem.W.kla_callFunE hr.depth of1 rfl B.sc.co B.sc.gen rfl ⟨c', oc, vs, t, rfl, oc1, hd, hv⟩ ?_
    rw [B.bind]
    refine wpAny_pure (wpAny_newFunctionEnv_cells B.sc.kind hkind fun env he s1 x => ?_)
    subst he
    refine ⟨(e0.mod.nolimit.keeps fun b o e => (e0.bs b o e).1).keeps x.toInCall.keep, ?_⟩
    have J : Inv (cxOf CX0 X.prog X.w X.K X.mg X.base [a] q scope f (.ref c') A X.stack s H E0) [] (L2.start [a] [‹V›]) H s1 := inv_start (ps := [a]) (us := [u]) B.sc hr.hd e0 rfl (.cons rx .nil) x
    refine PySem.W.kla_codeExpr (wpAny_mono ((B.run f (.ref c') A X.stack s H E0 (hr.deeper _) hG).nox.run [] s1 _ H Q J ⟨[some p], h, Q', simS_start (ps := [p]) (N := [a]) (.cons rp .nil) (by simp), sh, m, l⟩) (fun v s' hs => ?_) fun e s' hs => hs)
    obtain ⟨y, H', J', rv, z⟩ := hs
    exact ⟨y, H', J'.os, J'.bare, J'.base, J'.hok, rv, z⟩
  · cases r with
    | error e => exact (show False from hq).elim
    | ok fl =>
      cases fl with
      | ret v => exact hq
      | next => exact False.elim hq
      | brk => exact False.elim hq
      | cont => exact False.elim hq
end
end N3

/-! sorted(xs, key=lambda x: f(x)) -/
namespace N3
open PySem PySem.Spec PyProof.Rows L2 LamX PySem.W

theorem vals_of_each {K : PySem.W.Frag} {H : Hp} : ∀ {out : List Value} {ps : List PV}, EachIs (fun u p => ∃ v, RelV v u ∧ Rel K H p v) out ps → ∃ xs, Vals xs out ∧ Rels K H ps xs
  | [], [], _ => ⟨[], .nil, .nil⟩
  | [], _ :: _, h => by cases h
  | _ :: _, [], h => by cases h
  | _ :: _, _ :: _, h => by
    cases h with
    | cons h t =>
      obtain ⟨v, r1, r2⟩ := h
      obtain ⟨xs, r3, r4⟩ := vals_of_each t
      exact ⟨v :: xs, .cons r1 r3, .cons r2 r4⟩
theorem each_of_vals {K : PySem.W.Frag} {H : Hp} : ∀ {ps : List PV} {xs : List V} {its : List Value}, Rels K H ps xs → Vals xs its → EachIs (fun u p => ∃ v, RelV v u ∧ Rel K H p v) its ps
  | [], xs, its, r, rv => by
    rw [Rels.nil_iff] at r; subst r
    cases rv; exact .nil
  | p :: ps, xs, its, r, rv => by
    obtain ⟨v, vs, rfl, h1, t⟩ := r.uncons
    cases rv with
    | cons h2 t2 => exact .cons ⟨v, h2, h1⟩ (each_of_vals t t2)
section
variable {X : Cx}
theorem cr_sortLam {k : Nat} {q a : Str} {params : Arguments} {body : Expr} {scope : Scope} {mb : ME} (B : LamB X.prog X.w X.K X.mg X.base k q a params scope body mb) (hr : Room (k + 3) X.A) (hG : X.A.guards = some []) :
    CallRK X (.builtin "sorted") [Str.ofString "key"] (fun vs zs H Q => ∃ (l f : Addr) (xs : List V) (ps : List PV) (h : PH) (kz : PV → PV), vs = [.ref l] ∧ zs = [.ref f] ∧ SqL X.K H l xs ∧ LamAt q params body scope H f ∧ Sim X.K H h ∧ Rels X.K H ps xs ∧
      (∀ p ∈ ps, mb [some p] h (fun v h2 => v = kz p ∧ h2 = h)) ∧ flats (ps.map kz) = true ∧ Srtb (ps.map fun p => toD (kz p)) ∧
      ∀ H' D xs', Go H h H' h → Sim X.K H' h → H' D = none → Rels X.K H' (ps.mergeSort (dataLe false fun p => toD (kz p))) xs' → Q (.ref D) (upd H' D (.lst xs'))) := by
  intro pins s σ H vs zs us ws Q I r rz hyp
  obtain ⟨l, f, xs, ps, h, kz, rfl, rfl, hl, L, sh, rp, hm, hf, hS, q⟩ := hyp
  obtain rfl := Vals.ref1 r
  obtain rfl := Vals.ref1 rz
  show wpAny _ X.A (call (.builtin "sorted") [.ref l] [(Str.ofString "key", .ref f)]) _ _ s
  obtain ⟨its, rv, hlo, hz⟩ := I.list hl
  have hZ : its.length ≤ sizeLine := by rw [← rv.length]; exact hz
  refine sorted_of_sort (vs := its) hlo.isList hZ (PyProof.Rows.ksk_s1 _ _) (fun _ => PyProof.Rows.ksk_l1 _ _) fun E' => ?_
  rw [PyProof.Rows.ksk_t1]
  have fa : FpOk X pins H (s.heap.objs.size + 1) := I.fpOk (Nat.le_succ _) (I.hok.fresh (Nat.le_succ _))
  have ho := copyHeap_at s.heap its
  have I1 : Inv X pins σ H { s with heap := copyHeap s.heap its } := I.kept (t' := s.toks) fun b o e => copyHeap_old e
  generalize hA : s.heap.objs.size + 1 = D at fa ho ⊢
  generalize hs1 : ({ s with heap := copyHeap s.heap its } : Shared) = s1 at I1 ⊢
  have h1 : copyHeap s.heap its = s1.heap := by rw [← hs1]
  rw [h1] at ho
  unfold ksk_tree
  refine wpAny_bind (listItems_at ho rfl ?_)
  refine wpAny_bind (listUpdate_at ho rfl ?_ (by rw [List.size_toArray]; exact hZ) (Nat.zero_le _))
  obtain ⟨e1, ho1⟩ : ∃ e1, (s1.heap.update D (Obj.mapSeq fun _ => (#[] : Array Value))).get? D = some (seqObj "list" #[] e1) := ⟨_, get?_update_seq ho fun _ => #[]⟩
  refine wpAny_bind (seqEpoch_at ho1 rfl ?_)
  refine wpAny_bind (wpAny_newTuple ?_ (by show its.length ≤ _; exact hZ))
  refine wpAny_bind (wpAny_newList ?_ (Nat.zero_le _))
  refine wpAny_holding ?_
  have hD : D < s1.heap.objs.size := Heap.lt_size ho
  have sz1 : ((s1.heap.update D (Obj.mapSeq fun _ => (#[] : Array Value))).push (seqObj "tuple" its.toArray 0)).objs.size = s1.heap.objs.size + 1 := by rw [size_push', Heap.size_update]
  have fk : FpOk X pins H (s1.heap.objs.size + 1) := I1.fpOk (Nat.le_succ _) (I1.hok.fresh (Nat.le_succ _))
  have I2 : Inv X pins σ H { s1 with heap := ((s1.heap.update D (Obj.mapSeq fun _ => (#[] : Array Value))).push (seqObj "tuple" its.toArray 0)).push (seqObj "list" #[] 0) } :=
    I1.turnedL (t' := s1.toks) (ch := [D]) (fun b o hb e => Heap.get?_push_of_some _ (Heap.get?_push_of_some _ ((Heap.get?_update_ne _ _ _ _ (fun z => hb (by simp [z]))).trans e))) fun b hb => by
      have e : b = D := by simpa using hb
      rw [e]; exact fa
  have gD : (((s1.heap.update D (Obj.mapSeq fun _ => (#[] : Array Value))).push (seqObj "tuple" its.toArray 0)).push (seqObj "list" #[] 0)).get? D = some (seqObj "list" #[] e1) := Heap.get?_push_of_some _ (Heap.get?_push_of_some _ ho1)
  have gk : (((s1.heap.update D (Obj.mapSeq fun _ => (#[] : Array Value))).push (seqObj "tuple" its.toArray 0)).push (seqObj "list" #[] 0)).get? (s1.heap.objs.size + 1) = some (seqObj "list" #[] 0) := by
    rw [← sz1]; exact Heap.get?_push_size _ rfl
  have hka : s1.heap.objs.size + 1 ≠ D := Nat.ne_of_gt (Nat.lt_succ_of_lt hD)
  show wpAny _ _ (ksk_rest D (.ref f) false its.toArray e1 (.ref ((s1.heap.update D (Obj.mapSeq fun _ => (#[] : Array Value))).push (seqObj "tuple" its.toArray 0)).objs.size)) _ _ { s1 with heap := ((s1.heap.update D (Obj.mapSeq fun _ => (#[] : Array Value))).push (seqObj "tuple" its.toArray 0)).push (seqObj "list" #[] 0) }
  rw [sz1]
  generalize s1.heap.objs.size + 1 = kS at fk gk hka ⊢
  generalize hs2 : ({ s1 with heap := ((s1.heap.update D (Obj.mapSeq fun _ => (#[] : Array Value))).push (seqObj "tuple" its.toArray 0)).push (seqObj "list" #[] 0) } : Shared) = s2 at I2 ⊢
  have h2 : ((s1.heap.update D (Obj.mapSeq fun _ => (#[] : Array Value))).push (seqObj "tuple" its.toArray 0)).push (seqObj "list" #[] 0) = s2.heap := by rw [← hs2]
  rw [h2] at gD gk
  have nfr : ∀ {b : Addr}, FpOk X pins H b → b ∉ frs X.stack := fun {b} f z => by
    rcases List.mem_cons.mp (I.stkSub _ z) with e | e
    · exact f.2.1 e
    · exact f.2.2.1 e
  have hr2 : Room (k + 1) X.A.in1.in1 := hr.in1.in1
  unfold ksk_rest
  refine wpAny_bind (wpAny_rule ?_)
  first
    | rw [List.forIn_toArray]
    | (rw [← Array.forIn_toList]; simp only [List.toList_toArray])
    | rw [← Array.forIn_toList]
  refine wpAny_bind (ksk_fold (fun i s' => ∃ (H' : Hp) (ks : List V) (kA : Array Value) (e : Nat), Inv X pins σ H' s' ∧ Go H h H' h ∧ Sim X.K H' h ∧ H' D = none ∧ H' kS = none ∧ s'.heap.get? kS = some (seqObj "list" kA e) ∧ s'.heap.get? D = some (seqObj "list" #[] e1) ∧ Vals ks kA.toList ∧ Rels X.K H' ((ps.take i).map kz) ks) its 0 s2
    ⟨H, [], #[], 0, I2, .refl, sh, fa.1, fk.1, gk, gD, .nil, .nil⟩ ?step ?done)
  case step =>
    rintro j u s' hx ⟨H', ks, kA, e, I', g, sh', na, nk, hk, ha, rk, rr⟩
    simp only [Nat.zero_add] at rr ⊢
    have hj : j < its.length := (List.getElem?_eq_some_iff.mp hx).1
    have lx : xs.length = its.length := rv.length
    have lp : ps.length = xs.length := rp.length
    obtain ⟨u', hu, ru⟩ := rv.get (List.getElem?_eq_getElem (show j < xs.length by omega))
    rw [hx] at hu
    cases hu
    have ep : ps[j]? = some ps[j] := List.getElem?_eq_getElem (by omega)
    obtain ⟨v', ev, rpv⟩ := rp.get ep
    rw [List.getElem?_eq_getElem (show j < xs.length by omega)] at ev
    cases ev
    have hp : ps[j] ∈ ps := List.getElem_mem _
    have lk : ks.length = kA.toList.length := rk.length
    have lr := rr.length
    rw [List.length_map, List.length_take] at lr
    refine wpAny_bind (wpAny_attempt (wpAny_mono (lam_call (Q' := fun v h2 => v = kz ps[j] ∧ h2 = h) (Q := fun y H2 => Rel X.K H2 (kz ps[j]) y ∧ Go H' h H2 h ∧ Sim X.K H2 h) B I' (L.mono g.mono) hr2 rfl hG ru (rpv.mono g.mono) sh' (hm _ hp) fun p1 h1 v1 H1 ⟨z1, z2⟩ g1 r1 s1 => by subst z1 z2; exact ⟨r1, g1, s1⟩) (fun v s'' he => ?_) fun _ _ hF => hF.elim))
    obtain ⟨y, H2, os, bare, un, hok, ry, rz, g2, sh2⟩ := he
    have I3 : Inv X pins σ H2 s'' := I'.call' (ch := []) os un hok bare fun b z => nomatch z
    have hk2 : s''.heap.get? kS = some (seqObj "list" kA e) := un.keep kS _ hk nk (nfr fk) (by simp)
    have ha2 : s''.heap.get? D = some (seqObj "list" #[] e1) := un.keep D _ ha na (nfr fa) (by simp)
    have nk2 : H2 kS = none := un.free kS _ hk nk (by simp)
    have na2 : H2 D = none := un.free D _ ha na (by simp)
    have sb := Heap.SameBut.update s''.heap kS (Obj.mapSeq (·.push v))
    obtain ⟨c2, hc2⟩ : ∃ c2, (s''.heap.update kS (Obj.mapSeq (·.push v))).get? kS = some (seqObj "list" (kA.push v) c2) := ⟨_, get?_update_seq hk2 (·.push v)⟩
    have kz2 : kA.size ≤ its.length := by
      have e9 : kA.toList.length = kA.size := Array.length_toList
      have : ks.length = kA.size := lk.trans e9
      have : ks.length ≤ j := by rw [← lr]; exact Nat.min_le_left _ _
      omega
    try dsimp only
    refine wpAny_bind (listUpdate_at hk2 rfl ?_ (Nat.le_trans kz2 hZ) (Nat.le_trans (Nat.le_of_eq (Array.size_push ..)) (Nat.succ_le_succ (Nat.le_trans kz2 hZ))))
    refine wpAny_pure ⟨rfl, H2, ks ++ [y], kA.push v, c2, I3.turnedL (t' := s''.toks) (ch := [kS]) (fun b o hb e => (sb.2 b (fun z => hb (by simp [z]))).trans e) (fun b hb => ?_), g.trans g2, sh2, na2, nk2, hc2, (sb.2 D hka.symm).trans ha2, ?_, ?_⟩
    · have e : b = kS := by simpa using hb
      rw [e]; exact ⟨nk2, fk.2⟩
    · have ea : (kA.push v).toList = kA.toList ++ [v] := by simp
      rw [ea]; exact rk.append (.cons ry .nil)
    · have et : ps.take (j + 1) = ps.take j ++ [ps[j]] := by rw [List.take_add_one, ep]; rfl
      rw [et, List.map_append]
      exact (rr.mono g2.mono).append (.cons rz .nil)
  case done =>
    rintro s' ⟨H', ks, kA, e, I', g, sh', na, nk, hk, ha, rk, rr⟩
    have lx : xs.length = its.length := rv.length
    have lp : ps.length = xs.length := rp.length
    rw [List.take_of_length_le (by omega)] at rr
    have lr := rr.length
    rw [List.length_map] at lr
    have lk : ks.length = kA.toList.length := rk.length
    have em : (ps.map kz).map toD = ps.map fun p => toD (kz p) := by rw [List.map_map]; rfl
    have e1z : (ks.zip ((ps.map kz).map toD)).map Prod.fst = ks := List.map_fst_zip (by rw [List.length_map, List.length_map]; omega)
    have e2z : (ks.zip ((ps.map kz).map toD)).map Prod.snd = ps.map fun p => toD (kz p) := by rw [List.map_snd_zip (by rw [List.length_map, List.length_map]; omega), em]
    obtain ⟨-, er⟩ := dp_each I' rfl (dps_zip hf rr) (by rw [e1z]; exact rk)
    have hk' : EachIs (fun v d => ∃ as, Reads s'.heap v d as) kA.toList (ps.map fun p => toD (kz p)) := by
      have := each_map (R := fun v d => ∃ as2, Reads s'.heap v d as2) Prod.snd er
      rwa [e2z] at this
    have hsz : kA.size = its.length := by
      have e9 : kA.toList.length = kA.size := Array.length_toList
      have : ks.length = kA.size := lk.trans e9
      omega
    try dsimp only
    refine wpAny_bind (listItems_at hk rfl ?_)
    have keep : ∀ b o, b ≠ kS → s'.heap.get? b = some o → (hidT s'.heap (fun b => if b = kS then some (.own 0) else none)).get? b = some o := fun b o hb e => hidT_get e (if_neg hb)
    refine keyH_end (κ := dataKind s'.heap (ps.map fun p => toD (kz p))) (h₁ := hidT s'.heap (fun b => if b = kS then some (.own 0) else none)) (fun b o _ e => (of_hidT e).1) ?_ hk ha hka (SortsAt.data (s := s') hk' hS.al hS.so fun d hd => ?_) hsz hZ fun h' tk c kp hD2 => ⟨rfl, ?_⟩
    · cases z : (hidT s'.heap (fun b => if b = kS then some (.own 0) else none)).get? kS with
      | none => rfl
      | some o =>
        have := (of_hidT z).2
        rw [if_pos rfl] at this
        cases this
    · have := hS.dp d hd
      have := hr.un
      show X.A.units + 2 + d.depth < cLine
      omega
    · have eo := keyedOut_each (rev := false) (R := fun u p => ∃ v, RelV v u ∧ Rel X.K H' p v) (fun p => toD (kz p)) ⟨s'.heap, kA.toList, hS.al, rfl, hk'⟩ (each_of_vals (rp.mono g.mono) rv)
      obtain ⟨xs', v1, v2⟩ := vals_of_each eo
      have I4 : Inv X pins σ H' { s' with heap := h', toks := tk } := I'.turnedL (t' := tk) (ch := [D, kS]) (fun b o hb e => by
        simp only [List.mem_cons, List.not_mem_nil, or_false, not_or] at hb
        exact kp b o hb.1 (keep b o hb.2 e)) fun b hb => by
        simp only [List.mem_cons, List.not_mem_nil, or_false] at hb
        rcases hb with rfl | rfl
        · exact ⟨na, fa.2⟩
        · exact ⟨nk, fk.2⟩
      have l1 := v2.length
      rw [List.length_mergeSort] at l1
      have I5 := I4.take (h' := h') (t' := tk) (it := D) (o := .lst xs') (fun _ _ _ e => e) ⟨na, fa.2⟩ ⟨by omega, _, c, v1, hD2⟩
      exact ⟨.ref D, _, I5, rfl, q H' D xs' g sh' na v2⟩
end
end N3

/-! list({row: True for row in rows}): rows, each once -/
namespace N3
open PySem PySem.Spec PyProof.Rows L2

abbrev TKind (P : Program) (w : World) : HeapKind P w (List Key) := tupleKind (mixKind P w)
/-- a dict whose keys are the tuples of xs, by their addresses -/
def dTO (P : Program) (w : World) (D : Addr) (xs : List (List Key × Addr × Value)) : HO := .ext fun h => (D == sysModules) = false ∧ ∃ o es ep, h.get? D = some o ∧ o.ExactDict ∧ o.data = .dict es ep ∧ es.toList = xs.map (entryOfKey (TKind P w)) ∧ (xs.map (·.1)).Nodup
section
variable {X : Cx} {pins : List (Addr × Obj)} {σ : L2.St} {H : Hp} {s : Shared}
theorem key_is (I : Inv X pins σ H s) {a : Addr} {ks : List Key} (h : SqT X.K H a (ks.map kV)) : (TKind X.prog X.w).is s.heap ks a := by
  obtain ⟨its, r, ⟨o, e, c, n, d⟩, _⟩ := I.tuple h
  exact ⟨o, its.toArray, n, e, c, d, by simpa using items_are r⟩
theorem dTO_ok {H' : Hp} {h : Heap} {D : Addr} {xs : List (List Key × Addr × Value)} (hD : (D == sysModules) = false) (d : h.DictOfH (TKind X.prog X.w) D xs) : ObjOk X.prog X.w H' h D (dTO X.prog X.w D xs) := by
  obtain ⟨o, es, ep, e1, e2, e3, e4, -, e6⟩ := d
  exact ⟨⟨hD, o, es, ep, e1, e2, e3, e4, e6⟩, ⟨o, e1⟩, fun h1 h2 ⟨z, o, es, ep, q1, q⟩ st => ⟨z, o, es, ep, st _ q1, q⟩⟩
theorem dTO_at (I : Inv X pins σ H s) {D : Addr} {xs : List (List Key × Addr × Value)} (hD : H D = some (dTO X.prog X.w D xs)) (hk : ∀ x ∈ xs, SqT X.K H x.2.1 (x.1.map kV)) : (D == sysModules) = false ∧ s.heap.DictOfH (TKind X.prog X.w) D xs := by
  obtain ⟨⟨z, o, es, ep, e1, e2, e3, e4, e6⟩, _⟩ := I.hok D _ hD
  exact ⟨z, o, es, ep, e1, e2, e3, e4, fun x hx => key_is I (hk x hx), e6⟩
theorem dT_set {E : Value → Shared → Prop} {D b : Addr} {xs : List (List Key × Addr × Value)} {k : List Key} {v : Value} {Q : Unit → Shared → Prop} (hu : X.A.units < cLine) (I : Inv X pins σ H s) (hD : H D = some (dTO X.prog X.w D xs)) (hk : ∀ x ∈ xs, SqT X.K H x.2.1 (x.1.map kV))
    (hb : SqT X.K H b (k.map kV)) (hz : xs.length ≤ sizeLine) (h : ∀ s', Inv X pins σ (upd H D (dTO X.prog X.w D (storedH xs k b v))) s' → Q () s') : wpAny (model X.prog X.w) X.A (dictSet D (.ref b) v) Q E s := by
  obtain ⟨hd, dd⟩ := dTO_at I hD hk
  refine wpAny_dictSet_heap hu (key_is I hb) dd (fun h' dd' hs => h _ ?_) hz
  have he : ∃ q, h'.get? D = some q := let ⟨q, _, _, hq, _⟩ := dd'; ⟨q, hq⟩
  exact d_write I (by rw [hD]; exact True.intro) hs he (dTO_ok hd dd')
end
section
variable {X : Cx}
/-- {x: True for x in iter}: D the new dict -/
def tDcT (P : Program) (w : World) (K : PySem.W.Frag) (wi : TI) : TE := fun σ H Q => wi σ H fun J H1 => ∀ D, H1 D = none → ∃ W : Nat → Nat → List (List Key × Addr × Value) → Hp → Prop, (∃ m, W 0 m [] (upd H1 D (dTO P w D []))) ∧ ∀ i m xs H, W i m xs H →
  (J.stop i H ∧ Q (.ref D) H) ∨ (J.go i H ∧ ∀ x H', J.yld i H x H' → ∃ (b : Addr) (k : List Key), x = .ref b ∧ SqT K H' b (k.map kV) ∧ H' D = some (dTO P w D xs) ∧ xs.length ≤ sizeLine ∧ (∀ y ∈ xs, SqT K H' y.2.1 (y.1.map kV)) ∧
    ∃ m', m' < m ∧ ∀ t : Tok, ∃ xs', xs' = storedH xs k b (.bool true) ∧ W (i + 1) m' xs' (upd H' D (dTO P w D xs')))
theorem pe_dcT {x : Str} {j k0 : Nat} {iter : Expr} {scope : Scope} {own : List (Str × Nat)} {pos p1 p2 p3 : Pos} {wi : TI} (hc : X.calm = true) (hN : X.N.Nodup) (hu : X.A.units < cLine) (hi : PI X (.Name x p1) iter wi) (ok : BlkOk X.N X.env.scope scope own) (hj : j ∈ own.map (·.2)) (hjN : j < X.N.length)
    (hg : ∀ (s : Shared) (H : Hp) (C : Addr) (cl : List (Str × Addr)) (fp : List Addr), PG (X.blk s H scope (compEnvC scope cl C X.env) fp) (.Name x p1) (gName j))
    (hk : ∀ (s : Shared) (H : Hp) (C : Addr) (cl : List (Str × Addr)) (fp : List Addr), PE (X.blk s H scope (compEnvC scope cl C X.env) fp) (.Name x p2) (tVar j)) (hs : ∀ x, foldedSetIterable iter X.env x = pure x) :
    PE X (.DictComp (.Name x p2) (.Constant (.bool true) k0 p3) [⟨.Name x p1, iter, [], 0⟩] scope pos) (tDcT X.prog X.w X.K wi) := by
  refine ⟨fun pins s σ H Q I h => ?_⟩
  rw [arm_eval_DictComp]
  have hfree : ∀ y ∈ scope.names, y.2 = .free → ∃ c, X.env.cells.lookup y.1 = some c := fun y hy e => by
    rcases ok.free y hy e with k | k
    · exact I.ok.has _ (.inl k)
    · exact I.ok.has _ (.inr k)
  refine wpAny_comprehension_free (use := none) rfl hs (closure_ok hfree) ok.kind (fun y hy e => by rw [ok.uniq y hy, e])
    (thn (hi.run pins s σ H _ I h) fun xv s1 hx => thn hx fun itv s2 h2 => ?_)
  obtain ⟨it, fp, tn, J, H2, e, I2, T, st2, f2, q⟩ := h2
  subst e
  refine wpAny_newObj_type (newEnv_comp ?_)
  generalize hD : s2.heap.objs.size = D
  have hDn : H2 D = none := I2.hok.fresh (Nat.le_of_eq hD)
  obtain ⟨W, ⟨m0, w0⟩, turn⟩ := q D hDn
  generalize hs3 : ({ s2 with heap := s2.heap.push { cls := .type "dict", data := .dict #[] } } : Shared) = s3
  have I3 : Inv X pins σ (upd H2 D (dTO X.prog X.w D [])) s3 := by
    rw [← hs3]
    refine I2.laid (t' := s2.toks) (fun b o e => Heap.get?_push_of_some _ e) (Nat.le_of_eq hD) ?_
    rw [← hD]
    refine dTO_ok ?_ (Heap.DictOfH.new s2.heap)
    exact beq_eq_false_iff_ne.mpr (Nat.ne_of_gt I2.big)
  have h3 : s3.heap = s2.heap.push { cls := .type "dict", data := .dict #[] } := by rw [← hs3]
  have sz : ∀ b ∈ fp, b < s2.heap.objs.size := fun b hb => by
    obtain ⟨o, e, _⟩ := T.obj _ _ st2 b hb
    exact Heap.lt_size e
  have f3 : ∀ b ∈ fp, FpOk X pins (upd H2 D (dTO X.prog X.w D [])) b ∧ b < s3.heap.objs.size := fun b hb => by
    have hlt := sz b hb
    refine ⟨⟨?_, (f2 b hb).2⟩, by rw [h3, Heap.size_push]; exact Nat.lt_succ_of_lt hlt⟩
    rw [upd_ne (by rw [← hD]; exact Nat.ne_of_lt hlt)]
    exact (f2 b hb).1
  have st3 : tn 0 s3.heap := T.keep _ _ _ st2 fun b _ o e => by rw [h3]; exact Heap.get?_push_of_some _ e
  have I4 := block_start I3 ok hN f3
  have pg := hg s3 (upd H2 D (dTO X.prog X.w D [])) s3.heap.objs.size (cellsFrom (s3.heap.objs.size + 1) scope.names (cloFrom X.env.cells scope.names [])) fp
  have pk := hk s3 (upd H2 D (dTO X.prog X.w D [])) s3.heap.objs.size (cellsFrom (s3.heap.objs.size + 1) scope.names (cloFrom X.env.cells scope.names [])) fp
  show codeAny _ _ (.compStart (.DictComp (.Name x p2) (.Constant (.bool true) k0 p3) [⟨.Name x p1, iter, [], 0⟩] scope pos) 0 (.ref it) (.ref D) (compEnvC scope (cellsFrom (s3.heap.objs.size + 1) scope.names (cloFrom X.env.cells scope.names [])) s3.heap.objs.size X.env)) (compPost (model X.prog X.w) X.A X.xe none (EP X pins σ Q) (.ref D) s3.heap.objs.size) { s3 with heap := pushCells (s3.heap.push { cls := .type "dict", data := .dict #[] }) scope.names }
  have nfp : ∀ b ∈ fp, (upd H2 D (dTO X.prog X.w D [])) b = none := fun b hb => (f3 b hb).1.1
  generalize hce : compEnvC scope (cellsFrom (s3.heap.objs.size + 1) scope.names (cloFrom X.env.cells scope.names [])) s3.heap.objs.size X.env = ce at I4 pg pk ⊢
  have cL : ce.locals = s3.heap.objs.size := by subst hce; rfl
  generalize hH3 : upd H2 D (dTO X.prog X.w D []) = H3 at I3 I4 pg pk w0 nfp f3
  generalize hs4 : ({ s3 with heap := pushCells (s3.heap.push { cls := .type "dict", data := .dict #[] }) scope.names } : Shared) = s4 at I4 ⊢
  have st4 : tn 0 s4.heap := T.keep _ _ _ st3 fun b _ o e => by rw [← hs4]; exact pushCells_keeps _ _ _ _ (Heap.get?_push_of_some _ e)
  have stat : ∀ {σ' : L2.St} {H' : Hp} {s' : Shared}, Inv (X.blk s3 H3 scope ce fp) [] σ' H' s' → (∀ b ∈ fp, H' b = none) → ∀ b ∈ fp, FpOk (X.blk s3 H3 scope ce fp) [] H' b := fun {σ' H' s'} I' hn b hb =>
    ⟨hn b hb, (I'.ok.exf b hb).1, I'.ok.exfs b hb, .inl hb, fun x c e => (I'.ok.exf b hb).2 x c e, fun p hp => absurd (show p ∈ ([] : List (Addr × Obj)) ++ [] from hp) (by simp)⟩
  have lσ : σ.length = X.N.length := I3.len
  have loop : codeAny (model X.prog X.w) X.A (.compLoop (.DictComp (.Name x p2) (.Constant (.bool true) k0 p3) [⟨.Name x p1, iter, [], 0⟩] scope pos) 0 (.ref it) (.ref D) ce) (compPost (model X.prog X.w) X.A X.xe none (EP X pins σ Q) (.ref D) s3.heap.objs.size) s4 := by
    refine compLoop_anyD (fun n s' => ∃ i xs H', Inv (X.blk s3 H3 scope ce fp) [] (wipe σ (own.map (·.2))) H' s' ∧ tn i s'.heap ∧ (∀ b ∈ fp, H' b = none) ∧ W i n xs H') ?_ m0 ⟨0, [], H3, I4, st4, nfp, w0⟩
    rintro n s5 ⟨i, xs, H5, I5, st5, n5, w5⟩
    rcases turn i n xs H5 w5 with ⟨stop, qq⟩ | ⟨go, step⟩
    · have td := T.done (X.blk s3 H3 scope ce fp) rfl rfl rfl hc i [] s5 _ H5 (fun _ _ => False) I5 (stat I5 n5) st5 stop
      refine thnF td fun r s6 ⟨hr, I6⟩ => ?_
      subst hr
      have I7 : Inv X pins σ H5 s6 := I3.call' (ch := fp) I6.os I6.base I6.hok I6.bare fun b hb => ⟨(f3 b hb).1.2.2.2.1, (f3 b hb).1.2.1, (f3 b hb).1.2.2.2.2.1, (f3 b hb).1.2.2.2.2.2⟩
      have nC : H5 s3.heap.objs.size = none := by
        have z : H5 ce.locals = none := I6.free
        rw [cL] at z
        exact z
      obtain ⟨m, hn, _⟩ := I6.loc
      have hn : s6.heap.Ns ce.locals m := hn
      rw [cL] at hn
      obtain ⟨f0, f1, f2, f3, f4, f5⟩ := I3.fpOk (Nat.le_refl _) nC
      exact ⟨m, hn, fun h'' sb => ⟨.ref D, H5, I7.turned (t' := s6.toks) (fun b o hb e => (sb.2 b hb).trans e) f0 f1 f3 f4 f5, rfl, qq⟩⟩
    · have ti := T.item (X.blk s3 H3 scope ce fp) rfl rfl rfl hc i [] s5 _ H5 (fun _ _ => False) I5 (stat I5 n5) st5 go
      refine thnF ti fun r s6 ⟨u, hr, h6⟩ => ?_
      subst hr
      refine thnF h6 fun _ s7 ⟨y, H7, I7, r7, y7, st7, n7⟩ => ?_
      obtain ⟨b, k, ey, hb, hD7, hz7, hk7, m', hm', w7⟩ := step y H7 y7
      subst ey
      obtain rfl : u = Value.ref b := r7
      have I7' := I7.pinned (stat I7 n7) (T.obj _ _ st7)
      refine thnF (pg.run _ s7 _ H7 (.ref b) _ (fun σ8 H8 => σ8 = (wipe σ (own.map (·.2))).set j (some (.ref b)) ∧ H7 = H8) I7' rfl ⟨rfl, rfl⟩) fun _ s8 ⟨σ8, H8, I8, e8, e8'⟩ => ?_
      subst e8 e8'
      rw [List.forIn_nil]
      refine wpAny_pure ?_
      simp only [if_true]
      have hl8 : j < (wipe σ (own.map (·.2))).length := by rw [wipe_length, lσ]; exact hjN
      refine thnF (pk.run _ s8 _ H7 (fun v H9 => v = .ref b ∧ H7 = H9) I8 ⟨.ref b, by rw [List.getElem?_set_self hl8], rfl, rfl⟩) fun z s9 ⟨yk, H9, I9, r9, q9, q9'⟩ => ?_
      subst q9 q9'
      obtain rfl : z = Value.ref b := r9
      refine thnF ((pe_bl (X := X.blk s3 H3 scope ce fp) (b := true) (pos := p3)).run _ s9 _ H7 (fun v H9 => v = .bl true ∧ H7 = H9) I9 ⟨rfl, rfl⟩) fun z2 s10 ⟨yv, H10, I10, r10, q10, q10'⟩ => ?_
      subst q10 q10'
      obtain rfl : z2 = Value.bool true := r10
      refine dT_set (X := X.blk s3 H3 scope ce fp) hu I10 hD7 hk7 hb hz7 fun s11 I11 => ?_
      obtain ⟨xs', ex, w8⟩ := w7 0
      subst ex
      have pin' : ∀ b ∈ fp, ∀ o, s7.heap.get? b = some o → s11.heap.get? b = some o ∧ _ = none := fun b hb o e =>
        let z := I11.pin (b, o) (List.mem_append_right _ (List.mem_append_right _ (mem_pinsAt hb e)))
        ⟨z.1, z.2.1⟩
      refine ⟨m', hm', i + 1, _, _, (I11.unpinned (pins := [])).weak (by rw [List.length_set]) (fun a v e => ?_), T.keep _ _ _ st7 fun b hb o e => (pin' b hb o e).1, fun b hb => ?_, w8⟩
      · obtain ⟨e1, e2⟩ := wipe_some (vs := own.map (·.2)) (σ := σ) e
        rw [List.getElem?_set_ne (fun z => e2 (by rw [← z]; exact hj))]
        exact e
      · obtain ⟨o, e, _⟩ := T.obj _ _ st7 b hb
        exact (pin' b hb o e).2
  exact codeAny_compStart_dict loop (T.self X.A 0 _ _ _ st4 loop)
end
end N3

/-! list({row: True for row in rows}), sorted(.., key=lambda row: ..) as rules -/
namespace N3
open PySem PySem.Spec PyProof.Rows L2 LamX

/-! ### rows, each once -/
def hasR (k : List Key) (acc : List (List Key)) : Bool := acc.any fun x => decide (x = k)
theorem hasR_iff {k : List Key} {acc : List (List Key)} : hasR k acc = true ↔ k ∈ acc := by
  unfold hasR
  rw [List.any_eq_true]
  exact ⟨fun ⟨x, hx, e⟩ => by rw [← of_decide_eq_true e]; exact hx, fun h => ⟨k, h, decide_eq_true rfl⟩⟩
def dedA (acc : List (List Key)) : List (List Key) → List (List Key)
  | [] => acc
  | k :: ks => dedA (if hasR k acc = true then acc else acc ++ [k]) ks
abbrev ded (ks : List (List Key)) : List (List Key) := dedA [] ks
theorem dedA_snoc (k : List Key) : ∀ (l acc : List (List Key)), dedA acc (l ++ [k]) = if hasR k (dedA acc l) = true then dedA acc l else dedA acc l ++ [k]
  | [], acc => rfl
  | x :: l, acc => by rw [List.cons_append]; unfold dedA; exact dedA_snoc k l _
def rowT (k : List Key) : PV := .tup (k.map kP)
theorem kPs_rel {K : PySem.W.Frag} {H : Hp} : ∀ k : List Key, Rels K H (k.map kP) (k.map kV)
  | [] => .nil
  | k :: ks => .cons (kP_rel k) (kPs_rel ks)
theorem kP_one {K : PySem.W.Frag} {H : Hp} {k : Key} {v : V} (r : Rel K H (kP k) v) : v = kV k := by
  cases k with
  | inl i => exact rel_int.mp r
  | inr x => exact rel_str.mp r
theorem kPs_one {K : PySem.W.Frag} {H : Hp} : ∀ {k : List Key} {xs : List V}, Rels K H (k.map kP) xs → xs = k.map kV
  | [], xs, r => by rw [List.map_nil, Rels.nil_iff] at r; exact r
  | k :: ks, xs, r => by
    rw [List.map_cons] at r
    obtain ⟨v, vs, rfl, h1, t⟩ := r.uncons
    rw [kP_one h1, kPs_one t]; rfl
theorem rowT_rel {K : PySem.W.Frag} {H : Hp} {k : List Key} {v : V} (r : Rel K H (rowT k) v) : ∃ b, v = .ref b ∧ SqT K H b (k.map kV) := by
  obtain ⟨a, xs, e, sq, rr⟩ := rel_tup.mp r
  rw [kPs_one rr] at sq
  exact ⟨a, e, sq⟩
theorem rowT_of {K : PySem.W.Frag} {H : Hp} {k : List Key} {b : Addr} (sq : SqT K H b (k.map kV)) : Rel K H (rowT k) (.ref b) := rel_tup.mpr ⟨b, _, rfl, sq, kPs_rel k⟩
section
variable {xs : List (List Key × Addr × Value)} {k : List Key} {b : Addr} {v : Value}
theorem stored_keys : (storedH xs k b v).map (·.1) = if hasR k (xs.map (·.1)) = true then xs.map (·.1) else xs.map (·.1) ++ [k] := by
  cases e : atKey xs k with
  | none =>
    have hn : k ∉ xs.map (·.1) := fun z => by
      obtain ⟨x, hx, hk⟩ := List.mem_map.mp z
      unfold atKey at e
      have := List.find?_eq_none.mp (Option.map_eq_none_iff.mp e) x hx
      simp [hk] at this
    rw [storedH_new e, if_neg (fun z => hn (hasR_iff.mp z)), List.map_append]; rfl
  | some p =>
    have hm : k ∈ xs.map (·.1) := by
      unfold atKey at e
      obtain ⟨x, hx, -⟩ := Option.map_eq_some_iff.mp e
      exact List.mem_map.mpr ⟨x, List.mem_of_find?_eq_some hx, by simpa using List.find?_some hx⟩
    rw [storedH_old e, if_pos (hasR_iff.mpr hm), List.map_map]
    refine List.map_congr_left fun x _ => ?_
    show (putAt k v x).1 = x.1
    unfold putAt
    split <;> rfl
theorem stored_mem {x : List Key × Addr × Value} (h : x ∈ storedH xs k b v) : (∃ y ∈ xs, y.1 = x.1 ∧ y.2.1 = x.2.1) ∨ (x.1 = k ∧ x.2.1 = b) := by
  cases e : atKey xs k with
  | none =>
    rw [storedH_new e] at h
    rcases List.mem_append.mp h with h | h
    · exact .inl ⟨x, h, rfl, rfl⟩
    · rw [List.mem_singleton] at h; subst h; exact .inr ⟨rfl, rfl⟩
  | some p =>
    rw [storedH_old e] at h
    obtain ⟨y, hy, rfl⟩ := List.mem_map.mp h
    refine .inl ⟨y, hy, ?_⟩
    unfold putAt
    split <;> exact ⟨rfl, rfl⟩
theorem stored_len : (storedH xs k b v).length ≤ xs.length + 1 := by
  have e := congrArg List.length (stored_keys (xs := xs) (k := k) (b := b) (v := v))
  rw [List.length_map] at e
  rw [e]
  split
  · rw [List.length_map]; omega
  · rw [List.length_append, List.length_map]; simp
end
theorem sqT_mono {K : PySem.W.Frag} {H H' : Hp} {a : Addr} {xs : List V} (h : SqT K H a xs) (m : Mono H H') : SqT K H' a xs :=
  h.elim (fun h => .inl (h.elim (fun h => .inl (m.t _ _ h)) fun ⟨o, h⟩ => .inr ⟨o, m.f _ _ _ h⟩)) fun h => .inr h
theorem Mono.dTO {P : Program} {w : World} {H : Hp} {D : Addr} {xs : List (List Key × Addr × Value)} {u : HO} (e : H D = some (dTO P w D xs)) : Mono H (upd H D u) :=
  ⟨fun b ys h => by rw [upd_ne (fun z => by rw [z, e] at h; cases h)]; exact h, fun b o w h => by rw [upd_ne (fun z => by rw [z, e] at h; cases h)]; exact h⟩
section
variable {X : Cx}
theorem cr_listT (hc : X.calm = true) : CallR X (.type "list") (fun xs H Q => ∃ (D : Addr) (ds : List (List Key × Addr × Value)), xs = [V.ref D] ∧ H D = some (dTO X.prog X.w D ds) ∧ ds.length ≤ sizeLine ∧ ∀ p, H p = none → Q (.ref p) (upd H p (.lst (ds.map fun x => V.ref x.2.1)))) := by
  intro pins s σ H xs us Q I r h
  obtain ⟨d, ks, rfl, hd, hz, q⟩ := h
  obtain ⟨u, rfl, rx⟩ := r.one
  cases rx
  obtain ⟨⟨hs, o, es, ep, ho, hx, hdt, he, hn⟩, _⟩ := I.hok d _ hd
  have l1 : es.size = ks.length := size_of_entries he
  refine PySem.W.kdl_call (kdl_raw hs hx hdt) (I.ok.hd hc) ho (by omega) fun h' tk acc' c' kp e it => ?_
  have ea : acc'.toList = ks.map fun x => Value.ref x.2.1 := by
    have hl : acc'.toList.length = ks.length := by rw [Array.length_toList, it.1]; exact l1
    apply List.ext_getElem?
    intro j
    rw [List.getElem?_map]
    cases hj : acc'.toList[j]? with
    | none =>
      have h1 := List.getElem?_eq_none_iff.mp hj
      rw [List.getElem?_eq_none (by omega)]
      all_goals rfl
    | some v =>
      obtain ⟨en, hen, hv⟩ := it.2 j v (by rw [← Array.getElem?_toList]; exact hj)
      have qe := entry_at he j
      rw [hen] at qe
      cases hb : ks[j]? with
      | none =>
        rw [hb] at qe
        exact nomatch (show some en = none from qe)
      | some b =>
        rw [hb] at qe
        have e2 : en = entryOfKey (TKind X.prog X.w) b := Option.some.inj qe
        rw [hv, e2]
        all_goals rfl
  have eb : acc'.toList = (ks.map fun x => x.2.1).map Value.ref := by rw [ea, List.map_map]; all_goals rfl
  have ev : (ks.map fun x => V.ref x.2.1) = (ks.map fun x => x.2.1).map V.ref := by rw [List.map_map]; all_goals rfl
  have rv : Vals (ks.map fun x => V.ref x.2.1) acc'.toList := by rw [eb, ev]; exact vals_refs _
  refine ⟨.ref s.heap.objs.size, _, I.laid (t' := tk) (o := .lst (ks.map fun x => V.ref x.2.1)) kp (Nat.le_refl _) ?_, rfl, q _ (I.hok.fresh (Nat.le_refl _))⟩
  exact ⟨by rw [List.length_map]; exact hz, acc'.toList, c', rv, by rw [Array.toArray_toList]; exact e⟩
def mDedL (mi : MI) : ME := fun τ h Q => mi τ h fun ps gd h1 => gd h1 ∧ ∃ rows : List (List Key), ps = rows.map rowT ∧ Q (.lst ((ded rows).map rowT)) h1
theorem rows_rel {K : PySem.W.Frag} {H : Hp} : ∀ {ds : List (List Key × Addr × Value)}, (∀ y ∈ ds, SqT K H y.2.1 (y.1.map kV)) → Rels K H ((ds.map (·.1)).map rowT) (ds.map fun x => V.ref x.2.1)
  | [], _ => .nil
  | d :: ds, h => .cons (rowT_of (h d List.mem_cons_self)) (rows_rel fun y hy => h y (List.mem_cons_of_mem _ hy))
theorem le_dedL {x : Str} {j k0 : Nat} {iter : Expr} {scope : Scope} {pos p cpos p1 p2 p3 : Pos} {mi : MI} (own : List (Str × Nat)) (hm : X.mg "list" = none) (hc : X.calm = true) (hN : X.N.Nodup) (hu : X.A.units < cLine) (hi : LI X (.Name x p1) iter mi) (ok : BlkOk X.N X.env.scope scope own) (hj : j ∈ own.map (·.2)) (hjN : j < X.N.length)
    (hg : ∀ (s : Shared) (H : Hp) (C : Addr) (cl : List (Str × Addr)) (fp : List Addr), PG (X.blk s H scope (compEnvC scope cl C X.env) fp) (.Name x p1) (gName j))
    (hk : ∀ (s : Shared) (H : Hp) (C : Addr) (cl : List (Str × Addr)) (fp : List Addr), PE (X.blk s H scope (compEnvC scope cl C X.env) fp) (.Name x p2) (tVar j)) (hs : ∀ x, foldedSetIterable iter X.env x = pure x := by intro _; rfl) (hgl : Gl X "list" := by rfl)
    (h1 : starEach [.DictComp (.Name x p2) (.Constant (.bool true) k0 p3) [⟨.Name x p1, iter, [], 0⟩] scope cpos] X.env = (false, eval (.DictComp (.Name x p2) (.Constant (.bool true) k0 p3) [⟨.Name x p1, iter, [], 0⟩] scope cpos) X.env) :: starEach [] X.env := by rfl) :
    LE X (.Call (.Name "list" p) [.DictComp (.Name x p2) (.Constant (.bool true) k0 p3) [⟨.Name x p1, iter, [], 0⟩] scope cpos] [] pos) (mDedL mi) := by
  refine PE.weak (PE.kp (pe_callTy (cr_listT hc) hgl hm (by decide +kernel) (pa_cons (pe_dcT hc hN hu hi ok hj hjN hg hk hs) pa_nil h1) (by decide) (by decide) h1 rfl)) fun σ H Q ⟨τ, h, Q', s, sh, q, l⟩ => ?_
  refine ⟨τ, h, _, s, sh, q, fun ps gd h1 H1 J q1 g1 s1 wk D hD => ?_⟩
  obtain ⟨hgd, rows, rfl, q1⟩ := q1
  have hD1 : h1 D = none := s1.fresh hD
  have few := wk.few
  rw [List.length_map] at few
  refine ⟨fun i n xs H2 => i ≤ rows.length ∧ n = rows.length - i ∧ Go H1 h1 H2 h1 ∧ Sim X.K H2 h1 ∧ H2 D = some (dTO X.prog X.w D xs) ∧ xs.length ≤ i ∧ (∀ y ∈ xs, SqT X.K H2 y.2.1 (y.1.map kV)) ∧ xs.map (·.1) = ded (rows.take i),
    ⟨rows.length, Nat.zero_le _, rfl, .new hD, s1.new hD, upd_same, Nat.le_refl _, fun y hy => (List.not_mem_nil hy).elim, rfl⟩, ?_⟩
  rintro i n xs H2 ⟨hi, rfl, g, sh2, hx, hl, hk2, ek⟩
  by_cases hlt : i < rows.length
  · refine .inr ⟨wk.goes i H2 h1 (by rw [List.length_map]; exact hlt) g.mono sh2 hgd, fun y H3 yy => ?_⟩
    obtain ⟨g2, sh3, ry⟩ := wk.yields i H2 h1 y H3 (rowT rows[i]) (by rw [List.getElem?_map, List.getElem?_eq_getElem hlt]; rfl) g.mono sh2 hgd yy
    obtain ⟨b, ey, sq⟩ := rowT_rel ry
    have hx3 : H3 D = some (dTO X.prog X.w D xs) := g2.frame D _ hx hD1
    have hk3 : ∀ y ∈ xs, SqT X.K H3 y.2.1 (y.1.map kV) := fun y hy => sqT_mono (hk2 y hy) g2.mono
    refine ⟨b, rows[i], ey, sq, hx3, by omega, hk3, rows.length - (i + 1), by omega, fun t => ⟨_, rfl, hlt, rfl, ?_, ?_, upd_same, ?_, ?_, ?_⟩⟩
    · exact (g.trans g2).renew hD (Mono.dTO hx3)
    · exact sh3.drop (Mono.dTO hx3) hD1
    · have := stored_len (xs := xs) (k := rows[i]) (b := b) (v := .bool true); omega
    · intro z hz
      rcases stored_mem hz with ⟨y, hy, e1, e2⟩ | ⟨e1, e2⟩
      · rw [← e1, ← e2]; exact sqT_mono (hk3 y hy) (Mono.dTO hx3)
      · rw [e1, e2]; exact sqT_mono sq (Mono.dTO hx3)
    · have et : rows.take (i + 1) = rows.take i ++ [rows[i]] := by rw [List.take_add_one, List.getElem?_eq_getElem hlt]; rfl
      rw [stored_keys, ek, et]
      exact (dedA_snoc rows[i] (rows.take i) []).symm
  · have e : i = rows.length := by omega
    subst e
    rw [List.take_length] at ek
    refine .inl ⟨by have := wk.stops H2 h1 g.mono sh2 hgd; rwa [List.length_map] at this, D, xs, rfl, hx, by omega, fun p' hp => ?_⟩
    exact keep_l (l.mono (g1.trans g)) sh2 (by rw [← ek]; exact rows_rel hk2) q1 hp
theorem hu0 {k : Nat} (hr : Room k X.A) : X.A.units < cLine := by have := hr.un; omega
/-! ### sorted by a lambda -/
def mSortLam (P : Addr) (q : Str) (me mb : ME) : ME := fun τ h Q => me τ h fun p h1 => match seqL h1 p with
  | some ps => h1 P = some (.tab q) ∧ ∃ kz : PV → PV, (∀ p ∈ ps, mb [some p] h1 (fun v h2 => v = kz p ∧ h2 = h1)) ∧ flats (ps.map kz) = true ∧ Srtb (ps.map fun p => toD (kz p)) ∧ Q (.lst (ps.mergeSort (PySem.W.dataLe false fun p => toD (kz p)))) h1
  | none => False
theorem le_sortLam {k : Nat} {P c : Addr} {q a : Str} {e body : Expr} {params : Arguments} {scope : Scope} {p lpos kpos pos : Pos} {me mb : ME} (B : LamB X.prog X.w X.K X.mg X.base k q a params scope body mb) (TB : TabB X.base X.mg c P) (hcode : X.env.code = .ref c) (eq : X.env.qual ++ "<lambda>" = q)
    (hfree : ∀ y ∈ scope.names, y.2 ≠ .free) (hclo : cloFrom X.env.cells scope.names [] = []) (hdef : defaultsOf params X.env = ([], [])) (hr : Room (k + 3) X.A) (hG : X.A.guards = some []) (hm : X.mg "sorted" = none) (he : LE X e me) (hg : Gl X "sorted" := by rfl)
    (hs : starEach [e] X.env = (false, eval e X.env) :: starEach [] X.env := by rfl) :
    LE X (.Call (.Name "sorted" p) [e] [⟨some "key", .Lambda params body scope lpos, kpos⟩] pos) (mSortLam P q me mb) := by
  refine PE.weak (PE.kp (pe_callBK (cr_sortLam B hr hG) hg hm (by decide +kernel) (pa_cons he pa_nil hs) (pk_cons (pe_lam TB hcode eq hfree hclo hdef) pk_nil) (by decide) (by decide) (by rw [hs]; rfl) (by rw [hs]; rfl) rfl rfl rfl)) fun σ H Q ⟨τ, h, Q', s, sh, q1, l⟩ => ?_
  refine ⟨τ, h, _, s, sh, q1, fun p1 h1 v H1 q2 g1 r1 s1 => ?_⟩
  cases e1 : seqL h1 p1 with
  | none => rw [e1] at q2; exact q2.elim
  | some ps =>
    rw [e1] at q2
    obtain ⟨hP, kz, hb, hf, hS, q2⟩ := q2
    obtain ⟨l1, xs, rfl, sq, rr⟩ := seqL_sq r1 s1 e1
    obtain ⟨u, eu, tps, rfl, tok⟩ := s1 P _ hP
    refine ⟨tps, eu, tok, fun f H2 N => ?_⟩
    have m2 : Mono H1 H2 := ⟨fun b ys z => N.old b _ (fun y => by rw [y, eu] at z; cases z) z, fun b o w z => N.old b _ (fun y => by rw [y, eu] at z; cases z) z⟩
    have g2 : Go H1 h1 H2 h1 := ⟨m2, fun b w z n => N.old b _ (fun y => by rw [y, hP] at n; cases n) z, fun _ _ _ n => n, N.live⟩
    have s2 : Sim X.K H2 h1 := fun b o z => by
      by_cases hb : b = P
      · subst hb
        rw [hP] at z; cases z
        obtain ⟨ps2, t1, t2⟩ := N.tab
        exact ⟨_, t1, ps2, rfl, t2⟩
      · obtain ⟨w, z1, z2⟩ := s1 b o z
        exact ⟨w, N.old b _ hb z1, z2.mono m2⟩
    have sq2 : SqL X.K H2 l1 xs := sq.elim (fun z => .inl (z.elim (fun z => .inl (N.old _ _ (fun y => by rw [y, eu] at z; cases z) z)) fun ⟨o, z⟩ => .inr ⟨o, m2.f _ _ _ z⟩)) fun z => .inr z
    exact ⟨l1, f, xs, ps, h1, kz, rfl, rfl, sq2, N.fn, s2, rr.mono m2, hb, hf, hS, fun H' D xs' g' sh' nD r' => keep_l (l.mono (g1.trans (g2.trans g'))) sh' r' q2 nD⟩
end
end N3

/-! a def whose code object is known; a law whose program has a table of code objects -/
namespace N3
open PySem PySem.Spec PyProof.Rows L2 LamX

section
variable {P : Program} {w : World} {K : PySem.W.Frag} {mg : Str → Option Value} {base : Heap}
/-- fn_ok of a def whose code object stands at c -/
theorem fn_okC {x qual : Str} {st : Stmt} {f c : Addr} {fd : FuncData} {N ps : List Str} {k : Nat} {sp : SpP} {m : MS} (F : Fun K x qual st f fd) (hcd0 : fd.code = .ref c) (S : FnScope N ps (defScope st))
    (hb : ∀ (A : Around) (outer : List Env) (s : Shared) (H : Hp) (E : XK), Room k (A.deeper (envOfC qual (defScope st) s.heap.objs.size f (.ref c))) → A.guards = some [] →
      LSs (cxOf CX0 P w K mg base N qual (defScope st) f (.ref c) A outer s H E).nox (defBody st) m)
    (hm : ∀ qs h Q, qs.length = ps.length → sp qs h Q → m (ends Q) (sp0 N.length qs) h) : FnG P w K mg base (k + 1) f fd ps sp := by
  obtain ⟨oc, od, kV, doc, pm, an, cdv, ct, osl, rfl, lk, hcd⟩ := F.ex
  have ec : cdv = .ref c := hcd0
  subst ec
  have hN : ps.length ≤ N.length := by
    have e := congrArg List.length S.pre
    rw [List.length_take] at e; omega
  refine ⟨fun A outer s H args us vs Q hr hG e0 hbi r ⟨qs, h, Q', hl, rr, sh, q, l⟩ => ?_⟩
  have lv : vs.length = ps.length := by rw [← rr.length, hl]
  have KX : K.In s.heap := e0.mod.kin.keeps fun b o e => (e0.bs b o e).1
  have hkind : ∀ y ∈ ps.zip us, (defScope st).names.lookup y.1 = some .local ∨ ((defScope st).names.lookup y.1 = some .cell ∧ ((cellsFrom (s.heap.objs.size + 1) (defScope st).names []).lookup y.1).isSome = true) := fun ⟨n, v⟩ hy =>
    (S.par n (List.of_mem_zip hy).1).imp id fun z => ⟨z, PySem.W.cellsFrom_some _ _ _ (.inl z)⟩
  refine codeAny_call_function hr.depth (KX _ _ lk) rfl S.co S.gen rfl (PySem.W.codeRec_of KX hcd) (hbi _ _ _ _ (wpAny_newFunctionEnv_cells S.kind hkind fun env he s1 x => ?_))
  subst he
  refine ⟨(e0.mod.nolimit.keeps fun b o e => (e0.bs b o e).1).keeps x.toInCall.keep, codeAny_func ?_⟩
  have I : Inv (cxOf CX0 P w K mg base N qual (defScope st) f (.ref c) A outer s H E0) [] (L2.start N vs) H s1 := inv_start S hr.hd e0 lv r x
  have hrun := (hb A outer s H E0 (hr.deeper _) hG).nox.run [] s1 (L2.start N vs) H { nx := fun _ H' => Q .non H', rt := Q } I
    ⟨sp0 N.length qs, h, ends Q', simS_start rr (by omega), sh, hm qs h Q' hl q, fun τ h1 σ H1 q1 g1 s1 sh1 => l _ _ _ _ q1 g1 (by simp only [Rel]) sh1, l, fun _ _ _ _ z => z.elim, fun _ _ _ _ z => z.elim⟩
  refine wpAny_mono hrun (fun fl s' hs => ?_) fun e s' hs => hs
  have fin : ∀ {σ' : L2.St} {H' : Hp} {v : V} {u : Value}, Inv (cxOf CX0 P w K mg base N qual (defScope st) f (.ref c) A outer s H E0) [] σ' H' s' → RelV v u → Q v H' → CE outer P w H s Q u s' :=
    fun {σ' H' v u} J rv z => ⟨v, H', J.os, J.bare, J.base, J.hok, rv, z⟩
  cases fl with
  | ret u => obtain ⟨v, σ', H', J, rv, z⟩ := hs; exact fin J rv z
  | next => obtain ⟨σ', H', J, z⟩ := hs; exact fin (v := V.non) (u := Value.none) J rfl z
  | brk => obtain ⟨_, _, _, z⟩ := hs; exact False.elim z
  | cont => obtain ⟨_, _, _, z⟩ := hs; exact False.elim z
end
/-! ### the law's own call -/
/-- the store that a law begins with: a table of code objects of the name q at T -/
def tabH (T : Addr) (q : Str) : PH := fun b => if b = T then some (.tab q) else none
theorem tabH_at {T : Addr} {q : Str} : tabH T q T = some (.tab q) := if_pos rfl
theorem tabH_ne {T b : Addr} {q : Str} (e : b ≠ T) : tabH T q b = none := if_neg e
def spLawT (T : Addr) (q : Str) (n : Nat) : SpP := fun ps h Q => ∃ ns : List Int, ps = [.lst (ns.map PV.int)] ∧ ns.length ≤ n ∧ (∀ z ∈ ns, Builtin.Int.intBits z ≤ 1048576) ∧ h = tabH T q ∧ ∀ h', Q (.bl true) h'
theorem tabOk_nil {H : Hp} {q : Str} : TabOk H q #[] := ⟨True.intro, fun pos cv e => by
  have z : codeAmong pos [] = some cv := e
  simp [codeAmong] at z⟩
theorem call_of_lawT {P : Program} {w : World} {K : PySem.W.Frag} {mg mb : Str → Option Value} {k n : Nat} {fa a c T : Addr} {q : Str} {fd : FuncData} {x : Str} {s1 : Shared} {vs : List Value} {ns : List Int}
    (KX : K.In s1.heap) (hns : s1.heap.Ns mainGlobals mg) (hb : s1.heap.Ns builtinsNs mb) (hbb : ∀ x : Str, x ≠ "__name__" → mb x = bootBuiltins x) (hlim : s1.heap.NoLimit) (hg : s1.gens = #[])
    (hT : s1.heap.get? T = some (PySem.W.tabObj #[])) (nT : K.lookup T = none) (C : PySem.W.CodeHd s1.heap c T)
    (hbm : ∃ (bm : Addr) (ob : Obj), mg "__builtins__" = some (.ref bm) ∧ bm ≠ builtinsNs ∧ s1.heap.get? bm = some ob ∧ ob.cls = .type "module" ∧ ob.dict = some builtinsNs ∧ ob.data = .plain)
    (ha : s1.heap.get? a = some { cls := .type "list", data := .seq vs.toArray }) (hi : IntsAre vs ns) (hl : ns.length ≤ n) (hn : n ≤ sizeLine) (hbits : ∀ z ∈ ns, Builtin.Int.intBits z ≤ 1048576) (hr : Room k callerA)
    (F : ∀ base : Heap, K.In base → base.Ns mainGlobals mg → TabB base mg c T → FnG P w K mg base k fa fd [x] (spLawT T q n)) (hbind : ∀ (s : Shared) (u : Value), BindsTo s fd ⟨[u], []⟩ [(x, u)]) :
    codeAny (model P w) callerA (.call (.ref fa) ⟨[.ref a], []⟩) (fun r s' => r = .ok (.ret (.bool true)) ∧ OldK s1.heap s'.heap ∧ s'.os = s1.os ∧ AllBare s'.gens) s1 := by
  have rv := vals_ints hi
  have lenV := hi.length
  have lz : ns.length ≤ sizeLine := Nat.le_trans hl hn
  have naT : a ≠ T := fun z => by rw [z, hT] at ha; cases ha
  have main : ∀ H : Hp, H T = some (.tbl #[]) → (∀ b u, b ≠ T → H b = some u → b = a ∧ ∃ o xs, u = .frz o (.lst xs)) → FrL K H a (ns.map V.int) → HOk P w H s1.heap → (H a ≠ none → K.lookup a = none) →
      codeAny (model P w) callerA (.call (.ref fa) ⟨[.ref a], []⟩) (fun r s' => r = .ok (.ret (.bool true)) ∧ OldK s1.heap s'.heap ∧ s'.os = s1.os ∧ AllBare s'.gens) s1 := by
    intro H atT only fr hok hK
    have off : ∀ {b : Addr}, b ≠ a → b ≠ T → H b = none := fun {b} hb hb2 => by
      cases z : H b with
      | none => rfl
      | some u => exact absurd (only b u hb2 z).1 hb
    have gone : ∀ {b : Addr} {o : Obj}, s1.heap.get? b = some o → (∀ vs n, o.data ≠ .seq vs n) → o.data ≠ .fields #[] → H b = none := fun {b o} e h1 h2 => by
      refine off (fun z => ?_) fun z => ?_
      · rw [z, ha] at e; cases e; exact h1 _ _ rfl
      · rw [z, hT] at e; cases e; exact h2 rfl
    have dictN : ∀ {b : Addr} {o : Obj} {es : Array DictEntry} {ep : Nat}, s1.heap.get? b = some o → o.data = .dict es ep → H b = none := fun {b o es ep} e d =>
      gone e (fun vs n z => by rw [d] at z; cases z) fun z => by rw [d] at z; cases z
    have nsB : ∀ {b : Addr} {m : Str → Option Value}, s1.heap.Ns b m → (hidT s1.heap H).Ns b m := fun {b m} ⟨o, es, ep, e, d, r⟩ => ⟨o, es, ep, hidT_get e (dictN e d), d, r⟩
    have kB : K.In (hidT s1.heap H) := fun b o e => by
      refine hidT_get (KX b o e) ?_
      by_cases hb : b = a
      · subst hb
        cases z : H b with
        | none => rfl
        | some u => rw [hK (by rw [z]; exact fun y => nomatch y)] at e; cases e
      · exact off hb fun z => by rw [z, nT] at e; cases e
    have TB : TabB (hidT s1.heap H) mg c T := by
      refine ⟨?_, ?_, fun z => ?_⟩
      · obtain ⟨o, us, file, tf, flags, tg, inF, text, tt, e1, r1, r2, r3, r⟩ := C
        refine ⟨o, us, file, tf, flags, tg, inF, text, tt, hidT_get e1 (gone e1 (fun vs n z => by rw [r2] at z; cases z) fun z => ?_), r1, r2, r3, r⟩
        rw [r2] at z
        cases z
        simp at r3
      · obtain ⟨bm, ob, b1, b2, b3, b4, b5, b6⟩ := hbm
        have nG : bm ≠ mainGlobals := fun y => by
          obtain ⟨o, es, ep, e, hd, _⟩ := hns
          rw [y, e] at b3; cases b3
          rw [hd] at b6; cases b6
        have nP : bm ≠ T := fun y => by
          rw [y, hT] at b3; cases b3
          cases b6
        exact ⟨bm, ob, b1, b2, nG, nP, hidT_get b3 (gone b3 (fun vs n z => by rw [b6] at z; cases z) fun z => by rw [b6] at z; cases z), b4, b5, b6⟩
      · obtain ⟨o, es, ep, e, hd, _⟩ := hns
        rw [z, hT] at e; cases e
        cases hd
    obtain ⟨mc, lim1, lim2⟩ := hlim
    have e0 : Env0 P w K mg (hidT s1.heap H) callerA [] s1 H :=
      ⟨rfl, ⟨kB, nsB hns, ⟨mb, nsB hb, hbb⟩, ⟨mc, nsB lim1, lim2⟩⟩, fun b o e => of_hidT e, Nat.le_of_eq (hidT_size _ _), trivial, fun b z => (List.not_mem_nil (show b ∈ ([] : List Addr) from z)).elim, hok, .of_eq hg⟩
    have up0 : upF K 1 (spLawT T q n) [.ref a] H (fun v _ => v = .bl true) E0 := by
      refine ⟨[.lst (ns.map PV.int)], tabH T q, fun p _ => p = .bl true, rfl, .cons (rel_lst.mpr ⟨a, _, rfl, fr, rels_of_ints ns⟩) .nil, ?_, ⟨ns, rfl, hl, hbits, rfl, fun _ => rfl⟩, ?_⟩
      · intro b o z
        by_cases hb : b = T
        · subst hb
          rw [tabH_at] at z; cases z
          exact ⟨_, atT, #[], rfl, tabOk_nil⟩
        · rw [tabH_ne hb] at z; cases z
      · intro p h1 v H1 q' _ r _
        have q2 : p = .bl true := q'
        subst q2
        exact rel_bl.mp r
    have go := (F _ kB (nsB hns) TB).run callerA [] s1 H ⟨[.ref a], []⟩ [.ref a] [.ref a] (fun v _ => v = .bl true) hr rfl e0 (hbind s1 (.ref a)) (.cons rfl .nil) up0
    refine codeAny_mono go fun r s' h => ?_
    cases r with
    | error e => exact False.elim h
    | ok fl =>
      cases fl with
      | next => exact False.elim h
      | brk => exact False.elim h
      | cont => exact False.elim h
      | ret u =>
        obtain ⟨v, H', os, bare, un, hok', r', q'⟩ := h
        have q2 : v = .bl true := q'
        subst q2
        have eu : u = Value.bool true := r'
        subst eu
        have keep : ∀ b o, b ≠ T → s1.heap.get? b = some o → s'.heap.get? b = some o := fun b o hb e => by
          cases z : H b with
          | none => exact un.keep b o e z (fun z => List.not_mem_nil (show b ∈ ([] : List Addr) from z)) List.not_mem_nil
          | some u =>
            obtain ⟨_, ob, xs, rfl⟩ := only b u hb z
            have e1 := (hok b _ z).1
            have e2 := (hok' b _ (un.frzs b ob _ z)).1
            rw [e] at e1; cases e1
            exact e2
        obtain ⟨more, zt⟩ := un.tbls T #[] atT
        have grown : s'.heap.get? T = some { cls := .none, data := .fields (#[] ++ more) } := hok' T _ zt
        refine ⟨rfl, ⟨fun b o e => ?_, fun b o e => ?_⟩, os, bare⟩
        · by_cases hb : b = T
          · subst hb
            rw [hT] at e; cases e
            exact .inr (.inl ⟨(C.tab hT).isCodeTable, rfl, #[], more, rfl, grown⟩)
          · exact .inl (keep b o hb e)
        · by_cases hb : b = T
          · subst hb; exact ⟨_, grown⟩
          · exact ⟨o, keep b o hb e⟩
  cases hk : K.lookup a with
  | some o =>
    have e := KX a o hk
    rw [ha] at e; cases e
    refine main (fun b => if b = T then some (.tbl #[]) else none) (if_pos rfl) (fun b u hb z => ?_) (.inr ⟨_, vs.toArray, _, hk, rfl, rfl, rfl, by rw [List.size_toArray, lenV]; exact lz, by simpa using rv⟩) (fun b u z => ?_) fun z => absurd (if_neg naT) z
    · cases (if_neg hb).symm.trans z
    · by_cases hb : b = T
      · subst hb
        cases (if_pos rfl).symm.trans z
        exact hT
      · cases (if_neg hb).symm.trans z
  | none =>
    refine main (fun b => if b = a then some (.frz { cls := .type "list", data := .seq vs.toArray } (.lst (ns.map V.int))) else if b = T then some (.tbl #[]) else none) ((if_neg naT.symm).trans (if_pos rfl)) (fun b u hb z => ?_) (.inl ⟨_, if_pos rfl⟩) (fun b u z => ?_) fun _ => hk
    · by_cases hb2 : b = a
      · exact ⟨hb2, _, _, (Option.some.inj ((if_pos hb2).symm.trans z)).symm⟩
      · cases ((if_neg hb2).trans (if_neg hb)).symm.trans z
    · by_cases hb : b = a
      · subst hb
        cases (if_pos rfl).symm.trans z
        exact ⟨ha, by rw [List.length_map]; exact lz, vs, _, rv, ha⟩
      · by_cases hb2 : b = T
        · subst hb2
          cases ((if_neg hb).trans (if_pos rfl)).symm.trans z
          exact hT
        · cases ((if_neg hb).trans (if_neg hb2)).symm.trans z
theorem walk_gT {l : PySem.W.OpenLaw} {n k : Nat} {q : Program} {loose : List Str} {XP : (Str → Option Value) → Heap → Prop} {YP : World → Heap → Prop} {d : DefRec} {K : Params → PySem.W.Frag} {x : Str} {c T : Addr} {nm : Str}
    (hn : l.most = some n) (hn2 : n ≤ sizeLine) (hdf : d.params.defaults = []) (hr : Room k callerA) (hY : ∀ (w : World) (h : Heap), YP w h → (K w.params).In h) (hT : ∀ (w : World) (h : Heap), YP w h → h.get? T = some (PySem.W.tabObj #[]))
    (F : ∀ (w : World) (mg : Str → Option Value) (fa : Addr) (h : Heap), (K w.params).In h → h.Ns mainGlobals mg → mg d.name = some (.ref fa) →
      (K w.params).lookup T = none ∧ PySem.W.codeHdIn (K w.params) c T = true ∧
      ∃ fd : FuncData, (∀ (s : Shared) (u : Value), BindsTo s fd ⟨[u], []⟩ [(x, u)]) ∧ ∀ base : Heap, (K w.params).In base → base.Ns mainGlobals mg → TabB base mg c T → FnG l.prog w (K w.params) mg base k fa fd [x] (spLawT T nm n)) :
    PySem.W.WalkO q loose XP YP l.row.toRowW d [] (fun f vs => PySem.call f vs) := by
  refine Att.attach_callB hn hdf fun w s0 s1 mg mb fa o pm cd doc a vs ns G Y ho hd hcd hmg hobj hints hlen hbits hg => ?_
  have KX := hY w _ Y
  obtain ⟨nT, hC, fd, hb, hF⟩ := F w mg fa _ KX G.T.g hmg
  exact call_of_lawT KX G.T.g G.T.b G.T.builtins G.T.nolimit hg (hT w _ Y) nT (PySem.W.codeHd_of_K KX hC) G.T.bmain hobj hints hlen hn2 hbits hr hF hb
end N3

namespace N3
open PySem PySem.Spec PyProof.Rows L2

/-! ### the deck that the laws draw from -/
abbrev kLeft : Key := .inr ("cells" : Str)
abbrev kEvery : Key := .inr ("all" : Str)
abbrev kGone : Key := .inr ("at" : Str)
abbrev dkeys : List Key := [kLeft, kEvery, kGone]
theorem lk_left {a b c : PV} : lk dkeys [a, b, c] (.inr ("cells" : Str)) = some a := if_pos rfl
theorem lk_every {a b c : PV} : lk dkeys [a, b, c] (.inr ("all" : Str)) = some b := by
  have h : ¬ (kLeft = kEvery) := by decide +kernel
  exact (if_neg h).trans (if_pos rfl)
theorem lk_gone {a b c : PV} : lk dkeys [a, b, c] (.inr ("at" : Str)) = some c := by
  have h : ¬ (kLeft = kGone) := by decide +kernel
  have h2 : ¬ (kEvery = kGone) := by decide +kernel
  exact (if_neg h).trans ((if_neg h2).trans (if_pos rfl))
theorem pk_gone : pk dkeys (.inr ("at" : Str)) = dkeys := by
  have h : hasK dkeys kGone = true := by decide +kernel
  exact if_pos h
theorem pvs_gone {a b c v : PV} : pvs dkeys [a, b, c] (.inr ("at" : Str)) v = [a, b, v] := by
  have h : hasK dkeys kGone = true := by decide +kernel
  have h1 : ¬ (kLeft = kGone) := by decide +kernel
  have h2 : ¬ (kEvery = kGone) := by decide +kernel
  refine (if_pos h).trans ?_
  show [if kLeft = kGone then v else a, if kEvery = kGone then v else b, if kGone = kGone then v else c] = _
  rw [if_neg h1, if_neg h2, if_pos rfl]
/-- a deck's two objects, and all else -/
structure Dk where
  d : Addr
  l : Addr
  ev : Int
  h0 : PH
  ne : d ≠ l
def Dk.hp (D : Dk) (xs : List Int) (gone : Int) : PH := up (up D.h0 D.d (.dct dkeys [.ref D.l, .int D.ev, .int gone])) D.l (.lst (xs.map PV.int))
/-- at most n draws have been made -/
def Dk.At (D : Dk) (n : Nat) (h : PH) : Prop := ∃ (xs : List Int) (gone : Int), xs.length ≤ 63 ∧ 0 ≤ gone ∧ gone ≤ n ∧ h = D.hp xs gone
theorem Dk.At.mono {D : Dk} {n m : Nat} {h : PH} (a : D.At n h) (hm : n ≤ m) : D.At m h := by
  obtain ⟨xs, g, h1, h2, h3, e⟩ := a
  exact ⟨xs, g, h1, h2, by omega, e⟩
section
variable {D : Dk} {xs ys : List Int} {g g' : Int}
theorem Dk.at_d : D.hp xs g D.d = some (.dct dkeys [.ref D.l, .int D.ev, .int g]) := by unfold Dk.hp; rw [up_ne D.ne, up_same]
theorem Dk.at_l : D.hp xs g D.l = some (.lst (xs.map PV.int)) := by unfold Dk.hp; rw [up_same]
theorem Dk.put_d : up (D.hp xs g) D.d (.dct dkeys [.ref D.l, .int D.ev, .int g']) = D.hp xs g' := by
  unfold Dk.hp; rw [up_swap D.ne.symm, up_up]
theorem Dk.put_l : up (D.hp xs g) D.l (.lst (ys.map PV.int)) = D.hp ys g := by unfold Dk.hp; rw [up_up]
end
/-- draw(deck, many): any number below many -/
def spDraw : SpP := fun ps h Q => ∃ (D : Dk) (n : Nat) (many : Int), ps = [.ref D.d, .int many] ∧ D.At n h ∧ n < 1000000000 ∧ 1 ≤ many ∧ many < 1073741824 ∧ ∀ r h', 0 ≤ r → r < many → D.At (n + 1) h' → Q (.int r) h'
/-- deck(script) -/
def spDeck : SpP := fun ps h Q => ∃ ns : List Int, ps = [.lst (ns.map PV.int)] ∧ ns.length ≤ 63 ∧ ∀ (D : Dk) (h' : PH), D.h0 = h → D.At 0 h' → Q (.ref D.d) h'
/-- .. its objects are new -/
def spDeckF : SpP := fun ps h Q => ∃ ns : List Int, ps = [.lst (ns.map PV.int)] ∧ ns.length ≤ 63 ∧ ∀ (D : Dk) (h' : PH), D.h0 = h → h D.d = none → h D.l = none → D.At 0 h' → Q (.ref D.d) h'
def mDraw : MS :=
  mSeq (mAsg (mB rAdd (mB rIx (mVar 0) (mC (.str "at"))) (mC (.int 1))) (gN 2))
  (mSeq (mDput (mVar 2) (mVar 0) (mC (.str "at")))
  (mSeq (mAsg (mB rIx (mVar 0) (mC (.str "all"))) (gN 3))
  (mSeq (mIfS (mTest (mB rNe (mB rIx (mVar 0) (mC (.str "cells"))) (mLst (mNil)))) (mSeq (mAsg (mPop (mB rIx (mVar 0) (mC (.str "cells")))) (gN 3))
  (mSeq (mIfS (mTest (mB rGe (mVar 3) (mB rPow (mC (.int 10)) (mC (.int 18))))) (mSeq (mDrop (mAppend (mB rIx (mVar 0) (mC (.str "cells"))) (mCons (mB rDiv (mVar 3) (mVar 1)) (mNil))))
  (mRet (mB rMod (mVar 3) (mVar 1)))) (mNx))
  (mAsg (mB rAdd (mVar 3) (mB rIx (mVar 0) (mC (.str "all")))) (gN 3)))) (mNx))
  (mSeq (mAsg (mB rMod (mB rMul (mB rAdd (mB rAdd (mB rMod (mVar 3) (mC (.int 2147483629))) (mB rMul (mB rMul (mC (.int 65539)) (mVar 2)) (mVar 2))) (mC (.int 29))) (mC (.int 40692))) (mC (.int 2147483647))) (gN 4))
  (mSeq (mAsg (mB rMod (mB rAdd (mB rAdd (mB rMul (mVar 4) (mVar 4)) (mB rMul (mC (.int 48271)) (mVar 2))) (mC (.int 7))) (mC (.int 2147483587))) (gN 4))
  (mRet (mB rMod (mB rDiv (mB rMod (mB rMul (mVar 4) (mC (.int 39373))) (mC (.int 2147483563))) (mC (.int 128))) (mVar 1))))))))
/-- behind a statement: what its end hands on -/
theorem seq_mid {a b : MS} {D : PEnds} {τ : PSt} {h : PH} (mid : PSt → PH → Prop) (hb : ∀ τ h, mid τ h → b D τ h) (ha : ∀ P : PSt → PH → Prop, (∀ τ h, mid τ h → P τ h) → a { D with nx := P } τ h) : mSeq a b D τ h := ha (b D) hb
/-- a statement by itself, what follows unseen -/
theorem seq_step {a b : MS} {D : PEnds} {τ : PSt} {h : PH} (ha : ∀ P : PSt → PH → Prop, P = b D → a { D with nx := P } τ h) : mSeq a b D τ h := ha _ rfl
/-! ### loops by what holds at each turn -/
theorem forL_of {gd : PH → Prop} {g : MG} {b : MS} {D : PEnds} (W : List PV → PSt → PH → Prop)
    (step : ∀ p ps τ h, W (p :: ps) τ h → gd h ∧ ∀ P : PSt → PH → Prop, (∀ τ h, W ps τ h → P τ h) → g p τ h fun τ1 h1 => b { D with nx := P, ct := P, bk := D.nx } τ1 h1)
    (fin : ∀ τ h, W [] τ h → gd h ∧ D.nx τ h) : ∀ ps τ h, W ps τ h → forL gd g b D ps τ h
  | [], τ, h, w => fin τ h w
  | p :: ps, τ, h, w => ⟨(step p ps τ h w).1, (step p ps τ h w).2 (forL gd g b D ps) fun τ h w => forL_of W step fin ps τ h w⟩
theorem lcL_of {gd : PH → Prop} {τ : PSt} {g : MG} {t : MT} {m : ME} {Q : List PV → PH → Prop} (W : List PV → List PV → PH → Prop)
    (step : ∀ p ps acc h, W (p :: ps) acc h → gd h ∧ ∀ P : List PV → PH → Prop, (∀ acc h, W ps acc h → P acc h) → g p τ h fun τ1 h1 => t τ1 h1 fun b h2 => if b = true then m τ1 h2 fun v h3 => P (acc ++ [v]) h3 else P acc h2)
    (fin : ∀ acc h, W [] acc h → gd h ∧ Q acc h) : ∀ ps acc h, W ps acc h → lcL gd τ g t m ps acc h Q
  | [], acc, h, w => fin acc h w
  | p :: ps, acc, h, w => ⟨(step p ps acc h w).1, (step p ps acc h w).2 (fun acc h => lcL gd τ g t m ps acc h Q) fun acc h w => lcL_of W step fin ps acc h w⟩
theorem flats_ints : ∀ ns : List Int, flats (ns.map PV.int) = true
  | [] => rfl
  | n :: ns => by show (true && flats (ns.map PV.int)) = true; rw [flats_ints ns]; rfl
theorem depths_ints : ∀ ns : List Int, PyData.depthAll (toDs (ns.map PV.int)) = 0
  | [] => by simp [toDs, PyData.depthAll]
  | n :: ns => by
    have ih := depths_ints ns
    simp [toDs, toD, PyData.depthAll, PyData.depth, ih]
theorem depth_ints (ns : List Int) : (PyData.list (toDs (ns.map PV.int))).depth ≤ 64 := by
  simp [PyData.depth, depths_ints]
theorem Dk.list_l {D : Dk} {xs : List Int} {g : Int} : listAt (D.hp xs g) (.ref D.l) := ⟨_, _, rfl, Dk.at_l⟩
/-- a comprehension whose turns change nothing: the items' answers -/
theorem lcL_map {gd : PH → Prop} {τ : PSt} {g : MG} {m : ME} {h : PH} {Q : List PV → PH → Prop} (f : PV → PV) (hg : gd h) :
    ∀ (ps acc : List PV), (∀ p ∈ ps, ∀ P : PV → PH → Prop, P (f p) h → g p τ h fun τ1 h1 => m τ1 h1 P) → Q (acc ++ ps.map f) h → lcL gd τ g mYes m ps acc h Q
  | [], acc, _, q => ⟨hg, by simpa using q⟩
  | p :: ps, acc, hs, q => by
    refine ⟨hg, ?_⟩
    have z := hs p List.mem_cons_self (fun v h3 => lcL gd τ g mYes m ps (acc ++ [v]) h3 Q) (lcL_map f hg ps _ (fun x hx => hs x (List.mem_cons_of_mem _ hx)) (by simpa using q))
    simpa only [mYes, if_true] using z
def mDeck : MS :=
  mSeq (mPar 1 2 (mCons (mBlt rListA (mCons (mSl (mVar 0) (mNoPart) (mPart (mC (.int 63)))) (mNil))) (mCons (mC (.int 60013)) (mNil))))
  (mSeq (mFor (mSeqs (mVar 1)) (gN 3) (mAsg (mB rMod (mB rAdd (mB rAdd (mB rMul (mVar 2) (mC (.int 48271))) (mB rMod (mVar 3) (mC (.int 2147483629)))) (mC (.int 23))) (mC (.int 2147483587))) (gN 2)))
  (mRet (mDispM [(mC (.str "cells"), mRevM (mVar 1)), (mC (.str "all"), mVar 2), (mC (.str "at"), mC (.int 0))])))
theorem emod_ex {z n : Int} {R : Int → Prop} (hn : 0 < n) (k : ∀ w, 0 ≤ w → w < n → R w) : R (z % n) := k _ (Int.emod_nonneg _ (by omega)) (Int.emod_lt_of_pos _ hn)
theorem pure_draw : ∀ qs h Q, qs.length = 2 → spDraw qs h Q → mDraw (ends Q) (sp0 5 qs) h := by
  rintro _ _ Q - ⟨D, n, many, rfl, ⟨xs, gone, hx, hg0, hgn, rfl⟩, hn, hm1, hm2, k⟩
  unfold mDraw
  have many0 : (0 : Int) < many := by omega
  have fin : ∀ (ys : List Int) (r : Int), ys.length ≤ 63 → 0 ≤ r → r < many → Q (.int r) (D.hp ys (gone + 1)) := fun ys r hy h1 h2 => k r _ h1 h2 ⟨ys, gone + 1, hy, by omega, by omega, rfl⟩
  refine seq_step fun P hP => ?_
  simp only [N3.mDput, N3.mB, N3.mU, N3.mVar, N3.mC, N3.sp0, N3.gt, N3.st, N3.rIx, N3.seqL, N3.dctL, N3.kOf, N3.rAdd, N3.mAsg, N3.gN, N3.mIfS, N3.mTest, N3.mPop, N3.mAppend, N3.mDrop, N3.mRet, N3.mRetN, N3.mNx, N3.mBrk, N3.mCnt, N3.mLst, N3.mLstM, N3.mCons, N3.mNil, N3.mTup, N3.mBlt, N3.mKw, N3.cat2, N3.cat2r, N3.gS, N3.gL, N3.mSlM, N3.rSlM, N3.mM1, N3.mSl, N3.mRev, N3.mStep, N3.mRevM, N3.mPart, N3.mNoPart, N3.rII, N3.rII0, N3.rIB, N3.rCmp, N3.rLt, N3.rLe, N3.rGt, N3.rGe, N3.mIsI, N3.tn, N3.isI, N3.mDisp, N3.mDct0, N3.mDct0M, N3.mPar3, N3.mAug, N3.rIAdd, N3.mExtend, N3.mInsert, N3.mPopAt, N3.rMin2, N3.rMax2, N3.rIntT, N3.rSplit, N3.rSplitM, N3.rAddM, N3.gPut, N3.mFmt, N3.mJs, N3.mJoin, N3.rDictP, N3.mRepM, N3.rListA, N3.rSortA, N3.mLc2, N3.lcI, N3.lcO, N3.rAllB, N3.rAnyB, N3.rStrI, N3.rIntO, N3.vwL, N3.rMul, N3.rMulT, N3.rNeg, N3.rSub, N3.rDiv, N3.rMod, N3.rPow, N3.mPar, N3.mAndT, N3.mOrT, N3.mNotT, N3.mAnd, N3.mOr, N3.mOrV, N3.mAndV, N3.trv, N3.mNot, N3.mIf, N3.mChn, N3.mKeep, N3.mRep, N3.mDispM, N3.mPs, N3.ends, N3.rLen, N3.rListOf, N3.rListOfM, N3.rTupOf, N3.rSumI, N3.listed, N3.rSl, N3.rRev, N3.rEq, N3.rNe, N3.rIsN, N3.rNotN, N3.isNon, N3.vw, N3.mYes, N3.gT, N3.gsCons, N3.gsNil, N3.mFor, N3.mSeqs, N3.mLc, N3.mLcM, N3.mRng1, N3.mRng2, N3.mEnum, N3.mEnumA, N3.mZip, N3.wp, N3.rJoin, N3.rSS, N3.rIdxS, N3.rRepr, N3.flat, N3.flats, N3.toD, N3.toDs, List.length_cons, List.length_nil, List.append_eq, List.cons_append, List.nil_append, List.map_cons, List.map_nil, if_true, if_false, Bool.false_eq_true, decide_eq_true_eq, Option.some.injEq, true_and, and_true, Bool.not_true, Bool.not_false, reduceCtorEq, Bool.and_self, Bool.and_true, Bool.true_and, ite_true, ite_false, Dk.at_d, Dk.at_l, lk_gone]
  subst hP
  refine seq_step fun P hP => ?_
  simp only [N3.mDput, N3.mB, N3.mU, N3.mVar, N3.mC, N3.sp0, N3.gt, N3.st, N3.rIx, N3.seqL, N3.dctL, N3.kOf, N3.rAdd, N3.mAsg, N3.gN, N3.mIfS, N3.mTest, N3.mPop, N3.mAppend, N3.mDrop, N3.mRet, N3.mRetN, N3.mNx, N3.mBrk, N3.mCnt, N3.mLst, N3.mLstM, N3.mCons, N3.mNil, N3.mTup, N3.mBlt, N3.mKw, N3.cat2, N3.cat2r, N3.gS, N3.gL, N3.mSlM, N3.rSlM, N3.mM1, N3.mSl, N3.mRev, N3.mStep, N3.mRevM, N3.mPart, N3.mNoPart, N3.rII, N3.rII0, N3.rIB, N3.rCmp, N3.rLt, N3.rLe, N3.rGt, N3.rGe, N3.mIsI, N3.tn, N3.isI, N3.mDisp, N3.mDct0, N3.mDct0M, N3.mPar3, N3.mAug, N3.rIAdd, N3.mExtend, N3.mInsert, N3.mPopAt, N3.rMin2, N3.rMax2, N3.rIntT, N3.rSplit, N3.rSplitM, N3.rAddM, N3.gPut, N3.mFmt, N3.mJs, N3.mJoin, N3.rDictP, N3.mRepM, N3.rListA, N3.rSortA, N3.mLc2, N3.lcI, N3.lcO, N3.rAllB, N3.rAnyB, N3.rStrI, N3.rIntO, N3.vwL, N3.rMul, N3.rMulT, N3.rNeg, N3.rSub, N3.rDiv, N3.rMod, N3.rPow, N3.mPar, N3.mAndT, N3.mOrT, N3.mNotT, N3.mAnd, N3.mOr, N3.mOrV, N3.mAndV, N3.trv, N3.mNot, N3.mIf, N3.mChn, N3.mKeep, N3.mRep, N3.mDispM, N3.mPs, N3.ends, N3.rLen, N3.rListOf, N3.rListOfM, N3.rTupOf, N3.rSumI, N3.listed, N3.rSl, N3.rRev, N3.rEq, N3.rNe, N3.rIsN, N3.rNotN, N3.isNon, N3.vw, N3.mYes, N3.gT, N3.gsCons, N3.gsNil, N3.mFor, N3.mSeqs, N3.mLc, N3.mLcM, N3.mRng1, N3.mRng2, N3.mEnum, N3.mEnumA, N3.mZip, N3.wp, N3.rJoin, N3.rSS, N3.rIdxS, N3.rRepr, N3.flat, N3.flats, N3.toD, N3.toDs, List.length_cons, List.length_nil, List.append_eq, List.cons_append, List.nil_append, List.map_cons, List.map_nil, if_true, if_false, Bool.false_eq_true, decide_eq_true_eq, Option.some.injEq, true_and, and_true, Bool.not_true, Bool.not_false, reduceCtorEq, Bool.and_self, Bool.and_true, Bool.true_and, ite_true, ite_false, Dk.at_d, Dk.at_l, pk_gone, pvs_gone, Dk.put_d]
  refine ⟨by decide, ?_⟩
  subst hP
  refine seq_step fun P hP => ?_
  simp only [N3.mDput, N3.mB, N3.mU, N3.mVar, N3.mC, N3.sp0, N3.gt, N3.st, N3.rIx, N3.seqL, N3.dctL, N3.kOf, N3.rAdd, N3.mAsg, N3.gN, N3.mIfS, N3.mTest, N3.mPop, N3.mAppend, N3.mDrop, N3.mRet, N3.mRetN, N3.mNx, N3.mBrk, N3.mCnt, N3.mLst, N3.mLstM, N3.mCons, N3.mNil, N3.mTup, N3.mBlt, N3.mKw, N3.cat2, N3.cat2r, N3.gS, N3.gL, N3.mSlM, N3.rSlM, N3.mM1, N3.mSl, N3.mRev, N3.mStep, N3.mRevM, N3.mPart, N3.mNoPart, N3.rII, N3.rII0, N3.rIB, N3.rCmp, N3.rLt, N3.rLe, N3.rGt, N3.rGe, N3.mIsI, N3.tn, N3.isI, N3.mDisp, N3.mDct0, N3.mDct0M, N3.mPar3, N3.mAug, N3.rIAdd, N3.mExtend, N3.mInsert, N3.mPopAt, N3.rMin2, N3.rMax2, N3.rIntT, N3.rSplit, N3.rSplitM, N3.rAddM, N3.gPut, N3.mFmt, N3.mJs, N3.mJoin, N3.rDictP, N3.mRepM, N3.rListA, N3.rSortA, N3.mLc2, N3.lcI, N3.lcO, N3.rAllB, N3.rAnyB, N3.rStrI, N3.rIntO, N3.vwL, N3.rMul, N3.rMulT, N3.rNeg, N3.rSub, N3.rDiv, N3.rMod, N3.rPow, N3.mPar, N3.mAndT, N3.mOrT, N3.mNotT, N3.mAnd, N3.mOr, N3.mOrV, N3.mAndV, N3.trv, N3.mNot, N3.mIf, N3.mChn, N3.mKeep, N3.mRep, N3.mDispM, N3.mPs, N3.ends, N3.rLen, N3.rListOf, N3.rListOfM, N3.rTupOf, N3.rSumI, N3.listed, N3.rSl, N3.rRev, N3.rEq, N3.rNe, N3.rIsN, N3.rNotN, N3.isNon, N3.vw, N3.mYes, N3.gT, N3.gsCons, N3.gsNil, N3.mFor, N3.mSeqs, N3.mLc, N3.mLcM, N3.mRng1, N3.mRng2, N3.mEnum, N3.mEnumA, N3.mZip, N3.wp, N3.rJoin, N3.rSS, N3.rIdxS, N3.rRepr, N3.flat, N3.flats, N3.toD, N3.toDs, List.length_cons, List.length_nil, List.append_eq, List.cons_append, List.nil_append, List.map_cons, List.map_nil, if_true, if_false, Bool.false_eq_true, decide_eq_true_eq, Option.some.injEq, true_and, and_true, Bool.not_true, Bool.not_false, reduceCtorEq, Bool.and_self, Bool.and_true, Bool.true_and, ite_true, ite_false, Dk.at_d, Dk.at_l, lk_every]
  subst hP
  refine seq_step fun P hP => ?_
  have rest : ∀ (ys : List Int) (c : Int), ys.length ≤ 63 → P [some (PV.ref D.d), some (PV.int many), some (PV.int (gone + 1)), some (PV.int c), none] (D.hp ys (gone + 1)) := by
    intro ys c hy
    subst hP
    refine seq_step fun P hP => ?_
    simp only [N3.mDput, N3.mB, N3.mU, N3.mVar, N3.mC, N3.sp0, N3.gt, N3.st, N3.rIx, N3.seqL, N3.dctL, N3.kOf, N3.rAdd, N3.mAsg, N3.gN, N3.mIfS, N3.mTest, N3.mPop, N3.mAppend, N3.mDrop, N3.mRet, N3.mRetN, N3.mNx, N3.mBrk, N3.mCnt, N3.mLst, N3.mLstM, N3.mCons, N3.mNil, N3.mTup, N3.mBlt, N3.mKw, N3.cat2, N3.cat2r, N3.gS, N3.gL, N3.mSlM, N3.rSlM, N3.mM1, N3.mSl, N3.mRev, N3.mStep, N3.mRevM, N3.mPart, N3.mNoPart, N3.rII, N3.rII0, N3.rIB, N3.rCmp, N3.rLt, N3.rLe, N3.rGt, N3.rGe, N3.mIsI, N3.tn, N3.isI, N3.mDisp, N3.mDct0, N3.mDct0M, N3.mPar3, N3.mAug, N3.rIAdd, N3.mExtend, N3.mInsert, N3.mPopAt, N3.rMin2, N3.rMax2, N3.rIntT, N3.rSplit, N3.rSplitM, N3.rAddM, N3.gPut, N3.mFmt, N3.mJs, N3.mJoin, N3.rDictP, N3.mRepM, N3.rListA, N3.rSortA, N3.mLc2, N3.lcI, N3.lcO, N3.rAllB, N3.rAnyB, N3.rStrI, N3.rIntO, N3.vwL, N3.rMul, N3.rMulT, N3.rNeg, N3.rSub, N3.rDiv, N3.rMod, N3.rPow, N3.mPar, N3.mAndT, N3.mOrT, N3.mNotT, N3.mAnd, N3.mOr, N3.mOrV, N3.mAndV, N3.trv, N3.mNot, N3.mIf, N3.mChn, N3.mKeep, N3.mRep, N3.mDispM, N3.mPs, N3.ends, N3.rLen, N3.rListOf, N3.rListOfM, N3.rTupOf, N3.rSumI, N3.listed, N3.rSl, N3.rRev, N3.rEq, N3.rNe, N3.rIsN, N3.rNotN, N3.isNon, N3.vw, N3.mYes, N3.gT, N3.gsCons, N3.gsNil, N3.mFor, N3.mSeqs, N3.mLc, N3.mLcM, N3.mRng1, N3.mRng2, N3.mEnum, N3.mEnumA, N3.mZip, N3.wp, N3.rJoin, N3.rSS, N3.rIdxS, N3.rRepr, N3.flat, N3.flats, N3.toD, N3.toDs, List.length_cons, List.length_nil, List.append_eq, List.cons_append, List.nil_append, List.map_cons, List.map_nil, if_true, if_false, Bool.false_eq_true, decide_eq_true_eq, Option.some.injEq, true_and, and_true, Bool.not_true, Bool.not_false, reduceCtorEq, Bool.and_self, Bool.and_true, Bool.true_and, ite_true, ite_false]
    refine ⟨by decide, .inl (by decide), .inr ⟨by omega, by omega⟩, .inr (by decide), by decide, ?_⟩
    refine emod_ex (R := fun z => P [some (PV.ref D.d), some (PV.int many), some (PV.int (gone + 1)), some (PV.int c), some (PV.int z)] (D.hp ys (gone + 1))) (by decide) fun z z0 z1 => ?_
    subst hP
    refine seq_step fun P hP => ?_
    simp only [N3.mDput, N3.mB, N3.mU, N3.mVar, N3.mC, N3.sp0, N3.gt, N3.st, N3.rIx, N3.seqL, N3.dctL, N3.kOf, N3.rAdd, N3.mAsg, N3.gN, N3.mIfS, N3.mTest, N3.mPop, N3.mAppend, N3.mDrop, N3.mRet, N3.mRetN, N3.mNx, N3.mBrk, N3.mCnt, N3.mLst, N3.mLstM, N3.mCons, N3.mNil, N3.mTup, N3.mBlt, N3.mKw, N3.cat2, N3.cat2r, N3.gS, N3.gL, N3.mSlM, N3.rSlM, N3.mM1, N3.mSl, N3.mRev, N3.mStep, N3.mRevM, N3.mPart, N3.mNoPart, N3.rII, N3.rII0, N3.rIB, N3.rCmp, N3.rLt, N3.rLe, N3.rGt, N3.rGe, N3.mIsI, N3.tn, N3.isI, N3.mDisp, N3.mDct0, N3.mDct0M, N3.mPar3, N3.mAug, N3.rIAdd, N3.mExtend, N3.mInsert, N3.mPopAt, N3.rMin2, N3.rMax2, N3.rIntT, N3.rSplit, N3.rSplitM, N3.rAddM, N3.gPut, N3.mFmt, N3.mJs, N3.mJoin, N3.rDictP, N3.mRepM, N3.rListA, N3.rSortA, N3.mLc2, N3.lcI, N3.lcO, N3.rAllB, N3.rAnyB, N3.rStrI, N3.rIntO, N3.vwL, N3.rMul, N3.rMulT, N3.rNeg, N3.rSub, N3.rDiv, N3.rMod, N3.rPow, N3.mPar, N3.mAndT, N3.mOrT, N3.mNotT, N3.mAnd, N3.mOr, N3.mOrV, N3.mAndV, N3.trv, N3.mNot, N3.mIf, N3.mChn, N3.mKeep, N3.mRep, N3.mDispM, N3.mPs, N3.ends, N3.rLen, N3.rListOf, N3.rListOfM, N3.rTupOf, N3.rSumI, N3.listed, N3.rSl, N3.rRev, N3.rEq, N3.rNe, N3.rIsN, N3.rNotN, N3.isNon, N3.vw, N3.mYes, N3.gT, N3.gsCons, N3.gsNil, N3.mFor, N3.mSeqs, N3.mLc, N3.mLcM, N3.mRng1, N3.mRng2, N3.mEnum, N3.mEnumA, N3.mZip, N3.wp, N3.rJoin, N3.rSS, N3.rIdxS, N3.rRepr, N3.flat, N3.flats, N3.toD, N3.toDs, List.length_cons, List.length_nil, List.append_eq, List.cons_append, List.nil_append, List.map_cons, List.map_nil, if_true, if_false, Bool.false_eq_true, decide_eq_true_eq, Option.some.injEq, true_and, and_true, Bool.not_true, Bool.not_false, reduceCtorEq, Bool.and_self, Bool.and_true, Bool.true_and, ite_true, ite_false]
    refine ⟨.inl ⟨by omega, by omega⟩, .inl (by decide), by decide, ?_⟩
    refine emod_ex (R := fun z => P [some (PV.ref D.d), some (PV.int many), some (PV.int (gone + 1)), some (PV.int c), some (PV.int z)] (D.hp ys (gone + 1))) (by decide) fun y y0 y1 => ?_
    subst hP
    simp only [N3.mDput, N3.mB, N3.mU, N3.mVar, N3.mC, N3.sp0, N3.gt, N3.st, N3.rIx, N3.seqL, N3.dctL, N3.kOf, N3.rAdd, N3.mAsg, N3.gN, N3.mIfS, N3.mTest, N3.mPop, N3.mAppend, N3.mDrop, N3.mRet, N3.mRetN, N3.mNx, N3.mBrk, N3.mCnt, N3.mLst, N3.mLstM, N3.mCons, N3.mNil, N3.mTup, N3.mBlt, N3.mKw, N3.cat2, N3.cat2r, N3.gS, N3.gL, N3.mSlM, N3.rSlM, N3.mM1, N3.mSl, N3.mRev, N3.mStep, N3.mRevM, N3.mPart, N3.mNoPart, N3.rII, N3.rII0, N3.rIB, N3.rCmp, N3.rLt, N3.rLe, N3.rGt, N3.rGe, N3.mIsI, N3.tn, N3.isI, N3.mDisp, N3.mDct0, N3.mDct0M, N3.mPar3, N3.mAug, N3.rIAdd, N3.mExtend, N3.mInsert, N3.mPopAt, N3.rMin2, N3.rMax2, N3.rIntT, N3.rSplit, N3.rSplitM, N3.rAddM, N3.gPut, N3.mFmt, N3.mJs, N3.mJoin, N3.rDictP, N3.mRepM, N3.rListA, N3.rSortA, N3.mLc2, N3.lcI, N3.lcO, N3.rAllB, N3.rAnyB, N3.rStrI, N3.rIntO, N3.vwL, N3.rMul, N3.rMulT, N3.rNeg, N3.rSub, N3.rDiv, N3.rMod, N3.rPow, N3.mPar, N3.mAndT, N3.mOrT, N3.mNotT, N3.mAnd, N3.mOr, N3.mOrV, N3.mAndV, N3.trv, N3.mNot, N3.mIf, N3.mChn, N3.mKeep, N3.mRep, N3.mDispM, N3.mPs, N3.ends, N3.rLen, N3.rListOf, N3.rListOfM, N3.rTupOf, N3.rSumI, N3.listed, N3.rSl, N3.rRev, N3.rEq, N3.rNe, N3.rIsN, N3.rNotN, N3.isNon, N3.vw, N3.mYes, N3.gT, N3.gsCons, N3.gsNil, N3.mFor, N3.mSeqs, N3.mLc, N3.mLcM, N3.mRng1, N3.mRng2, N3.mEnum, N3.mEnumA, N3.mZip, N3.wp, N3.rJoin, N3.rSS, N3.rIdxS, N3.rRepr, N3.flat, N3.flats, N3.toD, N3.toDs, List.length_cons, List.length_nil, List.append_eq, List.cons_append, List.nil_append, List.map_cons, List.map_nil, if_true, if_false, Bool.false_eq_true, decide_eq_true_eq, Option.some.injEq, true_and, and_true, Bool.not_true, Bool.not_false, reduceCtorEq, Bool.and_self, Bool.and_true, Bool.true_and, ite_true, ite_false]
    exact ⟨.inr (by decide), by decide, ⟨by decide, by decide⟩, many0, fin ys _ hy (Int.emod_nonneg _ (by omega)) (Int.emod_lt_of_pos _ many0)⟩
  simp only [N3.mDput, N3.mB, N3.mU, N3.mVar, N3.mC, N3.sp0, N3.gt, N3.st, N3.rIx, N3.seqL, N3.dctL, N3.kOf, N3.rAdd, N3.mAsg, N3.gN, N3.mIfS, N3.mTest, N3.mPop, N3.mAppend, N3.mDrop, N3.mRet, N3.mRetN, N3.mNx, N3.mBrk, N3.mCnt, N3.mLst, N3.mLstM, N3.mCons, N3.mNil, N3.mTup, N3.mBlt, N3.mKw, N3.cat2, N3.cat2r, N3.gS, N3.gL, N3.mSlM, N3.rSlM, N3.mM1, N3.mSl, N3.mRev, N3.mStep, N3.mRevM, N3.mPart, N3.mNoPart, N3.rII, N3.rII0, N3.rIB, N3.rCmp, N3.rLt, N3.rLe, N3.rGt, N3.rGe, N3.mIsI, N3.tn, N3.isI, N3.mDisp, N3.mDct0, N3.mDct0M, N3.mPar3, N3.mAug, N3.rIAdd, N3.mExtend, N3.mInsert, N3.mPopAt, N3.rMin2, N3.rMax2, N3.rIntT, N3.rSplit, N3.rSplitM, N3.rAddM, N3.gPut, N3.mFmt, N3.mJs, N3.mJoin, N3.rDictP, N3.mRepM, N3.rListA, N3.rSortA, N3.mLc2, N3.lcI, N3.lcO, N3.rAllB, N3.rAnyB, N3.rStrI, N3.rIntO, N3.vwL, N3.rMul, N3.rMulT, N3.rNeg, N3.rSub, N3.rDiv, N3.rMod, N3.rPow, N3.mPar, N3.mAndT, N3.mOrT, N3.mNotT, N3.mAnd, N3.mOr, N3.mOrV, N3.mAndV, N3.trv, N3.mNot, N3.mIf, N3.mChn, N3.mKeep, N3.mRep, N3.mDispM, N3.mPs, N3.ends, N3.rLen, N3.rListOf, N3.rListOfM, N3.rTupOf, N3.rSumI, N3.listed, N3.rSl, N3.rRev, N3.rEq, N3.rNe, N3.rIsN, N3.rNotN, N3.isNon, N3.vw, N3.mYes, N3.gT, N3.gsCons, N3.gsNil, N3.mFor, N3.mSeqs, N3.mLc, N3.mLcM, N3.mRng1, N3.mRng2, N3.mEnum, N3.mEnumA, N3.mZip, N3.wp, N3.rJoin, N3.rSS, N3.rIdxS, N3.rRepr, N3.flat, N3.flats, N3.toD, N3.toDs, List.length_cons, List.length_nil, List.append_eq, List.cons_append, List.nil_append, List.map_cons, List.map_nil, if_true, if_false, Bool.false_eq_true, decide_eq_true_eq, Option.some.injEq, true_and, and_true, Bool.not_true, Bool.not_false, reduceCtorEq, Bool.and_self, Bool.and_true, Bool.true_and, ite_true, ite_false, Dk.at_d, Dk.at_l, lk_left]
  refine ⟨flats_ints _, depth_ints _, ?_⟩
  rcases List.eq_nil_or_concat xs with rfl | ⟨ys, c, rfl⟩
  · rw [if_neg (by decide)]
    exact rest _ _ hx
  · rw [List.concat_eq_append] at hx ⊢
    rw [List.length_append] at hx
    have h1 : (!(PyData.list (toDs (List.map PV.int (ys ++ [c])))).eqv (PyData.list [])) = true := by
      cases ys <;> rfl
    rw [if_pos h1]
    refine seq_step fun P' hP' => ?_
    simp only [N3.mDput, N3.mB, N3.mU, N3.mVar, N3.mC, N3.sp0, N3.gt, N3.st, N3.rIx, N3.seqL, N3.dctL, N3.kOf, N3.rAdd, N3.mAsg, N3.gN, N3.mIfS, N3.mTest, N3.mPop, N3.mAppend, N3.mDrop, N3.mRet, N3.mRetN, N3.mNx, N3.mBrk, N3.mCnt, N3.mLst, N3.mLstM, N3.mCons, N3.mNil, N3.mTup, N3.mBlt, N3.mKw, N3.cat2, N3.cat2r, N3.gS, N3.gL, N3.mSlM, N3.rSlM, N3.mM1, N3.mSl, N3.mRev, N3.mStep, N3.mRevM, N3.mPart, N3.mNoPart, N3.rII, N3.rII0, N3.rIB, N3.rCmp, N3.rLt, N3.rLe, N3.rGt, N3.rGe, N3.mIsI, N3.tn, N3.isI, N3.mDisp, N3.mDct0, N3.mDct0M, N3.mPar3, N3.mAug, N3.rIAdd, N3.mExtend, N3.mInsert, N3.mPopAt, N3.rMin2, N3.rMax2, N3.rIntT, N3.rSplit, N3.rSplitM, N3.rAddM, N3.gPut, N3.mFmt, N3.mJs, N3.mJoin, N3.rDictP, N3.mRepM, N3.rListA, N3.rSortA, N3.mLc2, N3.lcI, N3.lcO, N3.rAllB, N3.rAnyB, N3.rStrI, N3.rIntO, N3.vwL, N3.rMul, N3.rMulT, N3.rNeg, N3.rSub, N3.rDiv, N3.rMod, N3.rPow, N3.mPar, N3.mAndT, N3.mOrT, N3.mNotT, N3.mAnd, N3.mOr, N3.mOrV, N3.mAndV, N3.trv, N3.mNot, N3.mIf, N3.mChn, N3.mKeep, N3.mRep, N3.mDispM, N3.mPs, N3.ends, N3.rLen, N3.rListOf, N3.rListOfM, N3.rTupOf, N3.rSumI, N3.listed, N3.rSl, N3.rRev, N3.rEq, N3.rNe, N3.rIsN, N3.rNotN, N3.isNon, N3.vw, N3.mYes, N3.gT, N3.gsCons, N3.gsNil, N3.mFor, N3.mSeqs, N3.mLc, N3.mLcM, N3.mRng1, N3.mRng2, N3.mEnum, N3.mEnumA, N3.mZip, N3.wp, N3.rJoin, N3.rSS, N3.rIdxS, N3.rRepr, N3.flat, N3.flats, N3.toD, N3.toDs, List.length_cons, List.length_nil, List.append_eq, List.cons_append, List.nil_append, List.map_cons, List.map_nil, if_true, if_false, Bool.false_eq_true, decide_eq_true_eq, Option.some.injEq, true_and, and_true, Bool.not_true, Bool.not_false, reduceCtorEq, Bool.and_self, Bool.and_true, Bool.true_and, ite_true, ite_false, Dk.at_d, Dk.at_l, lk_left, List.map_append, List.getLast?_append, List.getLast?_singleton, Option.some_or, List.dropLast_concat, Dk.put_l]
    subst hP'
    refine seq_step fun P' hP' => ?_
    simp only [N3.mDput, N3.mB, N3.mU, N3.mVar, N3.mC, N3.sp0, N3.gt, N3.st, N3.rIx, N3.seqL, N3.dctL, N3.kOf, N3.rAdd, N3.mAsg, N3.gN, N3.mIfS, N3.mTest, N3.mPop, N3.mAppend, N3.mDrop, N3.mRet, N3.mRetN, N3.mNx, N3.mBrk, N3.mCnt, N3.mLst, N3.mLstM, N3.mCons, N3.mNil, N3.mTup, N3.mBlt, N3.mKw, N3.cat2, N3.cat2r, N3.gS, N3.gL, N3.mSlM, N3.rSlM, N3.mM1, N3.mSl, N3.mRev, N3.mStep, N3.mRevM, N3.mPart, N3.mNoPart, N3.rII, N3.rII0, N3.rIB, N3.rCmp, N3.rLt, N3.rLe, N3.rGt, N3.rGe, N3.mIsI, N3.tn, N3.isI, N3.mDisp, N3.mDct0, N3.mDct0M, N3.mPar3, N3.mAug, N3.rIAdd, N3.mExtend, N3.mInsert, N3.mPopAt, N3.rMin2, N3.rMax2, N3.rIntT, N3.rSplit, N3.rSplitM, N3.rAddM, N3.gPut, N3.mFmt, N3.mJs, N3.mJoin, N3.rDictP, N3.mRepM, N3.rListA, N3.rSortA, N3.mLc2, N3.lcI, N3.lcO, N3.rAllB, N3.rAnyB, N3.rStrI, N3.rIntO, N3.vwL, N3.rMul, N3.rMulT, N3.rNeg, N3.rSub, N3.rDiv, N3.rMod, N3.rPow, N3.mPar, N3.mAndT, N3.mOrT, N3.mNotT, N3.mAnd, N3.mOr, N3.mOrV, N3.mAndV, N3.trv, N3.mNot, N3.mIf, N3.mChn, N3.mKeep, N3.mRep, N3.mDispM, N3.mPs, N3.ends, N3.rLen, N3.rListOf, N3.rListOfM, N3.rTupOf, N3.rSumI, N3.listed, N3.rSl, N3.rRev, N3.rEq, N3.rNe, N3.rIsN, N3.rNotN, N3.isNon, N3.vw, N3.mYes, N3.gT, N3.gsCons, N3.gsNil, N3.mFor, N3.mSeqs, N3.mLc, N3.mLcM, N3.mRng1, N3.mRng2, N3.mEnum, N3.mEnumA, N3.mZip, N3.wp, N3.rJoin, N3.rSS, N3.rIdxS, N3.rRepr, N3.flat, N3.flats, N3.toD, N3.toDs, List.length_cons, List.length_nil, List.append_eq, List.cons_append, List.nil_append, List.map_cons, List.map_nil, if_true, if_false, Bool.false_eq_true, decide_eq_true_eq, Option.some.injEq, true_and, and_true, Bool.not_true, Bool.not_false, reduceCtorEq, Bool.and_self, Bool.and_true, Bool.true_and, ite_true, ite_false, Dk.at_d, Dk.at_l, lk_left]
    refine ⟨⟨by decide, by decide, by decide⟩, ?_⟩
    by_cases hc : 10 ^ (18 : Int).toNat ≤ c
    · rw [if_pos hc]
      refine seq_step fun P'' hP'' => ?_
      simp only [N3.mDput, N3.mB, N3.mU, N3.mVar, N3.mC, N3.sp0, N3.gt, N3.st, N3.rIx, N3.seqL, N3.dctL, N3.kOf, N3.rAdd, N3.mAsg, N3.gN, N3.mIfS, N3.mTest, N3.mPop, N3.mAppend, N3.mDrop, N3.mRet, N3.mRetN, N3.mNx, N3.mBrk, N3.mCnt, N3.mLst, N3.mLstM, N3.mCons, N3.mNil, N3.mTup, N3.mBlt, N3.mKw, N3.cat2, N3.cat2r, N3.gS, N3.gL, N3.mSlM, N3.rSlM, N3.mM1, N3.mSl, N3.mRev, N3.mStep, N3.mRevM, N3.mPart, N3.mNoPart, N3.rII, N3.rII0, N3.rIB, N3.rCmp, N3.rLt, N3.rLe, N3.rGt, N3.rGe, N3.mIsI, N3.tn, N3.isI, N3.mDisp, N3.mDct0, N3.mDct0M, N3.mPar3, N3.mAug, N3.rIAdd, N3.mExtend, N3.mInsert, N3.mPopAt, N3.rMin2, N3.rMax2, N3.rIntT, N3.rSplit, N3.rSplitM, N3.rAddM, N3.gPut, N3.mFmt, N3.mJs, N3.mJoin, N3.rDictP, N3.mRepM, N3.rListA, N3.rSortA, N3.mLc2, N3.lcI, N3.lcO, N3.rAllB, N3.rAnyB, N3.rStrI, N3.rIntO, N3.vwL, N3.rMul, N3.rMulT, N3.rNeg, N3.rSub, N3.rDiv, N3.rMod, N3.rPow, N3.mPar, N3.mAndT, N3.mOrT, N3.mNotT, N3.mAnd, N3.mOr, N3.mOrV, N3.mAndV, N3.trv, N3.mNot, N3.mIf, N3.mChn, N3.mKeep, N3.mRep, N3.mDispM, N3.mPs, N3.ends, N3.rLen, N3.rListOf, N3.rListOfM, N3.rTupOf, N3.rSumI, N3.listed, N3.rSl, N3.rRev, N3.rEq, N3.rNe, N3.rIsN, N3.rNotN, N3.isNon, N3.vw, N3.mYes, N3.gT, N3.gsCons, N3.gsNil, N3.mFor, N3.mSeqs, N3.mLc, N3.mLcM, N3.mRng1, N3.mRng2, N3.mEnum, N3.mEnumA, N3.mZip, N3.wp, N3.rJoin, N3.rSS, N3.rIdxS, N3.rRepr, N3.flat, N3.flats, N3.toD, N3.toDs, List.length_cons, List.length_nil, List.append_eq, List.cons_append, List.nil_append, List.map_cons, List.map_nil, if_true, if_false, Bool.false_eq_true, decide_eq_true_eq, Option.some.injEq, true_and, and_true, Bool.not_true, Bool.not_false, reduceCtorEq, Bool.and_self, Bool.and_true, Bool.true_and, ite_true, ite_false, Dk.at_d, Dk.at_l, lk_left]
      refine ⟨Dk.list_l, ⟨many0, hm2⟩, by rw [List.length_map]; show _ < 16777216; simp at hx; omega, ?_⟩
      rw [show List.map PV.int ys ++ [PV.int (c / many)] = List.map PV.int (ys ++ [c / many]) by simp, Dk.put_l]
      subst hP''
      simp only [N3.mDput, N3.mB, N3.mU, N3.mVar, N3.mC, N3.sp0, N3.gt, N3.st, N3.rIx, N3.seqL, N3.dctL, N3.kOf, N3.rAdd, N3.mAsg, N3.gN, N3.mIfS, N3.mTest, N3.mPop, N3.mAppend, N3.mDrop, N3.mRet, N3.mRetN, N3.mNx, N3.mBrk, N3.mCnt, N3.mLst, N3.mLstM, N3.mCons, N3.mNil, N3.mTup, N3.mBlt, N3.mKw, N3.cat2, N3.cat2r, N3.gS, N3.gL, N3.mSlM, N3.rSlM, N3.mM1, N3.mSl, N3.mRev, N3.mStep, N3.mRevM, N3.mPart, N3.mNoPart, N3.rII, N3.rII0, N3.rIB, N3.rCmp, N3.rLt, N3.rLe, N3.rGt, N3.rGe, N3.mIsI, N3.tn, N3.isI, N3.mDisp, N3.mDct0, N3.mDct0M, N3.mPar3, N3.mAug, N3.rIAdd, N3.mExtend, N3.mInsert, N3.mPopAt, N3.rMin2, N3.rMax2, N3.rIntT, N3.rSplit, N3.rSplitM, N3.rAddM, N3.gPut, N3.mFmt, N3.mJs, N3.mJoin, N3.rDictP, N3.mRepM, N3.rListA, N3.rSortA, N3.mLc2, N3.lcI, N3.lcO, N3.rAllB, N3.rAnyB, N3.rStrI, N3.rIntO, N3.vwL, N3.rMul, N3.rMulT, N3.rNeg, N3.rSub, N3.rDiv, N3.rMod, N3.rPow, N3.mPar, N3.mAndT, N3.mOrT, N3.mNotT, N3.mAnd, N3.mOr, N3.mOrV, N3.mAndV, N3.trv, N3.mNot, N3.mIf, N3.mChn, N3.mKeep, N3.mRep, N3.mDispM, N3.mPs, N3.ends, N3.rLen, N3.rListOf, N3.rListOfM, N3.rTupOf, N3.rSumI, N3.listed, N3.rSl, N3.rRev, N3.rEq, N3.rNe, N3.rIsN, N3.rNotN, N3.isNon, N3.vw, N3.mYes, N3.gT, N3.gsCons, N3.gsNil, N3.mFor, N3.mSeqs, N3.mLc, N3.mLcM, N3.mRng1, N3.mRng2, N3.mEnum, N3.mEnumA, N3.mZip, N3.wp, N3.rJoin, N3.rSS, N3.rIdxS, N3.rRepr, N3.flat, N3.flats, N3.toD, N3.toDs, List.length_cons, List.length_nil, List.append_eq, List.cons_append, List.nil_append, List.map_cons, List.map_nil, if_true, if_false, Bool.false_eq_true, decide_eq_true_eq, Option.some.injEq, true_and, and_true, Bool.not_true, Bool.not_false, reduceCtorEq, Bool.and_self, Bool.and_true, Bool.true_and, ite_true, ite_false]
      exact ⟨many0, fin _ _ (by rw [List.length_append]; exact hx) (Int.emod_nonneg _ (by omega)) (Int.emod_lt_of_pos _ many0)⟩
    · rw [if_neg hc]
      subst hP'
      simp only [N3.mDput, N3.mB, N3.mU, N3.mVar, N3.mC, N3.sp0, N3.gt, N3.st, N3.rIx, N3.seqL, N3.dctL, N3.kOf, N3.rAdd, N3.mAsg, N3.gN, N3.mIfS, N3.mTest, N3.mPop, N3.mAppend, N3.mDrop, N3.mRet, N3.mRetN, N3.mNx, N3.mBrk, N3.mCnt, N3.mLst, N3.mLstM, N3.mCons, N3.mNil, N3.mTup, N3.mBlt, N3.mKw, N3.cat2, N3.cat2r, N3.gS, N3.gL, N3.mSlM, N3.rSlM, N3.mM1, N3.mSl, N3.mRev, N3.mStep, N3.mRevM, N3.mPart, N3.mNoPart, N3.rII, N3.rII0, N3.rIB, N3.rCmp, N3.rLt, N3.rLe, N3.rGt, N3.rGe, N3.mIsI, N3.tn, N3.isI, N3.mDisp, N3.mDct0, N3.mDct0M, N3.mPar3, N3.mAug, N3.rIAdd, N3.mExtend, N3.mInsert, N3.mPopAt, N3.rMin2, N3.rMax2, N3.rIntT, N3.rSplit, N3.rSplitM, N3.rAddM, N3.gPut, N3.mFmt, N3.mJs, N3.mJoin, N3.rDictP, N3.mRepM, N3.rListA, N3.rSortA, N3.mLc2, N3.lcI, N3.lcO, N3.rAllB, N3.rAnyB, N3.rStrI, N3.rIntO, N3.vwL, N3.rMul, N3.rMulT, N3.rNeg, N3.rSub, N3.rDiv, N3.rMod, N3.rPow, N3.mPar, N3.mAndT, N3.mOrT, N3.mNotT, N3.mAnd, N3.mOr, N3.mOrV, N3.mAndV, N3.trv, N3.mNot, N3.mIf, N3.mChn, N3.mKeep, N3.mRep, N3.mDispM, N3.mPs, N3.ends, N3.rLen, N3.rListOf, N3.rListOfM, N3.rTupOf, N3.rSumI, N3.listed, N3.rSl, N3.rRev, N3.rEq, N3.rNe, N3.rIsN, N3.rNotN, N3.isNon, N3.vw, N3.mYes, N3.gT, N3.gsCons, N3.gsNil, N3.mFor, N3.mSeqs, N3.mLc, N3.mLcM, N3.mRng1, N3.mRng2, N3.mEnum, N3.mEnumA, N3.mZip, N3.wp, N3.rJoin, N3.rSS, N3.rIdxS, N3.rRepr, N3.flat, N3.flats, N3.toD, N3.toDs, List.length_cons, List.length_nil, List.append_eq, List.cons_append, List.nil_append, List.map_cons, List.map_nil, if_true, if_false, Bool.false_eq_true, decide_eq_true_eq, Option.some.injEq, true_and, and_true, Bool.not_true, Bool.not_false, reduceCtorEq, Bool.and_self, Bool.and_true, Bool.true_and, ite_true, ite_false, Dk.at_d, Dk.at_l, lk_every]
      exact rest _ _ (by simp at hx; omega)
theorem pure_deckF : ∀ qs h Q, qs.length = 1 → spDeckF qs h Q → mDeck (ends Q) (sp0 4 qs) h := by
  rintro _ h Q - ⟨ns, rfl, hn, k⟩
  unfold mDeck
  have hc : cut (ns.map PV.int) none (some 63) = ns.map PV.int := cut_all ⟨rfl, by
    show HT.sIx _ _ (some 63) = _
    unfold HT.sIx
    simp; omega⟩
  refine seq_step fun P hP => ?_
  simp only [N3.mDput, N3.mB, N3.mU, N3.mVar, N3.mC, N3.sp0, N3.gt, N3.st, N3.rIx, N3.seqL, N3.dctL, N3.kOf, N3.rAdd, N3.mAsg, N3.gN, N3.mIfS, N3.mTest, N3.mPop, N3.mAppend, N3.mDrop, N3.mRet, N3.mRetN, N3.mNx, N3.mBrk, N3.mCnt, N3.mLst, N3.mLstM, N3.mCons, N3.mNil, N3.mTup, N3.mBlt, N3.mKw, N3.cat2, N3.cat2r, N3.gS, N3.gL, N3.mSlM, N3.rSlM, N3.mM1, N3.mSl, N3.mRev, N3.mStep, N3.mRevM, N3.mPart, N3.mNoPart, N3.rII, N3.rII0, N3.rIB, N3.rCmp, N3.rLt, N3.rLe, N3.rGt, N3.rGe, N3.mIsI, N3.tn, N3.isI, N3.mDisp, N3.mDct0, N3.mDct0M, N3.mPar3, N3.mAug, N3.rIAdd, N3.mExtend, N3.mInsert, N3.mPopAt, N3.rMin2, N3.rMax2, N3.rIntT, N3.rSplit, N3.rSplitM, N3.rAddM, N3.gPut, N3.mFmt, N3.mJs, N3.mJoin, N3.rDictP, N3.mRepM, N3.rListA, N3.rSortA, N3.mLc2, N3.lcI, N3.lcO, N3.rAllB, N3.rAnyB, N3.rStrI, N3.rIntO, N3.vwL, N3.rMul, N3.rMulT, N3.rNeg, N3.rSub, N3.rDiv, N3.rMod, N3.rPow, N3.mPar, N3.mAndT, N3.mOrT, N3.mNotT, N3.mAnd, N3.mOr, N3.mOrV, N3.mAndV, N3.trv, N3.mNot, N3.mIf, N3.mChn, N3.mKeep, N3.mRep, N3.mDispM, N3.mPs, N3.ends, N3.rLen, N3.rListOf, N3.rListOfM, N3.rTupOf, N3.rSumI, N3.listed, N3.rSl, N3.rRev, N3.rEq, N3.rNe, N3.rIsN, N3.rNotN, N3.isNon, N3.vw, N3.mYes, N3.gT, N3.gsCons, N3.gsNil, N3.mFor, N3.mSeqs, N3.mLc, N3.mLcM, N3.mRng1, N3.mRng2, N3.mEnum, N3.mEnumA, N3.mZip, N3.wp, N3.rJoin, N3.rSS, N3.rIdxS, N3.rRepr, N3.flat, N3.flats, N3.toD, N3.toDs, List.length_cons, List.length_nil, List.append_eq, List.cons_append, List.nil_append, List.map_cons, List.map_nil, if_true, if_false, Bool.false_eq_true, decide_eq_true_eq, Option.some.injEq, true_and, and_true, Bool.not_true, Bool.not_false, reduceCtorEq, Bool.and_self, Bool.and_true, Bool.true_and, ite_true, ite_false, hc]
  subst hP
  refine seq_step fun P hP => ?_
  simp only [N3.mDput, N3.mB, N3.mU, N3.mVar, N3.mC, N3.sp0, N3.gt, N3.st, N3.rIx, N3.seqL, N3.dctL, N3.kOf, N3.rAdd, N3.mAsg, N3.gN, N3.mIfS, N3.mTest, N3.mPop, N3.mAppend, N3.mDrop, N3.mRet, N3.mRetN, N3.mNx, N3.mBrk, N3.mCnt, N3.mLst, N3.mLstM, N3.mCons, N3.mNil, N3.mTup, N3.mBlt, N3.mKw, N3.cat2, N3.cat2r, N3.gS, N3.gL, N3.mSlM, N3.rSlM, N3.mM1, N3.mSl, N3.mRev, N3.mStep, N3.mRevM, N3.mPart, N3.mNoPart, N3.rII, N3.rII0, N3.rIB, N3.rCmp, N3.rLt, N3.rLe, N3.rGt, N3.rGe, N3.mIsI, N3.tn, N3.isI, N3.mDisp, N3.mDct0, N3.mDct0M, N3.mPar3, N3.mAug, N3.rIAdd, N3.mExtend, N3.mInsert, N3.mPopAt, N3.rMin2, N3.rMax2, N3.rIntT, N3.rSplit, N3.rSplitM, N3.rAddM, N3.gPut, N3.mFmt, N3.mJs, N3.mJoin, N3.rDictP, N3.mRepM, N3.rListA, N3.rSortA, N3.mLc2, N3.lcI, N3.lcO, N3.rAllB, N3.rAnyB, N3.rStrI, N3.rIntO, N3.vwL, N3.rMul, N3.rMulT, N3.rNeg, N3.rSub, N3.rDiv, N3.rMod, N3.rPow, N3.mPar, N3.mAndT, N3.mOrT, N3.mNotT, N3.mAnd, N3.mOr, N3.mOrV, N3.mAndV, N3.trv, N3.mNot, N3.mIf, N3.mChn, N3.mKeep, N3.mRep, N3.mDispM, N3.mPs, N3.ends, N3.rLen, N3.rListOf, N3.rListOfM, N3.rTupOf, N3.rSumI, N3.listed, N3.rSl, N3.rRev, N3.rEq, N3.rNe, N3.rIsN, N3.rNotN, N3.isNon, N3.vw, N3.mYes, N3.gT, N3.gsCons, N3.gsNil, N3.mFor, N3.mSeqs, N3.mLc, N3.mLcM, N3.mRng1, N3.mRng2, N3.mEnum, N3.mEnumA, N3.mZip, N3.wp, N3.rJoin, N3.rSS, N3.rIdxS, N3.rRepr, N3.flat, N3.flats, N3.toD, N3.toDs, List.length_cons, List.length_nil, List.append_eq, List.cons_append, List.nil_append, List.map_cons, List.map_nil, if_true, if_false, Bool.false_eq_true, decide_eq_true_eq, Option.some.injEq, true_and, and_true, Bool.not_true, Bool.not_false, reduceCtorEq, Bool.and_self, Bool.and_true, Bool.true_and, ite_true, ite_false]
  refine forL_of (W := fun ps τ h2 => (∀ p ∈ ps, ∃ i, p = .int i) ∧ ∃ (c : Int) (v : Option PV), h2 = h ∧ τ = [some (.lst (ns.map PV.int)), some (.lst (ns.map PV.int)), some (.int c), v]) ?_ ?_ _ _ _ ⟨fun p hp => ?_, _, none, rfl, rfl⟩
  · rintro p ps τ h2 ⟨hp, c, v, rfl, rfl⟩
    obtain ⟨i, rfl⟩ := hp p List.mem_cons_self
    refine ⟨trivial, fun P' hP' => ?_⟩
    simp only [N3.mDput, N3.mB, N3.mU, N3.mVar, N3.mC, N3.sp0, N3.gt, N3.st, N3.rIx, N3.seqL, N3.dctL, N3.kOf, N3.rAdd, N3.mAsg, N3.gN, N3.mIfS, N3.mTest, N3.mPop, N3.mAppend, N3.mDrop, N3.mRet, N3.mRetN, N3.mNx, N3.mBrk, N3.mCnt, N3.mLst, N3.mLstM, N3.mCons, N3.mNil, N3.mTup, N3.mBlt, N3.mKw, N3.cat2, N3.cat2r, N3.gS, N3.gL, N3.mSlM, N3.rSlM, N3.mM1, N3.mSl, N3.mRev, N3.mStep, N3.mRevM, N3.mPart, N3.mNoPart, N3.rII, N3.rII0, N3.rIB, N3.rCmp, N3.rLt, N3.rLe, N3.rGt, N3.rGe, N3.mIsI, N3.tn, N3.isI, N3.mDisp, N3.mDct0, N3.mDct0M, N3.mPar3, N3.mAug, N3.rIAdd, N3.mExtend, N3.mInsert, N3.mPopAt, N3.rMin2, N3.rMax2, N3.rIntT, N3.rSplit, N3.rSplitM, N3.rAddM, N3.gPut, N3.mFmt, N3.mJs, N3.mJoin, N3.rDictP, N3.mRepM, N3.rListA, N3.rSortA, N3.mLc2, N3.lcI, N3.lcO, N3.rAllB, N3.rAnyB, N3.rStrI, N3.rIntO, N3.vwL, N3.rMul, N3.rMulT, N3.rNeg, N3.rSub, N3.rDiv, N3.rMod, N3.rPow, N3.mPar, N3.mAndT, N3.mOrT, N3.mNotT, N3.mAnd, N3.mOr, N3.mOrV, N3.mAndV, N3.trv, N3.mNot, N3.mIf, N3.mChn, N3.mKeep, N3.mRep, N3.mDispM, N3.mPs, N3.ends, N3.rLen, N3.rListOf, N3.rListOfM, N3.rTupOf, N3.rSumI, N3.listed, N3.rSl, N3.rRev, N3.rEq, N3.rNe, N3.rIsN, N3.rNotN, N3.isNon, N3.vw, N3.mYes, N3.gT, N3.gsCons, N3.gsNil, N3.mFor, N3.mSeqs, N3.mLc, N3.mLcM, N3.mRng1, N3.mRng2, N3.mEnum, N3.mEnumA, N3.mZip, N3.wp, N3.rJoin, N3.rSS, N3.rIdxS, N3.rRepr, N3.flat, N3.flats, N3.toD, N3.toDs, List.length_cons, List.length_nil, List.append_eq, List.cons_append, List.nil_append, List.map_cons, List.map_nil, if_true, if_false, Bool.false_eq_true, decide_eq_true_eq, Option.some.injEq, true_and, and_true, Bool.not_true, Bool.not_false, reduceCtorEq, Bool.and_self, Bool.and_true, Bool.true_and, ite_true, ite_false]
    exact ⟨.inr (by decide), by decide, by decide, hP' _ _ ⟨fun q hq => hp q (List.mem_cons_of_mem _ hq), _, _, rfl, rfl⟩⟩
  · rintro τ h2 ⟨-, c, v, rfl, rfl⟩
    refine ⟨trivial, ?_⟩
    subst hP
    dsimp only
    simp only [N3.mDput, N3.mB, N3.mU, N3.mVar, N3.mC, N3.sp0, N3.gt, N3.st, N3.rIx, N3.seqL, N3.dctL, N3.kOf, N3.rAdd, N3.mAsg, N3.gN, N3.mIfS, N3.mTest, N3.mPop, N3.mAppend, N3.mDrop, N3.mRet, N3.mRetN, N3.mNx, N3.mBrk, N3.mCnt, N3.mLst, N3.mLstM, N3.mCons, N3.mNil, N3.mTup, N3.mBlt, N3.mKw, N3.cat2, N3.cat2r, N3.gS, N3.gL, N3.mSlM, N3.rSlM, N3.mM1, N3.mSl, N3.mRev, N3.mStep, N3.mRevM, N3.mPart, N3.mNoPart, N3.rII, N3.rII0, N3.rIB, N3.rCmp, N3.rLt, N3.rLe, N3.rGt, N3.rGe, N3.mIsI, N3.tn, N3.isI, N3.mDisp, N3.mDct0, N3.mDct0M, N3.mPar3, N3.mAug, N3.rIAdd, N3.mExtend, N3.mInsert, N3.mPopAt, N3.rMin2, N3.rMax2, N3.rIntT, N3.rSplit, N3.rSplitM, N3.rAddM, N3.gPut, N3.mFmt, N3.mJs, N3.mJoin, N3.rDictP, N3.mRepM, N3.rListA, N3.rSortA, N3.mLc2, N3.lcI, N3.lcO, N3.rAllB, N3.rAnyB, N3.rStrI, N3.rIntO, N3.vwL, N3.rMul, N3.rMulT, N3.rNeg, N3.rSub, N3.rDiv, N3.rMod, N3.rPow, N3.mPar, N3.mAndT, N3.mOrT, N3.mNotT, N3.mAnd, N3.mOr, N3.mOrV, N3.mAndV, N3.trv, N3.mNot, N3.mIf, N3.mChn, N3.mKeep, N3.mRep, N3.mDispM, N3.mPs, N3.ends, N3.rLen, N3.rListOf, N3.rListOfM, N3.rTupOf, N3.rSumI, N3.listed, N3.rSl, N3.rRev, N3.rEq, N3.rNe, N3.rIsN, N3.rNotN, N3.isNon, N3.vw, N3.mYes, N3.gT, N3.gsCons, N3.gsNil, N3.mFor, N3.mSeqs, N3.mLc, N3.mLcM, N3.mRng1, N3.mRng2, N3.mEnum, N3.mEnumA, N3.mZip, N3.wp, N3.rJoin, N3.rSS, N3.rIdxS, N3.rRepr, N3.flat, N3.flats, N3.toD, N3.toDs, List.length_cons, List.length_nil, List.append_eq, List.cons_append, List.nil_append, List.map_cons, List.map_nil, if_true, if_false, Bool.false_eq_true, decide_eq_true_eq, Option.some.injEq, true_and, and_true, Bool.not_true, Bool.not_false, reduceCtorEq, Bool.and_self, Bool.and_true, Bool.true_and, ite_true, ite_false]
    intro l hl
    refine ⟨by decide +kernel, fun d hd => ?_⟩
    have ne : d ≠ l := fun e => by rw [e, up_same] at hd; cases hd
    refine k ⟨d, l, c, _, ne⟩ _ rfl (by rwa [up_ne ne] at hd) hl ⟨ns.reverse, 0, by rw [List.length_reverse]; exact hn, Int.le_refl _, Int.le_refl _, ?_⟩
    unfold Dk.hp
    rw [up_swap ne.symm, List.map_reverse]
  · obtain ⟨i, -, rfl⟩ := List.mem_map.mp hp
    exact ⟨i, rfl⟩
theorem pure_deck : ∀ qs h Q, qs.length = 1 → spDeck qs h Q → mDeck (ends Q) (sp0 4 qs) h := fun qs h Q hl ⟨ns, e, hn, k⟩ => pure_deckF qs h Q hl ⟨ns, e, hn, fun D h' e _ _ a => k D h' e a⟩
end N3

namespace N3
open PySem PySem.Spec PyProof.Rows L2

/-- a comprehension whose turns change nothing: the items that pass, and their answers -/
theorem lcL_filter {gd : PH → Prop} {τ : PSt} {g : MG} {t : MT} {m : ME} {h : PH} {Q : List PV → PH → Prop} (c : PV → Bool) (f : PV → PV) (hg : gd h) :
    ∀ (ps acc : List PV), (∀ p ∈ ps, ∀ P : List PV → PH → Prop, ∀ acc, (if c p = true then P (acc ++ [f p]) h else P acc h) → g p τ h fun τ1 h1 => t τ1 h1 fun b h2 => if b = true then m τ1 h2 fun v h3 => P (acc ++ [v]) h3 else P acc h2) →
      Q (acc ++ (ps.filter c).map f) h → lcL gd τ g t m ps acc h Q
  | [], acc, _, q => ⟨hg, by simpa using q⟩
  | p :: ps, acc, hs, q => by
    refine ⟨hg, hs p List.mem_cons_self (fun acc h3 => lcL gd τ g t m ps acc h3 Q) acc ?_⟩
    cases hc : c p with
    | true => exact lcL_filter c f hg ps _ (fun x hx => hs x (List.mem_cons_of_mem _ hx)) (by simpa [List.filter_cons, hc] using q)
    | false => exact lcL_filter c f hg ps _ (fun x hx => hs x (List.mem_cons_of_mem _ hx)) (by simpa [List.filter_cons, hc] using q)

/-! ### picking -/
theorem atI_nat {α : Type} {xs : List α} {r : Int} (h0 : 0 ≤ r) (h1 : r < xs.length) : ∃ v ∈ xs, atI xs r = some v := by
  have e : ixN xs.length r = some r.toNat := by
    unfold ixN
    simp only [h0, h1, if_true]
  have hl : r.toNat < xs.length := by omega
  refine ⟨xs[r.toNat], List.getElem_mem hl, ?_⟩
  unfold atI
  rw [e]
  exact List.getElem?_eq_getElem hl
def mPick (spD : SpP) : MS := mRet (mB rIx (mVar 1) (mBlt spD (mCons (mVar 0) (mCons (mBlt rLen (mCons (mVar 1) (mNil))) (mNil)))))
/-- what can be picked from: a text, a list, a tuple -/
def pickFrom : PV → Option (List PV)
  | .str x => some (ones x)
  | .lst xs => some xs
  | .tup xs => some xs
  | _ => none
def spPick : SpP := fun ps h Q => ∃ (D : Dk) (n : Nat) (p : PV) (xs : List PV), ps = [.ref D.d, p] ∧ D.At n h ∧ n < 1000000000 ∧ pickFrom p = some xs ∧ xs ≠ [] ∧ xs.length ≤ SZ ∧ ∀ v h', v ∈ xs → D.At (n + 1) h' → Q v h'
theorem pure_pick : ∀ qs h Q, qs.length = 2 → spPick qs h Q → mPick spDraw (ends Q) (sp0 2 qs) h := by
  rintro _ h Q - ⟨D, n, p, xs, rfl, ha, hn, hp, hne, hz, k⟩
  have pos : 0 < xs.length := List.length_pos_iff.mpr hne
  cases p with
  | str x =>
    simp only [pickFrom, Option.some.injEq] at hp
    subst hp
    have hl : x.length = (ones x).length := by unfold ones; rw [List.length_map, ← cl_length]
    simp only [mPick, N3.mDput, N3.mB, N3.mU, N3.mVar, N3.mC, N3.sp0, N3.gt, N3.st, N3.rIx, N3.seqL, N3.dctL, N3.kOf, N3.rAdd, N3.mAsg, N3.gN, N3.mIfS, N3.mTest, N3.mPop, N3.mAppend, N3.mDrop, N3.mRet, N3.mRetN, N3.mNx, N3.mBrk, N3.mCnt, N3.mLst, N3.mLstM, N3.mCons, N3.mNil, N3.mTup, N3.mBlt, N3.mKw, N3.cat2, N3.cat2r, N3.gS, N3.gL, N3.mSlM, N3.rSlM, N3.mM1, N3.mSl, N3.mRev, N3.mStep, N3.mRevM, N3.mPart, N3.mNoPart, N3.rII, N3.rII0, N3.rIB, N3.rCmp, N3.rLt, N3.rLe, N3.rGt, N3.rGe, N3.mIsI, N3.tn, N3.isI, N3.mDisp, N3.mDct0, N3.mDct0M, N3.mPar3, N3.mAug, N3.rIAdd, N3.mExtend, N3.mInsert, N3.mPopAt, N3.rMin2, N3.rMax2, N3.rIntT, N3.rSplit, N3.rSplitM, N3.rAddM, N3.gPut, N3.mFmt, N3.mJs, N3.mJoin, N3.rDictP, N3.mRepM, N3.rListA, N3.rSortA, N3.mLc2, N3.lcI, N3.lcO, N3.rAllB, N3.rAnyB, N3.rStrI, N3.rIntO, N3.vwL, N3.rMul, N3.rMulT, N3.rNeg, N3.rSub, N3.rDiv, N3.rMod, N3.rPow, N3.mPar, N3.mAndT, N3.mOrT, N3.mNotT, N3.mAnd, N3.mOr, N3.mOrV, N3.mAndV, N3.trv, N3.mNot, N3.mIf, N3.mChn, N3.mKeep, N3.mRep, N3.mDispM, N3.mPs, N3.ends, N3.rLen, N3.rListOf, N3.rListOfM, N3.rTupOf, N3.rSumI, N3.listed, N3.rSl, N3.rRev, N3.rEq, N3.rNe, N3.rIsN, N3.rNotN, N3.isNon, N3.vw, N3.mYes, N3.gT, N3.gsCons, N3.gsNil, N3.mFor, N3.mSeqs, N3.mLc, N3.mLcM, N3.mRng1, N3.mRng2, N3.mEnum, N3.mEnumA, N3.mZip, N3.wp, N3.rJoin, N3.rSS, N3.rIdxS, N3.rRepr, N3.flat, N3.flats, N3.toD, N3.toDs, List.length_cons, List.length_nil, List.append_eq, List.cons_append, List.nil_append, List.map_cons, List.map_nil, if_true, if_false, Bool.false_eq_true, decide_eq_true_eq, Option.some.injEq, true_and, and_true, Bool.not_true, Bool.not_false, reduceCtorEq, Bool.and_self, Bool.and_true, Bool.true_and, ite_true, ite_false]
    refine ⟨by rw [hl]; exact hz, D, n, _, rfl, ha, hn, by omega, by have hz' : (ones x).length ≤ 16777216 := hz; omega, fun r h' h0 h1 a => ?_⟩
    refine ⟨by rw [hl]; exact hz, ?_⟩
    obtain ⟨c, hc, e⟩ := atI_nat (xs := cl x) h0 (by rw [← cl_length]; exact h1)
    simp only [e]
    exact k _ _ (List.mem_map.mpr ⟨c, hc, rfl⟩) a
  | lst ys =>
    simp only [pickFrom, Option.some.injEq] at hp
    subst hp
    simp only [mPick, N3.mDput, N3.mB, N3.mU, N3.mVar, N3.mC, N3.sp0, N3.gt, N3.st, N3.rIx, N3.seqL, N3.dctL, N3.kOf, N3.rAdd, N3.mAsg, N3.gN, N3.mIfS, N3.mTest, N3.mPop, N3.mAppend, N3.mDrop, N3.mRet, N3.mRetN, N3.mNx, N3.mBrk, N3.mCnt, N3.mLst, N3.mLstM, N3.mCons, N3.mNil, N3.mTup, N3.mBlt, N3.mKw, N3.cat2, N3.cat2r, N3.gS, N3.gL, N3.mSlM, N3.rSlM, N3.mM1, N3.mSl, N3.mRev, N3.mStep, N3.mRevM, N3.mPart, N3.mNoPart, N3.rII, N3.rII0, N3.rIB, N3.rCmp, N3.rLt, N3.rLe, N3.rGt, N3.rGe, N3.mIsI, N3.tn, N3.isI, N3.mDisp, N3.mDct0, N3.mDct0M, N3.mPar3, N3.mAug, N3.rIAdd, N3.mExtend, N3.mInsert, N3.mPopAt, N3.rMin2, N3.rMax2, N3.rIntT, N3.rSplit, N3.rSplitM, N3.rAddM, N3.gPut, N3.mFmt, N3.mJs, N3.mJoin, N3.rDictP, N3.mRepM, N3.rListA, N3.rSortA, N3.mLc2, N3.lcI, N3.lcO, N3.rAllB, N3.rAnyB, N3.rStrI, N3.rIntO, N3.vwL, N3.rMul, N3.rMulT, N3.rNeg, N3.rSub, N3.rDiv, N3.rMod, N3.rPow, N3.mPar, N3.mAndT, N3.mOrT, N3.mNotT, N3.mAnd, N3.mOr, N3.mOrV, N3.mAndV, N3.trv, N3.mNot, N3.mIf, N3.mChn, N3.mKeep, N3.mRep, N3.mDispM, N3.mPs, N3.ends, N3.rLen, N3.rListOf, N3.rListOfM, N3.rTupOf, N3.rSumI, N3.listed, N3.rSl, N3.rRev, N3.rEq, N3.rNe, N3.rIsN, N3.rNotN, N3.isNon, N3.vw, N3.mYes, N3.gT, N3.gsCons, N3.gsNil, N3.mFor, N3.mSeqs, N3.mLc, N3.mLcM, N3.mRng1, N3.mRng2, N3.mEnum, N3.mEnumA, N3.mZip, N3.wp, N3.rJoin, N3.rSS, N3.rIdxS, N3.rRepr, N3.flat, N3.flats, N3.toD, N3.toDs, List.length_cons, List.length_nil, List.append_eq, List.cons_append, List.nil_append, List.map_cons, List.map_nil, if_true, if_false, Bool.false_eq_true, decide_eq_true_eq, Option.some.injEq, true_and, and_true, Bool.not_true, Bool.not_false, reduceCtorEq, Bool.and_self, Bool.and_true, Bool.true_and, ite_true, ite_false]
    refine ⟨D, n, _, rfl, ha, hn, by omega, by have hz' : ys.length ≤ 16777216 := hz; omega, fun r h' h0 h1 a => ?_⟩
    obtain ⟨c, hc, e⟩ := atI_nat h0 h1
    simp only [e]
    exact k _ _ hc a
  | tup ys =>
    simp only [pickFrom, Option.some.injEq] at hp
    subst hp
    simp only [mPick, N3.mDput, N3.mB, N3.mU, N3.mVar, N3.mC, N3.sp0, N3.gt, N3.st, N3.rIx, N3.seqL, N3.dctL, N3.kOf, N3.rAdd, N3.mAsg, N3.gN, N3.mIfS, N3.mTest, N3.mPop, N3.mAppend, N3.mDrop, N3.mRet, N3.mRetN, N3.mNx, N3.mBrk, N3.mCnt, N3.mLst, N3.mLstM, N3.mCons, N3.mNil, N3.mTup, N3.mBlt, N3.mKw, N3.cat2, N3.cat2r, N3.gS, N3.gL, N3.mSlM, N3.rSlM, N3.mM1, N3.mSl, N3.mRev, N3.mStep, N3.mRevM, N3.mPart, N3.mNoPart, N3.rII, N3.rII0, N3.rIB, N3.rCmp, N3.rLt, N3.rLe, N3.rGt, N3.rGe, N3.mIsI, N3.tn, N3.isI, N3.mDisp, N3.mDct0, N3.mDct0M, N3.mPar3, N3.mAug, N3.rIAdd, N3.mExtend, N3.mInsert, N3.mPopAt, N3.rMin2, N3.rMax2, N3.rIntT, N3.rSplit, N3.rSplitM, N3.rAddM, N3.gPut, N3.mFmt, N3.mJs, N3.mJoin, N3.rDictP, N3.mRepM, N3.rListA, N3.rSortA, N3.mLc2, N3.lcI, N3.lcO, N3.rAllB, N3.rAnyB, N3.rStrI, N3.rIntO, N3.vwL, N3.rMul, N3.rMulT, N3.rNeg, N3.rSub, N3.rDiv, N3.rMod, N3.rPow, N3.mPar, N3.mAndT, N3.mOrT, N3.mNotT, N3.mAnd, N3.mOr, N3.mOrV, N3.mAndV, N3.trv, N3.mNot, N3.mIf, N3.mChn, N3.mKeep, N3.mRep, N3.mDispM, N3.mPs, N3.ends, N3.rLen, N3.rListOf, N3.rListOfM, N3.rTupOf, N3.rSumI, N3.listed, N3.rSl, N3.rRev, N3.rEq, N3.rNe, N3.rIsN, N3.rNotN, N3.isNon, N3.vw, N3.mYes, N3.gT, N3.gsCons, N3.gsNil, N3.mFor, N3.mSeqs, N3.mLc, N3.mLcM, N3.mRng1, N3.mRng2, N3.mEnum, N3.mEnumA, N3.mZip, N3.wp, N3.rJoin, N3.rSS, N3.rIdxS, N3.rRepr, N3.flat, N3.flats, N3.toD, N3.toDs, List.length_cons, List.length_nil, List.append_eq, List.cons_append, List.nil_append, List.map_cons, List.map_nil, if_true, if_false, Bool.false_eq_true, decide_eq_true_eq, Option.some.injEq, true_and, and_true, Bool.not_true, Bool.not_false, reduceCtorEq, Bool.and_self, Bool.and_true, Bool.true_and, ite_true, ite_false]
    refine ⟨D, n, _, rfl, ha, hn, by omega, by have hz' : ys.length ≤ 16777216 := hz; omega, fun r h' h0 h1 a => ?_⟩
    obtain ⟨c, hc, e⟩ := atI_nat h0 h1
    simp only [e]
    exact k _ _ hc a
  | _ => simp [pickFrom] at hp

/-- a comprehension over turns that draw: each turn's value is good -/
theorem runs {D : Dk} {τ : PSt} {i cost n : Nat} {m : ME} {h : PH} {Q : List PV → PH → Prop} (G : PV → Prop) (ps : List PV) (step : ∀ p ∈ ps, ∀ n' h' (Q : PK), D.At n' h' → n ≤ n' → n' + cost ≤ n + cost * ps.length → (∀ v h2, G v → D.At (n' + cost) h2 → Q v h2) → m (st τ i (some p)) h' Q)
    (ha : D.At n h) (k : ∀ (zs : List PV) h', (∀ z ∈ zs, G z) → zs.length = ps.length → D.At (n + cost * ps.length) h' → Q zs h') : lcL (fun _ => True) τ (gN i) mYes m ps [] h Q := by
  refine lcL_of (W := fun qs acc h' => (∀ z ∈ acc, G z) ∧ (∀ q ∈ qs, q ∈ ps) ∧ acc.length + qs.length = ps.length ∧ D.At (n + cost * acc.length) h') ?_ ?_ _ _ _ ⟨fun _ z => (List.not_mem_nil z).elim, fun _ h => h, by simp, by simpa using ha⟩
  · rintro p qs acc h' ⟨hg, hm, hl, a⟩
    refine ⟨trivial, fun P hP => ?_⟩
    rw [List.length_cons] at hl
    have hc : cost * (acc.length + 1) ≤ cost * ps.length := Nat.mul_le_mul_left _ (by omega)
    rw [Nat.mul_add, Nat.mul_one] at hc
    show m (st τ i (some p)) h' fun v h3 => P (acc ++ [v]) h3
    refine step p (hm p List.mem_cons_self) _ h' _ a (by omega) (by omega) fun v h2 gv a2 => hP _ _ ⟨fun z hz => ?_, fun q hq => hm q (List.mem_cons_of_mem _ hq), by rw [List.length_append, List.length_singleton]; omega, ?_⟩
    · rcases List.mem_append.mp hz with h | h
      · exact hg z h
      · rw [List.mem_singleton] at h; subst h; exact gv
    · rw [List.length_append, List.length_singleton, Nat.mul_add, Nat.mul_one, ← Nat.add_assoc]; exact a2
  · rintro acc h' ⟨hg, hm, hl, a⟩
    have e : acc.length = ps.length := by simpa using hl
    exact ⟨trivial, k acc h' hg e (by rw [← e]; exact a)⟩
theorem rng_len {lo : Int} {n : Nat} : (rng lo n).length = n := by unfold rng; rw [List.length_map, List.length_range]
/-- texts of one sign each, put together -/
theorem signs_of (G : Nat → Prop) : ∀ zs : List PV, (∀ z ∈ zs, ∃ c, G c ∧ z = .str (S [c])) → ∃ l : List Nat, zs = (l.map fun c => [c]).map (fun z => .str (S z)) ∧ (∀ c ∈ l, G c) ∧ l.length = zs.length
  | [], _ => ⟨[], rfl, fun _ h => (List.not_mem_nil h).elim, rfl⟩
  | z :: zs, h => by
    obtain ⟨c, gc, rfl⟩ := h z List.mem_cons_self
    obtain ⟨l, rfl, hl, hn⟩ := signs_of G zs fun y hy => h y (List.mem_cons_of_mem _ hy)
    refine ⟨c :: l, rfl, fun x hx => ?_, by rw [List.length_cons, List.length_cons, hn]⟩
    rcases List.mem_cons.mp hx with rfl | hx
    · exact gc
    · exact hl x hx
theorem joinL_nil : ∀ zs : List (List Nat), TL.joinL [] zs = zs.flatten
  | [] => rfl
  | [x] => by simp [TL.joinL]
  | x :: y :: r => by
    have ih := joinL_nil (y :: r)
    simp only [TL.joinL] at ih ⊢
    rw [ih]; simp
theorem flat_ones (l : List Nat) : (l.map fun c => [c]).flatten = l := by
  induction l with
  | nil => rfl
  | cons c l ih => rw [List.map_cons, List.flatten_cons, ih]; rfl
theorem sum_ones (l : List Nat) : ((l.map fun c => [c]).map (·.length)).sum = l.length := by
  induction l with
  | nil => rfl
  | cons c l ih => rw [List.map_cons, List.map_cons, List.sum_cons, ih, List.length_cons]; simp; omega

/-! ### texts: the first place of a sign -/
open PySem.StrLaws PySem.Builtin.Str in
theorem occ_full (s sub : Str) (hi : Nat) : ∀ (l : List Nat) (st : Array Nat × Nat), ¬ st.fst.size < 1 → (forIn l st (occBody s sub hi 1)).run.fst = st.fst
  | [], _, _ => rfl
  | a :: l, st, h => by
    rw [List.forIn_cons]
    unfold occBody
    rw [if_neg fun z => h z.1.1.1]
    exact occ_full s sub hi l _ h
open PySem.StrLaws PySem.Builtin.Str in
theorem occ_first (s sub : Str) (hi : Nat) : ∀ (l : List Nat) (free : Nat), (∀ i ∈ l, free ≤ i) →
    (forIn l ((#[] : Array Nat), free) (occBody s sub hi 1)).run.fst.toList.head? = l.find? fun i => decide (i + sub.length ≤ hi ∧ subAt s sub i = true)
  | [], _, _ => rfl
  | a :: l, free, hf => by
    rw [List.forIn_cons]
    unfold occBody
    have ha : free ≤ a := hf a List.mem_cons_self
    by_cases hc : a + sub.length ≤ hi ∧ subAt s sub a = true
    · rw [if_pos ⟨⟨⟨by simp, ha⟩, hc.1⟩, hc.2⟩]
      have := occ_full s sub hi l ((#[] : Array Nat).push a, a + sub.length) (by simp)
      show ((forIn l ((#[] : Array Nat).push a, a + sub.length) (occBody s sub hi 1)).run.fst.toList.head?) = _
      rw [this, List.find?_cons_of_pos (by simpa using hc)]
      simp
    · rw [if_neg fun z => hc ⟨z.1.2, z.2⟩, List.find?_cons_of_neg (by simpa using hc)]
      exact occ_first s sub hi l free fun i hi' => hf i (List.mem_cons_of_mem _ hi')
theorem find_range (l : List Nat) (c : Nat) : ∀ (n k : Nat), k + n = l.length + 1 → (∀ i, i < k → l[i]? ≠ some c) → (List.range' k n).find? (fun i => decide (l[i]? = some c)) = if c ∈ l then some (l.idxOf c) else none
  | 0, k, h, hk => by
    have hn : c ∉ l := fun hc => by
      obtain ⟨i, e⟩ := List.mem_iff_getElem?.mp hc
      obtain ⟨hi, _⟩ := List.getElem?_eq_some_iff.mp e
      exact hk i (by omega) e
    rw [if_neg hn]; rfl
  | n + 1, k, h, hk => by
    rw [List.range'_succ]
    by_cases e : l[k]? = some c
    · rw [List.find?_cons_of_pos (by simpa using e)]
      have hm : c ∈ l := List.mem_iff_getElem?.mpr ⟨k, e⟩
      rw [if_pos hm]
      have h1 : l.idxOf c ≤ k := by
        refine Nat.le_of_not_lt fun z => ?_
        obtain ⟨hi, ek⟩ := List.getElem?_eq_some_iff.mp e
        have := List.not_of_lt_findIdx (xs := l) (p := fun x => x == c) (i := k) (by simpa [List.idxOf] using z)
        simp [ek] at this
      have h2 : ¬ l.idxOf c < k := fun z => by
        have hl : l.idxOf c < l.length := List.idxOf_lt_length_iff.mpr hm
        exact hk _ z (by rw [List.getElem?_eq_getElem hl, List.getElem_idxOf])
      congr 1; omega
    · rw [List.find?_cons_of_neg (by simpa using e)]
      refine find_range l c n (k + 1) (by omega) fun i hi => ?_
      by_cases z : i = k
      · subst z; exact e
      · exact hk i (by omega)
open PySem.StrLaws PySem.Builtin.Str in
theorem first_one (l : List Nat) (c : Nat) : (occurrences (S l) (S [c]) 0 (S l).length 1).head? = if c ∈ l then some (l.idxOf c) else none := by
  rw [occ_eq, occ_first _ _ _ _ _ (fun _ _ => Nat.zero_le _), ← find_range l c (l.length + 1) 0 (by omega) (fun i hi => absurd hi (Nat.not_lt_zero _))]
  rw [S_length, Nat.sub_zero]
  congr 1
  funext i
  have := subAt_one (S l) c i
  rw [S_length] at this
  exact decide_eq_decide.mpr this
theorem find_one (l : List Nat) (c : Nat) : Txt.find (S l) (S [c]) = if c ∈ l then (l.idxOf c : Int) else -1 := by
  have h := first_one l c
  unfold Txt.find
  split
  · rename_i i r e
    rw [e, List.head?_cons] at h
    by_cases hc : c ∈ l
    · rw [if_pos hc] at h ⊢
      rw [Option.some.inj h]
    · rw [if_neg hc] at h; cases h
  · rename_i e
    rw [e, List.head?_nil] at h
    by_cases hc : c ∈ l
    · rw [if_pos hc] at h; cases h
    · rw [if_neg hc]
theorem index_one (l : List Nat) (c : Nat) : Txt.index0 (S l) (S [c]) = if c ∈ l then some (l.idxOf c) else none := first_one l c
end N3

namespace N3
open PySem PySem.Spec PyProof.Rows L2

/-! ### how long what is shown may be -/
mutual
def wt : PyData → Nat
  | .none => 4
  | .bool _ => 5
  | .int i => i.natAbs.log2 + 2
  | .str x => 10 * x.length + 2
  | .list xs => wts xs + 2
  | .tuple xs => wts xs + 3
  | .dict kvs => wtk kvs + 2
def wts : List PyData → Nat
  | [] => 0
  | x :: xs => wt x + 2 + wts xs
def wtk : List (PyData × PyData) → Nat
  | [] => 0
  | (k, v) :: r => wt k + wt v + 4 + wtk r
end
mutual
def sigs : PyData → Bool
  | .str x => (cl x).all fun c => decide (c < 16 ^ 8)
  | .list xs => sigsAll xs
  | .tuple xs => sigsAll xs
  | .dict kvs => sigsKv kvs
  | _ => true
def sigsAll : List PyData → Bool
  | [] => true
  | x :: xs => sigs x && sigsAll xs
def sigsKv : List (PyData × PyData) → Bool
  | [] => true
  | (k, v) :: r => sigs k && sigs v && sigsKv r
end
theorem textFrom_le : ∀ (ts : List Str) (k : Nat) (acc : Str), (textFrom k acc ts).length ≤ acc.length + (ts.map fun t => t.length + 2).sum
  | [], k, acc => by simp [textFrom]
  | t :: r, k, acc => by
    have ih := textFrom_le r (k + 1) (acc ++ (if k > 0 then ", " else "" : String) ++ t)
    have e : (acc ++ (if k > 0 then ", " else "" : String) ++ t).length ≤ acc.length + 2 + t.length := by
      rw [strLen_append, strLen_append]
      split
      · exact Nat.le_refl _
      · have : (("" : String) : Str).length = 0 := rfl
        omega
    simp only [List.map_cons, List.sum_cons]
    show (textFrom (k + 1) _ r).length ≤ _
    omega
theorem listText_le (ts : List Str) : (listText ts).length ≤ (ts.map fun t => t.length + 2).sum + 2 := by
  unfold listText
  rw [strLen_append]
  have := textFrom_le ts 0 "["
  have e1 : (("[" : String) : Str).length = 1 := rfl
  have e2 : ("]" : Str).length = 1 := rfl
  omega
theorem tupleText_le (ts : List Str) : (tupleText ts).length ≤ (ts.map fun t => t.length + 2).sum + 3 := by
  unfold tupleText
  rw [strLen_append, strLen_append]
  have e1 : ("(" : Str).length = 1 := rfl
  have e2 : ((if ts.length == 1 then ",)" else ")" : String) : Str).length ≤ 2 := by
    split
    · exact Nat.le_refl _
    · exact Nat.le_succ _
  cases ts with
  | nil =>
    have : (Str.join ", " ([] : List Str)).length = 0 := rfl
    simp only [List.map_nil, List.sum_nil]
    omega
  | cons x r =>
    have := join_length_add (x :: r) (by simp)
    unfold piled at this
    omega
theorem dictText_le (ts : List Str) : (dictText ts).length ≤ (ts.map fun t => t.length + 2).sum + 2 := by
  unfold dictText
  rw [strLen_append, strLen_append]
  have e1 : ("{" : Str).length = 1 := rfl
  have e2 : ("}" : Str).length = 1 := rfl
  cases ts with
  | nil =>
    have : (Str.join ", " ([] : List Str)).length = 0 := rfl
    simp only [List.map_nil, List.sum_nil]
    omega
  | cons x r =>
    have := join_length_add (x :: r) (by simp)
    unfold piled at this
    omega
mutual
theorem shown_le : ∀ d : PyData, sigs d = true → d.shown.length ≤ wt d
  | .none, _ => by simp only [PyData.shown, wt]; decide
  | .bool b, _ => by simp only [PyData.shown, wt]; cases b <;> decide
  | .int i, _ => by
    simp only [PyData.shown, wt]
    have := int_text_length_le (a := i) (k := i.natAbs.log2 + 1) (Nat.succ_pos _) (Nat.lt_succ_self _)
    show (Str.ofString (toString i)).length ≤ _
    rw [PySem.ofString_length]; omega
  | .str x, s => by
    simp only [PyData.shown, wt]
    refine StrLaws.reprText_len x fun c hc => ?_
    simp only [sigs, List.all_eq_true, decide_eq_true_eq] at s
    exact s c hc
  | .list xs, s => by
    simp only [PyData.shown, wt]
    have := shownAll_le xs (by simpa only [sigs] using s)
    have := listText_le (PyData.shownAll xs)
    omega
  | .tuple xs, s => by
    simp only [PyData.shown, wt]
    have := shownAll_le xs (by simpa only [sigs] using s)
    have := tupleText_le (PyData.shownAll xs)
    omega
  | .dict kvs, s => by
    simp only [PyData.shown, wt]
    have := shownKv_le kvs (by simpa only [sigs] using s)
    have := dictText_le (PyData.shownKv kvs)
    omega
theorem shownAll_le : ∀ xs : List PyData, sigsAll xs = true → ((PyData.shownAll xs).map fun t => t.length + 2).sum ≤ wts xs
  | [], _ => by simp [PyData.shownAll, wts]
  | x :: xs, s => by
    simp only [sigsAll, Bool.and_eq_true] at s
    have h1 := shown_le x s.1
    have h2 := shownAll_le xs s.2
    simp only [PyData.shownAll, wts, List.map_cons, List.sum_cons]
    omega
theorem shownKv_le : ∀ xs : List (PyData × PyData), sigsKv xs = true → ((PyData.shownKv xs).map fun t => t.length + 2).sum ≤ wtk xs
  | [], _ => by simp [PyData.shownKv, wtk]
  | (k, v) :: xs, s => by
    simp only [sigsKv, Bool.and_eq_true] at s
    have h1 := shown_le k s.1.1
    have h2 := shown_le v s.1.2
    have h3 := shownKv_le xs s.2
    simp only [PyData.shownKv, wtk, List.map_cons, List.sum_cons]
    rw [strLen_append, strLen_append]
    have e1 : (": " : Str).length = 2 := rfl
    omega
end
/-- what is asked of a value whose repr is taken, put together -/
theorem repr_ok {h : PH} {p : PV} {Q : PK} (f : okR (vwL h p) = true) (hs : (toD (vwL h p)).showable = true) (hd : (toD (vwL h p)).depth ≤ 64) (hg : sigs (toD (vwL h p)) = true) (hw : wt (toD (vwL h p)) ≤ SZ) (q : Q (.str (toD (vwL h p)).shown) h) : rRepr [p] h Q :=
  ⟨⟨f, hs, hd, Nat.le_trans (shown_le _ hg) hw⟩, q⟩
theorem log_lt {i : Int} {k : Nat} (h : i.natAbs < 2 ^ (k + 1)) : i.natAbs.log2 < k + 1 := by
  by_cases z : i.natAbs = 0
  · rw [z]; simp
  · exact (Nat.log2_lt z).mpr h
end N3

/-! what is drawn: texts of few signs, data of few parts -/
namespace N3
open PySem PySem.Spec PyProof.Rows L2

theorem draw_to {D : Dk} {n : Nat} {h : PH} {Q : PK} {many : Int} (ha : D.At n h) (hn : n < 900000000) (h1 : 1 ≤ many) (h2 : many < 1073741824) (k : ∀ r h', 0 ≤ r → r < many → D.At (n + 1) h' → Q (.int r) h') : spDraw [.ref D.d, .int many] h Q :=
  ⟨D, n, many, rfl, ha, by omega, h1, h2, k⟩
theorem pick_lst {D : Dk} {n : Nat} {h : PH} {Q : PK} {xs : List PV} (ha : D.At n h) (hn : n < 900000000) (h1 : xs ≠ []) (h2 : xs.length ≤ 100000) (k : ∀ v ∈ xs, ∀ h', D.At (n + 1) h' → Q v h') : spPick [.ref D.d, .lst xs] h Q :=
  ⟨D, n, _, xs, rfl, ha, by omega, rfl, h1, by show _ ≤ 16777216; omega, fun v h' hv a => k v hv h' a⟩
theorem pick_tup {D : Dk} {n : Nat} {h : PH} {Q : PK} {xs : List PV} (ha : D.At n h) (hn : n < 900000000) (h1 : xs ≠ []) (h2 : xs.length ≤ 100000) (k : ∀ v ∈ xs, ∀ h', D.At (n + 1) h' → Q v h') : spPick [.ref D.d, .tup xs] h Q :=
  ⟨D, n, _, xs, rfl, ha, by omega, rfl, h1, by show _ ≤ 16777216; omega, fun v h' hv a => k v hv h' a⟩
theorem ones_length (x : Str) : (ones x).length = (cl x).length := by unfold ones; rw [List.length_map]
theorem pick_str {D : Dk} {n : Nat} {h : PH} {Q : PK} {x : Str} (ha : D.At n h) (hn : n < 900000000) (h1 : cl x ≠ []) (h2 : (cl x).length ≤ 100000) (k : ∀ c ∈ cl x, ∀ h', D.At (n + 1) h' → Q (.str (S [c])) h') : spPick [.ref D.d, .str x] h Q := by
  refine ⟨D, n, _, ones x, rfl, ha, by omega, rfl, fun e => h1 (List.map_eq_nil_iff.mp e), by rw [ones_length]; show _ ≤ 16777216; omega, fun v h' hv a => ?_⟩
  obtain ⟨c, hc, rfl⟩ := List.mem_map.mp hv
  exact k c hc h' a
/-- an item, by its place -/
theorem ix_lst {xs : List PV} {r : Int} {h : PH} {Q : PK} (h0 : 0 ≤ r) (h1 : r < xs.length) (k : ∀ v ∈ xs, Q v h) : rIx (.lst xs) (.int r) h Q := by
  obtain ⟨v, hv, e⟩ := atI_nat h0 h1
  simp only [rIx, seqL, e]
  exact k v hv
theorem ix_tup {xs : List PV} {r : Int} {h : PH} {Q : PK} (h0 : 0 ≤ r) (h1 : r < xs.length) (k : ∀ v ∈ xs, Q v h) : rIx (.tup xs) (.int r) h Q := by
  obtain ⟨v, hv, e⟩ := atI_nat h0 h1
  simp only [rIx, e]
  exact k v hv
theorem atI_lst {xs : List PV} {r : Int} {Z : PV → Prop} (h0 : 0 ≤ r) (h1 : r < xs.length) (k : ∀ v ∈ xs, Z v) : (match atI xs r with | some v => Z v | none => False) := by
  obtain ⟨v, hv, e⟩ := atI_nat h0 h1
  rw [e]; exact k v hv

/-- what is not right: nothing -/
theorem none_wrong {τ : PSt} {i : Nat} {sp : SpP} {xs : List PV} {h : PH} {Q : List PV → PH → Prop} (hi : ∀ v, gt (st τ i (some v)) i = some v) (hx : ∀ x ∈ xs, ∀ P : PK, P (.bl true) h → sp [x] h P) (q : Q [] h) :
    lcL (fun _ => True) τ (gN i) (mNotT (mTest (mBlt sp (mCons (mVar i) mNil)))) (mVar i) xs [] h Q := by
  refine lcL_filter (c := fun _ => false) (f := id) trivial _ _ (fun p hp P acc z => ?_) (by rw [show (List.filter (fun _ => false) xs) = [] from by induction xs <;> simp_all]; exact q)
  simp only [gN, mNotT, mTest, mBlt, mCons, mVar, mNil, hi]
  exact hx p hp _ z
theorem okRs_of : ∀ {ps : List PV}, (∀ p ∈ ps, okR p = true) → okRs ps = true
  | [], _ => rfl
  | p :: ps, h => by
    show (okR p && okRs ps) = true
    rw [h p List.mem_cons_self, okRs_of fun q hq => h q (List.mem_cons_of_mem _ hq)]; rfl
theorem eqv_str (x : Str) : PyData.eqv (.str x) (.str x) = true := eqv_self _ rfl
/-! ### objects beside the deck -/
def Dk.wr (D : Dk) (a : Addr) (o : PO) : Dk := { D with h0 := up D.h0 a o }
theorem Dk.wr_hp {D : Dk} {a : Addr} {o : PO} {xs : List Int} {g : Int} (n1 : a ≠ D.d) (n2 : a ≠ D.l) : (D.wr a o).hp xs g = up (D.hp xs g) a o := by
  unfold Dk.hp Dk.wr
  dsimp only
  rw [up_swap n1, up_swap n2]
theorem Dk.At.wr {D : Dk} {n : Nat} {h : PH} {a : Addr} (o : PO) (ha : D.At n h) (n1 : a ≠ D.d) (n2 : a ≠ D.l) : (D.wr a o).At n (up h a o) := by
  obtain ⟨xs, g, h1, h2, h3, rfl⟩ := ha
  exact ⟨xs, g, h1, h2, h3, (Dk.wr_hp n1 n2).symm⟩
theorem Dk.At.ne {D : Dk} {n : Nat} {h : PH} {a : Addr} (ha : D.At n h) (e : h a = none) : a ≠ D.d ∧ a ≠ D.l := by
  obtain ⟨xs, g, h1, h2, h3, rfl⟩ := ha
  refine ⟨fun z => ?_, fun z => ?_⟩
  · rw [z, Dk.at_d] at e; cases e
  · rw [z, Dk.at_l] at e; cases e
theorem Dk.At.rd {D : Dk} {n : Nat} {h : PH} {a : Addr} (ha : D.At n h) (n1 : a ≠ D.d) (n2 : a ≠ D.l) : h a = D.h0 a := by
  obtain ⟨xs, g, h1, h2, h3, rfl⟩ := ha
  unfold Dk.hp
  rw [up_ne n2, up_ne n1]
theorem Dk.wr_wr {D : Dk} {a : Addr} {o u : PO} : (D.wr a o).wr a u = D.wr a u := by
  unfold Dk.wr
  dsimp only
  rw [up_up]
theorem Dk.wr_sw {D : Dk} {a b : Addr} {o u : PO} (e : a ≠ b) : (D.wr a o).wr b u = (D.wr b u).wr a o := by
  unfold Dk.wr
  dsimp only
  rw [up_swap e]
theorem Dk.At.back {D : Dk} {n : Nat} {h : PH} {a : Addr} {o : PO} (ha : (D.wr a o).At n h) (e : D.h0 a = none) (n1 : a ≠ D.d) (n2 : a ≠ D.l) : ∃ h0, sub h0 h ∧ h0 a = .none ∧ D.At n h0 := by
  obtain ⟨xs, g, h1, h2, h3, rfl⟩ := ha
  refine ⟨D.hp xs g, ?_, by unfold Dk.hp; rw [up_ne n2, up_ne n1]; exact e, xs, g, h1, h2, h3, rfl⟩
  rw [Dk.wr_hp n1 n2]
  refine sub_up ?_
  unfold Dk.hp
  rw [up_ne n2, up_ne n1]; exact e
theorem Dk.At.none {D : Dk} {n : Nat} {h : PH} {a : Addr} (ha : D.At n h) (e : h a = none) : D.h0 a = none := by
  obtain ⟨n1, n2⟩ := ha.ne e
  rw [← ha.rd n1 n2]; exact e
theorem ixN_nat {n q : Nat} (h : q < n) : ixN n (q : Int) = some q := by
  unfold ixN
  have h0 : (0 : Int) ≤ q := by omega
  have h1 : (q : Int) < n := by omega
  simp only [h0, h1, if_true, Int.toNat_natCast]
theorem rep_one {α : Type} (n : Nat) (x : α) : (List.replicate n [x]).flatten = List.replicate n x := by
  induction n with
  | zero => rfl
  | succ n ih => rw [List.replicate_succ, List.flatten_cons, ih, List.replicate_succ]; rfl
theorem flats_of {ps : List PV} (h : ∀ p ∈ ps, flat p = true) : flats ps = true := by
  induction ps with
  | nil => rfl
  | cons p ps ih =>
    show (flat p && flats ps) = true
    rw [h p List.mem_cons_self, ih fun q hq => h q (List.mem_cons_of_mem _ hq)]; rfl
theorem sub_lose {h : PH} {a : Addr} {o : PO} (e : h a = none) : sub h (lose (up h a o) a) := fun b u z => by
  have hb : b ≠ a := fun q => by rw [q, e] at z; cases z
  rw [lose_ne hb, up_ne hb]; exact z
theorem sub_lose' {h0 h : PH} {a : Addr} (s : sub h0 h) (e : h0 a = none) : sub h0 (lose h a) := fun b u z => by
  have hb : b ≠ a := fun q => by rw [q, e] at z; cases z
  rw [lose_ne hb]; exact s b u z
theorem eqv_int (x y : Int) : PyData.eqv (.int x) (.int y) = decide (x = y) := by
  show (x == y) = _
  by_cases h : x = y <;> simp [h]
theorem eqv_S (x y : List Nat) : PyData.eqv (.str (S x)) (.str (S y)) = decide (x = y) := by
  show (S x == S y) = _
  by_cases h : x = y
  · subst h; simp
  · rw [decide_eq_false h]
    exact beq_eq_false_iff_ne.mpr fun z => h (by have := congrArg cl z; rwa [cl_S, cl_S] at this)
theorem eqv_nil (xs : List PV) : PyData.eqv (.list (toDs xs)) (.list []) = xs.isEmpty := by cases xs <;> rfl
theorem perm_one {α : Type} {le : α → α → Prop} : ∀ {a b : List α}, a.Perm b → a.Pairwise le → b.Pairwise le → (∀ x ∈ a, ∀ y ∈ a, le x y → le y x → x = y) → a = b
  | [], b, p, _, _, _ => by rw [List.nil_perm.mp p]
  | x :: a, [], p, _, _, _ => by cases p.symm.nil_eq
  | x :: a, y :: b, p, h1, h2, an => by
    have e : x = y := by
      have hx : x ∈ y :: b := p.mem_iff.mp List.mem_cons_self
      have hy : y ∈ x :: a := p.mem_iff.mpr List.mem_cons_self
      rcases List.mem_cons.mp hx with e | hx'
      · exact e
      rcases List.mem_cons.mp hy with e | hy'
      · exact e.symm
      · exact an x List.mem_cons_self y hy ((List.pairwise_cons.mp h1).1 y hy') ((List.pairwise_cons.mp h2).1 x hx')
    subst e
    rw [perm_one (List.perm_cons x |>.mp p) (List.pairwise_cons.mp h1).2 (List.pairwise_cons.mp h2).2 fun z hz w hw => an z (List.mem_cons_of_mem _ hz) w (List.mem_cons_of_mem _ hw)]
/-! ### texts of signs below 128 -/
structure Tx (n : Nat) (l : List Nat) : Prop where
  c : ∀ c ∈ l, c < 128
  n : l.length ≤ n
section
variable {n m : Nat} {l k : List Nat}
theorem Tx.mono (t : Tx n l) (h : n ≤ m) : Tx m l := ⟨t.c, Nat.le_trans t.n h⟩
theorem Tx.nil : Tx n [] := ⟨fun _ h => (List.not_mem_nil h).elim, Nat.zero_le _⟩
theorem Tx.one {c : Nat} (h : c < 128) : Tx 1 [c] := ⟨fun x hx => by rw [List.mem_singleton] at hx; omega, Nat.le_refl _⟩
theorem Tx.app (t : Tx n l) (u : Tx m k) : Tx (n + m) (l ++ k) := ⟨fun c hc => (List.mem_append.mp hc).elim (t.c c) (u.c c), by rw [List.length_append]; have := t.n; have := u.n; omega⟩
theorem mem_cut {α : Type} {xs : List α} {lo hi : Option Int} {x : α} (h : x ∈ cut xs lo hi) : x ∈ xs := by
  unfold cut at h; exact List.mem_of_mem_drop (List.mem_of_mem_take h)
theorem Tx.cut (t : Tx n l) (lo hi : Option Int) : Tx n (cut l lo hi) := ⟨fun c hc => t.c c (mem_cut hc), Nat.le_trans (cut_length _ _ _) t.n⟩
theorem Tx.rev (t : Tx n l) : Tx n l.reverse := ⟨fun c hc => t.c c (List.mem_reverse.mp hc), by rw [List.length_reverse]; exact t.n⟩
theorem len_rep (k : Nat) (l : List Nat) : (List.replicate k l).flatten.length = k * l.length := by
  rw [List.length_flatten, List.map_replicate, List.sum_replicate_nat]
theorem Tx.rep (t : Tx n l) (k : Nat) : Tx (k * n) (List.replicate k l).flatten := ⟨fun c hc => by
  obtain ⟨y, hy, hx⟩ := List.mem_flatten.mp hc
  rw [(List.mem_replicate.mp hy).2] at hx
  exact t.c c hx, by rw [len_rep]; exact Nat.mul_le_mul_left _ t.n⟩
theorem Tx.len (t : Tx n l) (h : n ≤ 1000000) : (S l).length ≤ SZ := by rw [S_length]; have := t.n; show _ ≤ 16777216; omega
end
/-- the text of a number -/
theorem tx_num {i : Int} {k : Nat} (hk : 0 < k) (h : i.natAbs < 10 ^ k) : Tx (k + 1) (cl (Str.ofString (toString i))) := by
  refine ⟨fun c hc => ?_, ?_⟩
  · have := PySem.W.KSb.asc_num i
    exact this c (by simpa [cl] using hc)
  · rw [← cl_length, PySem.ofString_length]
    exact int_text_length_le10 hk h

/-! ### data: how deep, how long its text may be -/
structure TH (n z : Nat) (p : PV) : Prop where
  ok : okR p = true
  sh : (toD p).showable = true
  dp : (toD p).depth ≤ n
  sg : sigs (toD p) = true
  sz : wt (toD p) ≤ z
section
variable {n m z y : Nat} {p : PV} {ps : List PV}
theorem TH.mono (t : TH n z p) (h1 : n ≤ m) (h2 : z ≤ y) : TH m y p := ⟨t.ok, t.sh, Nat.le_trans t.dp h1, t.sg, Nat.le_trans t.sz h2⟩
theorem TH.str {l : List Nat} (t : Tx n l) : TH 0 (10 * n + 2) (.str (S l)) := by
  refine ⟨rfl, rfl, Nat.le_refl _, ?_, ?_⟩
  · show (cl (S l)).all _ = true
    rw [List.all_eq_true]
    intro c hc
    have := t.c c hc
    rw [decide_eq_true_eq]
    exact Nat.lt_of_lt_of_le this (by decide)
  · show 10 * (S l).length + 2 ≤ _
    rw [S_length]; have := t.n; omega
theorem TH.strS {x : Str} (t : Tx n (cl x)) : TH 0 (10 * n + 2) (.str x) := by
  have := TH.str t
  rwa [S_cl] at this
theorem TH.int {i : Int} {k : Nat} (h : i.natAbs < 2 ^ (k + 1)) (hk : k < 1900 := by decide) : TH 0 (k + 3) (.int i) := by
  have := log_lt h
  refine ⟨rfl, ?_, Nat.le_refl _, rfl, ?_⟩
  · show decide (_ < 1920) = true
    rw [decide_eq_true_eq]; omega
  · show i.natAbs.log2 + 2 ≤ _
    omega
theorem TH.non : TH 0 4 .non := ⟨rfl, rfl, Nat.le_refl _, rfl, Nat.le_refl _⟩
theorem TH.bl {b : Bool} : TH 0 5 (.bl b) := ⟨rfl, rfl, Nat.le_refl _, rfl, Nat.le_refl _⟩
theorem TH.all (h : ∀ p ∈ ps, TH n z p) : okRs ps = true ∧ PyData.showableAll (toDs ps) = true ∧ PyData.depthAll (toDs ps) ≤ n ∧ sigsAll (toDs ps) = true ∧ wts (toDs ps) ≤ ps.length * (z + 2) := by
  induction ps with
  | nil => exact ⟨rfl, rfl, Nat.zero_le _, rfl, Nat.zero_le _⟩
  | cons p ps ih =>
    obtain ⟨h1, h2, h3, h4, h5⟩ := ih fun q hq => h q (List.mem_cons_of_mem _ hq)
    have t := h p List.mem_cons_self
    refine ⟨?_, ?_, ?_, ?_, ?_⟩
    · show (okR p && okRs ps) = true; rw [t.ok, h1]; rfl
    · show ((toD p).showable && PyData.showableAll (toDs ps)) = true; rw [t.sh, h2]; rfl
    · show max (toD p).depth (PyData.depthAll (toDs ps)) ≤ n
      exact Nat.max_le.mpr ⟨t.dp, h3⟩
    · show (sigs (toD p) && sigsAll (toDs ps)) = true; rw [t.sg, h4]; rfl
    · show wt (toD p) + 2 + wts (toDs ps) ≤ _
      have := t.sz
      rw [List.length_cons, Nat.add_mul]
      omega
theorem TH.lst (h : ∀ p ∈ ps, TH n z p) : TH (n + 1) (ps.length * (z + 2) + 2) (.lst ps) := by
  obtain ⟨h1, h2, h3, h4, h5⟩ := TH.all h
  refine ⟨h1, h2, ?_, h4, ?_⟩
  · show PyData.depthAll (toDs ps) + 1 ≤ _; omega
  · show wts (toDs ps) + 2 ≤ _; omega
theorem TH.tup (h : ∀ p ∈ ps, TH n z p) : TH (n + 1) (ps.length * (z + 2) + 3) (.tup ps) := by
  obtain ⟨h1, h2, h3, h4, h5⟩ := TH.all h
  refine ⟨h1, h2, ?_, h4, ?_⟩
  · show PyData.depthAll (toDs ps) + 1 ≤ _; omega
  · show wts (toDs ps) + 3 ≤ _; omega
theorem TH.repr {h : PH} {Q : PK} (t : TH n z (vwL h p)) (hn : n ≤ 64) (hz : z ≤ SZ) (q : Q (.str (toD (vwL h p)).shown) h) : rRepr [p] h Q :=
  repr_ok t.ok t.sh (Nat.le_trans t.dp hn) t.sg (Nat.le_trans t.sz hz) q
end
end N3

namespace Wneversaid_k09_judged_by_an_own_look
open PySem PySem.Spec PyProof.Rows L2 N3
def top (i : Nat) : Stmt := PySem.Challenge.pw_neversaid_k09_judged_by_an_own_look.main.body.getD i (.Pass ⟨0, 0, 0, 0⟩)
abbrev s_worth_key : Stmt := top 1
abbrev s_Judging_init : Stmt := inClass (top 6) 0
abbrev s_Judging_is_there : Stmt := inClass (top 6) 3
abbrev s_Judging_how_many : Stmt := inClass (top 6) 4
abbrev s_law_deck : Stmt := top 10
abbrev s_law_draw : Stmt := top 11
abbrev s_law_rank : Stmt := top 17
abbrev s_law_same : Stmt := top 20
abbrev s_law_has : Stmt := top 21
abbrev s_key_of : Stmt := top 2
abbrev s_Judging_why_not : Stmt := inClass (top 6) 2
abbrev s_law_pick : Stmt := top 12
abbrev s_law_names : Stmt := top 13
abbrev s_law_places : Stmt := top 14
abbrev s_law_risen : Stmt := top 18
abbrev s_law_why : Stmt := top 22
abbrev s_Judging_judge : Stmt := inClass (top 6) 1
abbrev s_law_table : Stmt := top 15
abbrev s_law_tell : Stmt := top 16
abbrev s_law_due : Stmt := top 23
abbrev s_judged : Stmt := top 7
abbrev s_law_made : Stmt := top 19
abbrev s_rising : Stmt := top 3
abbrev s_taken : Stmt := top 8
abbrev s_law_right : Stmt := top 24
abbrev s_law : Stmt := top 25
abbrev pat_Judging_why_not_0 : Pat := ⟨2, [], [0, 1], []⟩
abbrev pats_Judging_why_not : List Pat := [pat_Judging_why_not_0]
abbrev pat_Judging_is_there_0 : Pat := ⟨4, [], [0, 1, 2, 3], []⟩
abbrev pats_Judging_is_there : List Pat := [pat_Judging_is_there_0]
abbrev pat_Judging_how_many_0 : Pat := ⟨4, [], [0, 1, 2, 3], []⟩
abbrev pats_Judging_how_many : List Pat := [pat_Judging_how_many_0]
abbrev pat_Judging_init_0 : Pat := ⟨2, [], [0, 1], []⟩
abbrev pats_Judging_init : List Pat := [pat_Judging_init_0]
abbrev pat_Judging_judge_0 : Pat := ⟨2, [], [0, 1], []⟩
abbrev pats_Judging_judge : List Pat := [pat_Judging_judge_0]
/-! ### worth_key -/
abbrev N_worth_key : List Str := ["worth"]
abbrev P_worth_key : List Str := ["worth"]
theorem sc_worth_key : FnScope N_worth_key P_worth_key (defScope s_worth_key) := ⟨rfl, rfl, rfl, by decide +kernel, rfl, by decide +kernel, by decide +kernel⟩
def m_worth_key : MS :=
  mRet (mIf (mTest (mIsI .str (mVar 0))) (mTup (mCons (mC (.int 1)) (mCons (mC (.int 0)) (mCons (mVar 0) (mNil))))) (mTup (mCons (mC (.int 0)) (mCons (mVar 0) (mCons (mC (.str "")) (mNil))))))
theorem ok_worth_key {P : Program} {w : World} {K : PySem.W.Frag} {mg : Str → Option Value} {base : Heap} {f : Addr} {fd : FuncData} {sp : SpP} (F : Fun K "worth_key" "worth_key" s_worth_key f fd) (z_isinstance : mg "isinstance" = none) (z_str : mg "str" = none)
    (hp : ∀ (qs : List PV) (h : PH) (Q : N3.PK), qs.length = P_worth_key.length → sp qs h Q → m_worth_key (ends Q) (sp0 N_worth_key.length qs) h) : FnG P w K mg base (0 + 1) f fd P_worth_key sp := by
  refine fn_ok (k := 0) F sc_worth_key (m := m_worth_key) (fun cdv A outer s H E hr hG => ?_) hp
  have nd := sc_worth_key.nd
  exact ls_one (ls_ret (le_if (lt_val (le_isi .str z_isinstance z_str (le_var (i := 0)))) (le_tup (la_cons (le_int) (la_cons (le_int) (la_cons (le_var (i := 0)) (la_nil))))) (le_tup (la_cons (le_int) (la_cons (le_var (i := 0)) (la_cons (le_str) (la_nil)))))))
/-! ### Judging_init -/
abbrev N_Judging_init : List Str := ["self", "plan", "table"]
abbrev P_Judging_init : List Str := ["self", "plan"]
theorem sc_Judging_init : FnScope N_Judging_init P_Judging_init (defScope s_Judging_init) := ⟨rfl, rfl, rfl, by decide +kernel, rfl, by decide +kernel, by decide +kernel⟩
def m_Judging_init (Ad_Judging : Addr) : MS :=
  mSeq (mPutF Ad_Judging "tables_known" (mVar 0) (mDcM (mSeqs (mB rIx (mVar 1) (mC (.int 0)))) [2] (gN 2) (mYes) (mB rIx (mVar 2) (mC (.int 0))) (mVar 2)))
  (mPutF Ad_Judging "rows_taken" (mVar 0) (mDcM (mSeqs (mB rIx (mVar 1) (mC (.int 0)))) [2] (gN 2) (mYes) (mB rIx (mVar 2) (mC (.int 0))) (mLstM (mNil))))
theorem ok_Judging_init {P : Program} {w : World} {K : PySem.W.Frag} {mg : Str → Option Value} {base : Heap} {f : Addr} {fd : FuncData} {Ad_Judging : Addr} {sp : SpP} (F : Fun K "__init__" "Judging.__init__" s_Judging_init f fd) (cl_Judging : Cls K Ad_Judging) (n_Judging_tables_known : NoAttr K Ad_Judging "tables_known") (n_Judging_rows_taken : NoAttr K Ad_Judging "rows_taken")
    (hp : ∀ (qs : List PV) (h : PH) (Q : N3.PK), qs.length = P_Judging_init.length → sp qs h Q → m_Judging_init Ad_Judging (ends Q) (sp0 N_Judging_init.length qs) h) : FnG P w K mg base (0 + 1) f fd P_Judging_init sp := by
  refine fn_ok (k := 0) F sc_Judging_init (m := m_Judging_init Ad_Judging) (fun cdv A outer s H E hr hG => ?_) hp
  have nd := sc_Judging_init.nd
  exact ls_cons (ls_fld cl_Judging n_Judging_tables_known (le_var (i := 0)) (le_dcM [("table", 2)] rfl nd (li_seqs (le_ix (hu1 hr) (le_var (i := 1)) (le_int))) (blkOk_by (N := N_Judging_init) (sc := defScope s_Judging_init) (own := [("table", 2)]) (by decide +kernel)) (fun _ _ _ _ _ => lg_name (i := 2) nd) (fun _ _ _ _ _ => lts_nil) (fun _ _ _ _ _ => le_ix (hu1 hr) (le_var (i := 2)) (le_int)) (fun _ _ _ _ _ => le_var (i := 2))))
    (ls_one (ls_fld cl_Judging n_Judging_rows_taken (le_var (i := 0)) (le_dcM [("table", 2)] rfl nd (li_seqs (le_ix (hu1 hr) (le_var (i := 1)) (le_int))) (blkOk_by (N := N_Judging_init) (sc := defScope s_Judging_init) (own := [("table", 2)]) (by decide +kernel)) (fun _ _ _ _ _ => lg_name (i := 2) nd) (fun _ _ _ _ _ => lts_nil) (fun _ _ _ _ _ => le_ix (hu1 hr) (le_var (i := 2)) (le_int)) (fun _ _ _ _ _ => le_lstM (la_nil)))))
/-! ### Judging_is_there -/
abbrev N_Judging_is_there : List Str := ["self", "name", "place", "worth", "row"]
abbrev P_Judging_is_there : List Str := ["self", "name", "place", "worth"]
theorem sc_Judging_is_there : FnScope N_Judging_is_there P_Judging_is_there (defScope s_Judging_is_there) := ⟨rfl, rfl, rfl, by decide +kernel, rfl, by decide +kernel, by decide +kernel⟩
def m_Judging_is_there (Ad_Judging : Addr) : MS :=
  mRet (mB (rInP false) (mVar 3) (mLc (mSeqs (mB rIx (mFld Ad_Judging "rows_taken" (mVar 0)) (mVar 1))) [4] (gN 4) (mYes) (mB rIx (mVar 4) (mVar 2))))
theorem ok_Judging_is_there {P : Program} {w : World} {K : PySem.W.Frag} {mg : Str → Option Value} {base : Heap} {f : Addr} {fd : FuncData} {Ad_Judging : Addr} {sp : SpP} (F : Fun K "is_there" "Judging.is_there" s_Judging_is_there f fd) (cl_Judging : Cls K Ad_Judging) (n_Judging_rows_taken : NoAttr K Ad_Judging "rows_taken")
    (hp : ∀ (qs : List PV) (h : PH) (Q : N3.PK), qs.length = P_Judging_is_there.length → sp qs h Q → m_Judging_is_there Ad_Judging (ends Q) (sp0 N_Judging_is_there.length qs) h) : FnG P w K mg base (0 + 1) f fd P_Judging_is_there sp := by
  refine fn_ok (k := 0) F sc_Judging_is_there (m := m_Judging_is_there Ad_Judging) (fun cdv A outer s H E hr hG => ?_) hp
  have nd := sc_Judging_is_there.nd
  exact ls_one (ls_ret (le_cmp (op_inA (hu65 hr)) lf_in (le_var (i := 3)) (le_lc [("row", 4)] rfl nd (li_seqs (le_ix (hu1 hr) (le_fld cl_Judging n_Judging_rows_taken (le_var (i := 0))) (le_var (i := 1)))) (blkOk_by (N := N_Judging_is_there) (sc := defScope s_Judging_is_there) (own := [("row", 4)]) (by decide +kernel)) (fun _ _ _ _ _ => lg_name (i := 4) nd) (fun _ _ _ _ _ => lts_nil) (fun _ _ _ _ _ => le_ix (hu1 hr) (le_var (i := 4)) (le_var (i := 2)))) (by with_unfolding_all rfl)))
/-! ### Judging_how_many -/
abbrev N_Judging_how_many : List Str := ["self", "name", "places", "row", "own", "place", "one"]
abbrev P_Judging_how_many : List Str := ["self", "name", "places", "row"]
theorem sc_Judging_how_many : FnScope N_Judging_how_many P_Judging_how_many (defScope s_Judging_how_many) := ⟨rfl, rfl, rfl, by decide +kernel, rfl, by decide +kernel, by decide +kernel⟩
def m_Judging_how_many (Ad_Judging : Addr) : MS :=
  mSeq (mAsg (mLc (mSeqs (mVar 2)) [5] (gN 5) (mYes) (mB rIx (mVar 3) (mVar 5))) (gN 4))
  (mRet (mBlt rLen (mCons (mLc (mSeqs (mB rIx (mFld Ad_Judging "rows_taken" (mVar 0)) (mVar 1))) [6] (gN 6) (mTest (mB rEq (mLc (mSeqs (mVar 2)) [5] (gN 5) (mYes) (mB rIx (mVar 6) (mVar 5))) (mVar 4))) (mC (.int 1))) (mNil))))
theorem ok_Judging_how_many {P : Program} {w : World} {K : PySem.W.Frag} {mg : Str → Option Value} {base : Heap} {f : Addr} {fd : FuncData} {Ad_Judging : Addr} {sp : SpP} (F : Fun K "how_many" "Judging.how_many" s_Judging_how_many f fd) (cl_Judging : Cls K Ad_Judging) (n_Judging_rows_taken : NoAttr K Ad_Judging "rows_taken") (z_len : mg "len" = none)
    (hp : ∀ (qs : List PV) (h : PH) (Q : N3.PK), qs.length = P_Judging_how_many.length → sp qs h Q → m_Judging_how_many Ad_Judging (ends Q) (sp0 N_Judging_how_many.length qs) h) : FnG P w K mg base (0 + 1) f fd P_Judging_how_many sp := by
  refine fn_ok (k := 0) F sc_Judging_how_many (m := m_Judging_how_many Ad_Judging) (fun cdv A outer s H E hr hG => ?_) hp
  have nd := sc_Judging_how_many.nd
  exact ls_cons (ls_set (i := 4) nd (le_lc [("place", 5)] rfl nd (li_seqs (le_var (i := 2))) (blkOk_by (N := N_Judging_how_many) (sc := defScope s_Judging_how_many) (own := [("place", 5)]) (by decide +kernel)) (fun _ _ _ _ _ => lg_name (i := 5) nd) (fun _ _ _ _ _ => lts_nil) (fun _ _ _ _ _ => le_ix (hu1 hr) (le_var (i := 3)) (le_var (i := 5)))))
    (ls_one (ls_ret (le_len z_len (la_cons (le_lc [("one", 6)] rfl nd (li_seqs (le_ix (hu1 hr) (le_fld cl_Judging n_Judging_rows_taken (le_var (i := 0))) (le_var (i := 1)))) (blkOk_by (N := N_Judging_how_many) (sc := defScope s_Judging_how_many) (own := [("one", 6)]) (by decide +kernel)) (fun _ _ _ _ _ => lg_name (i := 6) nd) (fun _ _ _ _ _ => lts_one (lt_cmp (op_eqA (hu64 hr)) lf_eq (le_lc [("place", 5)] rfl nd (li_seqs (le_var (i := 2))) (blkOk_by (N := N_Judging_how_many) (own := [("place", 5)]) (by first | decide +kernel | (dsimp only; decide +kernel) | (simp only [Cx.blk, compEnvC]; decide +kernel) | rfl)) (fun _ _ _ _ _ => lg_name (i := 5) nd) (fun _ _ _ _ _ => lts_nil) (fun _ _ _ _ _ => le_ix (hu1 hr) (le_var (i := 6)) (le_var (i := 5)))) (le_var (i := 4)) (nomark _))) (fun _ _ _ _ _ => le_int)) (la_nil)))))
/-! ### law_deck -/
abbrev N_law_deck : List Str := ["_law_script", "_law_cells", "_law_total", "_law_cell"]
abbrev P_law_deck : List Str := ["_law_script"]
theorem sc_law_deck : FnScope N_law_deck P_law_deck (defScope s_law_deck) := ⟨rfl, rfl, rfl, by decide +kernel, rfl, by decide +kernel, by decide +kernel⟩
def m_law_deck : MS :=
  mSeq (mPar 1 2 (mCons (mBlt rListA (mCons (mSl (mVar 0) (mNoPart) (mPart (mC (.int 63)))) (mNil))) (mCons (mC (.int 60013)) (mNil))))
  (mSeq (mFor (mSeqs (mVar 1)) (gN 3) (mAsg (mB rMod (mB rAdd (mB rAdd (mB rMul (mVar 2) (mC (.int 48271))) (mB rMod (mVar 3) (mC (.int 2147483629)))) (mC (.int 23))) (mC (.int 2147483587))) (gN 2)))
  (mRet (mDispM [(mC (.str "cells"), mRevM (mVar 1)), (mC (.str "all"), mVar 2), (mC (.str "at"), mC (.int 0))])))
theorem ok_law_deck {P : Program} {w : World} {K : PySem.W.Frag} {mg : Str → Option Value} {base : Heap} {f : Addr} {fd : FuncData} {sp : SpP} (F : Fun K "_law_deck" "_law_deck" s_law_deck f fd) (z_list : mg "list" = none)
    (hp : ∀ (qs : List PV) (h : PH) (Q : N3.PK), qs.length = P_law_deck.length → sp qs h Q → m_law_deck (ends Q) (sp0 N_law_deck.length qs) h) : FnG P w K mg base (0 + 1) f fd P_law_deck sp := by
  refine fn_ok (k := 0) F sc_law_deck (m := m_law_deck) (fun cdv A outer s H E hr hG => ?_) hp
  have nd := sc_law_deck.nd
  exact ls_cons (ls_par (i := 1) (j := 2) rfl nd (la_cons (le_listA rfl z_list (la_cons (le_sl (le_var (i := 0)) (lo_none) (lo_some (le_int))) (la_nil))) (la_cons (le_int) (la_nil))))
    (ls_cons (ls_for (vs := [3]) PassesOwn.never rfl (li_seqs (le_var (i := 1))) (lg_name (i := 3) nd) (ls_one (ls_set (i := 2) nd (le_op op_mod kf_ii (le_op op_addA kf_add (le_op op_addA kf_add (le_op op_mulA kf_mul (le_var (i := 2)) (le_int)) (le_op op_mod kf_ii (le_var (i := 3)) (le_int))) (le_int)) (le_int)))))
    (ls_one (ls_ret (le_dispM (lps_cons (le_str) (le_revM (le_var (i := 1))) (lps_cons (le_str) (le_var (i := 2)) (lps_cons (le_str) (le_int) (lps_nil))))))))
/-! ### law_draw -/
abbrev N_law_draw : List Str := ["_law_deck_here", "_law_many", "_law_turn", "_law_cell", "_law_one"]
abbrev P_law_draw : List Str := ["_law_deck_here", "_law_many"]
theorem sc_law_draw : FnScope N_law_draw P_law_draw (defScope s_law_draw) := ⟨rfl, rfl, rfl, by decide +kernel, rfl, by decide +kernel, by decide +kernel⟩
def m_law_draw : MS :=
  mSeq (mAsg (mB rAdd (mB rIx (mVar 0) (mC (.str "at"))) (mC (.int 1))) (gN 2))
  (mSeq (mDput (mVar 2) (mVar 0) (mC (.str "at")))
  (mSeq (mAsg (mB rIx (mVar 0) (mC (.str "all"))) (gN 3))
  (mSeq (mIfS (mTest (mB rNe (mB rIx (mVar 0) (mC (.str "cells"))) (mLst (mNil)))) (mSeq (mAsg (mPop (mB rIx (mVar 0) (mC (.str "cells")))) (gN 3))
  (mSeq (mIfS (mTest (mB rGe (mVar 3) (mB rPow (mC (.int 10)) (mC (.int 18))))) (mSeq (mDrop (mAppend (mB rIx (mVar 0) (mC (.str "cells"))) (mCons (mB rDiv (mVar 3) (mVar 1)) (mNil))))
  (mRet (mB rMod (mVar 3) (mVar 1)))) (mNx))
  (mAsg (mB rAdd (mVar 3) (mB rIx (mVar 0) (mC (.str "all")))) (gN 3)))) (mNx))
  (mSeq (mAsg (mB rMod (mB rMul (mB rAdd (mB rAdd (mB rMod (mVar 3) (mC (.int 2147483629))) (mB rMul (mB rMul (mC (.int 65539)) (mVar 2)) (mVar 2))) (mC (.int 29))) (mC (.int 40692))) (mC (.int 2147483647))) (gN 4))
  (mSeq (mAsg (mB rMod (mB rAdd (mB rAdd (mB rMul (mVar 4) (mVar 4)) (mB rMul (mC (.int 48271)) (mVar 2))) (mC (.int 7))) (mC (.int 2147483587))) (gN 4))
  (mRet (mB rMod (mB rDiv (mB rMod (mB rMul (mVar 4) (mC (.int 39373))) (mC (.int 2147483563))) (mC (.int 128))) (mVar 1))))))))
theorem ok_law_draw {P : Program} {w : World} {K : PySem.W.Frag} {mg : Str → Option Value} {base : Heap} {f : Addr} {fd : FuncData} {sp : SpP} (F : Fun K "_law_draw" "_law_draw" s_law_draw f fd)
    (hp : ∀ (qs : List PV) (h : PH) (Q : N3.PK), qs.length = P_law_draw.length → sp qs h Q → m_law_draw (ends Q) (sp0 N_law_draw.length qs) h) : FnG P w K mg base (0 + 1) f fd P_law_draw sp := by
  refine fn_ok (k := 0) F sc_law_draw (m := m_law_draw) (fun cdv A outer s H E hr hG => ?_) hp
  have nd := sc_law_draw.nd
  exact ls_cons (ls_set (i := 2) nd (le_op op_addA kf_add (le_ix (hu1 hr) (le_var (i := 0)) (le_str)) (le_int)))
    (ls_cons (ls_dput (hu1 hr) (le_var (i := 0)) (le_str) (le_var (i := 2)))
    (ls_cons (ls_set (i := 3) nd (le_ix (hu1 hr) (le_var (i := 0)) (le_str)))
    (ls_cons (ls_if (lt_cmp (op_neA (hu64 hr)) lf_ne (le_ix (hu1 hr) (le_var (i := 0)) (le_str)) (le_lst (la_nil)) (nomark _)) (ls_cons (ls_set (i := 3) nd (le_pop (le_ix (hu1 hr) (le_var (i := 0)) (le_str))))
    (ls_cons (ls_if (lt_cmp op_geA lf_cmp (le_var (i := 3)) (le_op op_pow kf_ii (le_int) (le_int)) (nomark _)) (ls_cons (ls_expr (le_append (le_ix (hu1 hr) (le_var (i := 0)) (le_str)) (la_cons (le_op op_fdiv kf_ii (le_var (i := 3)) (le_var (i := 1))) (la_nil))))
    (ls_one (ls_ret (le_op op_mod kf_ii (le_var (i := 3)) (le_var (i := 1)))))) (ls_nil))
    (ls_one (ls_set (i := 3) nd (le_op op_addA kf_add (le_var (i := 3)) (le_ix (hu1 hr) (le_var (i := 0)) (le_str))))))) (ls_nil))
    (ls_cons (ls_set (i := 4) nd (le_op op_mod kf_ii (le_op op_mulA kf_mul (le_op op_addA kf_add (le_op op_addA kf_add (le_op op_mod kf_ii (le_var (i := 3)) (le_int)) (le_op op_mulA kf_mul (le_op op_mulA kf_mul (le_int) (le_var (i := 2))) (le_var (i := 2)))) (le_int)) (le_int)) (le_int)))
    (ls_cons (ls_set (i := 4) nd (le_op op_mod kf_ii (le_op op_addA kf_add (le_op op_addA kf_add (le_op op_mulA kf_mul (le_var (i := 4)) (le_var (i := 4))) (le_op op_mulA kf_mul (le_int) (le_var (i := 2)))) (le_int)) (le_int)))
    (ls_one (ls_ret (le_op op_mod kf_ii (le_op op_fdiv kf_ii (le_op op_mod kf_ii (le_op op_mulA kf_mul (le_var (i := 4)) (le_int)) (le_int)) (le_int)) (le_var (i := 1))))))))))
/-! ### law_rank -/
abbrev N_law_rank : List Str := ["_law_tell_here", "_law_row", "_law_one"]
abbrev P_law_rank : List Str := ["_law_tell_here"]
theorem sc_law_rank : FnScope N_law_rank P_law_rank (defScope s_law_rank) := ⟨rfl, rfl, rfl, by decide +kernel, rfl, by decide +kernel, by decide +kernel⟩
def m_law_rank : MS :=
  mSeq (mAsg (mLc (mSeqs (mB rIx (mVar 0) (mC (.int 3)))) [2] (gN 2) (mYes) (mIf (mTest (mIsI .str (mVar 2))) (mTup (mCons (mC (.int 1)) (mCons (mC (.int 0)) (mCons (mVar 2) (mNil))))) (mTup (mCons (mC (.int 0)) (mCons (mVar 2) (mCons (mC (.str "")) (mNil))))))) (gN 1))
  (mRet (mB rAdd (mSl (mVar 0) (mNoPart) (mPart (mC (.int 3)))) (mTup (mCons (mBlt rTupOf (mCons (mVar 1) (mNil))) (mNil)))))
theorem ok_law_rank {P : Program} {w : World} {K : PySem.W.Frag} {mg : Str → Option Value} {base : Heap} {f : Addr} {fd : FuncData} {sp : SpP} (F : Fun K "_law_rank" "_law_rank" s_law_rank f fd) (z_isinstance : mg "isinstance" = none) (z_str : mg "str" = none) (z_tuple : mg "tuple" = none)
    (hp : ∀ (qs : List PV) (h : PH) (Q : N3.PK), qs.length = P_law_rank.length → sp qs h Q → m_law_rank (ends Q) (sp0 N_law_rank.length qs) h) : FnG P w K mg base (0 + 1) f fd P_law_rank sp := by
  refine fn_ok (k := 0) F sc_law_rank (m := m_law_rank) (fun cdv A outer s H E hr hG => ?_) hp
  have nd := sc_law_rank.nd
  exact ls_cons (ls_setLc (i := 1) [("_law_one", 2)] rfl nd (li_seqs (le_ix (hu1 hr) (le_var (i := 0)) (le_int))) (blkOk_by (N := N_law_rank) (sc := defScope s_law_rank) (own := [("_law_one", 2)]) (by decide +kernel)) (fun _ _ _ _ _ => lg_name (i := 2) nd) (fun _ _ _ _ _ => lts_nil) (fun _ _ _ _ _ => le_if (lt_val (le_isi .str z_isinstance z_str (le_var (i := 2)))) (le_tup (la_cons (le_int) (la_cons (le_int) (la_cons (le_var (i := 2)) (la_nil))))) (le_tup (la_cons (le_int) (la_cons (le_var (i := 2)) (la_cons (le_str) (la_nil)))))))
    (ls_one (ls_ret (le_op op_addA kf_add (le_sl (le_var (i := 0)) (lo_none) (lo_some (le_int))) (le_tup (la_cons (le_tuple z_tuple (la_cons (le_var (i := 1)) (la_nil))) (la_nil))))))
/-! ### law_same -/
abbrev N_law_same : List Str := ["_law_row", "_law_one", "_law_places_here", "_law_place"]
abbrev P_law_same : List Str := ["_law_row", "_law_one", "_law_places_here"]
theorem sc_law_same : FnScope N_law_same P_law_same (defScope s_law_same) := ⟨rfl, rfl, rfl, by decide +kernel, rfl, by decide +kernel, by decide +kernel⟩
def m_law_same : MS :=
  mRet (mB rEq (mLc (mSeqs (mVar 2)) [3] (gN 3) (mTest (mB rNe (mB rIx (mVar 0) (mVar 3)) (mB rIx (mVar 1) (mVar 3)))) (mVar 3)) (mLst (mNil)))
theorem ok_law_same {P : Program} {w : World} {K : PySem.W.Frag} {mg : Str → Option Value} {base : Heap} {f : Addr} {fd : FuncData} {sp : SpP} (F : Fun K "_law_same" "_law_same" s_law_same f fd)
    (hp : ∀ (qs : List PV) (h : PH) (Q : N3.PK), qs.length = P_law_same.length → sp qs h Q → m_law_same (ends Q) (sp0 N_law_same.length qs) h) : FnG P w K mg base (0 + 1) f fd P_law_same sp := by
  refine fn_ok (k := 0) F sc_law_same (m := m_law_same) (fun cdv A outer s H E hr hG => ?_) hp
  have nd := sc_law_same.nd
  exact ls_one (ls_ret (le_cmp (op_eqA (hu64 hr)) lf_eq (le_lc [("_law_place", 3)] rfl nd (li_seqs (le_var (i := 2))) (blkOk_by (N := N_law_same) (sc := defScope s_law_same) (own := [("_law_place", 3)]) (by decide +kernel)) (fun _ _ _ _ _ => lg_name (i := 3) nd) (fun _ _ _ _ _ => lts_one (lt_cmp (op_neA (hu64 hr)) lf_ne (le_ix (hu1 hr) (le_var (i := 0)) (le_var (i := 3))) (le_ix (hu1 hr) (le_var (i := 1)) (le_var (i := 3))) (nomark _))) (fun _ _ _ _ _ => le_var (i := 3))) (le_lst (la_nil)) (nomark _)))
/-! ### law_has -/
abbrev N_law_has : List Str := ["_law_had", "_law_other", "_law_far", "_law_worth", "_law_one"]
abbrev P_law_has : List Str := ["_law_had", "_law_other", "_law_far", "_law_worth"]
theorem sc_law_has : FnScope N_law_has P_law_has (defScope s_law_has) := ⟨rfl, rfl, rfl, by decide +kernel, rfl, by decide +kernel, by decide +kernel⟩
def m_law_has : MS :=
  mRet (mB (rInP false) (mVar 3) (mLc (mSeqs (mVar 0)) [4] (gN 4) (mTest (mB rEq (mB rIx (mVar 4) (mC (.int 2))) (mVar 1))) (mB rIx (mB rIx (mVar 4) (mC (.int 3))) (mVar 2))))
theorem ok_law_has {P : Program} {w : World} {K : PySem.W.Frag} {mg : Str → Option Value} {base : Heap} {f : Addr} {fd : FuncData} {sp : SpP} (F : Fun K "_law_has" "_law_has" s_law_has f fd)
    (hp : ∀ (qs : List PV) (h : PH) (Q : N3.PK), qs.length = P_law_has.length → sp qs h Q → m_law_has (ends Q) (sp0 N_law_has.length qs) h) : FnG P w K mg base (0 + 1) f fd P_law_has sp := by
  refine fn_ok (k := 0) F sc_law_has (m := m_law_has) (fun cdv A outer s H E hr hG => ?_) hp
  have nd := sc_law_has.nd
  exact ls_one (ls_ret (le_cmp (op_inA (hu65 hr)) lf_in (le_var (i := 3)) (le_lc [("_law_one", 4)] rfl nd (li_seqs (le_var (i := 0))) (blkOk_by (N := N_law_has) (sc := defScope s_law_has) (own := [("_law_one", 4)]) (by decide +kernel)) (fun _ _ _ _ _ => lg_name (i := 4) nd) (fun _ _ _ _ _ => lts_one (lt_cmp (op_eqA (hu64 hr)) lf_eq (le_ix (hu1 hr) (le_var (i := 4)) (le_int)) (le_var (i := 1)) (nomark _))) (fun _ _ _ _ _ => le_ix (hu1 hr) (le_ix (hu1 hr) (le_var (i := 4)) (le_int)) (le_var (i := 2)))) (by with_unfolding_all rfl)))
/-! ### key_of -/
abbrev N_key_of : List Str := ["row", "worth"]
abbrev P_key_of : List Str := ["row"]
theorem sc_key_of : FnScope N_key_of P_key_of (defScope s_key_of) := ⟨rfl, rfl, rfl, by decide +kernel, rfl, by decide +kernel, by decide +kernel⟩
def m_key_of (sp_worth_key : SpP) : MS :=
  mRet (mBlt rTupOf (mCons (mLc (mSeqs (mVar 0)) [1] (gN 1) (mYes) (mBlt sp_worth_key (mCons (mVar 1) (mNil)))) (mNil)))
theorem ok_key_of {P : Program} {w : World} {K : PySem.W.Frag} {mg : Str → Option Value} {base : Heap} {f : Addr} {fd : FuncData} {sp_worth_key : SpP} {sp : SpP} (F : Fun K "key_of" "key_of" s_key_of f fd) (c_worth_key : Fn P w K mg base 1 "worth_key" s_worth_key P_worth_key sp_worth_key) (z_tuple : mg "tuple" = none)
    (hp : ∀ (qs : List PV) (h : PH) (Q : N3.PK), qs.length = P_key_of.length → sp qs h Q → m_key_of sp_worth_key (ends Q) (sp0 N_key_of.length qs) h) : FnG P w K mg base (1 + 1) f fd P_key_of sp := by
  refine fn_ok (k := 1) F sc_key_of (m := m_key_of sp_worth_key) (fun cdv A outer s H E hr hG => ?_) hp
  have nd := sc_key_of.nd
  exact ls_one (ls_ret (le_tuple z_tuple (la_cons (le_lc [("worth", 1)] rfl nd (li_seqs (le_var (i := 0))) (blkOk_by (N := N_key_of) (sc := defScope s_key_of) (own := [("worth", 1)]) (by decide +kernel)) (fun _ _ _ _ _ => lg_name (i := 1) nd) (fun _ _ _ _ _ => lts_nil) (fun _ _ _ _ _ => le_fn c_worth_key hr (by decide) hG (la_cons (le_var (i := 1)) (la_nil)))) (la_nil))))
/-! ### Judging_why_not -/
abbrev N_Judging_why_not : List Str := ["self", "tell", "moment", "teller", "name", "row", "same", "wide", "keys", "leans", "rooms", "may", "k", "place", "other", "far", "places", "most"]
abbrev P_Judging_why_not : List Str := ["self", "tell"]
theorem sc_Judging_why_not : FnScope N_Judging_why_not P_Judging_why_not (defScope s_Judging_why_not) := ⟨rfl, rfl, rfl, by decide +kernel, rfl, by decide +kernel, by decide +kernel⟩
def m_Judging_why_not (Ad_Judging : Addr) (sp_Judging_is_there : SpP) (sp_Judging_how_many : SpP) : MS :=
  mSeq (mAsg (mVar 1) (gT 4 (gsCons (gN 2) (gsCons (gN 3) (gsCons (gN 4) (gsCons (gN 5) (gsNil)))))))
  (mSeq (mIfS (mOrT (mTest (mB (rInD true) (mVar 4) (mFld Ad_Judging "tables_known" (mVar 0)))) (mTest (mB rNe (mBlt rLen (mCons (mVar 5) (mNil))) (mB rIx (mB rIx (mFld Ad_Judging "tables_known" (mVar 0)) (mVar 4)) (mC (.int 1)))))) (mRet (mTup (mCons (mC (.str "form")) (mNil)))) (mNx))
  (mSeq (mAsg (mB rIx (mFld Ad_Judging "tables_known" (mVar 0)) (mVar 4)) (gT 6 (gsCons (gN 6) (gsCons (gN 7) (gsCons (gN 8) (gsCons (gN 9) (gsCons (gN 10) (gsCons (gN 11) (gsNil)))))))))
  (mSeq (mIfS (mTest (mB (rInP false) (mVar 5) (mB rIx (mFld Ad_Judging "rows_taken" (mVar 0)) (mVar 4)))) (mRet (mTup (mCons (mC (.str "there")) (mNil)))) (mNx))
  (mSeq (mIfS (mAndT (mTest (mB rNotN (mVar 11) (mC .non))) (mAndT (mTest (mB rNe (mVar 2) (mC (.int 0)))) (mNotT (mTest (mMeth Ad_Judging "is_there" sp_Judging_is_there pat_Judging_is_there_0 (mVar 0) (mCons (mB rIx (mVar 11) (mC (.int 0))) (mCons (mB rIx (mVar 11) (mC (.int 1))) (mCons (mVar 3) (mNil)))) (mNil)))))) (mRet (mTup (mCons (mC (.str "may")) (mNil)))) (mNx))
  (mSeq (mFor (mEnumA (mCons (mVar 9) (mNil))) (gT 2 (gsCons (gN 12) (gsCons (gT 3 (gsCons (gN 13) (gsCons (gN 14) (gsCons (gN 15) (gsNil))))) (gsNil)))) (mIfS (mAndT (mTest (mB rNe (mB rIx (mVar 5) (mVar 13)) (mC (.int 0)))) (mNotT (mTest (mMeth Ad_Judging "is_there" sp_Judging_is_there pat_Judging_is_there_0 (mVar 0) (mCons (mVar 14) (mCons (mVar 15) (mCons (mB rIx (mVar 5) (mVar 13)) (mNil)))) (mNil))))) (mRet (mTup (mCons (mC (.str "lean")) (mCons (mVar 12) (mNil))))) (mNx)))
  (mSeq (mFor (mEnumA (mCons (mVar 8) (mNil))) (gT 2 (gsCons (gN 12) (gsCons (gN 16) (gsNil)))) (mIfS (mTest (mB rGt (mMeth Ad_Judging "how_many" sp_Judging_how_many pat_Judging_how_many_0 (mVar 0) (mCons (mVar 4) (mCons (mVar 16) (mCons (mVar 5) (mNil)))) (mNil)) (mC (.int 0)))) (mRet (mTup (mCons (mC (.str "key")) (mCons (mVar 12) (mNil))))) (mNx)))
  (mSeq (mFor (mEnumA (mCons (mVar 10) (mNil))) (gT 2 (gsCons (gN 12) (gsCons (gT 2 (gsCons (gN 16) (gsCons (gN 17) (gsNil)))) (gsNil)))) (mIfS (mTest (mB rGe (mMeth Ad_Judging "how_many" sp_Judging_how_many pat_Judging_how_many_0 (mVar 0) (mCons (mVar 4) (mCons (mVar 16) (mCons (mVar 5) (mNil)))) (mNil)) (mVar 17))) (mRet (mTup (mCons (mC (.str "room")) (mCons (mVar 12) (mNil))))) (mNx)))
  (mRet (mC .non)))))))))
theorem ok_Judging_why_not {P : Program} {w : World} {K : PySem.W.Frag} {mg : Str → Option Value} {base : Heap} {f : Addr} {fd : FuncData} {t_ROOT : Tok} {Ad_Judging : Addr} {sp_Judging_is_there : SpP} {sp_Judging_how_many : SpP} {sp : SpP} (F : Fun K "why_not" "Judging.why_not" s_Judging_why_not f fd) (cl_Judging : Cls K Ad_Judging) (n_Judging_tables_known : NoAttr K Ad_Judging "tables_known") (n_Judging_rows_taken : NoAttr K Ad_Judging "rows_taken") (c_Judging_is_there : FnM P w K mg base 1 Ad_Judging "is_there" P_Judging_is_there sp_Judging_is_there pats_Judging_is_there) (c_Judging_how_many : FnM P w K mg base 1 Ad_Judging "how_many" P_Judging_how_many sp_Judging_how_many pats_Judging_how_many) (z_len : mg "len" = none) (z_enumerate : mg "enumerate" = none) (g_ROOT : mg "ROOT" = some (.int 0 t_ROOT))
    (hp : ∀ (qs : List PV) (h : PH) (Q : N3.PK), qs.length = P_Judging_why_not.length → sp qs h Q → m_Judging_why_not Ad_Judging sp_Judging_is_there sp_Judging_how_many (ends Q) (sp0 N_Judging_why_not.length qs) h) : FnG P w K mg base (1 + 1) f fd P_Judging_why_not sp := by
  refine fn_ok (k := 1) F sc_Judging_why_not (m := m_Judging_why_not Ad_Judging sp_Judging_is_there sp_Judging_how_many) (fun cdv A outer s H E hr hG => ?_) hp
  have nd := sc_Judging_why_not.nd
  exact ls_cons (ls_asg (vs := [2, 3, 4, 5]) (le_var (i := 1)) (lg_tup rfl (lgs_cons (lg_name (i := 2) nd) (lgs_cons (lg_name (i := 3) nd) (lgs_cons (lg_name (i := 4) nd) (lgs_cons (lg_name (i := 5) nd) (lgs_nil)))))))
    (ls_cons (ls_if (lt_w (lw_or (lt_cmp (op_notInK (hu1 hr)) lf_inD (le_var (i := 4)) (le_fld cl_Judging n_Judging_tables_known (le_var (i := 0))) (by with_unfolding_all rfl)) (lw_or1 (lt_cmp (op_neA (hu64 hr)) lf_ne (le_len z_len (la_cons (le_var (i := 5)) (la_nil))) (le_ix (hu1 hr) (le_ix (hu1 hr) (le_fld cl_Judging n_Judging_tables_known (le_var (i := 0))) (le_var (i := 4))) (le_int)) (nomark _))))) (ls_one (ls_ret (le_tup (la_cons (le_str) (la_nil))))) (ls_nil))
    (ls_cons (ls_asg (vs := [6, 7, 8, 9, 10, 11]) (le_ix (hu1 hr) (le_fld cl_Judging n_Judging_tables_known (le_var (i := 0))) (le_var (i := 4))) (lg_tup rfl (lgs_cons (lg_name (i := 6) nd) (lgs_cons (lg_name (i := 7) nd) (lgs_cons (lg_name (i := 8) nd) (lgs_cons (lg_name (i := 9) nd) (lgs_cons (lg_name (i := 10) nd) (lgs_cons (lg_name (i := 11) nd) (lgs_nil)))))))))
    (ls_cons (ls_if (lt_cmp (op_inA (hu65 hr)) lf_in (le_var (i := 5)) (le_ix (hu1 hr) (le_fld cl_Judging n_Judging_rows_taken (le_var (i := 0))) (le_var (i := 4))) (by with_unfolding_all rfl)) (ls_one (ls_ret (le_tup (la_cons (le_str) (la_nil))))) (ls_nil))
    (ls_cons (ls_if (lt_w (lw_and (lt_cmp op_notN lf_notN (le_var (i := 11)) (le_non) (nomark _)) (lw_and (lt_cmp (op_neA (hu64 hr)) lf_ne (le_var (i := 2)) (le_int) (nomark _)) (lw_and1 (lt_not (lt_val (le_meth c_Judging_is_there (j := 0) (b := pat_Judging_is_there_0) rfl hr (by decide) hG (le_var (i := 0)) (la_cons (le_ix (hu1 hr) (le_var (i := 11)) (le_int)) (la_cons (le_ix (hu1 hr) (le_var (i := 11)) (le_int)) (la_cons (le_var (i := 3)) (la_nil)))) (lk_nil)))))))) (ls_one (ls_ret (le_tup (la_cons (le_str) (la_nil))))) (ls_nil))
    (ls_cons (ls_for (vs := [12, 13, 14, 15]) PassesOwn.never rfl (li_enumA z_enumerate (la_cons (le_var (i := 9)) (la_nil))) (lg_tup rfl (lgs_cons (lg_name (i := 12) nd) (lgs_cons (lg_tup rfl (lgs_cons (lg_name (i := 13) nd) (lgs_cons (lg_name (i := 14) nd) (lgs_cons (lg_name (i := 15) nd) (lgs_nil))))) (lgs_nil)))) (ls_one (ls_if (lt_w (lw_and (lt_cmp (op_neA (hu64 hr)) lf_ne (le_ix (hu1 hr) (le_var (i := 5)) (le_var (i := 13))) (le_glI g_ROOT) (nomark _)) (lw_and1 (lt_not (lt_val (le_meth c_Judging_is_there (j := 0) (b := pat_Judging_is_there_0) rfl hr (by decide) hG (le_var (i := 0)) (la_cons (le_var (i := 14)) (la_cons (le_var (i := 15)) (la_cons (le_ix (hu1 hr) (le_var (i := 5)) (le_var (i := 13))) (la_nil)))) (lk_nil))))))) (ls_one (ls_ret (le_tup (la_cons (le_str) (la_cons (le_var (i := 12)) (la_nil)))))) (ls_nil))))
    (ls_cons (ls_for (vs := [12, 16]) PassesOwn.never rfl (li_enumA z_enumerate (la_cons (le_var (i := 8)) (la_nil))) (lg_tup rfl (lgs_cons (lg_name (i := 12) nd) (lgs_cons (lg_name (i := 16) nd) (lgs_nil)))) (ls_one (ls_if (lt_cmp op_gtA lf_cmp (le_meth c_Judging_how_many (j := 0) (b := pat_Judging_how_many_0) rfl hr (by decide) hG (le_var (i := 0)) (la_cons (le_var (i := 4)) (la_cons (le_var (i := 16)) (la_cons (le_var (i := 5)) (la_nil)))) (lk_nil)) (le_int) (nomark _)) (ls_one (ls_ret (le_tup (la_cons (le_str) (la_cons (le_var (i := 12)) (la_nil)))))) (ls_nil))))
    (ls_cons (ls_for (vs := [12, 16, 17]) PassesOwn.never rfl (li_enumA z_enumerate (la_cons (le_var (i := 10)) (la_nil))) (lg_tup rfl (lgs_cons (lg_name (i := 12) nd) (lgs_cons (lg_tup rfl (lgs_cons (lg_name (i := 16) nd) (lgs_cons (lg_name (i := 17) nd) (lgs_nil)))) (lgs_nil)))) (ls_one (ls_if (lt_cmp op_geA lf_cmp (le_meth c_Judging_how_many (j := 0) (b := pat_Judging_how_many_0) rfl hr (by decide) hG (le_var (i := 0)) (la_cons (le_var (i := 4)) (la_cons (le_var (i := 16)) (la_cons (le_var (i := 5)) (la_nil)))) (lk_nil)) (le_var (i := 17)) (nomark _)) (ls_one (ls_ret (le_tup (la_cons (le_str) (la_cons (le_var (i := 12)) (la_nil)))))) (ls_nil))))
    (ls_one (ls_ret (le_non))))))))))
/-! ### law_pick -/
abbrev N_law_pick : List Str := ["_law_deck_here", "_law_some"]
abbrev P_law_pick : List Str := ["_law_deck_here", "_law_some"]
theorem sc_law_pick : FnScope N_law_pick P_law_pick (defScope s_law_pick) := ⟨rfl, rfl, rfl, by decide +kernel, rfl, by decide +kernel, by decide +kernel⟩
def m_law_pick (sp_law_draw : SpP) : MS :=
  mRet (mB rIx (mVar 1) (mBlt sp_law_draw (mCons (mVar 0) (mCons (mBlt rLen (mCons (mVar 1) (mNil))) (mNil)))))
theorem ok_law_pick {P : Program} {w : World} {K : PySem.W.Frag} {mg : Str → Option Value} {base : Heap} {f : Addr} {fd : FuncData} {sp_law_draw : SpP} {sp : SpP} (F : Fun K "_law_pick" "_law_pick" s_law_pick f fd) (c_law_draw : Fn P w K mg base 1 "_law_draw" s_law_draw P_law_draw sp_law_draw) (z_len : mg "len" = none)
    (hp : ∀ (qs : List PV) (h : PH) (Q : N3.PK), qs.length = P_law_pick.length → sp qs h Q → m_law_pick sp_law_draw (ends Q) (sp0 N_law_pick.length qs) h) : FnG P w K mg base (1 + 1) f fd P_law_pick sp := by
  refine fn_ok (k := 1) F sc_law_pick (m := m_law_pick sp_law_draw) (fun cdv A outer s H E hr hG => ?_) hp
  have nd := sc_law_pick.nd
  exact ls_one (ls_ret (le_ix (hu1 hr) (le_var (i := 1)) (le_fn c_law_draw hr (by decide) hG (la_cons (le_var (i := 0)) (la_cons (le_len z_len (la_cons (le_var (i := 1)) (la_nil))) (la_nil))))))
/-! ### law_names -/
abbrev N_law_names : List Str := ["_law_deck_here", "_law_many", "_law_letters", "_law_way", "_law_first", "_law_turned", "_law_k"]
abbrev P_law_names : List Str := ["_law_deck_here", "_law_many"]
theorem sc_law_names : FnScope N_law_names P_law_names (defScope s_law_names) := ⟨rfl, rfl, rfl, by decide +kernel, rfl, by decide +kernel, by decide +kernel⟩
def m_law_names (sp_law_draw : SpP) : MS :=
  mSeq (mPar 2 3 (mCons (mC (.str "abcdefghijklmnopqrstuvwxyz")) (mCons (mBlt sp_law_draw (mCons (mVar 0) (mCons (mC (.int 3)) (mNil)))) (mNil))))
  (mSeq (mAsg (mBlt sp_law_draw (mCons (mVar 0) (mCons (mC (.int 26)) (mNil)))) (gN 4))
  (mSeq (mAsg (mB rAdd (mSl (mVar 2) (mPart (mVar 4)) (mNoPart)) (mSl (mVar 2) (mNoPart) (mPart (mVar 4)))) (gN 5))
  (mSeq (mIfS (mTest (mB rEq (mVar 3) (mC (.int 0)))) (mRet (mSl (mBlt rListA (mCons (mVar 5) (mNil))) (mNoPart) (mPart (mVar 1)))) (mNx))
  (mSeq (mIfS (mTest (mB rEq (mVar 3) (mC (.int 1)))) (mRet (mLc (mRng1 (mCons (mVar 1) (mNil))) [6] (gN 6) (mYes) (mB rMul (mB rIx (mVar 5) (mB rDiv (mVar 6) (mC (.int 6)))) (mB rAdd (mC (.int 1)) (mB rMod (mVar 6) (mC (.int 6))))))) (mNx))
  (mRet (mLc (mRng1 (mCons (mVar 1) (mNil))) [6] (gN 6) (mYes) (mB rAdd (mSl (mVar 5) (mPart (mC (.int 3))) (mPart (mC (.int 8)))) (mB rIx (mVar 5) (mVar 6)))))))))
theorem ok_law_names {P : Program} {w : World} {K : PySem.W.Frag} {mg : Str → Option Value} {base : Heap} {f : Addr} {fd : FuncData} {sp_law_draw : SpP} {sp : SpP} (F : Fun K "_law_names" "_law_names" s_law_names f fd) (c_law_draw : Fn P w K mg base 1 "_law_draw" s_law_draw P_law_draw sp_law_draw) (z_list : mg "list" = none) (z_range : mg "range" = none)
    (hp : ∀ (qs : List PV) (h : PH) (Q : N3.PK), qs.length = P_law_names.length → sp qs h Q → m_law_names sp_law_draw (ends Q) (sp0 N_law_names.length qs) h) : FnG P w K mg base (1 + 1) f fd P_law_names sp := by
  refine fn_ok (k := 1) F sc_law_names (m := m_law_names sp_law_draw) (fun cdv A outer s H E hr hG => ?_) hp
  have nd := sc_law_names.nd
  exact ls_cons (ls_par (i := 2) (j := 3) rfl nd (la_cons (le_str) (la_cons (le_fn c_law_draw hr (by decide) hG (la_cons (le_var (i := 0)) (la_cons (le_int) (la_nil)))) (la_nil))))
    (ls_cons (ls_set (i := 4) nd (le_fn c_law_draw hr (by decide) hG (la_cons (le_var (i := 0)) (la_cons (le_int) (la_nil)))))
    (ls_cons (ls_set (i := 5) nd (le_op op_addA kf_add (le_sl (le_var (i := 2)) (lo_some (le_var (i := 4))) (lo_none)) (le_sl (le_var (i := 2)) (lo_none) (lo_some (le_var (i := 4))))))
    (ls_cons (ls_if (lt_cmp (op_eqA (hu64 hr)) lf_eq (le_var (i := 3)) (le_int) (nomark _)) (ls_one (ls_ret (le_sl (le_listA rfl z_list (la_cons (le_var (i := 5)) (la_nil))) (lo_none) (lo_some (le_var (i := 1)))))) (ls_nil))
    (ls_cons (ls_if (lt_cmp (op_eqA (hu64 hr)) lf_eq (le_var (i := 3)) (le_int) (nomark _)) (ls_one (ls_ret (le_lc [("_law_k", 6)] rfl nd (li_rng1 z_range (la_cons (le_var (i := 1)) (la_nil))) (blkOk_by (N := N_law_names) (sc := defScope s_law_names) (own := [("_law_k", 6)]) (by decide +kernel)) (fun _ _ _ _ _ => lg_name (i := 6) nd) (fun _ _ _ _ _ => lts_nil) (fun _ _ _ _ _ => le_op op_mulA kf_mul (le_ix (hu1 hr) (le_var (i := 5)) (le_op op_fdiv kf_ii (le_var (i := 6)) (le_int))) (le_op op_addA kf_add (le_int) (le_op op_mod kf_ii (le_var (i := 6)) (le_int))))))) (ls_nil))
    (ls_one (ls_ret (le_lc [("_law_k", 6)] rfl nd (li_rng1 z_range (la_cons (le_var (i := 1)) (la_nil))) (blkOk_by (N := N_law_names) (sc := defScope s_law_names) (own := [("_law_k", 6)]) (by decide +kernel)) (fun _ _ _ _ _ => lg_name (i := 6) nd) (fun _ _ _ _ _ => lts_nil) (fun _ _ _ _ _ => le_op op_addA kf_add (le_sl (le_var (i := 5)) (lo_some (le_int)) (lo_some (le_int))) (le_ix (hu1 hr) (le_var (i := 5)) (le_var (i := 6)))))))))))
/-! ### law_places -/
abbrev N_law_places : List Str := ["_law_deck_here", "_law_wide", "_law_least", "_law_found", "_law_k"]
abbrev P_law_places : List Str := ["_law_deck_here", "_law_wide", "_law_least"]
theorem sc_law_places : FnScope N_law_places P_law_places (defScope s_law_places) := ⟨rfl, rfl, rfl, by decide +kernel, rfl, by decide +kernel, by decide +kernel⟩
def m_law_places (sp_law_draw : SpP) : MS :=
  mSeq (mAsg (mBlt rTupOf (mCons (mLc (mRng1 (mCons (mVar 1) (mNil))) [4] (gN 4) (mTest (mB rEq (mBlt sp_law_draw (mCons (mVar 0) (mCons (mC (.int 2)) (mNil)))) (mC (.int 1)))) (mVar 4)) (mNil))) (gN 3))
  (mRet (mIf (mTest (mB rGe (mBlt rLen (mCons (mVar 3) (mNil))) (mVar 2))) (mVar 3) (mTup (mCons (mBlt sp_law_draw (mCons (mVar 0) (mCons (mVar 1) (mNil)))) (mNil)))))
theorem ok_law_places {P : Program} {w : World} {K : PySem.W.Frag} {mg : Str → Option Value} {base : Heap} {f : Addr} {fd : FuncData} {sp_law_draw : SpP} {sp : SpP} (F : Fun K "_law_places" "_law_places" s_law_places f fd) (c_law_draw : Fn P w K mg base 1 "_law_draw" s_law_draw P_law_draw sp_law_draw) (z_tuple : mg "tuple" = none) (z_range : mg "range" = none) (z_len : mg "len" = none)
    (hp : ∀ (qs : List PV) (h : PH) (Q : N3.PK), qs.length = P_law_places.length → sp qs h Q → m_law_places sp_law_draw (ends Q) (sp0 N_law_places.length qs) h) : FnG P w K mg base (1 + 1) f fd P_law_places sp := by
  refine fn_ok (k := 1) F sc_law_places (m := m_law_places sp_law_draw) (fun cdv A outer s H E hr hG => ?_) hp
  have nd := sc_law_places.nd
  exact ls_cons (ls_set (i := 3) nd (le_tuple z_tuple (la_cons (le_lc [("_law_k", 4)] rfl nd (li_rng1 z_range (la_cons (le_var (i := 1)) (la_nil))) (blkOk_by (N := N_law_places) (sc := defScope s_law_places) (own := [("_law_k", 4)]) (by decide +kernel)) (fun _ _ _ _ _ => lg_name (i := 4) nd) (fun _ _ _ _ _ => lts_one (lt_cmp (op_eqA (hu64 hr)) lf_eq (le_fn c_law_draw hr (by decide) hG (la_cons (le_var (i := 0)) (la_cons (le_int) (la_nil)))) (le_int) (nomark _))) (fun _ _ _ _ _ => le_var (i := 4))) (la_nil))))
    (ls_one (ls_ret (le_if (lt_cmp op_geA lf_cmp (le_len z_len (la_cons (le_var (i := 3)) (la_nil))) (le_var (i := 2)) (nomark _)) (le_var (i := 3)) (le_tup (la_cons (le_fn c_law_draw hr (by decide) hG (la_cons (le_var (i := 0)) (la_cons (le_var (i := 1)) (la_nil)))) (la_nil))))))
/-! ### law_risen -/
abbrev N_law_risen : List Str := ["_law_tells", "_law_found", "_law_rank_here", "_law_row", "_law_tell_here", "_law_one"]
abbrev P_law_risen : List Str := ["_law_tells"]
theorem sc_law_risen : FnScope N_law_risen P_law_risen (defScope s_law_risen) := ⟨rfl, rfl, rfl, by decide +kernel, rfl, by decide +kernel, by decide +kernel⟩
def m_law_risen (sp_law_rank : SpP) : MS :=
  mSeq (mAsg (mLstM (mNil)) (gN 1))
  (mSeq (mFor (mSeqs (mBlt rNestSet (mCons (mLc (mSeqs (mVar 0)) [4] (gN 4) (mYes) (mBlt sp_law_rank (mCons (mVar 4) (mNil)))) (mNil)))) (gN 2) (mSeq (mAsg (mLc (mSeqs (mB rIx (mVar 2) (mC (.int 3)))) [5] (gN 5) (mYes) (mB rIx (mVar 5) (mB rAdd (mC (.int 1)) (mB rIx (mVar 5) (mC (.int 0)))))) (gN 3))
  (mDrop (mAppend (mVar 1) (mCons (mB rAdd (mSl (mVar 2) (mNoPart) (mPart (mC (.int 3)))) (mTup (mCons (mBlt rTupOf (mCons (mVar 3) (mNil))) (mNil)))) (mNil))))))
  (mRet (mBlt rTupOf (mCons (mVar 1) (mNil)))))
theorem ok_law_risen {P : Program} {w : World} {K : PySem.W.Frag} {mg : Str → Option Value} {base : Heap} {f : Addr} {fd : FuncData} {sp_law_rank : SpP} {sp : SpP} (F : Fun K "_law_risen" "_law_risen" s_law_risen f fd) (c_law_rank : Fn P w K mg base 1 "_law_rank" s_law_rank P_law_rank sp_law_rank) (z_sorted : mg "sorted" = none) (z_set : mg "set" = none) (z_tuple : mg "tuple" = none)
    (hp : ∀ (qs : List PV) (h : PH) (Q : N3.PK), qs.length = P_law_risen.length → sp qs h Q → m_law_risen sp_law_rank (ends Q) (sp0 N_law_risen.length qs) h) : FnG P w K mg base (1 + 1) f fd P_law_risen sp := by
  refine fn_ok (k := 1) F sc_law_risen (m := m_law_risen sp_law_rank) (fun cdv A outer s H E hr hG => ?_) hp
  have nd := sc_law_risen.nd
  exact ls_cons (ls_set (i := 1) nd (le_lstM (la_nil)))
    (ls_cons (ls_for (vs := [2]) PassesOwn.never rfl (li_seqs (le_nestSet rfl (hu66 hr) z_sorted z_set (la_cons (le_lc [("_law_tell_here", 4)] rfl nd (li_seqs (le_var (i := 0))) (blkOk_by (N := N_law_risen) (sc := defScope s_law_risen) (own := [("_law_tell_here", 4)]) (by decide +kernel)) (fun _ _ _ _ _ => lg_name (i := 4) nd) (fun _ _ _ _ _ => lts_nil) (fun _ _ _ _ _ => le_fn c_law_rank hr (by decide) hG (la_cons (le_var (i := 4)) (la_nil)))) (la_nil)))) (lg_name (i := 2) nd) (ls_cons (ls_setLc (i := 3) [("_law_one", 5)] rfl nd (li_seqs (le_ix (hu1 hr) (le_var (i := 2)) (le_int))) (blkOk_by (N := N_law_risen) (sc := defScope s_law_risen) (own := [("_law_one", 5)]) (by decide +kernel)) (fun _ _ _ _ _ => lg_name (i := 5) nd) (fun _ _ _ _ _ => lts_nil) (fun _ _ _ _ _ => le_ix (hu1 hr) (le_var (i := 5)) (le_op op_addA kf_add (le_int) (le_ix (hu1 hr) (le_var (i := 5)) (le_int)))))
    (ls_one (ls_expr (le_append (le_var (i := 1)) (la_cons (le_op op_addA kf_add (le_sl (le_var (i := 2)) (lo_none) (lo_some (le_int))) (le_tup (la_cons (le_tuple z_tuple (la_cons (le_var (i := 3)) (la_nil))) (la_nil)))) (la_nil)))))))
    (ls_one (ls_ret (le_tuple z_tuple (la_cons (le_var (i := 1)) (la_nil))))))
/-! ### law_why -/
abbrev N_law_why : List Str := ["_law_plan", "_law_had", "_law_tell_here", "_law_moment", "_law_teller", "_law_name", "_law_row", "_law_table_here", "_law_same_here", "_law_wide", "_law_keys", "_law_leans", "_law_rooms", "_law_may", "_law_rows", "_law_k", "_law_place", "_law_other", "_law_far", "_law_one"]
abbrev P_law_why : List Str := ["_law_plan", "_law_had", "_law_tell_here"]
theorem sc_law_why : FnScope N_law_why P_law_why (defScope s_law_why) := ⟨rfl, rfl, rfl, by decide +kernel, rfl, by decide +kernel, by decide +kernel⟩
def m_law_why (sp_law_has : SpP) (sp_law_same : SpP) : MS :=
  mSeq (mAsg (mVar 2) (gT 4 (gsCons (gN 3) (gsCons (gN 4) (gsCons (gN 5) (gsCons (gN 6) (gsNil)))))))
  (mSeq (mAsg (mLc (mSeqs (mB rIx (mVar 0) (mC (.int 0)))) [19] (gN 19) (mTest (mB rEq (mB rIx (mVar 19) (mC (.int 0))) (mVar 5))) (mVar 19)) (gN 7))
  (mSeq (mIfS (mOrT (mTest (mB rEq (mVar 7) (mLst (mNil)))) (mTest (mB rNe (mB rIx (mB rIx (mVar 7) (mC (.int 0))) (mC (.int 1))) (mBlt rLen (mCons (mVar 6) (mNil)))))) (mRet (mTup (mCons (mC (.str "form")) (mNil)))) (mNx))
  (mSeq (mAsg (mB rIx (mVar 7) (mC (.int 0))) (gT 6 (gsCons (gN 8) (gsCons (gN 9) (gsCons (gN 10) (gsCons (gN 11) (gsCons (gN 12) (gsCons (gN 13) (gsNil)))))))))
  (mSeq (mAsg (mLc (mSeqs (mVar 1)) [19] (gN 19) (mTest (mB rEq (mB rIx (mVar 19) (mC (.int 2))) (mVar 5))) (mB rIx (mVar 19) (mC (.int 3)))) (gN 14))
  (mSeq (mIfS (mTest (mB (rInP false) (mVar 6) (mVar 14))) (mRet (mTup (mCons (mC (.str "there")) (mNil)))) (mNx))
  (mSeq (mIfS (mAndT (mTest (mB rNotN (mVar 13) (mC .non))) (mAndT (mTest (mB rGt (mVar 3) (mC (.int 0)))) (mNotT (mTest (mBlt sp_law_has (mCons (mVar 1) (mCons (mB rIx (mVar 13) (mC (.int 0))) (mCons (mB rIx (mVar 13) (mC (.int 1))) (mCons (mVar 4) (mNil)))))))))) (mRet (mTup (mCons (mC (.str "may")) (mNil)))) (mNx))
  (mSeq (mFor (mRng1 (mCons (mBlt rLen (mCons (mVar 11) (mNil))) (mNil))) (gN 15) (mSeq (mAsg (mB rIx (mVar 11) (mVar 15)) (gT 3 (gsCons (gN 16) (gsCons (gN 17) (gsCons (gN 18) (gsNil))))))
  (mIfS (mAndT (mTest (mB rNe (mB rIx (mVar 6) (mVar 16)) (mC (.int 0)))) (mNotT (mTest (mBlt sp_law_has (mCons (mVar 1) (mCons (mVar 17) (mCons (mVar 18) (mCons (mB rIx (mVar 6) (mVar 16)) (mNil))))))))) (mRet (mTup (mCons (mC (.str "lean")) (mCons (mVar 15) (mNil))))) (mNx))))
  (mSeq (mFor (mRng1 (mCons (mBlt rLen (mCons (mVar 10) (mNil))) (mNil))) (gN 15) (mIfS (mTest (mB rNe (mLc (mSeqs (mVar 14)) [19] (gN 19) (mTest (mBlt sp_law_same (mCons (mVar 6) (mCons (mVar 19) (mCons (mB rIx (mVar 10) (mVar 15)) (mNil)))))) (mVar 19)) (mLst (mNil)))) (mRet (mTup (mCons (mC (.str "key")) (mCons (mVar 15) (mNil))))) (mNx)))
  (mSeq (mFor (mRng1 (mCons (mBlt rLen (mCons (mVar 12) (mNil))) (mNil))) (gN 15) (mIfS (mTest (mB rGe (mBlt rLen (mCons (mLc (mSeqs (mVar 14)) [19] (gN 19) (mTest (mBlt sp_law_same (mCons (mVar 6) (mCons (mVar 19) (mCons (mB rIx (mB rIx (mVar 12) (mVar 15)) (mC (.int 0))) (mNil)))))) (mVar 19)) (mNil))) (mB rIx (mB rIx (mVar 12) (mVar 15)) (mC (.int 1))))) (mRet (mTup (mCons (mC (.str "room")) (mCons (mVar 15) (mNil))))) (mNx)))
  (mRet (mC .non)))))))))))
theorem ok_law_why {P : Program} {w : World} {K : PySem.W.Frag} {mg : Str → Option Value} {base : Heap} {f : Addr} {fd : FuncData} {sp_law_has : SpP} {sp_law_same : SpP} {sp : SpP} (F : Fun K "_law_why" "_law_why" s_law_why f fd) (c_law_has : Fn P w K mg base 1 "_law_has" s_law_has P_law_has sp_law_has) (c_law_same : Fn P w K mg base 1 "_law_same" s_law_same P_law_same sp_law_same) (z_len : mg "len" = none) (z_range : mg "range" = none)
    (hp : ∀ (qs : List PV) (h : PH) (Q : N3.PK), qs.length = P_law_why.length → sp qs h Q → m_law_why sp_law_has sp_law_same (ends Q) (sp0 N_law_why.length qs) h) : FnG P w K mg base (1 + 1) f fd P_law_why sp := by
  refine fn_ok (k := 1) F sc_law_why (m := m_law_why sp_law_has sp_law_same) (fun cdv A outer s H E hr hG => ?_) hp
  have nd := sc_law_why.nd
  exact ls_cons (ls_asg (vs := [3, 4, 5, 6]) (le_var (i := 2)) (lg_tup rfl (lgs_cons (lg_name (i := 3) nd) (lgs_cons (lg_name (i := 4) nd) (lgs_cons (lg_name (i := 5) nd) (lgs_cons (lg_name (i := 6) nd) (lgs_nil)))))))
    (ls_cons (ls_setLc (i := 7) [("_law_one", 19)] rfl nd (li_seqs (le_ix (hu1 hr) (le_var (i := 0)) (le_int))) (blkOk_by (N := N_law_why) (sc := defScope s_law_why) (own := [("_law_one", 19)]) (by decide +kernel)) (fun _ _ _ _ _ => lg_name (i := 19) nd) (fun _ _ _ _ _ => lts_one (lt_cmp (op_eqA (hu64 hr)) lf_eq (le_ix (hu1 hr) (le_var (i := 19)) (le_int)) (le_var (i := 5)) (nomark _))) (fun _ _ _ _ _ => le_var (i := 19)))
    (ls_cons (ls_if (lt_w (lw_or (lt_cmp (op_eqA (hu64 hr)) lf_eq (le_var (i := 7)) (le_lst (la_nil)) (nomark _)) (lw_or1 (lt_cmp (op_neA (hu64 hr)) lf_ne (le_ix (hu1 hr) (le_ix (hu1 hr) (le_var (i := 7)) (le_int)) (le_int)) (le_len z_len (la_cons (le_var (i := 6)) (la_nil))) (nomark _))))) (ls_one (ls_ret (le_tup (la_cons (le_str) (la_nil))))) (ls_nil))
    (ls_cons (ls_asg (vs := [8, 9, 10, 11, 12, 13]) (le_ix (hu1 hr) (le_var (i := 7)) (le_int)) (lg_tup rfl (lgs_cons (lg_name (i := 8) nd) (lgs_cons (lg_name (i := 9) nd) (lgs_cons (lg_name (i := 10) nd) (lgs_cons (lg_name (i := 11) nd) (lgs_cons (lg_name (i := 12) nd) (lgs_cons (lg_name (i := 13) nd) (lgs_nil)))))))))
    (ls_cons (ls_setLc (i := 14) [("_law_one", 19)] rfl nd (li_seqs (le_var (i := 1))) (blkOk_by (N := N_law_why) (sc := defScope s_law_why) (own := [("_law_one", 19)]) (by decide +kernel)) (fun _ _ _ _ _ => lg_name (i := 19) nd) (fun _ _ _ _ _ => lts_one (lt_cmp (op_eqA (hu64 hr)) lf_eq (le_ix (hu1 hr) (le_var (i := 19)) (le_int)) (le_var (i := 5)) (nomark _))) (fun _ _ _ _ _ => le_ix (hu1 hr) (le_var (i := 19)) (le_int)))
    (ls_cons (ls_if (lt_cmp (op_inA (hu65 hr)) lf_in (le_var (i := 6)) (le_var (i := 14)) (by with_unfolding_all rfl)) (ls_one (ls_ret (le_tup (la_cons (le_str) (la_nil))))) (ls_nil))
    (ls_cons (ls_if (lt_w (lw_and (lt_cmp op_notN lf_notN (le_var (i := 13)) (le_non) (nomark _)) (lw_and (lt_cmp op_gtA lf_cmp (le_var (i := 3)) (le_int) (nomark _)) (lw_and1 (lt_not (lt_val (le_fn c_law_has hr (by decide) hG (la_cons (le_var (i := 1)) (la_cons (le_ix (hu1 hr) (le_var (i := 13)) (le_int)) (la_cons (le_ix (hu1 hr) (le_var (i := 13)) (le_int)) (la_cons (le_var (i := 4)) (la_nil)))))))))))) (ls_one (ls_ret (le_tup (la_cons (le_str) (la_nil))))) (ls_nil))
    (ls_cons (ls_for (vs := [15]) PassesOwn.never rfl (li_rng1 z_range (la_cons (le_len z_len (la_cons (le_var (i := 11)) (la_nil))) (la_nil))) (lg_name (i := 15) nd) (ls_cons (ls_asg (vs := [16, 17, 18]) (le_ix (hu1 hr) (le_var (i := 11)) (le_var (i := 15))) (lg_tup rfl (lgs_cons (lg_name (i := 16) nd) (lgs_cons (lg_name (i := 17) nd) (lgs_cons (lg_name (i := 18) nd) (lgs_nil))))))
    (ls_one (ls_if (lt_w (lw_and (lt_cmp (op_neA (hu64 hr)) lf_ne (le_ix (hu1 hr) (le_var (i := 6)) (le_var (i := 16))) (le_int) (nomark _)) (lw_and1 (lt_not (lt_val (le_fn c_law_has hr (by decide) hG (la_cons (le_var (i := 1)) (la_cons (le_var (i := 17)) (la_cons (le_var (i := 18)) (la_cons (le_ix (hu1 hr) (le_var (i := 6)) (le_var (i := 16))) (la_nil))))))))))) (ls_one (ls_ret (le_tup (la_cons (le_str) (la_cons (le_var (i := 15)) (la_nil)))))) (ls_nil)))))
    (ls_cons (ls_for (vs := [15]) PassesOwn.never rfl (li_rng1 z_range (la_cons (le_len z_len (la_cons (le_var (i := 10)) (la_nil))) (la_nil))) (lg_name (i := 15) nd) (ls_one (ls_if (lt_cmp (op_neA (hu64 hr)) lf_ne (le_lc [("_law_one", 19)] rfl nd (li_seqs (le_var (i := 14))) (blkOk_by (N := N_law_why) (sc := defScope s_law_why) (own := [("_law_one", 19)]) (by decide +kernel)) (fun _ _ _ _ _ => lg_name (i := 19) nd) (fun _ _ _ _ _ => lts_one (lt_val (le_fn c_law_same hr (by decide) hG (la_cons (le_var (i := 6)) (la_cons (le_var (i := 19)) (la_cons (le_ix (hu1 hr) (le_var (i := 10)) (le_var (i := 15))) (la_nil))))))) (fun _ _ _ _ _ => le_var (i := 19))) (le_lst (la_nil)) (nomark _)) (ls_one (ls_ret (le_tup (la_cons (le_str) (la_cons (le_var (i := 15)) (la_nil)))))) (ls_nil))))
    (ls_cons (ls_for (vs := [15]) PassesOwn.never rfl (li_rng1 z_range (la_cons (le_len z_len (la_cons (le_var (i := 12)) (la_nil))) (la_nil))) (lg_name (i := 15) nd) (ls_one (ls_if (lt_cmp op_geA lf_cmp (le_len z_len (la_cons (le_lc [("_law_one", 19)] rfl nd (li_seqs (le_var (i := 14))) (blkOk_by (N := N_law_why) (sc := defScope s_law_why) (own := [("_law_one", 19)]) (by decide +kernel)) (fun _ _ _ _ _ => lg_name (i := 19) nd) (fun _ _ _ _ _ => lts_one (lt_val (le_fn c_law_same hr (by decide) hG (la_cons (le_var (i := 6)) (la_cons (le_var (i := 19)) (la_cons (le_ix (hu1 hr) (le_ix (hu1 hr) (le_var (i := 12)) (le_var (i := 15))) (le_int)) (la_nil))))))) (fun _ _ _ _ _ => le_var (i := 19))) (la_nil))) (le_ix (hu1 hr) (le_ix (hu1 hr) (le_var (i := 12)) (le_var (i := 15))) (le_int)) (nomark _)) (ls_one (ls_ret (le_tup (la_cons (le_str) (la_cons (le_var (i := 15)) (la_nil)))))) (ls_nil))))
    (ls_one (ls_ret (le_non))))))))))))
/-! ### Judging_judge -/
abbrev N_Judging_judge : List Str := ["self", "tell", "why"]
abbrev P_Judging_judge : List Str := ["self", "tell"]
theorem sc_Judging_judge : FnScope N_Judging_judge P_Judging_judge (defScope s_Judging_judge) := ⟨rfl, rfl, rfl, by decide +kernel, rfl, by decide +kernel, by decide +kernel⟩
def m_Judging_judge (Ad_Judging : Addr) (sp_Judging_why_not : SpP) : MS :=
  mSeq (mAsg (mMeth Ad_Judging "why_not" sp_Judging_why_not pat_Judging_why_not_0 (mVar 0) (mCons (mVar 1) (mNil)) (mNil)) (gN 2))
  (mSeq (mIfS (mTest (mB rIsN (mVar 2) (mC .non))) (mDrop (mAppend (mB rIx (mFld Ad_Judging "rows_taken" (mVar 0)) (mB rIx (mVar 1) (mC (.int 2)))) (mCons (mB rIx (mVar 1) (mC (.int 3))) (mNil)))) (mNx))
  (mRet (mVar 2)))
theorem ok_Judging_judge {P : Program} {w : World} {K : PySem.W.Frag} {mg : Str → Option Value} {base : Heap} {f : Addr} {fd : FuncData} {Ad_Judging : Addr} {sp_Judging_why_not : SpP} {sp : SpP} (F : Fun K "judge" "Judging.judge" s_Judging_judge f fd) (cl_Judging : Cls K Ad_Judging) (n_Judging_rows_taken : NoAttr K Ad_Judging "rows_taken") (c_Judging_why_not : FnM P w K mg base 2 Ad_Judging "why_not" P_Judging_why_not sp_Judging_why_not pats_Judging_why_not)
    (hp : ∀ (qs : List PV) (h : PH) (Q : N3.PK), qs.length = P_Judging_judge.length → sp qs h Q → m_Judging_judge Ad_Judging sp_Judging_why_not (ends Q) (sp0 N_Judging_judge.length qs) h) : FnG P w K mg base (2 + 1) f fd P_Judging_judge sp := by
  refine fn_ok (k := 2) F sc_Judging_judge (m := m_Judging_judge Ad_Judging sp_Judging_why_not) (fun cdv A outer s H E hr hG => ?_) hp
  have nd := sc_Judging_judge.nd
  exact ls_cons (ls_set (i := 2) nd (le_meth c_Judging_why_not (j := 0) (b := pat_Judging_why_not_0) rfl hr (by decide) hG (le_var (i := 0)) (la_cons (le_var (i := 1)) (la_nil)) (lk_nil)))
    (ls_cons (ls_if (lt_cmp op_isN lf_isN (le_var (i := 2)) (le_non) (nomark _)) (ls_one (ls_expr (le_append (le_ix (hu1 hr) (le_fld cl_Judging n_Judging_rows_taken (le_var (i := 0))) (le_ix (hu1 hr) (le_var (i := 1)) (le_int))) (la_cons (le_ix (hu1 hr) (le_var (i := 1)) (le_int)) (la_nil))))) (ls_nil))
    (ls_one (ls_ret (le_var (i := 2)))))
/-! ### law_table -/
abbrev N_law_table : List Str := ["_law_deck_here", "_law_name", "_law_wides", "_law_often", "_law_wide", "_law_others", "_law_most", "_law_many", "_law_keys", "_law_k", "_law_other", "_law_far", "_law_leans", "_law_rooms"]
abbrev P_law_table : List Str := ["_law_deck_here", "_law_name", "_law_wides", "_law_often"]
theorem sc_law_table : FnScope N_law_table P_law_table (defScope s_law_table) := ⟨rfl, rfl, rfl, by decide +kernel, rfl, by decide +kernel, by decide +kernel⟩
def m_law_table (sp_law_draw : SpP) (sp_law_places : SpP) (sp_law_pick : SpP) : MS :=
  mSeq (mAsg (mTup (mCons (mB rIx (mBlt rDictP (mCons (mVar 2) (mNil))) (mVar 1)) (mCons (mLstM (mNil)) (mCons (mB rIx (mLst (mCons (mC (.int 9)) (mCons (mB rAdd (mC (.int 1)) (mBlt sp_law_draw (mCons (mVar 0) (mCons (mC (.int 3)) (mNil))))) (mNil)))) (mBlt sp_law_draw (mCons (mVar 0) (mCons (mC (.int 2)) (mNil))))) (mNil))))) (gT 3 (gsCons (gN 4) (gsCons (gN 5) (gsCons (gN 6) (gsNil))))))
  (mSeq (mAsg (mBlt sp_law_draw (mCons (mVar 0) (mCons (mVar 3) (mNil)))) (gN 7))
  (mSeq (mAsg (mBlt rTupOf (mCons (mLc (mRng1 (mCons (mVar 7) (mNil))) [9] (gN 9) (mYes) (mBlt sp_law_places (mCons (mVar 0) (mCons (mVar 4) (mCons (mC (.int 1)) (mNil)))))) (mNil))) (gN 8))
  (mSeq (mFor (mRng1 (mCons (mC (.int 3)) (mNil))) (gN 9) (mSeq (mAsg (mBlt sp_law_pick (mCons (mVar 0) (mCons (mVar 2) (mNil)))) (gT 2 (gsCons (gN 10) (gsCons (gN 11) (gsNil)))))
  (mDrop (mAppend (mVar 5) (mCons (mTup (mCons (mVar 10) (mCons (mBlt sp_law_draw (mCons (mVar 0) (mCons (mVar 11) (mNil)))) (mNil)))) (mNil))))))
  (mSeq (mAsg (mBlt sp_law_draw (mCons (mVar 0) (mCons (mVar 3) (mNil)))) (gN 7))
  (mSeq (mAsg (mBlt rTupOf (mCons (mLc (mRng1 (mCons (mVar 7) (mNil))) [9] (gN 9) (mYes) (mB rAdd (mTup (mCons (mBlt sp_law_draw (mCons (mVar 0) (mCons (mVar 4) (mNil)))) (mNil))) (mB rIx (mVar 5) (mVar 9)))) (mNil))) (gN 12))
  (mSeq (mAsg (mB rMul (mBlt sp_law_draw (mCons (mVar 0) (mCons (mVar 3) (mNil)))) (mBlt rIntT (mCons (mB rLt (mVar 6) (mC (.int 8))) (mNil)))) (gN 7))
  (mSeq (mAsg (mBlt rTupOf (mCons (mLc (mRng1 (mCons (mVar 7) (mNil))) [9] (gN 9) (mYes) (mTup (mCons (mBlt sp_law_places (mCons (mVar 0) (mCons (mVar 4) (mCons (mC (.int 0)) (mNil))))) (mCons (mB rAdd (mVar 6) (mVar 9)) (mNil))))) (mNil))) (gN 13))
  (mRet (mTup (mCons (mVar 1) (mCons (mVar 4) (mCons (mVar 8) (mCons (mVar 12) (mCons (mVar 13) (mCons (mB rIx (mLst (mCons (mC .non) (mCons (mC .non) (mCons (mB rIx (mVar 5) (mC (.int 2))) (mNil))))) (mBlt sp_law_draw (mCons (mVar 0) (mCons (mC (.int 3)) (mNil))))) (mNil))))))))))))))))
theorem ok_law_table {P : Program} {w : World} {K : PySem.W.Frag} {mg : Str → Option Value} {base : Heap} {f : Addr} {fd : FuncData} {sp_law_draw : SpP} {sp_law_places : SpP} {sp_law_pick : SpP} {sp : SpP} (F : Fun K "_law_table" "_law_table" s_law_table f fd) (c_law_draw : Fn P w K mg base 1 "_law_draw" s_law_draw P_law_draw sp_law_draw) (c_law_places : Fn P w K mg base 2 "_law_places" s_law_places P_law_places sp_law_places) (c_law_pick : Fn P w K mg base 2 "_law_pick" s_law_pick P_law_pick sp_law_pick) (z_dict : mg "dict" = none) (z_tuple : mg "tuple" = none) (z_range : mg "range" = none) (z_int : mg "int" = none)
    (hp : ∀ (qs : List PV) (h : PH) (Q : N3.PK), qs.length = P_law_table.length → sp qs h Q → m_law_table sp_law_draw sp_law_places sp_law_pick (ends Q) (sp0 N_law_table.length qs) h) : FnG P w K mg base (2 + 1) f fd P_law_table sp := by
  refine fn_ok (k := 2) F sc_law_table (m := m_law_table sp_law_draw sp_law_places sp_law_pick) (fun cdv A outer s H E hr hG => ?_) hp
  have nd := sc_law_table.nd
  exact ls_cons (ls_asg (vs := [4, 5, 6]) (le_tup (la_cons (le_ix (hu1 hr) (le_dictP rfl z_dict (la_cons (le_var (i := 2)) (la_nil))) (le_var (i := 1))) (la_cons (le_lstM (la_nil)) (la_cons (le_ix (hu1 hr) (le_lst (la_cons (le_int) (la_cons (le_op op_addA kf_add (le_int) (le_fn c_law_draw hr (by decide) hG (la_cons (le_var (i := 0)) (la_cons (le_int) (la_nil))))) (la_nil)))) (le_fn c_law_draw hr (by decide) hG (la_cons (le_var (i := 0)) (la_cons (le_int) (la_nil))))) (la_nil))))) (lg_tup rfl (lgs_cons (lg_name (i := 4) nd) (lgs_cons (lg_name (i := 5) nd) (lgs_cons (lg_name (i := 6) nd) (lgs_nil))))))
    (ls_cons (ls_set (i := 7) nd (le_fn c_law_draw hr (by decide) hG (la_cons (le_var (i := 0)) (la_cons (le_var (i := 3)) (la_nil)))))
    (ls_cons (ls_set (i := 8) nd (le_tuple z_tuple (la_cons (le_lc [("_law_k", 9)] rfl nd (li_rng1 z_range (la_cons (le_var (i := 7)) (la_nil))) (blkOk_by (N := N_law_table) (sc := defScope s_law_table) (own := [("_law_k", 9)]) (by decide +kernel)) (fun _ _ _ _ _ => lg_name (i := 9) nd) (fun _ _ _ _ _ => lts_nil) (fun _ _ _ _ _ => le_fn c_law_places hr (by decide) hG (la_cons (le_var (i := 0)) (la_cons (le_var (i := 4)) (la_cons (le_int) (la_nil)))))) (la_nil))))
    (ls_cons (ls_for (vs := [9]) PassesOwn.never rfl (li_rng1 z_range (la_cons (le_int) (la_nil))) (lg_name (i := 9) nd) (ls_cons (ls_asg (vs := [10, 11]) (le_fn c_law_pick hr (by decide) hG (la_cons (le_var (i := 0)) (la_cons (le_var (i := 2)) (la_nil)))) (lg_tup rfl (lgs_cons (lg_name (i := 10) nd) (lgs_cons (lg_name (i := 11) nd) (lgs_nil)))))
    (ls_one (ls_expr (le_append (le_var (i := 5)) (la_cons (le_tup (la_cons (le_var (i := 10)) (la_cons (le_fn c_law_draw hr (by decide) hG (la_cons (le_var (i := 0)) (la_cons (le_var (i := 11)) (la_nil)))) (la_nil)))) (la_nil)))))))
    (ls_cons (ls_set (i := 7) nd (le_fn c_law_draw hr (by decide) hG (la_cons (le_var (i := 0)) (la_cons (le_var (i := 3)) (la_nil)))))
    (ls_cons (ls_set (i := 12) nd (le_tuple z_tuple (la_cons (le_lc [("_law_k", 9)] rfl nd (li_rng1 z_range (la_cons (le_var (i := 7)) (la_nil))) (blkOk_by (N := N_law_table) (sc := defScope s_law_table) (own := [("_law_k", 9)]) (by decide +kernel)) (fun _ _ _ _ _ => lg_name (i := 9) nd) (fun _ _ _ _ _ => lts_nil) (fun _ _ _ _ _ => le_op op_addA kf_add (le_tup (la_cons (le_fn c_law_draw hr (by decide) hG (la_cons (le_var (i := 0)) (la_cons (le_var (i := 4)) (la_nil)))) (la_nil))) (le_ix (hu1 hr) (le_var (i := 5)) (le_var (i := 9))))) (la_nil))))
    (ls_cons (ls_set (i := 7) nd (le_op op_mulA kf_mul (le_fn c_law_draw hr (by decide) hG (la_cons (le_var (i := 0)) (la_cons (le_var (i := 3)) (la_nil)))) (le_intT z_int (la_cons (le_cmp op_ltA lf_cmp (le_var (i := 6)) (le_int) (nomark _)) (la_nil)))))
    (ls_cons (ls_set (i := 13) nd (le_tuple z_tuple (la_cons (le_lc [("_law_k", 9)] rfl nd (li_rng1 z_range (la_cons (le_var (i := 7)) (la_nil))) (blkOk_by (N := N_law_table) (sc := defScope s_law_table) (own := [("_law_k", 9)]) (by decide +kernel)) (fun _ _ _ _ _ => lg_name (i := 9) nd) (fun _ _ _ _ _ => lts_nil) (fun _ _ _ _ _ => le_tup (la_cons (le_fn c_law_places hr (by decide) hG (la_cons (le_var (i := 0)) (la_cons (le_var (i := 4)) (la_cons (le_int) (la_nil))))) (la_cons (le_op op_addA kf_add (le_var (i := 6)) (le_var (i := 9))) (la_nil))))) (la_nil))))
    (ls_one (ls_ret (le_tup (la_cons (le_var (i := 1)) (la_cons (le_var (i := 4)) (la_cons (le_var (i := 8)) (la_cons (le_var (i := 12)) (la_cons (le_var (i := 13)) (la_cons (le_ix (hu1 hr) (le_lst (la_cons (le_non) (la_cons (le_non) (la_cons (le_ix (hu1 hr) (le_var (i := 5)) (le_int)) (la_nil))))) (le_fn c_law_draw hr (by decide) hG (la_cons (le_var (i := 0)) (la_cons (le_int) (la_nil))))) (la_nil)))))))))))))))))
/-! ### law_tell -/
abbrev N_law_tell : List Str := ["_law_deck_here", "_law_wides", "_law_names_here", "_law_worths", "_law_way", "_law_name", "_law_wide", "_law_row", "_law_moment", "_law_teller", "_law_k"]
abbrev P_law_tell : List Str := ["_law_deck_here", "_law_wides", "_law_names_here", "_law_worths"]
theorem sc_law_tell : FnScope N_law_tell P_law_tell (defScope s_law_tell) := ⟨rfl, rfl, rfl, by decide +kernel, rfl, by decide +kernel, by decide +kernel⟩
def m_law_tell (sp_law_draw : SpP) (sp_law_pick : SpP) : MS :=
  mSeq (mAsg (mBlt sp_law_draw (mCons (mVar 0) (mCons (mC (.int 16)) (mNil)))) (gN 4))
  (mSeq (mAsg (mBlt sp_law_pick (mCons (mVar 0) (mCons (mVar 1) (mNil)))) (gT 2 (gsCons (gN 5) (gsCons (gN 6) (gsNil)))))
  (mSeq (mAsg (mIf (mTest (mB rEq (mVar 4) (mC (.int 0)))) (mB rAdd (mC (.int 1)) (mBlt sp_law_draw (mCons (mVar 0) (mCons (mC (.int 4)) (mNil))))) (mVar 6)) (gN 6))
  (mSeq (mAsg (mBlt rTupOf (mCons (mLc (mRng1 (mCons (mVar 6) (mNil))) [10] (gN 10) (mYes) (mBlt sp_law_pick (mCons (mVar 0) (mCons (mVar 3) (mNil))))) (mNil))) (gN 7))
  (mSeq (mPar 8 9 (mCons (mB rMul (mBlt sp_law_draw (mCons (mVar 0) (mCons (mC (.int 4)) (mNil)))) (mB rIx (mLst (mCons (mC (.int 1)) (mCons (mC (.int 333)) (mNil)))) (mB rMod (mVar 4) (mC (.int 2))))) (mCons (mBlt sp_law_pick (mCons (mVar 0) (mCons (mSl (mVar 2) (mPart (mC (.int 5))) (mPart (mC (.int 8)))) (mNil)))) (mNil))))
  (mRet (mTup (mCons (mVar 8) (mCons (mVar 9) (mCons (mIf (mTest (mB rEq (mVar 4) (mC (.int 1)))) (mB rIx (mVar 2) (mC (.int 9))) (mVar 5)) (mCons (mVar 7) (mNil)))))))))))
theorem ok_law_tell {P : Program} {w : World} {K : PySem.W.Frag} {mg : Str → Option Value} {base : Heap} {f : Addr} {fd : FuncData} {sp_law_draw : SpP} {sp_law_pick : SpP} {sp : SpP} (F : Fun K "_law_tell" "_law_tell" s_law_tell f fd) (c_law_draw : Fn P w K mg base 1 "_law_draw" s_law_draw P_law_draw sp_law_draw) (c_law_pick : Fn P w K mg base 2 "_law_pick" s_law_pick P_law_pick sp_law_pick) (z_tuple : mg "tuple" = none) (z_range : mg "range" = none)
    (hp : ∀ (qs : List PV) (h : PH) (Q : N3.PK), qs.length = P_law_tell.length → sp qs h Q → m_law_tell sp_law_draw sp_law_pick (ends Q) (sp0 N_law_tell.length qs) h) : FnG P w K mg base (2 + 1) f fd P_law_tell sp := by
  refine fn_ok (k := 2) F sc_law_tell (m := m_law_tell sp_law_draw sp_law_pick) (fun cdv A outer s H E hr hG => ?_) hp
  have nd := sc_law_tell.nd
  exact ls_cons (ls_set (i := 4) nd (le_fn c_law_draw hr (by decide) hG (la_cons (le_var (i := 0)) (la_cons (le_int) (la_nil)))))
    (ls_cons (ls_asg (vs := [5, 6]) (le_fn c_law_pick hr (by decide) hG (la_cons (le_var (i := 0)) (la_cons (le_var (i := 1)) (la_nil)))) (lg_tup rfl (lgs_cons (lg_name (i := 5) nd) (lgs_cons (lg_name (i := 6) nd) (lgs_nil)))))
    (ls_cons (ls_set (i := 6) nd (le_if (lt_cmp (op_eqA (hu64 hr)) lf_eq (le_var (i := 4)) (le_int) (nomark _)) (le_op op_addA kf_add (le_int) (le_fn c_law_draw hr (by decide) hG (la_cons (le_var (i := 0)) (la_cons (le_int) (la_nil))))) (le_var (i := 6))))
    (ls_cons (ls_set (i := 7) nd (le_tuple z_tuple (la_cons (le_lc [("_law_k", 10)] rfl nd (li_rng1 z_range (la_cons (le_var (i := 6)) (la_nil))) (blkOk_by (N := N_law_tell) (sc := defScope s_law_tell) (own := [("_law_k", 10)]) (by decide +kernel)) (fun _ _ _ _ _ => lg_name (i := 10) nd) (fun _ _ _ _ _ => lts_nil) (fun _ _ _ _ _ => le_fn c_law_pick hr (by decide) hG (la_cons (le_var (i := 0)) (la_cons (le_var (i := 3)) (la_nil))))) (la_nil))))
    (ls_cons (ls_par (i := 8) (j := 9) rfl nd (la_cons (le_op op_mulA kf_mul (le_fn c_law_draw hr (by decide) hG (la_cons (le_var (i := 0)) (la_cons (le_int) (la_nil)))) (le_ix (hu1 hr) (le_lst (la_cons (le_int) (la_cons (le_int) (la_nil)))) (le_op op_mod kf_ii (le_var (i := 4)) (le_int)))) (la_cons (le_fn c_law_pick hr (by decide) hG (la_cons (le_var (i := 0)) (la_cons (le_sl (le_var (i := 2)) (lo_some (le_int)) (lo_some (le_int))) (la_nil)))) (la_nil))))
    (ls_one (ls_ret (le_tup (la_cons (le_var (i := 8)) (la_cons (le_var (i := 9)) (la_cons (le_if (lt_cmp (op_eqA (hu64 hr)) lf_eq (le_var (i := 4)) (le_int) (nomark _)) (le_ix (hu1 hr) (le_var (i := 2)) (le_int)) (le_var (i := 5))) (la_cons (le_var (i := 7)) (la_nil))))))))))))
/-! ### law_due -/
abbrev N_law_due : List Str := ["_law_plan", "_law_tells", "_law_told", "_law_had", "_law_tell_here", "_law_why_here"]
abbrev P_law_due : List Str := ["_law_plan", "_law_tells"]
theorem sc_law_due : FnScope N_law_due P_law_due (defScope s_law_due) := ⟨rfl, rfl, rfl, by decide +kernel, rfl, by decide +kernel, by decide +kernel⟩
def m_law_due (sp_law_why : SpP) : MS :=
  mSeq (mPar 2 3 (mCons (mLstM (mNil)) (mCons (mLstM (mNil)) (mNil))))
  (mSeq (mFor (mSeqs (mVar 1)) (gN 4) (mSeq (mAsg (mBlt sp_law_why (mCons (mVar 0) (mCons (mVar 3) (mCons (mVar 4) (mNil))))) (gN 5))
  (mSeq (mDrop (mAppend (mVar 2) (mCons (mTup (mCons (mVar 4) (mCons (mVar 5) (mNil)))) (mNil))))
  (mIfS (mTest (mB rIsN (mVar 5) (mC .non))) (mDrop (mAppend (mVar 3) (mCons (mVar 4) (mNil)))) (mNx)))))
  (mRet (mTup (mCons (mBlt rTupOf (mCons (mVar 2) (mNil))) (mCons (mVar 3) (mNil))))))
theorem ok_law_due {P : Program} {w : World} {K : PySem.W.Frag} {mg : Str → Option Value} {base : Heap} {f : Addr} {fd : FuncData} {sp_law_why : SpP} {sp : SpP} (F : Fun K "_law_due" "_law_due" s_law_due f fd) (c_law_why : Fn P w K mg base 2 "_law_why" s_law_why P_law_why sp_law_why) (z_tuple : mg "tuple" = none)
    (hp : ∀ (qs : List PV) (h : PH) (Q : N3.PK), qs.length = P_law_due.length → sp qs h Q → m_law_due sp_law_why (ends Q) (sp0 N_law_due.length qs) h) : FnG P w K mg base (2 + 1) f fd P_law_due sp := by
  refine fn_ok (k := 2) F sc_law_due (m := m_law_due sp_law_why) (fun cdv A outer s H E hr hG => ?_) hp
  have nd := sc_law_due.nd
  exact ls_cons (ls_par (i := 2) (j := 3) rfl nd (la_cons (le_lstM (la_nil)) (la_cons (le_lstM (la_nil)) (la_nil))))
    (ls_cons (ls_for (vs := [4]) PassesOwn.never rfl (li_seqs (le_var (i := 1))) (lg_name (i := 4) nd) (ls_cons (ls_set (i := 5) nd (le_fn c_law_why hr (by decide) hG (la_cons (le_var (i := 0)) (la_cons (le_var (i := 3)) (la_cons (le_var (i := 4)) (la_nil))))))
    (ls_cons (ls_expr (le_append (le_var (i := 2)) (la_cons (le_tup (la_cons (le_var (i := 4)) (la_cons (le_var (i := 5)) (la_nil)))) (la_nil))))
    (ls_one (ls_if (lt_cmp op_isN lf_isN (le_var (i := 5)) (le_non) (nomark _)) (ls_one (ls_expr (le_append (le_var (i := 3)) (la_cons (le_var (i := 4)) (la_nil))))) (ls_nil))))))
    (ls_one (ls_ret (le_tup (la_cons (le_tuple z_tuple (la_cons (le_var (i := 2)) (la_nil))) (la_cons (le_var (i := 3)) (la_nil)))))))
/-! ### judged -/
abbrev N_judged : List Str := ["plan", "tells", "judging", "tell"]
abbrev P_judged : List Str := ["plan", "tells"]
theorem sc_judged : FnScope N_judged P_judged (defScope s_judged) := ⟨rfl, rfl, rfl, by decide +kernel, rfl, by decide +kernel, by decide +kernel⟩
def m_judged (Ad_Judging : Addr) (sp_Judging_init : SpP) (sp_Judging_judge : SpP) : MS :=
  mSeq (mAsg (mMake Ad_Judging sp_Judging_init pat_Judging_init_0 (mCons (mVar 0) (mNil)) (mNil)) (gN 2))
  (mRet (mBlt rTupOf (mCons (mLc (mSeqs (mVar 1)) [3] (gN 3) (mYes) (mTup (mCons (mVar 3) (mCons (mMeth Ad_Judging "judge" sp_Judging_judge pat_Judging_judge_0 (mVar 2) (mCons (mVar 3) (mNil)) (mNil)) (mNil))))) (mNil))))
theorem ok_judged {P : Program} {w : World} {K : PySem.W.Frag} {mg : Str → Option Value} {base : Heap} {f : Addr} {fd : FuncData} {Ad_Judging : Addr} {sp_Judging_init : SpP} {sp_Judging_judge : SpP} {sp : SpP} (F : Fun K "judged" "judged" s_judged f fd) (cl_Judging : Cls K Ad_Judging) (c_Judging_init : FnI P w K mg base 1 "Judging" Ad_Judging P_Judging_init sp_Judging_init pats_Judging_init) (c_Judging_judge : FnM P w K mg base 3 Ad_Judging "judge" P_Judging_judge sp_Judging_judge pats_Judging_judge) (z_tuple : mg "tuple" = none)
    (hp : ∀ (qs : List PV) (h : PH) (Q : N3.PK), qs.length = P_judged.length → sp qs h Q → m_judged Ad_Judging sp_Judging_init sp_Judging_judge (ends Q) (sp0 N_judged.length qs) h) : FnG P w K mg base (3 + 1) f fd P_judged sp := by
  refine fn_ok (k := 3) F sc_judged (m := m_judged Ad_Judging sp_Judging_init sp_Judging_judge) (fun cdv A outer s H E hr hG => ?_) hp
  have nd := sc_judged.nd
  exact ls_cons (ls_set (i := 2) nd (le_make c_Judging_init (j := 0) (b := pat_Judging_init_0) rfl hr (by decide) hG (la_cons (le_var (i := 0)) (la_nil)) (lk_nil)))
    (ls_one (ls_ret (le_tuple z_tuple (la_cons (le_lc [("tell", 3)] rfl nd (li_seqs (le_var (i := 1))) (blkOk_by (N := N_judged) (sc := defScope s_judged) (own := [("tell", 3)]) (by decide +kernel)) (fun _ _ _ _ _ => lg_name (i := 3) nd) (fun _ _ _ _ _ => lts_nil) (fun _ _ _ _ _ => le_tup (la_cons (le_var (i := 3)) (la_cons (le_meth c_Judging_judge (j := 0) (b := pat_Judging_judge_0) rfl hr (by decide) hG (le_var (i := 2)) (la_cons (le_var (i := 3)) (la_nil)) (lk_nil)) (la_nil))))) (la_nil)))))
/-! ### law_made -/
abbrev N_law_made : List Str := ["_law_deck_here", "_law_names_here", "_law_wides", "_law_tells", "_law_often", "_law_k", "_law_plan", "_law_worths", "_law_tell_here", "_law_name", "_law_wide"]
abbrev P_law_made : List Str := ["_law_deck_here"]
theorem sc_law_made : FnScope N_law_made P_law_made (defScope s_law_made) := ⟨rfl, rfl, rfl, by decide +kernel, rfl, by decide +kernel, by decide +kernel⟩
def m_law_made (sp_law_draw : SpP) (sp_law_names : SpP) (sp_law_table : SpP) (sp_law_tell : SpP) (sp_law_pick : SpP) (sp_law_risen : SpP) : MS :=
  mSeq (mAsg (mTup (mCons (mBlt sp_law_names (mCons (mVar 0) (mCons (mC (.int 10)) (mNil)))) (mCons (mLstM (mNil)) (mCons (mLstM (mNil)) (mCons (mB rAdd (mC (.int 1)) (mBlt sp_law_draw (mCons (mVar 0) (mCons (mC (.int 3)) (mNil))))) (mNil)))))) (gT 4 (gsCons (gN 1) (gsCons (gN 2) (gsCons (gN 3) (gsCons (gN 4) (gsNil)))))))
  (mSeq (mFor (mRng1 (mCons (mB rAdd (mC (.int 1)) (mBlt sp_law_draw (mCons (mVar 0) (mCons (mC (.int 5)) (mNil))))) (mNil))) (gN 5) (mDrop (mAppend (mVar 2) (mCons (mTup (mCons (mB rIx (mVar 1) (mVar 5)) (mCons (mB rAdd (mC (.int 1)) (mBlt sp_law_draw (mCons (mVar 0) (mCons (mC (.int 4)) (mNil))))) (mNil)))) (mNil)))))
  (mSeq (mAsg (mTup (mCons (mBlt rTupOf (mCons (mLc (mSeqs (mVar 2)) [9, 10] (gT 2 (gsCons (gN 9) (gsCons (gN 10) (gsNil)))) (mYes) (mBlt sp_law_table (mCons (mVar 0) (mCons (mVar 9) (mCons (mVar 2) (mCons (mVar 4) (mNil))))))) (mNil))) (mCons (mTup (mNil)) (mNil)))) (gN 6))
  (mSeq (mAsg (mSl (mB rAdd (mB rAdd (mLst (mCons (mC (.int 0)) (mCons (mC (.int 0)) (mCons (mC (.int 1)) (mCons (mU rNeg (mC (.int 1))) (mNil)))))) (mSl (mVar 1) (mPart (mC (.int 5))) (mPart (mC (.int 8))))) (mLst (mCons (mB rIx (mVar 1) (mC (.int 0))) (mCons (mC (.int 12)) (mCons (mC (.int 0)) (mNil)))))) (mPart (mBlt sp_law_draw (mCons (mVar 0) (mCons (mC (.int 4)) (mNil))))) (mNoPart)) (gN 7))
  (mSeq (mFor (mRng1 (mCons (mBlt sp_law_draw (mCons (mVar 0) (mCons (mC (.int 31)) (mNil)))) (mNil))) (gN 5) (mSeq (mAsg (mBlt sp_law_tell (mCons (mVar 0) (mCons (mVar 2) (mCons (mVar 1) (mCons (mVar 7) (mNil)))))) (gN 8))
  (mSeq (mIfS (mAndT (mTest (mB rNe (mVar 3) (mLst (mNil)))) (mTest (mB rEq (mBlt sp_law_draw (mCons (mVar 0) (mCons (mC (.int 5)) (mNil)))) (mC (.int 0))))) (mAsg (mB rAdd (mSl (mVar 8) (mNoPart) (mPart (mC (.int 2)))) (mSl (mBlt sp_law_pick (mCons (mVar 0) (mCons (mVar 3) (mNil)))) (mPart (mC (.int 2))) (mNoPart))) (gN 8)) (mNx))
  (mDrop (mAppend (mVar 3) (mCons (mVar 8) (mNil)))))))
  (mRet (mTup (mCons (mVar 6) (mCons (mBlt sp_law_risen (mCons (mVar 3) (mNil))) (mNil)))))))))
theorem ok_law_made {P : Program} {w : World} {K : PySem.W.Frag} {mg : Str → Option Value} {base : Heap} {f : Addr} {fd : FuncData} {sp_law_draw : SpP} {sp_law_names : SpP} {sp_law_table : SpP} {sp_law_tell : SpP} {sp_law_pick : SpP} {sp_law_risen : SpP} {sp : SpP} (F : Fun K "_law_made" "_law_made" s_law_made f fd) (c_law_draw : Fn P w K mg base 1 "_law_draw" s_law_draw P_law_draw sp_law_draw) (c_law_names : Fn P w K mg base 2 "_law_names" s_law_names P_law_names sp_law_names) (c_law_table : Fn P w K mg base 3 "_law_table" s_law_table P_law_table sp_law_table) (c_law_tell : Fn P w K mg base 3 "_law_tell" s_law_tell P_law_tell sp_law_tell) (c_law_pick : Fn P w K mg base 2 "_law_pick" s_law_pick P_law_pick sp_law_pick) (c_law_risen : Fn P w K mg base 2 "_law_risen" s_law_risen P_law_risen sp_law_risen) (z_range : mg "range" = none) (z_tuple : mg "tuple" = none)
    (hp : ∀ (qs : List PV) (h : PH) (Q : N3.PK), qs.length = P_law_made.length → sp qs h Q → m_law_made sp_law_draw sp_law_names sp_law_table sp_law_tell sp_law_pick sp_law_risen (ends Q) (sp0 N_law_made.length qs) h) : FnG P w K mg base (3 + 1) f fd P_law_made sp := by
  refine fn_ok (k := 3) F sc_law_made (m := m_law_made sp_law_draw sp_law_names sp_law_table sp_law_tell sp_law_pick sp_law_risen) (fun cdv A outer s H E hr hG => ?_) hp
  have nd := sc_law_made.nd
  exact ls_cons (ls_asg (vs := [1, 2, 3, 4]) (le_tup (la_cons (le_fn c_law_names hr (by decide) hG (la_cons (le_var (i := 0)) (la_cons (le_int) (la_nil)))) (la_cons (le_lstM (la_nil)) (la_cons (le_lstM (la_nil)) (la_cons (le_op op_addA kf_add (le_int) (le_fn c_law_draw hr (by decide) hG (la_cons (le_var (i := 0)) (la_cons (le_int) (la_nil))))) (la_nil)))))) (lg_tup rfl (lgs_cons (lg_name (i := 1) nd) (lgs_cons (lg_name (i := 2) nd) (lgs_cons (lg_name (i := 3) nd) (lgs_cons (lg_name (i := 4) nd) (lgs_nil)))))))
    (ls_cons (ls_for (vs := [5]) PassesOwn.never rfl (li_rng1 z_range (la_cons (le_op op_addA kf_add (le_int) (le_fn c_law_draw hr (by decide) hG (la_cons (le_var (i := 0)) (la_cons (le_int) (la_nil))))) (la_nil))) (lg_name (i := 5) nd) (ls_one (ls_expr (le_append (le_var (i := 2)) (la_cons (le_tup (la_cons (le_ix (hu1 hr) (le_var (i := 1)) (le_var (i := 5))) (la_cons (le_op op_addA kf_add (le_int) (le_fn c_law_draw hr (by decide) hG (la_cons (le_var (i := 0)) (la_cons (le_int) (la_nil))))) (la_nil)))) (la_nil))))))
    (ls_cons (ls_set (i := 6) nd (le_tup (la_cons (le_tuple z_tuple (la_cons (le_lc [("_law_name", 9), ("_law_wide", 10)] rfl nd (li_seqs (le_var (i := 2))) (blkOk_by (N := N_law_made) (sc := defScope s_law_made) (own := [("_law_name", 9), ("_law_wide", 10)]) (by decide +kernel)) (fun _ _ _ _ _ => lg_tup rfl (lgs_cons (lg_name (i := 9) nd) (lgs_cons (lg_name (i := 10) nd) (lgs_nil)))) (fun _ _ _ _ _ => lts_nil) (fun _ _ _ _ _ => le_fn c_law_table hr (by decide) hG (la_cons (le_var (i := 0)) (la_cons (le_var (i := 9)) (la_cons (le_var (i := 2)) (la_cons (le_var (i := 4)) (la_nil))))))) (la_nil))) (la_cons (le_tup (la_nil)) (la_nil)))))
    (ls_cons (ls_set (i := 7) nd (le_sl (le_op op_addA kf_add (le_op op_addA kf_add (le_lst (la_cons (le_int) (la_cons (le_int) (la_cons (le_int) (la_cons (le_un un_neg lf_neg (le_int)) (la_nil)))))) (le_sl (le_var (i := 1)) (lo_some (le_int)) (lo_some (le_int)))) (le_lst (la_cons (le_ix (hu1 hr) (le_var (i := 1)) (le_int)) (la_cons (le_int) (la_cons (le_int) (la_nil)))))) (lo_some (le_fn c_law_draw hr (by decide) hG (la_cons (le_var (i := 0)) (la_cons (le_int) (la_nil))))) (lo_none)))
    (ls_cons (ls_for (vs := [5]) PassesOwn.never rfl (li_rng1 z_range (la_cons (le_fn c_law_draw hr (by decide) hG (la_cons (le_var (i := 0)) (la_cons (le_int) (la_nil)))) (la_nil))) (lg_name (i := 5) nd) (ls_cons (ls_set (i := 8) nd (le_fn c_law_tell hr (by decide) hG (la_cons (le_var (i := 0)) (la_cons (le_var (i := 2)) (la_cons (le_var (i := 1)) (la_cons (le_var (i := 7)) (la_nil)))))))
    (ls_cons (ls_if (lt_w (lw_and (lt_cmp (op_neA (hu64 hr)) lf_ne (le_var (i := 3)) (le_lst (la_nil)) (nomark _)) (lw_and1 (lt_cmp (op_eqA (hu64 hr)) lf_eq (le_fn c_law_draw hr (by decide) hG (la_cons (le_var (i := 0)) (la_cons (le_int) (la_nil)))) (le_int) (nomark _))))) (ls_one (ls_set (i := 8) nd (le_op op_addA kf_add (le_sl (le_var (i := 8)) (lo_none) (lo_some (le_int))) (le_sl (le_fn c_law_pick hr (by decide) hG (la_cons (le_var (i := 0)) (la_cons (le_var (i := 3)) (la_nil)))) (lo_some (le_int)) (lo_none))))) (ls_nil))
    (ls_one (ls_expr (le_append (le_var (i := 3)) (la_cons (le_var (i := 8)) (la_nil))))))))
    (ls_one (ls_ret (le_tup (la_cons (le_var (i := 6)) (la_cons (le_fn c_law_risen hr (by decide) hG (la_cons (le_var (i := 3)) (la_nil))) (la_nil))))))))))
/-! ### rising -/
abbrev N_rising : List Str := ["rows", "row"]
abbrev P_rising : List Str := ["rows"]
theorem sc_rising : FnScope N_rising P_rising (defScope s_rising) := ⟨rfl, rfl, rfl, by decide +kernel, rfl, by decide +kernel, by decide +kernel⟩
def m_rising (T_rising : Addr) (sp_key_of : SpP) : MS :=
  mRet (mBlt rTupOf (mCons (mSortLam T_rising (("rising" : Str) ++ ".<locals>." ++ "<lambda>") (mDedL (mSeqs (mVar 0))) (mBlt sp_key_of (mCons (mVar 0) (mNil)))) (mNil)))
theorem ok_rising {P : Program} {w : World} {K : PySem.W.Frag} {mg : Str → Option Value} {base : Heap} {f : Addr} {fd : FuncData} {T_rising : Addr} {C_rising : Addr} {sp_key_of : SpP} {sp : SpP} (F : Fun K "rising" "rising" s_rising f fd) (tb : LamX.TabB base mg C_rising T_rising) (cc : fd.code = .ref C_rising) (c_key_of : Fn P w K mg base 2 "key_of" s_key_of P_key_of sp_key_of) (z_tuple : mg "tuple" = none) (z_sorted : mg "sorted" = none) (z_list : mg "list" = none)
    (hp : ∀ (qs : List PV) (h : PH) (Q : N3.PK), qs.length = P_rising.length → sp qs h Q → m_rising T_rising sp_key_of (ends Q) (sp0 N_rising.length qs) h) : FnG P w K mg base (5 + 1) f fd P_rising sp := by
  refine fn_okC (k := 5) F cc sc_rising (m := m_rising T_rising sp_key_of) (fun A outer s H E hr hG => ?_) hp
  have nd := sc_rising.nd
  exact ls_one (ls_ret (le_tuple z_tuple (la_cons (le_sortLam (k := 2) (a := "row") (mb := mBlt sp_key_of (mCons (mVar 0) (mNil))) ⟨⟨rfl, rfl, rfl, by decide +kernel, rfl, by decide +kernel, by decide +kernel⟩, fun _ _ _ _ => rfl, fun f cv A outer s H E hr hG => le_fn c_key_of hr (by decide) hG (la_cons (le_var (i := 0)) (la_nil))⟩ tb rfl rfl (by decide +kernel) rfl rfl hr hG z_sorted (le_dedL (j := 1) [("row", 1)] z_list rfl nd (hu0 hr) (li_seqs (le_var (i := 0))) (blkOk_by (N := N_rising) (sc := defScope s_rising) (own := [("row", 1)]) (by decide +kernel)) (by decide) (show 1 < N_rising.length by decide) (fun _ _ _ _ _ => pg_name nd rfl (by first | exact Or.inl rfl | exact Or.inr rfl)) (fun _ _ _ _ _ => pe_var rfl (by first | exact Or.inl rfl | exact Or.inr (Or.inl rfl) | exact Or.inr (Or.inr rfl))))) (la_nil))))
/-! ### taken -/
abbrev N_taken : List Str := ["plan", "tells", "table", "tell", "why"]
abbrev P_taken : List Str := ["plan", "tells", "table"]
theorem sc_taken : FnScope N_taken P_taken (defScope s_taken) := ⟨rfl, rfl, rfl, by decide +kernel, rfl, by decide +kernel, by decide +kernel⟩
def m_taken (sp_rising : SpP) (sp_judged : SpP) : MS :=
  mRet (mBlt sp_rising (mCons (mBlt rTupOf (mCons (mLc (mSeqs (mBlt sp_judged (mCons (mVar 0) (mCons (mVar 1) (mNil))))) [3, 4] (gT 2 (gsCons (gN 3) (gsCons (gN 4) (gsNil)))) (mAndT (mTest (mB rIsN (mVar 4) (mC .non))) (mTest (mB rEq (mB rIx (mVar 3) (mC (.int 2))) (mVar 2)))) (mB rIx (mVar 3) (mC (.int 3)))) (mNil))) (mNil)))
theorem ok_taken {P : Program} {w : World} {K : PySem.W.Frag} {mg : Str → Option Value} {base : Heap} {f : Addr} {fd : FuncData} {sp_rising : SpP} {sp_judged : SpP} {sp : SpP} (F : Fun K "taken" "taken" s_taken f fd) (c_rising : Fn P w K mg base 6 "rising" s_rising P_rising sp_rising) (c_judged : Fn P w K mg base 4 "judged" s_judged P_judged sp_judged) (z_tuple : mg "tuple" = none)
    (hp : ∀ (qs : List PV) (h : PH) (Q : N3.PK), qs.length = P_taken.length → sp qs h Q → m_taken sp_rising sp_judged (ends Q) (sp0 N_taken.length qs) h) : FnG P w K mg base (6 + 1) f fd P_taken sp := by
  refine fn_ok (k := 6) F sc_taken (m := m_taken sp_rising sp_judged) (fun cdv A outer s H E hr hG => ?_) hp
  have nd := sc_taken.nd
  exact ls_one (ls_ret (le_fn c_rising hr (by decide) hG (la_cons (le_tuple z_tuple (la_cons (le_lc [("tell", 3), ("why", 4)] rfl nd (li_seqs (le_fn c_judged hr (by decide) hG (la_cons (le_var (i := 0)) (la_cons (le_var (i := 1)) (la_nil))))) (blkOk_by (N := N_taken) (sc := defScope s_taken) (own := [("tell", 3), ("why", 4)]) (by decide +kernel)) (fun _ _ _ _ _ => lg_tup rfl (lgs_cons (lg_name (i := 3) nd) (lgs_cons (lg_name (i := 4) nd) (lgs_nil)))) (fun _ _ _ _ _ => lts_one (lt_w (lw_and (lt_cmp op_isN lf_isN (le_var (i := 4)) (le_non) (nomark _)) (lw_and1 (lt_cmp (op_eqA (hu64 hr)) lf_eq (le_ix (hu1 hr) (le_var (i := 3)) (le_int)) (le_var (i := 2)) (nomark _)))))) (fun _ _ _ _ _ => le_ix (hu1 hr) (le_var (i := 3)) (le_int))) (la_nil))) (la_nil))))
/-! ### law_right -/
abbrev N_law_right : List Str := ["_law_plan", "_law_tells", "_law_names_here", "_law_due_here", "_law_had", "_law_name", "_law_rows", "_law_tell_here"]
abbrev P_law_right : List Str := ["_law_plan", "_law_tells", "_law_names_here"]
theorem sc_law_right : FnScope N_law_right P_law_right (defScope s_law_right) := ⟨rfl, rfl, rfl, by decide +kernel, rfl, by decide +kernel, by decide +kernel⟩
def m_law_right (sp_law_due : SpP) (sp_judged : SpP) (sp_law_risen : SpP) (sp_taken : SpP) : MS :=
  mSeq (mAsg (mBlt sp_law_due (mCons (mVar 0) (mCons (mVar 1) (mNil)))) (gT 2 (gsCons (gN 3) (gsCons (gN 4) (gsNil)))))
  (mSeq (mIfS (mTest (mB rNe (mBlt rRepr (mCons (mLst (mCons (mBlt sp_judged (mCons (mVar 0) (mCons (mVar 1) (mNil)))) (mCons (mBlt sp_judged (mCons (mVar 0) (mCons (mVar 1) (mNil)))) (mNil)))) (mNil))) (mBlt rRepr (mCons (mLst (mCons (mVar 3) (mCons (mVar 3) (mNil)))) (mNil))))) (mRet (mC (.bl false))) (mNx))
  (mSeq (mFor (mSeqs (mVar 2)) (gN 5) (mSeq (mAsg (mBlt sp_law_risen (mCons (mLc (mSeqs (mVar 4)) [7] (gN 7) (mTest (mB rEq (mB rIx (mVar 7) (mC (.int 2))) (mVar 5))) (mTup (mCons (mC (.int 0)) (mCons (mC (.str "a")) (mCons (mC (.str "a")) (mCons (mB rIx (mVar 7) (mC (.int 3))) (mNil))))))) (mNil))) (gN 6))
  (mSeq (mAsg (mBlt rTupOf (mCons (mLc (mSeqs (mVar 6)) [7] (gN 7) (mYes) (mB rIx (mVar 7) (mC (.int 3)))) (mNil))) (gN 3))
  (mIfS (mTest (mB rNe (mBlt rRepr (mCons (mLst (mCons (mBlt sp_taken (mCons (mVar 0) (mCons (mVar 1) (mCons (mVar 5) (mNil))))) (mCons (mBlt sp_taken (mCons (mVar 0) (mCons (mVar 1) (mCons (mVar 5) (mNil))))) (mNil)))) (mNil))) (mBlt rRepr (mCons (mLst (mCons (mVar 3) (mCons (mVar 3) (mNil)))) (mNil))))) (mRet (mC (.bl false))) (mNx)))))
  (mRet (mC (.bl true)))))
theorem ok_law_right {P : Program} {w : World} {K : PySem.W.Frag} {mg : Str → Option Value} {base : Heap} {f : Addr} {fd : FuncData} {sp_law_due : SpP} {sp_judged : SpP} {sp_law_risen : SpP} {sp_taken : SpP} {sp : SpP} (F : Fun K "_law_right" "_law_right" s_law_right f fd) (c_law_due : Fn P w K mg base 3 "_law_due" s_law_due P_law_due sp_law_due) (c_judged : Fn P w K mg base 4 "judged" s_judged P_judged sp_judged) (c_law_risen : Fn P w K mg base 2 "_law_risen" s_law_risen P_law_risen sp_law_risen) (c_taken : Fn P w K mg base 7 "taken" s_taken P_taken sp_taken) (z_repr : mg "repr" = none) (z_tuple : mg "tuple" = none)
    (hp : ∀ (qs : List PV) (h : PH) (Q : N3.PK), qs.length = P_law_right.length → sp qs h Q → m_law_right sp_law_due sp_judged sp_law_risen sp_taken (ends Q) (sp0 N_law_right.length qs) h) : FnG P w K mg base (7 + 1) f fd P_law_right sp := by
  refine fn_ok (k := 7) F sc_law_right (m := m_law_right sp_law_due sp_judged sp_law_risen sp_taken) (fun cdv A outer s H E hr hG => ?_) hp
  have nd := sc_law_right.nd
  exact ls_cons (ls_asg (vs := [3, 4]) (le_fn c_law_due hr (by decide) hG (la_cons (le_var (i := 0)) (la_cons (le_var (i := 1)) (la_nil)))) (lg_tup rfl (lgs_cons (lg_name (i := 3) nd) (lgs_cons (lg_name (i := 4) nd) (lgs_nil)))))
    (ls_cons (ls_if (lt_cmp (op_neA (hu64 hr)) lf_ne (le_repr hG (hu66 hr) z_repr (la_cons (le_lst (la_cons (le_fn c_judged hr (by decide) hG (la_cons (le_var (i := 0)) (la_cons (le_var (i := 1)) (la_nil)))) (la_cons (le_fn c_judged hr (by decide) hG (la_cons (le_var (i := 0)) (la_cons (le_var (i := 1)) (la_nil)))) (la_nil)))) (la_nil))) (le_repr hG (hu66 hr) z_repr (la_cons (le_lst (la_cons (le_var (i := 3)) (la_cons (le_var (i := 3)) (la_nil)))) (la_nil))) (nomark _)) (ls_one (ls_ret (le_bl))) (ls_nil))
    (ls_cons (ls_for (vs := [5]) PassesOwn.never rfl (li_seqs (le_var (i := 2))) (lg_name (i := 5) nd) (ls_cons (ls_set (i := 6) nd (le_fn c_law_risen hr (by decide) hG (la_cons (le_lc [("_law_tell_here", 7)] rfl nd (li_seqs (le_var (i := 4))) (blkOk_by (N := N_law_right) (sc := defScope s_law_right) (own := [("_law_tell_here", 7)]) (by decide +kernel)) (fun _ _ _ _ _ => lg_name (i := 7) nd) (fun _ _ _ _ _ => lts_one (lt_cmp (op_eqA (hu64 hr)) lf_eq (le_ix (hu1 hr) (le_var (i := 7)) (le_int)) (le_var (i := 5)) (nomark _))) (fun _ _ _ _ _ => le_tup (la_cons (le_int) (la_cons (le_str) (la_cons (le_str) (la_cons (le_ix (hu1 hr) (le_var (i := 7)) (le_int)) (la_nil))))))) (la_nil))))
    (ls_cons (ls_set (i := 3) nd (le_tuple z_tuple (la_cons (le_lc [("_law_tell_here", 7)] rfl nd (li_seqs (le_var (i := 6))) (blkOk_by (N := N_law_right) (sc := defScope s_law_right) (own := [("_law_tell_here", 7)]) (by decide +kernel)) (fun _ _ _ _ _ => lg_name (i := 7) nd) (fun _ _ _ _ _ => lts_nil) (fun _ _ _ _ _ => le_ix (hu1 hr) (le_var (i := 7)) (le_int))) (la_nil))))
    (ls_one (ls_if (lt_cmp (op_neA (hu64 hr)) lf_ne (le_repr hG (hu66 hr) z_repr (la_cons (le_lst (la_cons (le_fn c_taken hr (by decide) hG (la_cons (le_var (i := 0)) (la_cons (le_var (i := 1)) (la_cons (le_var (i := 5)) (la_nil))))) (la_cons (le_fn c_taken hr (by decide) hG (la_cons (le_var (i := 0)) (la_cons (le_var (i := 1)) (la_cons (le_var (i := 5)) (la_nil))))) (la_nil)))) (la_nil))) (le_repr hG (hu66 hr) z_repr (la_cons (le_lst (la_cons (le_var (i := 3)) (la_cons (le_var (i := 3)) (la_nil)))) (la_nil))) (nomark _)) (ls_one (ls_ret (le_bl))) (ls_nil))))))
    (ls_one (ls_ret (le_bl)))))
/-! ### law -/
abbrev N_law : List Str := ["_law_script", "_law_deck_here", "_law_turn", "_law_plan", "_law_tells", "_law_kept", "_law_names_here", "_law_table_here"]
abbrev P_law : List Str := ["_law_script"]
theorem sc_law : FnScope N_law P_law (defScope s_law) := ⟨rfl, rfl, rfl, by decide +kernel, rfl, by decide +kernel, by decide +kernel⟩
def m_law (sp_law_deck : SpP) (sp_law_made : SpP) (sp_law_right : SpP) (sp_law_draw : SpP) : MS :=
  mSeq (mAsg (mBlt sp_law_deck (mCons (mVar 0) (mNil))) (gN 1))
  (mSeq (mFor (mRng1 (mCons (mC (.int 3)) (mNil))) (gN 2) (mSeq (mAsg (mBlt sp_law_made (mCons (mVar 1) (mNil))) (gT 2 (gsCons (gN 3) (gsCons (gN 4) (gsNil)))))
  (mSeq (mPar 5 6 (mCons (mBlt rRepr (mCons (mTup (mCons (mVar 3) (mCons (mVar 4) (mNil)))) (mNil))) (mCons (mLc (mSeqs (mB rIx (mVar 3) (mC (.int 0)))) [7] (gN 7) (mYes) (mB rIx (mVar 7) (mC (.int 0)))) (mNil))))
  (mSeq (mIfS (mOrT (mNotT (mTest (mBlt sp_law_right (mCons (mVar 3) (mCons (mVar 4) (mCons (mVar 6) (mNil))))))) (mNotT (mTest (mBlt sp_law_right (mCons (mVar 3) (mCons (mSl (mVar 4) (mNoPart) (mPart (mBlt sp_law_draw (mCons (mVar 1) (mCons (mC (.int 31)) (mNil)))))) (mCons (mVar 6) (mNil)))))))) (mRet (mC (.bl false))) (mNx))
  (mIfS (mOrT (mNotT (mTest (mBlt sp_law_right (mCons (mVar 3) (mCons (mVar 4) (mCons (mSl (mVar 6) (mNoPart) (mPart (mC (.int 1)))) (mNil))))))) (mTest (mB rNe (mBlt rRepr (mCons (mTup (mCons (mVar 3) (mCons (mVar 4) (mNil)))) (mNil))) (mVar 5)))) (mRet (mC (.bl false))) (mNx))))))
  (mRet (mC (.bl true))))
theorem ok_law {P : Program} {w : World} {K : PySem.W.Frag} {mg : Str → Option Value} {base : Heap} {f : Addr} {fd : FuncData} {sp_law_deck : SpP} {sp_law_made : SpP} {sp_law_right : SpP} {sp_law_draw : SpP} {sp : SpP} (F : Fun K "law" "law" s_law f fd) (c_law_deck : Fn P w K mg base 1 "_law_deck" s_law_deck P_law_deck sp_law_deck) (c_law_made : Fn P w K mg base 4 "_law_made" s_law_made P_law_made sp_law_made) (c_law_right : Fn P w K mg base 8 "_law_right" s_law_right P_law_right sp_law_right) (c_law_draw : Fn P w K mg base 1 "_law_draw" s_law_draw P_law_draw sp_law_draw) (z_range : mg "range" = none) (z_repr : mg "repr" = none)
    (hp : ∀ (qs : List PV) (h : PH) (Q : N3.PK), qs.length = P_law.length → sp qs h Q → m_law sp_law_deck sp_law_made sp_law_right sp_law_draw (ends Q) (sp0 N_law.length qs) h) : FnG P w K mg base (8 + 1) f fd P_law sp := by
  refine fn_ok (k := 8) F sc_law (m := m_law sp_law_deck sp_law_made sp_law_right sp_law_draw) (fun cdv A outer s H E hr hG => ?_) hp
  have nd := sc_law.nd
  exact ls_cons (ls_set (i := 1) nd (le_fn c_law_deck hr (by decide) hG (la_cons (le_var (i := 0)) (la_nil))))
    (ls_cons (ls_for (vs := [2]) PassesOwn.never rfl (li_rng1 z_range (la_cons (le_int) (la_nil))) (lg_name (i := 2) nd) (ls_cons (ls_asg (vs := [3, 4]) (le_fn c_law_made hr (by decide) hG (la_cons (le_var (i := 1)) (la_nil))) (lg_tup rfl (lgs_cons (lg_name (i := 3) nd) (lgs_cons (lg_name (i := 4) nd) (lgs_nil)))))
    (ls_cons (ls_par (i := 5) (j := 6) rfl nd (la_cons (le_repr hG (hu66 hr) z_repr (la_cons (le_tup (la_cons (le_var (i := 3)) (la_cons (le_var (i := 4)) (la_nil)))) (la_nil))) (la_cons (le_lc [("_law_table_here", 7)] rfl nd (li_seqs (le_ix (hu1 hr) (le_var (i := 3)) (le_int))) (blkOk_by (N := N_law) (sc := defScope s_law) (own := [("_law_table_here", 7)]) (by decide +kernel)) (fun _ _ _ _ _ => lg_name (i := 7) nd) (fun _ _ _ _ _ => lts_nil) (fun _ _ _ _ _ => le_ix (hu1 hr) (le_var (i := 7)) (le_int))) (la_nil))))
    (ls_cons (ls_if (lt_w (lw_or (lt_not (lt_val (le_fn c_law_right hr (by decide) hG (la_cons (le_var (i := 3)) (la_cons (le_var (i := 4)) (la_cons (le_var (i := 6)) (la_nil))))))) (lw_or1 (lt_not (lt_val (le_fn c_law_right hr (by decide) hG (la_cons (le_var (i := 3)) (la_cons (le_sl (le_var (i := 4)) (lo_none) (lo_some (le_fn c_law_draw hr (by decide) hG (la_cons (le_var (i := 1)) (la_cons (le_int) (la_nil)))))) (la_cons (le_var (i := 6)) (la_nil)))))))))) (ls_one (ls_ret (le_bl))) (ls_nil))
    (ls_one (ls_if (lt_w (lw_or (lt_not (lt_val (le_fn c_law_right hr (by decide) hG (la_cons (le_var (i := 3)) (la_cons (le_var (i := 4)) (la_cons (le_sl (le_var (i := 6)) (lo_none) (lo_some (le_int))) (la_nil))))))) (lw_or1 (lt_cmp (op_neA (hu64 hr)) lf_ne (le_repr hG (hu66 hr) z_repr (la_cons (le_tup (la_cons (le_var (i := 3)) (la_cons (le_var (i := 4)) (la_nil)))) (la_nil))) (le_var (i := 5)) (nomark _))))) (ls_one (ls_ret (le_bl))) (ls_nil)))))))
    (ls_one (ls_ret (le_bl))))
/-! ### the head -/
section
variable {l : PySem.W.OpenLaw} {w : World} {K : PySem.W.Frag} {h : Heap} {mg : Str → Option Value} {fa : Addr}
theorem all_mk {sp_worth_key sp_Judging_init sp_Judging_is_there sp_Judging_how_many sp_law_deck sp_law_draw sp_law_rank sp_law_same sp_law_has sp_key_of sp_Judging_why_not sp_law_pick sp_law_names sp_law_places sp_law_risen sp_law_why sp_Judging_judge sp_law_table sp_law_tell sp_law_due sp_judged sp_law_made sp_rising sp_taken sp_law_right : SpP} (X : K.In h) (G : h.Ns mainGlobals mg) (hfa : mg "law" = some (.ref fa))
    {f_worth_key f_Judging_init f_Judging_is_there f_Judging_how_many f_law_deck f_law_draw f_law_rank f_law_same f_law_has f_key_of f_Judging_why_not f_law_pick f_law_names f_law_places f_law_risen f_law_why f_Judging_judge f_law_table f_law_tell f_law_due f_judged f_law_made f_rising f_taken f_law_right f_law : Addr}
    {od_worth_key an_worth_key od_Judging_init an_Judging_init od_Judging_is_there an_Judging_is_there od_Judging_how_many an_Judging_how_many od_law_deck an_law_deck od_law_draw an_law_draw od_law_rank an_law_rank od_law_same an_law_same od_law_has an_law_has od_key_of an_key_of od_Judging_why_not an_Judging_why_not od_law_pick an_law_pick od_law_names an_law_names od_law_places an_law_places od_law_risen an_law_risen od_law_why an_law_why od_Judging_judge an_Judging_judge od_law_table an_law_table od_law_tell an_law_tell od_law_due an_law_due od_judged an_judged od_law_made an_law_made od_rising an_rising od_taken an_taken od_law_right an_law_right od_law an_law : Option Addr}
    {sl_worth_key sl_Judging_init sl_Judging_is_there sl_Judging_how_many sl_law_deck sl_law_draw sl_law_rank sl_law_same sl_law_has sl_key_of sl_Judging_why_not sl_law_pick sl_law_names sl_law_places sl_law_risen sl_law_why sl_Judging_judge sl_law_table sl_law_tell sl_law_due sl_judged sl_law_made sl_rising sl_taken sl_law_right sl_law : Array (Option Value)}
    {oc_worth_key dc_worth_key pm_worth_key cd_worth_key ct_worth_key kV_worth_key oc_Judging_init dc_Judging_init pm_Judging_init cd_Judging_init ct_Judging_init kV_Judging_init oc_Judging_is_there dc_Judging_is_there pm_Judging_is_there cd_Judging_is_there ct_Judging_is_there kV_Judging_is_there oc_Judging_how_many dc_Judging_how_many pm_Judging_how_many cd_Judging_how_many ct_Judging_how_many kV_Judging_how_many oc_law_deck dc_law_deck pm_law_deck cd_law_deck ct_law_deck kV_law_deck oc_law_draw dc_law_draw pm_law_draw cd_law_draw ct_law_draw kV_law_draw oc_law_rank dc_law_rank pm_law_rank cd_law_rank ct_law_rank kV_law_rank oc_law_same dc_law_same pm_law_same cd_law_same ct_law_same kV_law_same oc_law_has dc_law_has pm_law_has cd_law_has ct_law_has kV_law_has oc_key_of dc_key_of pm_key_of cd_key_of ct_key_of kV_key_of oc_Judging_why_not dc_Judging_why_not pm_Judging_why_not cd_Judging_why_not ct_Judging_why_not kV_Judging_why_not oc_law_pick dc_law_pick pm_law_pick cd_law_pick ct_law_pick kV_law_pick oc_law_names dc_law_names pm_law_names cd_law_names ct_law_names kV_law_names oc_law_places dc_law_places pm_law_places cd_law_places ct_law_places kV_law_places oc_law_risen dc_law_risen pm_law_risen cd_law_risen ct_law_risen kV_law_risen oc_law_why dc_law_why pm_law_why cd_law_why ct_law_why kV_law_why oc_Judging_judge dc_Judging_judge pm_Judging_judge cd_Judging_judge ct_Judging_judge kV_Judging_judge oc_law_table dc_law_table pm_law_table cd_law_table ct_law_table kV_law_table oc_law_tell dc_law_tell pm_law_tell cd_law_tell ct_law_tell kV_law_tell oc_law_due dc_law_due pm_law_due cd_law_due ct_law_due kV_law_due oc_judged dc_judged pm_judged cd_judged ct_judged kV_judged oc_law_made dc_law_made pm_law_made cd_law_made ct_law_made kV_law_made oc_rising dc_rising pm_rising cd_rising ct_rising kV_rising oc_taken dc_taken pm_taken cd_taken ct_taken kV_taken oc_law_right dc_law_right pm_law_right cd_law_right ct_law_right kV_law_right oc_law dc_law pm_law cd_law ct_law kV_law : Value}
    {t_ROOT : Tok}
    {C_rising T_rising : Addr}
    {Ad_Judging : Addr}
    (A_Judging : PySem.W.nsIn K mainGlobals "Judging" = some (some (.ref Ad_Judging)))
    (a_worth_key : PySem.W.nsIn K mainGlobals "worth_key" = some (some (.ref f_worth_key)))
    (l_worth_key : K.lookup f_worth_key = some ⟨oc_worth_key, od_worth_key, .func (PySem.W.fnOf "worth_key" "worth_key" (defArgs s_worth_key) (defBody s_worth_key) (defScope s_worth_key) .none kV_worth_key dc_worth_key pm_worth_key an_worth_key cd_worth_key ct_worth_key), sl_worth_key⟩)
    (c_worth_key : PySem.W.codeIn K cd_worth_key "worth_key" = true)
    (k_worth_key : PySem.W.keepIn K (.ref f_worth_key) = true)
    (a_Judging_init : PySem.W.findIn K (.ref Ad_Judging) "__init__" = some (some (.ref f_Judging_init)))
    (i_Judging_init : PySem.W.isFn K (.ref f_Judging_init) = true)
    (l_Judging_init : K.lookup f_Judging_init = some ⟨oc_Judging_init, od_Judging_init, .func (PySem.W.fnOf "__init__" "Judging.__init__" (defArgs s_Judging_init) (defBody s_Judging_init) (defScope s_Judging_init) .none kV_Judging_init dc_Judging_init pm_Judging_init an_Judging_init cd_Judging_init ct_Judging_init), sl_Judging_init⟩)
    (c_Judging_init : PySem.W.codeIn K cd_Judging_init "Judging.__init__" = true)
    (k_Judging_init : PySem.W.keepIn K (.ref f_Judging_init) = true)
    (a_Judging_is_there : PySem.W.findIn K (.ref Ad_Judging) "is_there" = some (some (.ref f_Judging_is_there)))
    (i_Judging_is_there : PySem.W.isFn K (.ref f_Judging_is_there) = true)
    (l_Judging_is_there : K.lookup f_Judging_is_there = some ⟨oc_Judging_is_there, od_Judging_is_there, .func (PySem.W.fnOf "is_there" "Judging.is_there" (defArgs s_Judging_is_there) (defBody s_Judging_is_there) (defScope s_Judging_is_there) .none kV_Judging_is_there dc_Judging_is_there pm_Judging_is_there an_Judging_is_there cd_Judging_is_there ct_Judging_is_there), sl_Judging_is_there⟩)
    (c_Judging_is_there : PySem.W.codeIn K cd_Judging_is_there "Judging.is_there" = true)
    (k_Judging_is_there : PySem.W.keepIn K (.ref f_Judging_is_there) = true)
    (a_Judging_how_many : PySem.W.findIn K (.ref Ad_Judging) "how_many" = some (some (.ref f_Judging_how_many)))
    (i_Judging_how_many : PySem.W.isFn K (.ref f_Judging_how_many) = true)
    (l_Judging_how_many : K.lookup f_Judging_how_many = some ⟨oc_Judging_how_many, od_Judging_how_many, .func (PySem.W.fnOf "how_many" "Judging.how_many" (defArgs s_Judging_how_many) (defBody s_Judging_how_many) (defScope s_Judging_how_many) .none kV_Judging_how_many dc_Judging_how_many pm_Judging_how_many an_Judging_how_many cd_Judging_how_many ct_Judging_how_many), sl_Judging_how_many⟩)
    (c_Judging_how_many : PySem.W.codeIn K cd_Judging_how_many "Judging.how_many" = true)
    (k_Judging_how_many : PySem.W.keepIn K (.ref f_Judging_how_many) = true)
    (a_law_deck : PySem.W.nsIn K mainGlobals "_law_deck" = some (some (.ref f_law_deck)))
    (l_law_deck : K.lookup f_law_deck = some ⟨oc_law_deck, od_law_deck, .func (PySem.W.fnOf "_law_deck" "_law_deck" (defArgs s_law_deck) (defBody s_law_deck) (defScope s_law_deck) .none kV_law_deck dc_law_deck pm_law_deck an_law_deck cd_law_deck ct_law_deck), sl_law_deck⟩)
    (c_law_deck : PySem.W.codeIn K cd_law_deck "_law_deck" = true)
    (k_law_deck : PySem.W.keepIn K (.ref f_law_deck) = true)
    (a_law_draw : PySem.W.nsIn K mainGlobals "_law_draw" = some (some (.ref f_law_draw)))
    (l_law_draw : K.lookup f_law_draw = some ⟨oc_law_draw, od_law_draw, .func (PySem.W.fnOf "_law_draw" "_law_draw" (defArgs s_law_draw) (defBody s_law_draw) (defScope s_law_draw) .none kV_law_draw dc_law_draw pm_law_draw an_law_draw cd_law_draw ct_law_draw), sl_law_draw⟩)
    (c_law_draw : PySem.W.codeIn K cd_law_draw "_law_draw" = true)
    (k_law_draw : PySem.W.keepIn K (.ref f_law_draw) = true)
    (a_law_rank : PySem.W.nsIn K mainGlobals "_law_rank" = some (some (.ref f_law_rank)))
    (l_law_rank : K.lookup f_law_rank = some ⟨oc_law_rank, od_law_rank, .func (PySem.W.fnOf "_law_rank" "_law_rank" (defArgs s_law_rank) (defBody s_law_rank) (defScope s_law_rank) .none kV_law_rank dc_law_rank pm_law_rank an_law_rank cd_law_rank ct_law_rank), sl_law_rank⟩)
    (c_law_rank : PySem.W.codeIn K cd_law_rank "_law_rank" = true)
    (k_law_rank : PySem.W.keepIn K (.ref f_law_rank) = true)
    (a_law_same : PySem.W.nsIn K mainGlobals "_law_same" = some (some (.ref f_law_same)))
    (l_law_same : K.lookup f_law_same = some ⟨oc_law_same, od_law_same, .func (PySem.W.fnOf "_law_same" "_law_same" (defArgs s_law_same) (defBody s_law_same) (defScope s_law_same) .none kV_law_same dc_law_same pm_law_same an_law_same cd_law_same ct_law_same), sl_law_same⟩)
    (c_law_same : PySem.W.codeIn K cd_law_same "_law_same" = true)
    (k_law_same : PySem.W.keepIn K (.ref f_law_same) = true)
    (a_law_has : PySem.W.nsIn K mainGlobals "_law_has" = some (some (.ref f_law_has)))
    (l_law_has : K.lookup f_law_has = some ⟨oc_law_has, od_law_has, .func (PySem.W.fnOf "_law_has" "_law_has" (defArgs s_law_has) (defBody s_law_has) (defScope s_law_has) .none kV_law_has dc_law_has pm_law_has an_law_has cd_law_has ct_law_has), sl_law_has⟩)
    (c_law_has : PySem.W.codeIn K cd_law_has "_law_has" = true)
    (k_law_has : PySem.W.keepIn K (.ref f_law_has) = true)
    (a_key_of : PySem.W.nsIn K mainGlobals "key_of" = some (some (.ref f_key_of)))
    (l_key_of : K.lookup f_key_of = some ⟨oc_key_of, od_key_of, .func (PySem.W.fnOf "key_of" "key_of" (defArgs s_key_of) (defBody s_key_of) (defScope s_key_of) .none kV_key_of dc_key_of pm_key_of an_key_of cd_key_of ct_key_of), sl_key_of⟩)
    (c_key_of : PySem.W.codeIn K cd_key_of "key_of" = true)
    (k_key_of : PySem.W.keepIn K (.ref f_key_of) = true)
    (a_Judging_why_not : PySem.W.findIn K (.ref Ad_Judging) "why_not" = some (some (.ref f_Judging_why_not)))
    (i_Judging_why_not : PySem.W.isFn K (.ref f_Judging_why_not) = true)
    (l_Judging_why_not : K.lookup f_Judging_why_not = some ⟨oc_Judging_why_not, od_Judging_why_not, .func (PySem.W.fnOf "why_not" "Judging.why_not" (defArgs s_Judging_why_not) (defBody s_Judging_why_not) (defScope s_Judging_why_not) .none kV_Judging_why_not dc_Judging_why_not pm_Judging_why_not an_Judging_why_not cd_Judging_why_not ct_Judging_why_not), sl_Judging_why_not⟩)
    (c_Judging_why_not : PySem.W.codeIn K cd_Judging_why_not "Judging.why_not" = true)
    (k_Judging_why_not : PySem.W.keepIn K (.ref f_Judging_why_not) = true)
    (a_law_pick : PySem.W.nsIn K mainGlobals "_law_pick" = some (some (.ref f_law_pick)))
    (l_law_pick : K.lookup f_law_pick = some ⟨oc_law_pick, od_law_pick, .func (PySem.W.fnOf "_law_pick" "_law_pick" (defArgs s_law_pick) (defBody s_law_pick) (defScope s_law_pick) .none kV_law_pick dc_law_pick pm_law_pick an_law_pick cd_law_pick ct_law_pick), sl_law_pick⟩)
    (c_law_pick : PySem.W.codeIn K cd_law_pick "_law_pick" = true)
    (k_law_pick : PySem.W.keepIn K (.ref f_law_pick) = true)
    (a_law_names : PySem.W.nsIn K mainGlobals "_law_names" = some (some (.ref f_law_names)))
    (l_law_names : K.lookup f_law_names = some ⟨oc_law_names, od_law_names, .func (PySem.W.fnOf "_law_names" "_law_names" (defArgs s_law_names) (defBody s_law_names) (defScope s_law_names) .none kV_law_names dc_law_names pm_law_names an_law_names cd_law_names ct_law_names), sl_law_names⟩)
    (c_law_names : PySem.W.codeIn K cd_law_names "_law_names" = true)
    (k_law_names : PySem.W.keepIn K (.ref f_law_names) = true)
    (a_law_places : PySem.W.nsIn K mainGlobals "_law_places" = some (some (.ref f_law_places)))
    (l_law_places : K.lookup f_law_places = some ⟨oc_law_places, od_law_places, .func (PySem.W.fnOf "_law_places" "_law_places" (defArgs s_law_places) (defBody s_law_places) (defScope s_law_places) .none kV_law_places dc_law_places pm_law_places an_law_places cd_law_places ct_law_places), sl_law_places⟩)
    (c_law_places : PySem.W.codeIn K cd_law_places "_law_places" = true)
    (k_law_places : PySem.W.keepIn K (.ref f_law_places) = true)
    (a_law_risen : PySem.W.nsIn K mainGlobals "_law_risen" = some (some (.ref f_law_risen)))
    (l_law_risen : K.lookup f_law_risen = some ⟨oc_law_risen, od_law_risen, .func (PySem.W.fnOf "_law_risen" "_law_risen" (defArgs s_law_risen) (defBody s_law_risen) (defScope s_law_risen) .none kV_law_risen dc_law_risen pm_law_risen an_law_risen cd_law_risen ct_law_risen), sl_law_risen⟩)
    (c_law_risen : PySem.W.codeIn K cd_law_risen "_law_risen" = true)
    (k_law_risen : PySem.W.keepIn K (.ref f_law_risen) = true)
    (a_law_why : PySem.W.nsIn K mainGlobals "_law_why" = some (some (.ref f_law_why)))
    (l_law_why : K.lookup f_law_why = some ⟨oc_law_why, od_law_why, .func (PySem.W.fnOf "_law_why" "_law_why" (defArgs s_law_why) (defBody s_law_why) (defScope s_law_why) .none kV_law_why dc_law_why pm_law_why an_law_why cd_law_why ct_law_why), sl_law_why⟩)
    (c_law_why : PySem.W.codeIn K cd_law_why "_law_why" = true)
    (k_law_why : PySem.W.keepIn K (.ref f_law_why) = true)
    (a_Judging_judge : PySem.W.findIn K (.ref Ad_Judging) "judge" = some (some (.ref f_Judging_judge)))
    (i_Judging_judge : PySem.W.isFn K (.ref f_Judging_judge) = true)
    (l_Judging_judge : K.lookup f_Judging_judge = some ⟨oc_Judging_judge, od_Judging_judge, .func (PySem.W.fnOf "judge" "Judging.judge" (defArgs s_Judging_judge) (defBody s_Judging_judge) (defScope s_Judging_judge) .none kV_Judging_judge dc_Judging_judge pm_Judging_judge an_Judging_judge cd_Judging_judge ct_Judging_judge), sl_Judging_judge⟩)
    (c_Judging_judge : PySem.W.codeIn K cd_Judging_judge "Judging.judge" = true)
    (k_Judging_judge : PySem.W.keepIn K (.ref f_Judging_judge) = true)
    (a_law_table : PySem.W.nsIn K mainGlobals "_law_table" = some (some (.ref f_law_table)))
    (l_law_table : K.lookup f_law_table = some ⟨oc_law_table, od_law_table, .func (PySem.W.fnOf "_law_table" "_law_table" (defArgs s_law_table) (defBody s_law_table) (defScope s_law_table) .none kV_law_table dc_law_table pm_law_table an_law_table cd_law_table ct_law_table), sl_law_table⟩)
    (c_law_table : PySem.W.codeIn K cd_law_table "_law_table" = true)
    (k_law_table : PySem.W.keepIn K (.ref f_law_table) = true)
    (a_law_tell : PySem.W.nsIn K mainGlobals "_law_tell" = some (some (.ref f_law_tell)))
    (l_law_tell : K.lookup f_law_tell = some ⟨oc_law_tell, od_law_tell, .func (PySem.W.fnOf "_law_tell" "_law_tell" (defArgs s_law_tell) (defBody s_law_tell) (defScope s_law_tell) .none kV_law_tell dc_law_tell pm_law_tell an_law_tell cd_law_tell ct_law_tell), sl_law_tell⟩)
    (c_law_tell : PySem.W.codeIn K cd_law_tell "_law_tell" = true)
    (k_law_tell : PySem.W.keepIn K (.ref f_law_tell) = true)
    (a_law_due : PySem.W.nsIn K mainGlobals "_law_due" = some (some (.ref f_law_due)))
    (l_law_due : K.lookup f_law_due = some ⟨oc_law_due, od_law_due, .func (PySem.W.fnOf "_law_due" "_law_due" (defArgs s_law_due) (defBody s_law_due) (defScope s_law_due) .none kV_law_due dc_law_due pm_law_due an_law_due cd_law_due ct_law_due), sl_law_due⟩)
    (c_law_due : PySem.W.codeIn K cd_law_due "_law_due" = true)
    (k_law_due : PySem.W.keepIn K (.ref f_law_due) = true)
    (a_judged : PySem.W.nsIn K mainGlobals "judged" = some (some (.ref f_judged)))
    (l_judged : K.lookup f_judged = some ⟨oc_judged, od_judged, .func (PySem.W.fnOf "judged" "judged" (defArgs s_judged) (defBody s_judged) (defScope s_judged) .none kV_judged dc_judged pm_judged an_judged cd_judged ct_judged), sl_judged⟩)
    (c_judged : PySem.W.codeIn K cd_judged "judged" = true)
    (k_judged : PySem.W.keepIn K (.ref f_judged) = true)
    (a_law_made : PySem.W.nsIn K mainGlobals "_law_made" = some (some (.ref f_law_made)))
    (l_law_made : K.lookup f_law_made = some ⟨oc_law_made, od_law_made, .func (PySem.W.fnOf "_law_made" "_law_made" (defArgs s_law_made) (defBody s_law_made) (defScope s_law_made) .none kV_law_made dc_law_made pm_law_made an_law_made cd_law_made ct_law_made), sl_law_made⟩)
    (c_law_made : PySem.W.codeIn K cd_law_made "_law_made" = true)
    (k_law_made : PySem.W.keepIn K (.ref f_law_made) = true)
    (a_rising : PySem.W.nsIn K mainGlobals "rising" = some (some (.ref f_rising)))
    (l_rising : K.lookup f_rising = some ⟨oc_rising, od_rising, .func (PySem.W.fnOf "rising" "rising" (defArgs s_rising) (defBody s_rising) (defScope s_rising) .none kV_rising dc_rising pm_rising an_rising cd_rising ct_rising), sl_rising⟩)
    (c_rising : PySem.W.codeIn K cd_rising "rising" = true)
    (k_rising : PySem.W.keepIn K (.ref f_rising) = true)
    (a_taken : PySem.W.nsIn K mainGlobals "taken" = some (some (.ref f_taken)))
    (l_taken : K.lookup f_taken = some ⟨oc_taken, od_taken, .func (PySem.W.fnOf "taken" "taken" (defArgs s_taken) (defBody s_taken) (defScope s_taken) .none kV_taken dc_taken pm_taken an_taken cd_taken ct_taken), sl_taken⟩)
    (c_taken : PySem.W.codeIn K cd_taken "taken" = true)
    (k_taken : PySem.W.keepIn K (.ref f_taken) = true)
    (a_law_right : PySem.W.nsIn K mainGlobals "_law_right" = some (some (.ref f_law_right)))
    (l_law_right : K.lookup f_law_right = some ⟨oc_law_right, od_law_right, .func (PySem.W.fnOf "_law_right" "_law_right" (defArgs s_law_right) (defBody s_law_right) (defScope s_law_right) .none kV_law_right dc_law_right pm_law_right an_law_right cd_law_right ct_law_right), sl_law_right⟩)
    (c_law_right : PySem.W.codeIn K cd_law_right "_law_right" = true)
    (k_law_right : PySem.W.keepIn K (.ref f_law_right) = true)
    (a_law : PySem.W.nsIn K mainGlobals "law" = some (some (.ref f_law)))
    (l_law : K.lookup f_law = some ⟨oc_law, od_law, .func (PySem.W.fnOf "law" "law" (defArgs s_law) (defBody s_law) (defScope s_law) .none kV_law dc_law pm_law an_law cd_law ct_law), sl_law⟩)
    (c_law : PySem.W.codeIn K cd_law "law" = true)
    (k_law : PySem.W.keepIn K (.ref f_law) = true)
    (pg_Judging : PySem.W.plainGet K Ad_Judging Str.empty = true)
    (hd_Judging : PySem.W.hasDictIn K Ad_Judging = true)
    (po_Judging : PySem.W.plainOver K Ad_Judging = true)
    (sa_Judging : PySem.W.findIn K (.ref Ad_Judging) "__setattr__" = some (some (.builtin "object.__setattr__")))
    (mk_Judging : PySem.W.makesIn K Ad_Judging = true)
    (kc_Judging : PySem.W.keepIn K (.ref Ad_Judging) = true)
    (n_Judging_tables_known : PySem.W.findIn K (.ref Ad_Judging) "tables_known" = some none)
    (n_Judging_rows_taken : PySem.W.findIn K (.ref Ad_Judging) "rows_taken" = some none)
    (cc_rising : cd_rising = .ref C_rising)
    (ch_rising : PySem.W.codeHdIn K C_rising T_rising = true)
    (nt_rising : K.lookup T_rising = none)
    (z_isinstance : PySem.W.nsIn K mainGlobals "isinstance" = some none)
    (z_str : PySem.W.nsIn K mainGlobals "str" = some none)
    (z_len : PySem.W.nsIn K mainGlobals "len" = some none)
    (z_list : PySem.W.nsIn K mainGlobals "list" = some none)
    (z_tuple : PySem.W.nsIn K mainGlobals "tuple" = some none)
    (z_enumerate : PySem.W.nsIn K mainGlobals "enumerate" = some none)
    (z_range : PySem.W.nsIn K mainGlobals "range" = some none)
    (z_sorted : PySem.W.nsIn K mainGlobals "sorted" = some none)
    (z_set : PySem.W.nsIn K mainGlobals "set" = some none)
    (z_dict : PySem.W.nsIn K mainGlobals "dict" = some none)
    (z_int : PySem.W.nsIn K mainGlobals "int" = some none)
    (z_repr : PySem.W.nsIn K mainGlobals "repr" = some none)
    (g_ROOT : PySem.W.nsIn K mainGlobals "ROOT" = some (some (.int 0 t_ROOT)))
    (p_worth_key : ∀ (qs : List PV) (h : PH) (Q : N3.PK), qs.length = P_worth_key.length → sp_worth_key qs h Q → m_worth_key (ends Q) (sp0 N_worth_key.length qs) h)
    (p_Judging_init : ∀ (qs : List PV) (h : PH) (Q : N3.PK), qs.length = P_Judging_init.length → sp_Judging_init qs h Q → m_Judging_init Ad_Judging (ends Q) (sp0 N_Judging_init.length qs) h)
    (p_Judging_is_there : ∀ (qs : List PV) (h : PH) (Q : N3.PK), qs.length = P_Judging_is_there.length → sp_Judging_is_there qs h Q → m_Judging_is_there Ad_Judging (ends Q) (sp0 N_Judging_is_there.length qs) h)
    (p_Judging_how_many : ∀ (qs : List PV) (h : PH) (Q : N3.PK), qs.length = P_Judging_how_many.length → sp_Judging_how_many qs h Q → m_Judging_how_many Ad_Judging (ends Q) (sp0 N_Judging_how_many.length qs) h)
    (p_law_deck : ∀ (qs : List PV) (h : PH) (Q : N3.PK), qs.length = P_law_deck.length → sp_law_deck qs h Q → m_law_deck (ends Q) (sp0 N_law_deck.length qs) h)
    (p_law_draw : ∀ (qs : List PV) (h : PH) (Q : N3.PK), qs.length = P_law_draw.length → sp_law_draw qs h Q → m_law_draw (ends Q) (sp0 N_law_draw.length qs) h)
    (p_law_rank : ∀ (qs : List PV) (h : PH) (Q : N3.PK), qs.length = P_law_rank.length → sp_law_rank qs h Q → m_law_rank (ends Q) (sp0 N_law_rank.length qs) h)
    (p_law_same : ∀ (qs : List PV) (h : PH) (Q : N3.PK), qs.length = P_law_same.length → sp_law_same qs h Q → m_law_same (ends Q) (sp0 N_law_same.length qs) h)
    (p_law_has : ∀ (qs : List PV) (h : PH) (Q : N3.PK), qs.length = P_law_has.length → sp_law_has qs h Q → m_law_has (ends Q) (sp0 N_law_has.length qs) h)
    (p_key_of : ∀ (qs : List PV) (h : PH) (Q : N3.PK), qs.length = P_key_of.length → sp_key_of qs h Q → m_key_of sp_worth_key (ends Q) (sp0 N_key_of.length qs) h)
    (p_Judging_why_not : ∀ (qs : List PV) (h : PH) (Q : N3.PK), qs.length = P_Judging_why_not.length → sp_Judging_why_not qs h Q → m_Judging_why_not Ad_Judging sp_Judging_is_there sp_Judging_how_many (ends Q) (sp0 N_Judging_why_not.length qs) h)
    (p_law_pick : ∀ (qs : List PV) (h : PH) (Q : N3.PK), qs.length = P_law_pick.length → sp_law_pick qs h Q → m_law_pick sp_law_draw (ends Q) (sp0 N_law_pick.length qs) h)
    (p_law_names : ∀ (qs : List PV) (h : PH) (Q : N3.PK), qs.length = P_law_names.length → sp_law_names qs h Q → m_law_names sp_law_draw (ends Q) (sp0 N_law_names.length qs) h)
    (p_law_places : ∀ (qs : List PV) (h : PH) (Q : N3.PK), qs.length = P_law_places.length → sp_law_places qs h Q → m_law_places sp_law_draw (ends Q) (sp0 N_law_places.length qs) h)
    (p_law_risen : ∀ (qs : List PV) (h : PH) (Q : N3.PK), qs.length = P_law_risen.length → sp_law_risen qs h Q → m_law_risen sp_law_rank (ends Q) (sp0 N_law_risen.length qs) h)
    (p_law_why : ∀ (qs : List PV) (h : PH) (Q : N3.PK), qs.length = P_law_why.length → sp_law_why qs h Q → m_law_why sp_law_has sp_law_same (ends Q) (sp0 N_law_why.length qs) h)
    (p_Judging_judge : ∀ (qs : List PV) (h : PH) (Q : N3.PK), qs.length = P_Judging_judge.length → sp_Judging_judge qs h Q → m_Judging_judge Ad_Judging sp_Judging_why_not (ends Q) (sp0 N_Judging_judge.length qs) h)
    (p_law_table : ∀ (qs : List PV) (h : PH) (Q : N3.PK), qs.length = P_law_table.length → sp_law_table qs h Q → m_law_table sp_law_draw sp_law_places sp_law_pick (ends Q) (sp0 N_law_table.length qs) h)
    (p_law_tell : ∀ (qs : List PV) (h : PH) (Q : N3.PK), qs.length = P_law_tell.length → sp_law_tell qs h Q → m_law_tell sp_law_draw sp_law_pick (ends Q) (sp0 N_law_tell.length qs) h)
    (p_law_due : ∀ (qs : List PV) (h : PH) (Q : N3.PK), qs.length = P_law_due.length → sp_law_due qs h Q → m_law_due sp_law_why (ends Q) (sp0 N_law_due.length qs) h)
    (p_judged : ∀ (qs : List PV) (h : PH) (Q : N3.PK), qs.length = P_judged.length → sp_judged qs h Q → m_judged Ad_Judging sp_Judging_init sp_Judging_judge (ends Q) (sp0 N_judged.length qs) h)
    (p_law_made : ∀ (qs : List PV) (h : PH) (Q : N3.PK), qs.length = P_law_made.length → sp_law_made qs h Q → m_law_made sp_law_draw sp_law_names sp_law_table sp_law_tell sp_law_pick sp_law_risen (ends Q) (sp0 N_law_made.length qs) h)
    (p_rising : ∀ (qs : List PV) (h : PH) (Q : N3.PK), qs.length = P_rising.length → sp_rising qs h Q → m_rising T_rising sp_key_of (ends Q) (sp0 N_rising.length qs) h)
    (p_taken : ∀ (qs : List PV) (h : PH) (Q : N3.PK), qs.length = P_taken.length → sp_taken qs h Q → m_taken sp_rising sp_judged (ends Q) (sp0 N_taken.length qs) h)
    (p_law_right : ∀ (qs : List PV) (h : PH) (Q : N3.PK), qs.length = P_law_right.length → sp_law_right qs h Q → m_law_right sp_law_due sp_judged sp_law_risen sp_taken (ends Q) (sp0 N_law_right.length qs) h)
    (p_law : ∀ (qs : List PV) (h : PH) (Q : N3.PK), qs.length = P_law.length → spLawT T_rising (("rising" : Str) ++ ".<locals>." ++ "<lambda>") 63 qs h Q → m_law sp_law_deck sp_law_made sp_law_right sp_law_draw (ends Q) (sp0 N_law.length qs) h)
    : K.lookup T_rising = none ∧ PySem.W.codeHdIn K C_rising T_rising = true ∧ ∃ fd : FuncData, (∀ (s : Shared) (v : Value), BindsTo s fd ⟨[v], []⟩ [("_law_script", v)]) ∧ ∀ base : Heap, K.In base → base.Ns mainGlobals mg → LamX.TabB base mg C_rising T_rising → FnG l.prog w K mg base 9 fa fd ["_law_script"] (spLawT T_rising (("rising" : Str) ++ ".<locals>." ++ "<lambda>") 63) := by
  have e := hfa.symm.trans (PySem.W.mg_of X G a_law)
  cases e
  have CL_Judging : Cls K Ad_Judging := ⟨pg_Judging, hd_Judging, po_Judging, sa_Judging⟩
  have F_worth_key := fun_mk (st := s_worth_key) l_worth_key c_worth_key k_worth_key
  have b_worth_key := F_worth_key.binds (ps := P_worth_key) fun _ _ _ _ _ _ us hl => match us, hl with | [_], _ => rfl
  have F_Judging_init := fun_mk (st := s_Judging_init) l_Judging_init c_Judging_init k_Judging_init
  have F_Judging_is_there := fun_mk (st := s_Judging_is_there) l_Judging_is_there c_Judging_is_there k_Judging_is_there
  have F_Judging_how_many := fun_mk (st := s_Judging_how_many) l_Judging_how_many c_Judging_how_many k_Judging_how_many
  have F_law_deck := fun_mk (st := s_law_deck) l_law_deck c_law_deck k_law_deck
  have b_law_deck := F_law_deck.binds (ps := P_law_deck) fun _ _ _ _ _ _ us hl => match us, hl with | [_], _ => rfl
  have F_law_draw := fun_mk (st := s_law_draw) l_law_draw c_law_draw k_law_draw
  have b_law_draw := F_law_draw.binds (ps := P_law_draw) fun _ _ _ _ _ _ us hl => match us, hl with | [_, _], _ => rfl
  have F_law_rank := fun_mk (st := s_law_rank) l_law_rank c_law_rank k_law_rank
  have b_law_rank := F_law_rank.binds (ps := P_law_rank) fun _ _ _ _ _ _ us hl => match us, hl with | [_], _ => rfl
  have F_law_same := fun_mk (st := s_law_same) l_law_same c_law_same k_law_same
  have b_law_same := F_law_same.binds (ps := P_law_same) fun _ _ _ _ _ _ us hl => match us, hl with | [_, _, _], _ => rfl
  have F_law_has := fun_mk (st := s_law_has) l_law_has c_law_has k_law_has
  have b_law_has := F_law_has.binds (ps := P_law_has) fun _ _ _ _ _ _ us hl => match us, hl with | [_, _, _, _], _ => rfl
  have F_key_of := fun_mk (st := s_key_of) l_key_of c_key_of k_key_of
  have b_key_of := F_key_of.binds (ps := P_key_of) fun _ _ _ _ _ _ us hl => match us, hl with | [_], _ => rfl
  have F_Judging_why_not := fun_mk (st := s_Judging_why_not) l_Judging_why_not c_Judging_why_not k_Judging_why_not
  have F_law_pick := fun_mk (st := s_law_pick) l_law_pick c_law_pick k_law_pick
  have b_law_pick := F_law_pick.binds (ps := P_law_pick) fun _ _ _ _ _ _ us hl => match us, hl with | [_, _], _ => rfl
  have F_law_names := fun_mk (st := s_law_names) l_law_names c_law_names k_law_names
  have b_law_names := F_law_names.binds (ps := P_law_names) fun _ _ _ _ _ _ us hl => match us, hl with | [_, _], _ => rfl
  have F_law_places := fun_mk (st := s_law_places) l_law_places c_law_places k_law_places
  have b_law_places := F_law_places.binds (ps := P_law_places) fun _ _ _ _ _ _ us hl => match us, hl with | [_, _, _], _ => rfl
  have F_law_risen := fun_mk (st := s_law_risen) l_law_risen c_law_risen k_law_risen
  have b_law_risen := F_law_risen.binds (ps := P_law_risen) fun _ _ _ _ _ _ us hl => match us, hl with | [_], _ => rfl
  have F_law_why := fun_mk (st := s_law_why) l_law_why c_law_why k_law_why
  have b_law_why := F_law_why.binds (ps := P_law_why) fun _ _ _ _ _ _ us hl => match us, hl with | [_, _, _], _ => rfl
  have F_Judging_judge := fun_mk (st := s_Judging_judge) l_Judging_judge c_Judging_judge k_Judging_judge
  have F_law_table := fun_mk (st := s_law_table) l_law_table c_law_table k_law_table
  have b_law_table := F_law_table.binds (ps := P_law_table) fun _ _ _ _ _ _ us hl => match us, hl with | [_, _, _, _], _ => rfl
  have F_law_tell := fun_mk (st := s_law_tell) l_law_tell c_law_tell k_law_tell
  have b_law_tell := F_law_tell.binds (ps := P_law_tell) fun _ _ _ _ _ _ us hl => match us, hl with | [_, _, _, _], _ => rfl
  have F_law_due := fun_mk (st := s_law_due) l_law_due c_law_due k_law_due
  have b_law_due := F_law_due.binds (ps := P_law_due) fun _ _ _ _ _ _ us hl => match us, hl with | [_, _], _ => rfl
  have F_judged := fun_mk (st := s_judged) l_judged c_judged k_judged
  have b_judged := F_judged.binds (ps := P_judged) fun _ _ _ _ _ _ us hl => match us, hl with | [_, _], _ => rfl
  have F_law_made := fun_mk (st := s_law_made) l_law_made c_law_made k_law_made
  have b_law_made := F_law_made.binds (ps := P_law_made) fun _ _ _ _ _ _ us hl => match us, hl with | [_], _ => rfl
  have F_rising := fun_mk (st := s_rising) l_rising c_rising k_rising
  have b_rising := F_rising.binds (ps := P_rising) fun _ _ _ _ _ _ us hl => match us, hl with | [_], _ => rfl
  have F_taken := fun_mk (st := s_taken) l_taken c_taken k_taken
  have b_taken := F_taken.binds (ps := P_taken) fun _ _ _ _ _ _ us hl => match us, hl with | [_, _, _], _ => rfl
  have F_law_right := fun_mk (st := s_law_right) l_law_right c_law_right k_law_right
  have b_law_right := F_law_right.binds (ps := P_law_right) fun _ _ _ _ _ _ us hl => match us, hl with | [_, _, _], _ => rfl
  have F_law := fun_mk (st := s_law) l_law c_law k_law
  have b_law := F_law.binds (ps := P_law) fun _ _ _ _ _ _ us hl => match us, hl with | [_], _ => rfl
  refine ⟨nt_rising, ch_rising, PySem.W.fnOf "law" "law" (defArgs s_law) (defBody s_law) (defScope s_law) .none kV_law dc_law pm_law an_law cd_law ct_law, fun s v => .of_eq rfl, fun base _ _ tb => ?_⟩
  have C_worth_key : Fn l.prog w K mg base 1 "worth_key" s_worth_key P_worth_key sp_worth_key := ⟨_, _, PySem.W.mg_of X G a_worth_key, F_worth_key, b_worth_key, ok_worth_key F_worth_key (PySem.W.mg_none_of X G z_isinstance) (PySem.W.mg_none_of X G z_str) p_worth_key⟩
  have C_Judging_init : FnI l.prog w K mg base 1 "Judging" Ad_Judging P_Judging_init sp_Judging_init pats_Judging_init := ⟨PySem.W.mg_of X G A_Judging, _, _, ⟨mk_Judging, a_Judging_init, i_Judging_init, kc_Judging⟩, ⟨k_Judging_init, (List.forall_mem_cons.mpr ⟨(kb_all (st := s_Judging_init) (b := pat_Judging_init_0) rfl (fun us ws h1 h2 => match us, ws, h1, h2 with | [_, _], [], _, _ => rfl) (fun l hl => match l, hl with | [_, _], _ => rfl)), (fun _ h => nomatch h)⟩), ok_Judging_init F_Judging_init CL_Judging n_Judging_tables_known n_Judging_rows_taken p_Judging_init⟩⟩
  have C_Judging_is_there : FnM l.prog w K mg base 1 Ad_Judging "is_there" P_Judging_is_there sp_Judging_is_there pats_Judging_is_there := ⟨CL_Judging, _, _, ⟨a_Judging_is_there, i_Judging_is_there, k_Judging_is_there⟩, ⟨k_Judging_is_there, (List.forall_mem_cons.mpr ⟨(kb_all (st := s_Judging_is_there) (b := pat_Judging_is_there_0) rfl (fun us ws h1 h2 => match us, ws, h1, h2 with | [_, _, _, _], [], _, _ => rfl) (fun l hl => match l, hl with | [_, _, _, _], _ => rfl)), (fun _ h => nomatch h)⟩), ok_Judging_is_there F_Judging_is_there CL_Judging n_Judging_rows_taken p_Judging_is_there⟩⟩
  have C_Judging_how_many : FnM l.prog w K mg base 1 Ad_Judging "how_many" P_Judging_how_many sp_Judging_how_many pats_Judging_how_many := ⟨CL_Judging, _, _, ⟨a_Judging_how_many, i_Judging_how_many, k_Judging_how_many⟩, ⟨k_Judging_how_many, (List.forall_mem_cons.mpr ⟨(kb_all (st := s_Judging_how_many) (b := pat_Judging_how_many_0) rfl (fun us ws h1 h2 => match us, ws, h1, h2 with | [_, _, _, _], [], _, _ => rfl) (fun l hl => match l, hl with | [_, _, _, _], _ => rfl)), (fun _ h => nomatch h)⟩), ok_Judging_how_many F_Judging_how_many CL_Judging n_Judging_rows_taken (PySem.W.mg_none_of X G z_len) p_Judging_how_many⟩⟩
  have C_law_deck : Fn l.prog w K mg base 1 "_law_deck" s_law_deck P_law_deck sp_law_deck := ⟨_, _, PySem.W.mg_of X G a_law_deck, F_law_deck, b_law_deck, ok_law_deck F_law_deck (PySem.W.mg_none_of X G z_list) p_law_deck⟩
  have C_law_draw : Fn l.prog w K mg base 1 "_law_draw" s_law_draw P_law_draw sp_law_draw := ⟨_, _, PySem.W.mg_of X G a_law_draw, F_law_draw, b_law_draw, ok_law_draw F_law_draw p_law_draw⟩
  have C_law_rank : Fn l.prog w K mg base 1 "_law_rank" s_law_rank P_law_rank sp_law_rank := ⟨_, _, PySem.W.mg_of X G a_law_rank, F_law_rank, b_law_rank, ok_law_rank F_law_rank (PySem.W.mg_none_of X G z_isinstance) (PySem.W.mg_none_of X G z_str) (PySem.W.mg_none_of X G z_tuple) p_law_rank⟩
  have C_law_same : Fn l.prog w K mg base 1 "_law_same" s_law_same P_law_same sp_law_same := ⟨_, _, PySem.W.mg_of X G a_law_same, F_law_same, b_law_same, ok_law_same F_law_same p_law_same⟩
  have C_law_has : Fn l.prog w K mg base 1 "_law_has" s_law_has P_law_has sp_law_has := ⟨_, _, PySem.W.mg_of X G a_law_has, F_law_has, b_law_has, ok_law_has F_law_has p_law_has⟩
  have C_key_of : Fn l.prog w K mg base 2 "key_of" s_key_of P_key_of sp_key_of := ⟨_, _, PySem.W.mg_of X G a_key_of, F_key_of, b_key_of, ok_key_of F_key_of C_worth_key (PySem.W.mg_none_of X G z_tuple) p_key_of⟩
  have C_Judging_why_not : FnM l.prog w K mg base 2 Ad_Judging "why_not" P_Judging_why_not sp_Judging_why_not pats_Judging_why_not := ⟨CL_Judging, _, _, ⟨a_Judging_why_not, i_Judging_why_not, k_Judging_why_not⟩, ⟨k_Judging_why_not, (List.forall_mem_cons.mpr ⟨(kb_all (st := s_Judging_why_not) (b := pat_Judging_why_not_0) rfl (fun us ws h1 h2 => match us, ws, h1, h2 with | [_, _], [], _, _ => rfl) (fun l hl => match l, hl with | [_, _], _ => rfl)), (fun _ h => nomatch h)⟩), ok_Judging_why_not F_Judging_why_not CL_Judging n_Judging_tables_known n_Judging_rows_taken C_Judging_is_there C_Judging_how_many (PySem.W.mg_none_of X G z_len) (PySem.W.mg_none_of X G z_enumerate) (PySem.W.mg_of X G g_ROOT) p_Judging_why_not⟩⟩
  have C_law_pick : Fn l.prog w K mg base 2 "_law_pick" s_law_pick P_law_pick sp_law_pick := ⟨_, _, PySem.W.mg_of X G a_law_pick, F_law_pick, b_law_pick, ok_law_pick F_law_pick C_law_draw (PySem.W.mg_none_of X G z_len) p_law_pick⟩
  have C_law_names : Fn l.prog w K mg base 2 "_law_names" s_law_names P_law_names sp_law_names := ⟨_, _, PySem.W.mg_of X G a_law_names, F_law_names, b_law_names, ok_law_names F_law_names C_law_draw (PySem.W.mg_none_of X G z_list) (PySem.W.mg_none_of X G z_range) p_law_names⟩
  have C_law_places : Fn l.prog w K mg base 2 "_law_places" s_law_places P_law_places sp_law_places := ⟨_, _, PySem.W.mg_of X G a_law_places, F_law_places, b_law_places, ok_law_places F_law_places C_law_draw (PySem.W.mg_none_of X G z_tuple) (PySem.W.mg_none_of X G z_range) (PySem.W.mg_none_of X G z_len) p_law_places⟩
  have C_law_risen : Fn l.prog w K mg base 2 "_law_risen" s_law_risen P_law_risen sp_law_risen := ⟨_, _, PySem.W.mg_of X G a_law_risen, F_law_risen, b_law_risen, ok_law_risen F_law_risen C_law_rank (PySem.W.mg_none_of X G z_sorted) (PySem.W.mg_none_of X G z_set) (PySem.W.mg_none_of X G z_tuple) p_law_risen⟩
  have C_law_why : Fn l.prog w K mg base 2 "_law_why" s_law_why P_law_why sp_law_why := ⟨_, _, PySem.W.mg_of X G a_law_why, F_law_why, b_law_why, ok_law_why F_law_why C_law_has C_law_same (PySem.W.mg_none_of X G z_len) (PySem.W.mg_none_of X G z_range) p_law_why⟩
  have C_Judging_judge : FnM l.prog w K mg base 3 Ad_Judging "judge" P_Judging_judge sp_Judging_judge pats_Judging_judge := ⟨CL_Judging, _, _, ⟨a_Judging_judge, i_Judging_judge, k_Judging_judge⟩, ⟨k_Judging_judge, (List.forall_mem_cons.mpr ⟨(kb_all (st := s_Judging_judge) (b := pat_Judging_judge_0) rfl (fun us ws h1 h2 => match us, ws, h1, h2 with | [_, _], [], _, _ => rfl) (fun l hl => match l, hl with | [_, _], _ => rfl)), (fun _ h => nomatch h)⟩), ok_Judging_judge F_Judging_judge CL_Judging n_Judging_rows_taken C_Judging_why_not p_Judging_judge⟩⟩
  have C_law_table : Fn l.prog w K mg base 3 "_law_table" s_law_table P_law_table sp_law_table := ⟨_, _, PySem.W.mg_of X G a_law_table, F_law_table, b_law_table, ok_law_table F_law_table C_law_draw C_law_places C_law_pick (PySem.W.mg_none_of X G z_dict) (PySem.W.mg_none_of X G z_tuple) (PySem.W.mg_none_of X G z_range) (PySem.W.mg_none_of X G z_int) p_law_table⟩
  have C_law_tell : Fn l.prog w K mg base 3 "_law_tell" s_law_tell P_law_tell sp_law_tell := ⟨_, _, PySem.W.mg_of X G a_law_tell, F_law_tell, b_law_tell, ok_law_tell F_law_tell C_law_draw C_law_pick (PySem.W.mg_none_of X G z_tuple) (PySem.W.mg_none_of X G z_range) p_law_tell⟩
  have C_law_due : Fn l.prog w K mg base 3 "_law_due" s_law_due P_law_due sp_law_due := ⟨_, _, PySem.W.mg_of X G a_law_due, F_law_due, b_law_due, ok_law_due F_law_due C_law_why (PySem.W.mg_none_of X G z_tuple) p_law_due⟩
  have C_judged : Fn l.prog w K mg base 4 "judged" s_judged P_judged sp_judged := ⟨_, _, PySem.W.mg_of X G a_judged, F_judged, b_judged, ok_judged F_judged CL_Judging C_Judging_init C_Judging_judge (PySem.W.mg_none_of X G z_tuple) p_judged⟩
  have C_law_made : Fn l.prog w K mg base 4 "_law_made" s_law_made P_law_made sp_law_made := ⟨_, _, PySem.W.mg_of X G a_law_made, F_law_made, b_law_made, ok_law_made F_law_made C_law_draw C_law_names C_law_table C_law_tell C_law_pick C_law_risen (PySem.W.mg_none_of X G z_range) (PySem.W.mg_none_of X G z_tuple) p_law_made⟩
  have C_rising : Fn l.prog w K mg base 6 "rising" s_rising P_rising sp_rising := ⟨_, _, PySem.W.mg_of X G a_rising, F_rising, b_rising, ok_rising F_rising tb cc_rising C_key_of (PySem.W.mg_none_of X G z_tuple) (PySem.W.mg_none_of X G z_sorted) (PySem.W.mg_none_of X G z_list) p_rising⟩
  have C_taken : Fn l.prog w K mg base 7 "taken" s_taken P_taken sp_taken := ⟨_, _, PySem.W.mg_of X G a_taken, F_taken, b_taken, ok_taken F_taken C_rising C_judged (PySem.W.mg_none_of X G z_tuple) p_taken⟩
  have C_law_right : Fn l.prog w K mg base 8 "_law_right" s_law_right P_law_right sp_law_right := ⟨_, _, PySem.W.mg_of X G a_law_right, F_law_right, b_law_right, ok_law_right F_law_right C_law_due C_judged C_law_risen C_taken (PySem.W.mg_none_of X G z_repr) (PySem.W.mg_none_of X G z_tuple) p_law_right⟩
  exact ok_law F_law C_law_deck C_law_made C_law_right C_law_draw (PySem.W.mg_none_of X G z_range) (PySem.W.mg_none_of X G z_repr) p_law
end
end Wneversaid_k09_judged_by_an_own_look

namespace Wneversaid_k09_judged_by_an_own_look
open PySem PySem.Spec PyProof.Rows L2 N3
/-! ### a dict as a list of entries -/
section
variable {α : Type} {K : α → Key} {f : α → PV}
theorem lk_mid {ds r : List α} {e : α} (hd : K e ∉ ds.map K) : lk ((ds ++ e :: r).map K) ((ds ++ e :: r).map f) (K e) = some (f e) := by
  induction ds with
  | nil => exact if_pos rfl
  | cons d ds ih =>
    rw [List.map_cons, List.mem_cons, not_or] at hd
    exact (if_neg (Ne.symm hd.1)).trans (ih hd.2)
theorem lk_no {es : List α} {k : Key} (hd : k ∉ es.map K) : lk (es.map K) (es.map f) k = none := by
  induction es with
  | nil => rfl
  | cons d ds ih =>
    rw [List.map_cons, List.mem_cons, not_or] at hd
    exact (if_neg (Ne.symm hd.1)).trans (ih hd.2)
theorem hasK_iff {ks : List Key} {k : Key} : hasK ks k = true ↔ k ∈ ks := by
  unfold hasK
  rw [List.any_eq_true]
  exact ⟨fun ⟨x, hx, e⟩ => of_decide_eq_true e ▸ hx, fun h => ⟨k, h, decide_eq_true rfl⟩⟩
theorem zip_if {es : List α} {k : Key} {v : PV} : List.zipWith (fun k' x => if k' = k then v else x) (es.map K) (es.map f) = es.map fun e => if K e = k then v else f e := by
  induction es with
  | nil => rfl
  | cons e es ih => rw [List.map_cons, List.map_cons, List.map_cons, List.zipWith_cons_cons, ih]
theorem map_if {es : List α} {k : Key} {v : PV} (h : k ∉ es.map K) : (es.map fun e => if K e = k then v else f e) = es.map f := List.map_congr_left fun e he => if_neg fun q => h (by rw [← q]; exact List.mem_map_of_mem he)
theorem nd_mid {ds r : List α} {e : α} (hn : ((ds ++ e :: r).map K).Nodup) : K e ∉ ds.map K ∧ K e ∉ r.map K ∧ ((ds ++ r).map K).Nodup := by
  rw [List.map_append, List.map_cons] at hn
  have h1 := List.nodup_append.mp hn
  have h2 := List.nodup_cons.mp h1.2.1
  refine ⟨fun q => h1.2.2 _ q _ List.mem_cons_self rfl, h2.1, ?_⟩
  rw [List.map_append]
  exact List.nodup_append.mpr ⟨h1.1, h2.2, fun a ha b hb => h1.2.2 a ha b (List.mem_cons_of_mem _ hb)⟩
theorem pk_mid {ds r : List α} {e : α} : pk ((ds ++ e :: r).map K) (K e) = (ds ++ e :: r).map K := if_pos (hasK_iff.mpr (List.mem_map_of_mem (by simp)))
theorem pvs_mid {ds r : List α} {e : α} {v : PV} (hn : ((ds ++ e :: r).map K).Nodup) : pvs ((ds ++ e :: r).map K) ((ds ++ e :: r).map f) (K e) v = ds.map f ++ v :: r.map f := by
  obtain ⟨h1, h2, -⟩ := nd_mid hn
  unfold pvs
  rw [if_pos (hasK_iff.mpr (List.mem_map_of_mem (by simp))), zip_if, List.map_append, List.map_cons, if_pos rfl, map_if h1, map_if h2]
theorem pk_new {es : List α} {k : Key} (h : k ∉ es.map K) : pk (es.map K) k = es.map K ++ [k] := if_neg fun e => h (hasK_iff.mp e)
theorem pvs_new {es : List α} {k : Key} {v : PV} (h : k ∉ es.map K) : pvs (es.map K) (es.map f) k v = es.map f ++ [v] := if_neg fun e => h (hasK_iff.mp e)
theorem eK_no {es : List α} {k : Key} (h : k ∉ es.map K) : eK (es.map K) k = es.map K := List.filter_eq_self.mpr fun a ha => decide_eq_true fun e => h (e ▸ ha)
theorem eK_mid {ds r : List α} {e : α} (hn : ((ds ++ e :: r).map K).Nodup) : eK ((ds ++ e :: r).map K) (K e) = (ds ++ r).map K := by
  obtain ⟨h1, h2, -⟩ := nd_mid hn
  have a := eK_no h1
  have b := eK_no h2
  unfold eK at a b ⊢
  rw [List.map_append, List.map_cons, List.filter_append, List.filter_cons_of_neg (by simp), a, b, List.map_append]
theorem eV_mid {ds r : List α} {e : α} (hn : ((ds ++ e :: r).map K).Nodup) : eV ((ds ++ e :: r).map K) ((ds ++ e :: r).map f) (K e) = (ds ++ r).map f := by
  obtain ⟨h1, h2, -⟩ := nd_mid hn
  clear hn
  have no : ∀ {l : List α}, K e ∉ l.map K → eV (l.map K) (l.map f) (K e) = l.map f := by
    intro l
    induction l with
    | nil => intro _; rfl
    | cons d l ih =>
      intro h
      rw [List.map_cons, List.mem_cons, not_or] at h
      show (if K d ≠ K e then _ else _) = _
      rw [if_pos (Ne.symm h.1), ih h.2]; rfl
  induction ds with
  | nil =>
    show (if K e ≠ K e then _ else _) = _
    rw [if_neg (by simp), no h2]; rfl
  | cons d ds ih =>
    rw [List.map_cons, List.mem_cons, not_or] at h1
    show (if K d ≠ K e then _ else _) = _
    rw [if_pos (Ne.symm h1.1)]
    exact congrArg (f d :: ·) (ih h1.2)
theorem mid_of {es : List α} {k : Key} (h : k ∈ es.map K) : ∃ ds e r, es = ds ++ e :: r ∧ K e = k := by
  obtain ⟨e, he, rfl⟩ := List.mem_map.mp h
  obtain ⟨ds, r, rfl⟩ := List.append_of_mem he
  exact ⟨ds, e, r, rfl, rfl⟩
end
theorem eqv_sd (x y : Str) : PyData.eqv (.str x) (.str y) = decide (x = y) := by
  show (x == y) = _
  rw [Bool.eq_iff_iff, beq_iff_eq, decide_eq_true_iff]
def Gd (h : PH) : Prop := ndH h ∧ ∀ b ks vs, h b ≠ some (.lck ks vs)
theorem Gd.up {h : PH} {a : Addr} {o : PO} (g : Gd h) (n : ndO o = true) (l : ∀ ks vs, o ≠ .lck ks vs) : Gd (up h a o) := by
  refine ⟨fun b u e => ?_, fun b ks vs e => ?_⟩
  · by_cases hb : b = a
    · rw [hb, up_same] at e; cases e; exact n
    · rw [up_ne hb] at e; exact g.1 b u e
  · by_cases hb : b = a
    · rw [hb, up_same] at e; exact l _ _ (Option.some.inj e)
    · rw [up_ne hb] at e; exact g.2 b ks vs e
theorem Gd.lck {h : PH} {a : Addr} {ks : List Key} {vs : List PV} (g : Gd h) : ndH (N3.up h a (.lck ks vs)) ∧ lk1 a (N3.up h a (.lck ks vs)) := by
  refine ⟨fun b u e => ?_, fun b ks vs e => ?_⟩
  · by_cases hb : b = a
    · rw [hb, up_same] at e; cases e; rfl
    · rw [up_ne hb] at e; exact g.1 b u e
  · by_cases hb : b = a
    · exact hb
    · rw [up_ne hb] at e; exact (g.2 b _ _ e).elim
theorem up_back {h : PH} {a : Addr} {o u : PO} (e : h a = some o) : up (up h a u) a o = h := by
  rw [up_up]
  funext b
  unfold N3.up
  split
  · rename_i q; rw [q]; exact e.symm
  · rfl
theorem nds_map {α : Type} {f : α → PV} : ∀ {es : List α}, (∀ e ∈ es, nd (f e) = true) → nds (es.map f) = true
  | [], _ => rfl
  | e :: es, h => by
    show (nd (f e) && nds (es.map f)) = true
    rw [h e List.mem_cons_self, nds_map fun x hx => h x (List.mem_cons_of_mem _ hx)]; rfl
theorem nd_anyS {α β : Type} {K : α → β} {ds r : List α} {e : α} (hn : ((ds ++ e :: r).map K).Nodup) : K e ∉ ds.map K ∧ K e ∉ r.map K := by
  rw [List.map_append, List.map_cons] at hn
  have h1 := List.nodup_append.mp hn
  have h2 := List.nodup_cons.mp h1.2.1
  exact ⟨fun q => h1.2.2 _ q _ List.mem_cons_self rfl, h2.1⟩
/-! ### comprehensions over what stands for a list -/
theorem lcT {α : Type} {gd : PH → Prop} {τ : PSt} {g : MG} {t : MT} {m : ME} {h : PH} {Q : List PV → PH → Prop} (enc : α → PV) (c : α → Bool) (f : α → PV) (hg : gd h) :
    ∀ (xs : List α) (acc : List PV), (∀ x ∈ xs, ∀ (P : List PV → PH → Prop) (acc : List PV), (if c x = true then P (acc ++ [f x]) h else P acc h) → g (enc x) τ h fun τ1 h1 => t τ1 h1 fun b h2 => if b = true then m τ1 h2 fun v h3 => P (acc ++ [v]) h3 else P acc h2) →
      Q (acc ++ (xs.filter c).map f) h → lcL gd τ g t m (xs.map enc) acc h Q
  | [], acc, _, q => ⟨hg, by simpa using q⟩
  | x :: xs, acc, hs, q => by
    refine ⟨hg, hs x List.mem_cons_self (fun acc h3 => lcL gd τ g t m (xs.map enc) acc h3 Q) acc ?_⟩
    cases hc : c x with
    | true => exact lcT enc c f hg xs _ (fun y hy => hs y (List.mem_cons_of_mem _ hy)) (by simpa [List.filter_cons, hc] using q)
    | false => exact lcT enc c f hg xs _ (fun y hy => hs y (List.mem_cons_of_mem _ hy)) (by simpa [List.filter_cons, hc] using q)
theorem lcM {α : Type} {gd : PH → Prop} {τ : PSt} {g : MG} {m : ME} {h : PH} {Q : List PV → PH → Prop} (enc : α → PV) (f : α → PV) (hg : gd h) :
    ∀ (xs : List α) (acc : List PV), (∀ x ∈ xs, ∀ P : PV → PH → Prop, P (f x) h → g (enc x) τ h fun τ1 h1 => m τ1 h1 P) → Q (acc ++ xs.map f) h → lcL gd τ g mYes m (xs.map enc) acc h Q
  | [], acc, _, q => ⟨hg, by simpa using q⟩
  | x :: xs, acc, hs, q => by
    refine ⟨hg, ?_⟩
    have z := hs x List.mem_cons_self (fun v h3 => lcL gd τ g mYes m (xs.map enc) (acc ++ [v]) h3 Q) (lcM enc f hg xs _ (fun y hy => hs y (List.mem_cons_of_mem _ hy)) (by simpa using q))
    simpa only [mYes, if_true] using z
/-- going along numbered things, with an answer amid -/
theorem for_find {α : Type} {bad : α → Bool} {f : α → PV} {ret : Nat → PV} {g : MG} {b : MS} {D : PEnds} {h : PH} (xs : List α) (Z : PSt → Prop)
    (step : ∀ (i : Nat) (x : α) (τ : PSt) (P : PSt → PH → Prop), x ∈ xs → Z τ → (bad x = true → D.rt (ret i) h) → (bad x = false → ∀ τ', Z τ' → P τ' h) → g (.tup [.int i, f x]) τ h fun τ1 h1 => b { D with nx := P, ct := P, bk := D.nx } τ1 h1)
    (fin : match xs.findIdx? bad with | some k => D.rt (ret k) h | none => ∀ τ, Z τ → D.nx τ h) (τ : PSt) (z : Z τ) : forL (fun _ => True) g b D (enm (xs.map f)) τ h := by
  refine forL_of (W := fun ps τ h' => h' = h ∧ Z τ ∧ ∃ ds r, xs = ds ++ r ∧ ps = (r.zipIdx ds.length).map (fun x => PV.tup [.int (x.2 : Nat), f x.1]) ∧ ∀ x ∈ ds, bad x = false) ?_ ?_ _ _ _ ⟨rfl, z, [], xs, rfl, ?_, fun x hx => by simp at hx⟩
  · rintro p ps τ h' ⟨rfl, z, ds, r, er, ee, hd⟩
    obtain ⟨x, r, rfl⟩ : ∃ x r', r = x :: r' := by
      cases r with
      | nil => cases ee
      | cons x r => exact ⟨x, r, rfl⟩
    rw [List.zipIdx_cons, List.map_cons] at ee
    obtain ⟨rfl, rfl⟩ := List.cons.inj ee
    refine ⟨trivial, fun P hP => step ds.length x τ P (by rw [er]; simp) z (fun hb => ?_) fun hb τ' z' => hP _ _ ⟨rfl, z', ds ++ [x], r, by rw [er, List.append_assoc]; rfl, by rw [List.length_append]; rfl, fun y hy => ?_⟩⟩
    · have e : xs.findIdx? bad = some ds.length := by
        rw [er, List.findIdx?_append, List.findIdx?_eq_none_iff.mpr hd, List.findIdx?_cons, hb]; simp
      rw [e] at fin
      exact fin
    · rcases List.mem_append.mp hy with hy | hy
      · exact hd y hy
      · rw [List.mem_singleton] at hy; subst hy; exact hb
  · rintro τ h' ⟨rfl, z, ds, r, er, ee, hd⟩
    refine ⟨trivial, ?_⟩
    cases r with
    | cons x r => rw [List.zipIdx_cons] at ee; cases ee
    | nil =>
      rw [List.append_nil] at er
      subst er
      rw [List.findIdx?_eq_none_iff.mpr hd] at fin
      exact fin τ z
  · unfold enm
    rw [List.zipIdx_map, List.map_map]; rfl
/-! ### worths, rows, tables -/
inductive Wo where
  | int (i : Int)
  | str (x : Str)
deriving DecidableEq
def woP : Wo → PV
  | .int i => .int i
  | .str x => .str x
abbrev Row := List Wo
def rowV (r : Row) : PV := .tup (r.map woP)
theorem eqv_wo (a b : Wo) : PyData.eqv (toD (woP a)) (toD (woP b)) = decide (a = b) := by
  cases a with
  | int i =>
    cases b with
    | int j => rw [show PyData.eqv (toD (woP (.int i))) (toD (woP (.int j))) = decide (i = j) from eqv_int i j]; simp
    | str y => simp [woP, toD, PyData.eqv]
  | str x =>
    cases b with
    | int j => simp [woP, toD, PyData.eqv]
    | str y => rw [show PyData.eqv (toD (woP (.str x))) (toD (woP (.str y))) = decide (x = y) from eqv_sd x y]; simp
theorem eqvs_wo : ∀ a b : List Wo, PyData.eqvAll (toDs (a.map woP)) (toDs (b.map woP)) = decide (a = b)
  | [], [] => by simp [toDs, PyData.eqvAll]
  | [], _ :: _ => by simp [toDs, PyData.eqvAll]
  | _ :: _, [] => by simp [toDs, PyData.eqvAll]
  | a :: as, b :: bs => by
    show PyData.eqvAll (toD (woP a) :: toDs (as.map woP)) (toD (woP b) :: toDs (bs.map woP)) = _
    rw [PySem.W.eqv_all_cons, eqv_wo, eqvs_wo as bs]
    by_cases h : a = b <;> by_cases h2 : as = bs <;> simp [h, h2]
theorem eqv_row (a b : Row) : PyData.eqv (toD (rowV a)) (toD (rowV b)) = decide (a = b) := by
  show PyData.eqv (.tuple _) (.tuple _) = _
  rw [PyData.eqv]; exact eqvs_wo a b
theorem eqv_lrow (a b : Row) : PyData.eqv (.list (toDs (a.map woP))) (.list (toDs (b.map woP))) = decide (a = b) := by
  rw [PyData.eqv]; exact eqvs_wo a b
theorem flat_wo (a : Wo) : flat (woP a) = true := by cases a <;> rfl
theorem flats_wo (r : Row) : flats (r.map woP) = true := flats_of fun p hp => by
  obtain ⟨a, -, rfl⟩ := List.mem_map.mp hp
  exact flat_wo a
theorem flat_rowV (r : Row) : flat (rowV r) = true := flats_wo r
theorem depth_wo (a : Wo) : (toD (woP a)).depth = 0 := by cases a <;> simp [woP, toD, PyData.depth]
theorem depth_wos : ∀ r : Row, PyData.depthAll (toDs (r.map woP)) = 0
  | [] => by simp [toDs, PyData.depthAll]
  | a :: r => by
    have := depth_wos r
    simp [toDs, PyData.depthAll, depth_wo, this]
theorem depth_rowV (r : Row) : (toD (rowV r)).depth = 1 := by
  show (PyData.tuple (toDs (r.map woP))).depth = 1
  simp [PyData.depth, depth_wos]
theorem depth_rows : ∀ rs : List Row, PyData.depthAll (toDs (rs.map rowV)) ≤ 1
  | [] => by simp [toDs, PyData.depthAll]
  | r :: rs => by
    have := depth_rows rs
    show max (toD (rowV r)).depth (PyData.depthAll (toDs (rs.map rowV))) ≤ 1
    rw [depth_rowV]; omega
theorem nd_wo (a : Wo) : nd (woP a) = true := by cases a <;> rfl
theorem nd_rowV (r : Row) : nd (rowV r) = true := by
  show nds (r.map woP) = true
  exact nds_map fun a _ => nd_wo a
theorem any_wo (ws : List Wo) (w : Wo) : (toDs (ws.map woP)).any (fun d => PyData.eqv d (toD (woP w))) = decide (w ∈ ws) := by
  induction ws with
  | nil => rfl
  | cons a ws ih =>
    show (PyData.eqv (toD (woP a)) (toD (woP w)) || (toDs (ws.map woP)).any (fun d => PyData.eqv d (toD (woP w)))) = _
    rw [ih, eqv_wo]
    by_cases e : a = w
    · subst e; simp
    · have e2 : ¬ w = a := fun z => e z.symm
      simp [e, e2]
theorem any_row (rs : List Row) (r : Row) : (toDs (rs.map rowV)).any (fun d => PyData.eqv d (toD (rowV r))) = decide (r ∈ rs) := by
  induction rs with
  | nil => rfl
  | cons a rs ih =>
    show (PyData.eqv (toD (rowV a)) (toD (rowV r)) || (toDs (rs.map rowV)).any (fun d => PyData.eqv d (toD (rowV r)))) = _
    rw [ih, eqv_row]
    by_cases e : a = r
    · subst e; simp
    · have e2 : ¬ r = a := fun z => e z.symm
      simp [e, e2]
theorem vw_wo {h : PH} (w : Wo) : vw h (woP w) = woP w := by cases w <;> rfl
/-- a worth in a list of worths -/
theorem in_wos {ws : List Wo} {w : Wo} {p : PV} {h : PH} {Q : PK} {neg : Bool} (hp : listed h p = some (ws.map woP)) (hs : ∀ y, p ≠ .str y) (q : Q (.bl (decide (w ∈ ws) != neg)) h) : rInP neg (woP w) p h Q := by
  have fin : (match listed h p with
    | some xs => flat (vw h (woP w)) = true ∧ flats xs = true ∧ PyData.depthAll (toDs xs) ≤ 64 ∧ Q (.bl ((toDs xs).any (fun d => PyData.eqv d (toD (vw h (woP w)))) != neg)) h
    | none => False) := by
    rw [hp]
    refine ⟨by rw [vw_wo]; exact flat_wo w, flats_wo ws, by rw [depth_wos]; decide, ?_⟩
    rw [vw_wo, any_wo]; exact q
  cases w with
  | int i => exact fin
  | str x =>
    cases p with
    | str y => exact (hs y rfl).elim
    | _ => exact fin
theorem in_rows {rs : List Row} {r : Row} {p : PV} {h : PH} {Q : PK} {neg : Bool} (hp : listed h p = some (rs.map rowV)) (q : Q (.bl (decide (r ∈ rs) != neg)) h) : rInP neg (rowV r) p h Q := by
  show (match listed h p with
    | some xs => flat (vw h (rowV r)) = true ∧ flats xs = true ∧ PyData.depthAll (toDs xs) ≤ 64 ∧ Q (.bl ((toDs xs).any (fun d => PyData.eqv d (toD (vw h (rowV r)))) != neg)) h
    | none => False)
  rw [hp]
  refine ⟨flat_rowV r, flats_of fun p hp => ?_, by have := depth_rows rs; omega, ?_⟩
  · obtain ⟨a, -, rfl⟩ := List.mem_map.mp hp
    exact flat_rowV a
  · rw [show toD (vw h (rowV r)) = toD (rowV r) from rfl, any_row]; exact q
theorem ne_wo {a b : Wo} {h : PH} {Q : PK} (q : Q (.bl (!decide (a = b))) h) : N3.rNe (woP a) (woP b) h Q := by
  refine ⟨by rw [vw_wo]; exact flat_wo a, by rw [vw_wo]; exact flat_wo b, by rw [vw_wo, depth_wo]; decide, ?_⟩
  rw [vw_wo, vw_wo, eqv_wo]; exact q
theorem at_row {r : Row} {i : Nat} {w : Wo} {h : PH} {Q : PK} (e : r[i]? = some w) (q : Q (woP w) h) : N3.rIx (rowV r) (.int (i : Nat)) h Q := by
  have hi := (List.getElem?_eq_some_iff.mp e).1
  show (match atI (r.map woP) (i : Nat) with | some v => Q v h | none => False)
  have : atI (r.map woP) (i : Nat) = some (woP w) := by
    unfold atI
    rw [ixN_nat (by rw [List.length_map]; exact hi)]
    show (r.map woP)[i]? = _
    rw [List.getElem?_map, e]; rfl
  rw [this]; exact q
/-! ### a plan's tables -/
structure Tb where
  name : Str
  wide : Nat
  keys : List (List Nat)
  leans : List (Nat × Str × Nat)
  rooms : List (List Nat × Nat)
  may : Option (Str × Nat)
def plsP (l : List Nat) : PV := .tup (l.map fun i : Nat => .int i)
def leanP (l : Nat × Str × Nat) : PV := .tup [.int l.1, .str l.2.1, .int l.2.2]
def roomP (l : List Nat × Nat) : PV := .tup [plsP l.1, .int l.2]
def mayP : Option (Str × Nat) → PV
  | none => .non
  | some m => .tup [.str m.1, .int m.2]
def tbP (t : Tb) : PV := .tup [.str t.name, .int t.wide, .tup (t.keys.map plsP), .tup (t.leans.map leanP), .tup (t.rooms.map roomP), mayP t.may]
/-- a table with what is taken, and where that lies -/
structure Jt where
  t : Tb
  a : Addr
  rs : List Row
def jk (e : Jt) : Key := .inr e.t.name
abbrev jfn : List Str := ["tables_known", "rows_taken"]
structure Jd where
  j : Addr
  k : Addr
  d : Addr
structure JO (C : Addr) (I : Jd) (es : List Jt) (h : PH) : Prop where
  o : h I.j = some (.ins C jfn [.ref I.k, .ref I.d])
  k : h I.k = some (.dct (es.map jk) (es.map fun e => tbP e.t))
  d : h I.d = some (.dct (es.map jk) (es.map fun e => .ref e.a))
  r : ∀ e ∈ es, h e.a = some (.lst (e.rs.map rowV))
  nk : (es.map jk).Nodup
  na : (es.map Jt.a).Nodup
  n1 : I.j ∉ es.map Jt.a
  n2 : I.k ∉ es.map Jt.a
  n3 : I.d ∉ es.map Jt.a
def jfp (I : Jd) (es : List Jt) : List Addr := I.j :: I.k :: I.d :: es.map Jt.a
/-- the rows are as wide, what rules speak of is there -/
structure JOk (es : List Jt) : Prop where
  w : ∀ e ∈ es, ∀ r ∈ e.rs, r.length = e.t.wide
  n : ∀ e ∈ es, e.rs.length ≤ 1000
  wd : ∀ e ∈ es, e.t.wide ≤ 100
  ks : ∀ e ∈ es, e.t.keys.length ≤ 100 ∧ ∀ k ∈ e.t.keys, k.length ≤ 100 ∧ ∀ p ∈ k, p < e.t.wide
  ls : ∀ e ∈ es, e.t.leans.length ≤ 100 ∧ ∀ l ∈ e.t.leans, l.1 < e.t.wide ∧ ∃ o ∈ es, o.t.name = l.2.1 ∧ l.2.2 < o.t.wide
  ro : ∀ e ∈ es, e.t.rooms.length ≤ 100 ∧ ∀ k ∈ e.t.rooms, k.1.length ≤ 100 ∧ ∀ p ∈ k.1, p < e.t.wide
  my : ∀ e ∈ es, ∀ m, e.t.may = some m → ∃ o ∈ es, o.t.name = m.1 ∧ m.2 < o.t.wide
theorem jG_k {a b : PV} : fG "tables_known" jfn [a, b] = some a := if_pos rfl
theorem jG_d {a b : PV} : fG "rows_taken" jfn [a, b] = some b := (if_neg (by decide +kernel)).trans (if_pos rfl)
/-- the table of a name -/
theorem jt_lk {es : List Jt} (nk : (es.map jk).Nodup) {e : Jt} (he : e ∈ es) (f : Jt → PV) : lk (es.map jk) (es.map f) (.inr e.t.name) = some (f e) := by
  obtain ⟨ds, r, rfl⟩ := List.append_of_mem he
  exact lk_mid (K := jk) (nd_mid nk).1
theorem jt_one {es : List Jt} (nk : (es.map jk).Nodup) {e o : Jt} (he : e ∈ es) (ho : o ∈ es) (e1 : e.t.name = o.t.name) : e = o := by
  obtain ⟨ds, r, rfl⟩ := List.append_of_mem ho
  obtain ⟨m1, m2⟩ := nd_anyS nk
  have k : jk e = jk o := by unfold jk; rw [e1]
  rcases List.mem_append.mp he with z | z
  · exact (m1 (by rw [← k]; exact List.mem_map_of_mem z)).elim
  · rcases List.mem_cons.mp z with z | z
    · exact z
    · exact (m2 (by rw [← k]; exact List.mem_map_of_mem z)).elim
/-! ### is_there, how_many -/
def isThere (rs : List Row) (f : Nat) (w : Wo) : Bool := decide (w ∈ rs.map fun r => r.getD f (.int 0))
def pick_ (ps : List Nat) (r : Row) : Row := ps.map fun p => r.getD p (.int 0)
def howMany (rs : List Row) (ps : List Nat) (r : Row) : Nat := (rs.filter fun one => decide (pick_ ps one = pick_ ps r)).length
theorem getD_ok {r : Row} {i : Nat} (h : i < r.length) : r[i]? = some (r.getD i (.int 0)) := by
  rw [List.getD_eq_getElem?_getD, List.getElem?_eq_getElem h]; rfl
def spThere (C : Addr) : SpP := fun ps h Q => ∃ (I : Jd) (es : List Jt) (e : Jt) (f : Nat) (w : Wo), ps = [.ref I.j, .str e.t.name, .int f, woP w] ∧ JO C I es h ∧ JOk es ∧ e ∈ es ∧ f < e.t.wide ∧ Q (.bl (isThere e.rs f w)) h
theorem pure_Judging_is_there {C : Addr} : ∀ qs h Q, qs.length = 4 → spThere C qs h Q → m_Judging_is_there C (ends Q) (sp0 5 qs) h := by
  rintro _ h Q - ⟨I, es, e, f, w, rfl, H, ok, he, hf, q⟩
  unfold m_Judging_is_there
  simp only [mRet, mB, mLc, mSeqs, mFld, mVar, gt, N3.sp0, H.o, true_and, jG_d, N3.rIx, seqL, dctL, H.d, kOf, jt_lk H.nk he, H.r e he]
  refine lcL_map (f := fun p => match p with | .tup xs => (match atI xs (f : Nat) with | some v => v | none => .non) | p => p) (H.r e he) _ _ (fun p hp P z => ?_) ?_
  · obtain ⟨r, hr, rfl⟩ := List.mem_map.mp hp
    have hl : f < r.length := by rw [ok.w e he r hr]; exact hf
    have e1 : atI (r.map woP) (f : Nat) = some (woP (r.getD f (.int 0))) := by
      unfold atI
      rw [ixN_nat (by rw [List.length_map]; exact hl)]
      show (r.map woP)[f]? = _
      rw [List.getElem?_map, getD_ok hl]; rfl
    simp only [rowV, e1] at z
    simp only [rowV, gN, N3.st, N3.wp, mB, mVar, gt, N3.rIx, e1]
    exact z
  · rw [List.nil_append, List.map_map]
    have e2 : e.rs.map ((fun p => match p with | .tup xs => (match atI xs (f : Nat) with | some v => v | none => .non) | p => p) ∘ rowV) = (e.rs.map fun r => r.getD f (.int 0)).map woP := by
      rw [List.map_map]
      refine List.map_congr_left fun r hr => ?_
      have hl : f < r.length := by rw [ok.w e he r hr]; exact hf
      show (match atI (r.map woP) (f : Nat) with | some v => v | none => .non) = _
      unfold atI
      rw [ixN_nat (by rw [List.length_map]; exact hl)]
      show (match (r.map woP)[f]? with | some v => v | none => .non) = _
      rw [List.getElem?_map, getD_ok hl]; rfl
    rw [e2]
    refine in_wos (neg := false) rfl (fun y z => by cases z) ?_
    rw [Bool.bne_false]; exact q
def pks (r : Row) : PV → PV
  | .int k => (match atI (r.map woP) k with | some v => v | none => .non)
  | p => p
theorem at_wo {r : Row} {i : Nat} (h : i < r.length) : atI (r.map woP) (i : Nat) = some (woP (r.getD i (.int 0))) := by
  unfold atI
  rw [ixN_nat (by rw [List.length_map]; exact h)]
  show (r.map woP)[i]? = _
  rw [List.getElem?_map, getD_ok h]; rfl
theorem pks_map {r : Row} {ps : List Nat} (h : ∀ p ∈ ps, p < r.length) : (ps.map fun i : Nat => PV.int i).map (pks r) = (pick_ ps r).map woP := by
  unfold pick_
  rw [List.map_map, List.map_map]
  refine List.map_congr_left fun p hp => ?_
  show pks r (.int (p : Nat)) = _
  simp only [pks, at_wo (h p hp)]; rfl
theorem lc_pick {τ : PSt} {j : Nat} {r : Row} {ps : List Nat} {h : PH} {Q : List PV → PH → Prop} (h1 : ∀ v, gt (st τ 5 (some v)) j = some (rowV r)) (h2 : ∀ v, gt (st τ 5 (some v)) 5 = some v) (hp : ∀ p ∈ ps, p < r.length) (q : Q ((pick_ ps r).map woP) h) :
    lcL (fun _ => True) τ (gN 5) mYes (mB N3.rIx (mVar j) (mVar 5)) (ps.map fun i : Nat => PV.int i) [] h Q := by
  refine lcL_map (f := pks r) trivial _ _ (fun p hp' P z => ?_) ?_
  · obtain ⟨i, hi, rfl⟩ := List.mem_map.mp hp'
    have e := at_wo (hp i hi)
    simp only [pks, e] at z
    simp only [gN, mB, mVar, h1, h2, rowV, N3.rIx, e]
    exact z
  · rw [List.nil_append, pks_map hp]; exact q
def spMany (C : Addr) : SpP := fun ps h Q => ∃ (I : Jd) (es : List Jt) (e : Jt) (pl : List Nat) (r : Row), ps = [.ref I.j, .str e.t.name, plsP pl, rowV r] ∧ JO C I es h ∧ JOk es ∧ e ∈ es ∧ (∀ p ∈ pl, p < e.t.wide) ∧ r.length = e.t.wide ∧ Q (.int (howMany e.rs pl r : Nat)) h
theorem pure_Judging_how_many {C : Addr} : ∀ qs h Q, qs.length = 4 → spMany C qs h Q → m_Judging_how_many C (ends Q) (sp0 7 qs) h := by
  rintro _ h Q - ⟨I, es, e, pl, r, rfl, H, ok, he, hp, hr, q⟩
  unfold m_Judging_how_many
  refine seq_step fun P hP => ?_
  simp only [mAsg, mLc, mSeqs, mVar, gt, N3.sp0, N3.wp, N3.st, plsP]
  refine lc_pick (r := r) (fun _ => rfl) (fun _ => rfl) (fun p z => by rw [hr]; exact hp p z) ?_
  simp only [gN, N3.st]
  subst hP
  simp only [mRet, mBlt, mCons, mNil, mB, mLc, mSeqs, mFld, mVar, mC, gt, H.o, true_and, jG_d, N3.rIx, seqL, dctL, H.d, kOf, jt_lk H.nk he, H.r e he, N3.wp, N3.st]
  refine lcT (enc := rowV) (c := fun one => decide (pick_ pl one = pick_ pl r)) (f := fun _ => .int 1) (H.r e he) _ _ (fun one ho P acc z => ?_) ?_
  · simp only [gN, mTest, mB, mLc, mSeqs, mVar, gt, N3.st, N3.wp]
    refine lc_pick (r := one) (fun _ => rfl) (fun _ => rfl) (fun p y => by rw [ok.w e he one ho]; exact hp p y) ?_
    refine ⟨flats_wo _, flats_wo _, ?_, ?_⟩
    · show (PyData.list (toDs ((pick_ pl one).map woP))).depth ≤ 64
      simp [PyData.depth, depth_wos]
    · rw [show PyData.eqv (toD (vw h (.lst ((pick_ pl one).map woP)))) (toD (vw h (.lst ((pick_ pl r).map woP)))) = decide (pick_ pl one = pick_ pl r) from eqv_lrow _ _]
      exact z
  · rw [List.nil_append]
    simp only [N3.rLen, seqL, List.length_map]
    exact q
/-! ### why a tell is refused -/
structure Te where
  m : Nat
  w : Str
  t : Str
  r : Row
def teP (x : Te) : PV := .tup [.int x.m, .str x.w, .str x.t, rowV x.r]
inductive Why where
  | form | there | may
  | lean (k : Nat)
  | key (k : Nat)
  | room (k : Nat)
deriving DecidableEq
def whyP : Option Why → PV
  | none => .non
  | some .form => .tup [.str "form"]
  | some .there => .tup [.str "there"]
  | some .may => .tup [.str "may"]
  | some (.lean k) => .tup [.str "lean", .int k]
  | some (.key k) => .tup [.str "key", .int k]
  | some (.room k) => .tup [.str "room", .int k]
def thereIn (es : List Jt) (n : Str) (f : Nat) (w : Wo) : Bool := es.any fun o => decide (o.t.name = n) && isThere o.rs f w
def mayBad (es : List Jt) (te : Te) (e : Jt) : Bool := match e.t.may with
  | none => false
  | some m => decide (te.m ≠ 0) && !thereIn es m.1 m.2 (.str te.w)
def leanBad (es : List Jt) (r : Row) (l : Nat × Str × Nat) : Bool := decide (r.getD l.1 (.int 0) ≠ .int 0) && !thereIn es l.2.1 l.2.2 (r.getD l.1 (.int 0))
def whyE (es : List Jt) (te : Te) (e : Jt) : Option Why :=
  if te.r.length ≠ e.t.wide then some .form else if te.r ∈ e.rs then some .there else if mayBad es te e = true then some .may else
  match e.t.leans.findIdx? (leanBad es te.r) with
  | some k => some (.lean k)
  | none => match e.t.keys.findIdx? (fun ps => decide (0 < howMany e.rs ps te.r)) with
    | some k => some (.key k)
    | none => match e.t.rooms.findIdx? (fun x => decide (x.2 ≤ howMany e.rs x.1 te.r)) with
      | some k => some (.room k)
      | none => none
def whyOf (es : List Jt) (te : Te) : Option Why := match es.find? (fun e => decide (e.t.name = te.t)) with
  | none => some .form
  | some e => whyE es te e
theorem jt_find {es : List Jt} (nk : (es.map jk).Nodup) {e : Jt} (he : e ∈ es) : es.find? (fun x => decide (x.t.name = e.t.name)) = some e := by
  obtain ⟨ds, r, rfl⟩ := List.append_of_mem he
  obtain ⟨m1, m2⟩ := nd_anyS nk
  rw [List.find?_append]
  have : ds.find? (fun x => decide (x.t.name = e.t.name)) = none := List.find?_eq_none.mpr fun x hx => by
    simp only [decide_eq_true_eq]
    exact fun z => m1 (by rw [show jk e = jk x by unfold jk; rw [z]]; exact List.mem_map_of_mem hx)
  rw [this, List.find?_cons_of_pos (by simp)]; rfl
theorem there_in {es : List Jt} (nk : (es.map jk).Nodup) {o : Jt} (ho : o ∈ es) (f : Nat) (w : Wo) : thereIn es o.t.name f w = isThere o.rs f w := by
  obtain ⟨ds, r, rfl⟩ := List.append_of_mem ho
  obtain ⟨m1, m2⟩ := nd_anyS nk
  have no : ∀ l : List Jt, jk o ∉ l.map jk → l.any (fun x => decide (x.t.name = o.t.name) && isThere x.rs f w) = false := fun l hl => by
    rw [List.any_eq_false]
    intro x hx
    have : ¬ x.t.name = o.t.name := fun z => hl (by rw [show jk o = jk x by unfold jk; rw [z]]; exact List.mem_map_of_mem hx)
    simp [this]
  unfold thereIn
  rw [List.any_append, List.any_cons, no ds m1, no r m2]
  simp
theorem no_there : ("is_there" : Str) ∉ jfn := by decide +kernel
theorem no_many : ("how_many" : Str) ∉ jfn := by decide +kernel
theorem no_why : ("why_not" : Str) ∉ jfn := by decide +kernel
theorem no_judge : ("judge" : Str) ∉ jfn := by decide +kernel
def spWhy (C : Addr) : SpP := fun ps h Q => ∃ (I : Jd) (es : List Jt) (te : Te), ps = [.ref I.j, teP te] ∧ JO C I es h ∧ JOk es ∧ te.r.length ≤ 1000 ∧ Q (whyP (whyOf es te)) h
theorem pure_Judging_why_not {C : Addr} : ∀ qs h Q, qs.length = 2 → spWhy C qs h Q → m_Judging_why_not C (spThere C) (spMany C) (ends Q) (sp0 18 qs) h := by
  rintro _ h Q - ⟨I, es, te, rfl, H, ok, rl, q⟩
  unfold m_Judging_why_not
  refine seq_step fun P hP => ?_
  simp only [mAsg, mVar, gt, N3.sp0, teP, gT, gsCons, gsNil, gN, N3.st]
  refine ⟨rfl, trivial, ?_⟩
  subst hP
  refine seq_step fun P hP => ?_
  simp only [mIfS, mOrT, mTest, mB, mFld, mVar, gt, H.o, jG_k, true_and, rInD, dctL, H.k, kOf]
  rcases Classical.em ((Sum.inr te.t : Key) ∈ es.map jk) with hm | hm
  · obtain ⟨e, he, ek⟩ := List.mem_map.mp hm
    have ek : e.t.name = te.t := by unfold jk at ek; injection ek
    have elk : ∀ f : Jt → PV, lk (es.map jk) (es.map f) (.inr te.t) = some (f e) := fun f => by rw [← ek]; exact jt_lk H.nk he f
    have ew : whyOf es te = whyE es te e := by
      unfold whyOf
      rw [← ek, jt_find H.nk he]
    rw [ew] at q
    rw [elk]
    have i1 : ∀ a b c d e f : PV, atI [a, b, c, d, e, f] 1 = some b := fun _ _ _ _ _ _ => rfl
    simp only [Option.isSome_some, Bool.bne_true, Bool.not_true, Bool.false_eq_true, if_false, mBlt, mCons, mNil, mVar, gt, mB, mFld, mC, H.o, jG_k, true_and, H.k, rowV, N3.rLen, List.length_map, N3.rIx, dctL, seqL, kOf, elk, tbP, i1, N3.rNe, vw, toD, flat, eqv_int]
    refine ⟨by simp [PyData.depth], ?_⟩
    unfold whyE at q
    by_cases hw : ¬ te.r.length = e.t.wide
    · rw [if_pos hw] at q
      rw [decide_eq_false (by omega)]
      simp only [Bool.not_false, if_true, mRet, mTup, mCons, mNil, mC]
      exact q
    have hw : te.r.length = e.t.wide := Decidable.not_not.mp hw
    rw [if_neg (fun z => z hw)] at q
    rw [decide_eq_true (by omega)]
    simp only [Bool.not_true, Bool.false_eq_true, if_false, mNx]
    subst hP
    refine seq_step fun P hP => ?_
    simp only [mAsg, mB, mFld, mVar, gt, H.o, jG_k, true_and, N3.rIx, dctL, seqL, H.k, kOf, elk, tbP, gT, gsCons, gsNil, gN, N3.st]
    refine ⟨rfl, ?_⟩
    subst hP
    refine seq_step fun P hP => ?_
    simp only [mIfS, mTest, mB, mFld, mVar, gt, H.o, jG_d, true_and, N3.rIx, dctL, seqL, H.d, kOf, elk]
    refine in_rows (rs := e.rs) (p := .ref e.a) (neg := false) (by show seqL h (.ref e.a) = _; simp only [seqL, H.r e he]) ?_
    rw [Bool.bne_false]
    by_cases hin : te.r ∈ e.rs
    · rw [if_pos hin] at q
      rw [decide_eq_true hin]
      simp only [if_true, mRet, mTup, mCons, mNil, mC]
      exact q
    rw [if_neg hin] at q
    rw [decide_eq_false hin]
    simp only [Bool.false_eq_true, if_false, mNx]
    subst hP
    refine seq_step fun P hP => ?_
    /- behind may -/
    have rest : (mayBad es te e = false → P [some (.ref I.j), some (.tup [.int te.m, .str te.w, .str te.t, .tup (te.r.map woP)]), some (.int te.m), some (.str te.w), some (.str te.t), some (.tup (te.r.map woP)), some (.str e.t.name), some (.int e.t.wide), some (.tup (e.t.keys.map plsP)), some (.tup (e.t.leans.map leanP)), some (.tup (e.t.rooms.map roomP)), some (mayP e.t.may), none, none, none, none, none, none] h) := by
      intro hmy
      rw [if_neg (by rw [hmy]; decide)] at q
      subst hP
      refine seq_step fun P hP => ?_
      simp only [mFor, mEnumA, mCons, mNil, mVar, gt]
      have lk1 := ok.ls e he
      refine ⟨by rw [List.length_map]; show _ ≤ 16777216; omega, ?_⟩
      refine for_find (bad := leanBad es te.r) (ret := fun k => .tup [.str "lean", .int k]) e.t.leans (fun τ => ∃ v12 v13 v14 v15, τ = [some (.ref I.j), some (.tup [.int te.m, .str te.w, .str te.t, .tup (te.r.map woP)]), some (.int te.m), some (.str te.w), some (.str te.t), some (.tup (te.r.map woP)), some (.str e.t.name), some (.int e.t.wide), some (.tup (e.t.keys.map plsP)), some (.tup (e.t.leans.map leanP)), some (.tup (e.t.rooms.map roomP)), some (mayP e.t.may), v12, v13, v14, v15, none, none]) ?_ ?_ _ ⟨none, none, none, none, rfl⟩
      · rintro i l τ P' hl ⟨v12, v13, v14, v15, rfl⟩ hb hg
        obtain ⟨l1, o, ho, on, lo⟩ := lk1.2 l hl
        have lr : l.1 < te.r.length := by omega
        have a1 : atI (te.r.map woP) (l.1 : Nat) = some (woP (te.r.getD l.1 (.int 0))) := at_wo lr
        simp only [gT, gsCons, gsNil, gN, N3.st, leanP, true_and]
        refine ⟨rfl, rfl, ?_⟩
        simp only [mIfS, mAndT, mNotT, mTest, mB, mVar, mC, gt, N3.rIx, a1]
        refine ne_wo (b := .int 0) ?_
        by_cases z : te.r.getD l.1 (.int 0) = .int 0
        · rw [decide_eq_true z]
          simp only [Bool.not_true, Bool.false_eq_true, if_false, mNx]
          exact hg (by unfold leanBad; rw [decide_eq_false (fun y => y z)]; rfl) _ ⟨_, _, _, _, rfl⟩
        · rw [decide_eq_false z]
          simp only [Bool.not_false, if_true, mMeth, mVar, gt, H.o, mCons, mNil, mB, N3.rIx, a1]
          refine ⟨trivial, no_there, I, es, o, l.2.2, te.r.getD l.1 (.int 0), by rw [on]; rfl, H, ok, ho, lo, ?_⟩
          have eb : leanBad es te.r l = !isThere o.rs l.2.2 (te.r.getD l.1 (.int 0)) := by
            unfold leanBad
            rw [decide_eq_true z, ← on, there_in H.nk ho]; rfl
          cases ht : isThere o.rs l.2.2 (te.r.getD l.1 (.int 0)) with
          | true =>
            rw [ht] at eb
            simp only [Bool.not_true, Bool.false_eq_true, if_false, mNx]
            exact hg eb _ ⟨_, _, _, _, rfl⟩
          | false =>
            rw [ht] at eb
            simp only [Bool.not_false, if_true, mRet, mTup, mCons, mNil, mC, mVar, gt]
            exact hb eb
      · cases hf : e.t.leans.findIdx? (leanBad es te.r) with
        | some k => rw [hf] at q; exact q
        | none =>
          rw [hf] at q
          rintro τ ⟨v12, v13, v14, v15, rfl⟩
          subst hP
          dsimp only
          refine seq_step fun P hP => ?_
          simp only [mFor, mEnumA, mCons, mNil, mVar, gt]
          have kk1 := ok.ks e he
          refine ⟨by rw [List.length_map]; show _ ≤ 16777216; omega, ?_⟩
          refine for_find (bad := fun ps => decide (0 < howMany e.rs ps te.r)) (ret := fun k => .tup [.str "key", .int k]) e.t.keys (fun τ => ∃ v12 v16, τ = [some (.ref I.j), some (.tup [.int te.m, .str te.w, .str te.t, .tup (te.r.map woP)]), some (.int te.m), some (.str te.w), some (.str te.t), some (.tup (te.r.map woP)), some (.str e.t.name), some (.int e.t.wide), some (.tup (e.t.keys.map plsP)), some (.tup (e.t.leans.map leanP)), some (.tup (e.t.rooms.map roomP)), some (mayP e.t.may), v12, v13, v14, v15, v16, none]) ?_ ?_ _ ⟨_, none, rfl⟩
          · rintro i l τ P' hl ⟨v12, v16, rfl⟩ hb hg
            simp only [gT, gsCons, gsNil, gN, N3.st, true_and]
            refine ⟨rfl, ?_⟩
            simp only [mIfS, mTest, mB, mMeth, mVar, gt, H.o, mCons, mNil, mC]
            refine ⟨trivial, no_many, I, es, e, l, te.r, by rw [ek]; rfl, H, ok, he, (kk1.2 l hl).2, hw, ?_⟩
            simp only [N3.rGt, N3.rCmp]
            refine ite2 (fun c => ?_) (fun c => ?_)
            · have z : 0 < howMany e.rs l te.r := by have := of_decide_eq_true c; omega
              simp only [mRet, mTup, mCons, mNil, mC, mVar, gt]
              exact hb (decide_eq_true z)
            · have z : ¬ 0 < howMany e.rs l te.r := fun y => c (decide_eq_true (by omega))
              simp only [mNx]
              exact hg (decide_eq_false z) _ ⟨_, _, rfl⟩
          · cases hf2 : e.t.keys.findIdx? (fun ps => decide (0 < howMany e.rs ps te.r)) with
            | some k => rw [hf2] at q; exact q
            | none =>
              rw [hf2] at q
              rintro τ ⟨v12, v16, rfl⟩
              subst hP
              dsimp only
              refine seq_step fun P hP => ?_
              simp only [mFor, mEnumA, mCons, mNil, mVar, gt]
              have rr1 := ok.ro e he
              refine ⟨by rw [List.length_map]; show _ ≤ 16777216; omega, ?_⟩
              refine for_find (bad := fun x => decide (x.2 ≤ howMany e.rs x.1 te.r)) (ret := fun k => .tup [.str "room", .int k]) e.t.rooms (fun τ => ∃ v12 v16 v17, τ = [some (.ref I.j), some (.tup [.int te.m, .str te.w, .str te.t, .tup (te.r.map woP)]), some (.int te.m), some (.str te.w), some (.str te.t), some (.tup (te.r.map woP)), some (.str e.t.name), some (.int e.t.wide), some (.tup (e.t.keys.map plsP)), some (.tup (e.t.leans.map leanP)), some (.tup (e.t.rooms.map roomP)), some (mayP e.t.may), v12, v13, v14, v15, v16, v17]) ?_ ?_ _ ⟨_, _, none, rfl⟩
              · rintro i l τ P' hl ⟨v12, v16, v17, rfl⟩ hb hg
                simp only [gT, gsCons, gsNil, gN, N3.st, roomP, true_and]
                refine ⟨rfl, rfl, ?_⟩
                simp only [mIfS, mTest, mB, mMeth, mVar, gt, H.o, mCons, mNil, mC]
                refine ⟨trivial, no_many, I, es, e, l.1, te.r, by rw [ek]; rfl, H, ok, he, (rr1.2 l hl).2, hw, ?_⟩
                simp only [N3.rGe, N3.rCmp]
                refine ite2 (fun c => ?_) (fun c => ?_)
                · have z : l.2 ≤ howMany e.rs l.1 te.r := by have := of_decide_eq_true c; omega
                  simp only [mRet, mTup, mCons, mNil, mC, mVar, gt]
                  exact hb (decide_eq_true z)
                · have z : ¬ l.2 ≤ howMany e.rs l.1 te.r := fun y => c (decide_eq_true (by omega))
                  simp only [mNx]
                  exact hg (decide_eq_false z) _ ⟨_, _, _, rfl⟩
              · cases hf3 : e.t.rooms.findIdx? (fun x => decide (x.2 ≤ howMany e.rs x.1 te.r)) with
                | some k => rw [hf3] at q; exact q
                | none =>
                  rw [hf3] at q
                  rintro τ ⟨v12, v16, v17, rfl⟩
                  subst hP
                  simp only [mRet, mC]
                  exact q
    cases hmay : e.t.may with
    | none =>
      have mb : mayBad es te e = false := by unfold mayBad; rw [hmay]
      have := rest mb
      rw [hmay] at this
      simp only [mIfS, mAndT, mNotT, mTest, mB, mVar, mC, gt, mayP, N3.rNotN, N3.isNon, Bool.not_true, Bool.false_eq_true, if_false, mNx]
      exact this
    | some m =>
      obtain ⟨o, ho, on, mo⟩ := ok.my e he m hmay
      have mb : mayBad es te e = (decide (te.m ≠ 0) && !isThere o.rs m.2 (.str te.w)) := by
        unfold mayBad
        rw [hmay]
        show (_ && !thereIn es m.1 m.2 (.str te.w)) = _
        rw [← on, there_in H.nk ho]
      have j0 : ∀ a b : PV, atI [a, b] 0 = some a := fun _ _ => rfl
      have j1 : ∀ a b : PV, atI [a, b] 1 = some b := fun _ _ => rfl
      rw [hmay] at rest
      simp only [mIfS, mAndT, mNotT, mTest, mB, mVar, mC, gt, mayP, N3.rNotN, N3.isNon, Bool.not_false, if_true, N3.rNe, vw, toD, flat, eqv_int, true_and]
      refine ⟨by simp [PyData.depth], ?_⟩
      by_cases z : te.m = 0
      · rw [decide_eq_true (by omega)]
        simp only [Bool.not_true, Bool.false_eq_true, if_false, mNx]
        exact rest (by rw [mb, decide_eq_false (fun y => y z)]; rfl)
      · rw [decide_eq_false (by omega)]
        simp only [Bool.not_false, if_true, mMeth, mVar, gt, H.o, mCons, mNil, mB, mC, N3.rIx, j0, j1]
        refine ⟨trivial, no_there, I, es, o, m.2, .str te.w, by rw [on]; rfl, H, ok, ho, mo, ?_⟩
        rw [decide_eq_true z, Bool.true_and] at mb
        cases ht : isThere o.rs m.2 (.str te.w) with
        | true =>
          rw [ht] at mb
          simp only [Bool.not_true, Bool.false_eq_true, if_false, mNx]
          exact rest mb
        | false =>
          rw [ht] at mb
          rw [if_pos (show mayBad es te e = true from mb)] at q
          simp only [Bool.not_false, if_true, mRet, mTup, mCons, mNil, mC]
          exact q
  · rw [lk_no hm]
    simp only [Option.isSome_none, Bool.bne_true, Bool.not_false, if_true, mRet, mTup, mCons, mNil, mC]
    have ew : whyOf es te = some .form := by
      unfold whyOf
      have : es.find? (fun e => decide (e.t.name = te.t)) = none := List.find?_eq_none.mpr fun x hx => by
        simp only [decide_eq_true_eq]
        exact fun z => hm (List.mem_map.mpr ⟨x, hx, by unfold jk; rw [z]⟩)
      rw [this]
    rw [ew] at q
    exact q
/-! ### a tell is judged -/
def jIn (te : Te) (e : Jt) : Jt := if e.t.name = te.t then { e with rs := e.rs ++ [te.r] } else e
def jStep (es : List Jt) (te : Te) : List Jt := if whyOf es te = none then es.map (jIn te) else es
theorem jIn_t (te : Te) (e : Jt) : (jIn te e).t = e.t ∧ (jIn te e).a = e.a := by unfold jIn; split <;> exact ⟨rfl, rfl⟩
theorem jIn_maps (te : Te) (es : List Jt) : (es.map (jIn te)).map jk = es.map jk ∧ (es.map (jIn te)).map Jt.a = es.map Jt.a ∧ (es.map (jIn te)).map Jt.t = es.map Jt.t := by
  rw [List.map_map, List.map_map, List.map_map]
  exact ⟨List.map_congr_left fun e _ => by show jk _ = jk e; unfold jk; rw [(jIn_t te e).1], List.map_congr_left fun e _ => (jIn_t te e).2, List.map_congr_left fun e _ => (jIn_t te e).1⟩
theorem jStep_maps (te : Te) (es : List Jt) : (jStep es te).map jk = es.map jk ∧ (jStep es te).map Jt.a = es.map Jt.a ∧ (jStep es te).map Jt.t = es.map Jt.t := by
  unfold jStep; split
  · exact jIn_maps te es
  · exact ⟨rfl, rfl, rfl⟩
theorem why_none {es : List Jt} (nk : (es.map jk).Nodup) {te : Te} (h : whyOf es te = none) : ∃ e ∈ es, e.t.name = te.t ∧ te.r.length = e.t.wide := by
  unfold whyOf at h
  cases hf : es.find? (fun e => decide (e.t.name = te.t)) with
  | none => rw [hf] at h; cases h
  | some e =>
    rw [hf] at h
    refine ⟨e, List.mem_of_find?_eq_some hf, by simpa using List.find?_some hf, ?_⟩
    unfold whyE at h
    by_cases hw : te.r.length = e.t.wide
    · exact hw
    · simp only [] at h
      rw [if_pos hw] at h; cases h
theorem jStep_ok {es : List Jt} (nk : (es.map jk).Nodup) (ok : JOk es) {te : Te} (n : ∀ e ∈ es, e.rs.length < 1000) : JOk (jStep es te) := by
  unfold jStep
  split
  · rename_i hw
    obtain ⟨e0, h0, n0, w0⟩ := why_none nk hw
    have back : ∀ e ∈ es.map (jIn te), ∃ e1 ∈ es, e = jIn te e1 ∧ e.t = e1.t := fun e he => by
      obtain ⟨e1, h1, rfl⟩ := List.mem_map.mp he
      exact ⟨e1, h1, rfl, (jIn_t te e1).1⟩
    have fwd : ∀ o ∈ es, jIn te o ∈ es.map (jIn te) := fun o ho => List.mem_map_of_mem ho
    refine ⟨fun e he r hr => ?_, fun e he => ?_, fun e he => ?_, fun e he => ?_, fun e he => ?_, fun e he => ?_, fun e he m hm => ?_⟩ <;> obtain ⟨e1, h1, ee, et⟩ := back e he
    · rw [et]
      subst ee
      unfold jIn at hr
      split at hr
      · rename_i hn
        rcases List.mem_append.mp hr with z | z
        · exact ok.w e1 h1 r z
        · rw [List.mem_singleton] at z
          rw [z, w0, jt_one nk h1 h0 (by rw [hn, n0])]
      · exact ok.w e1 h1 r hr
    · subst ee
      have := n e1 h1
      unfold jIn; split
      · show (e1.rs ++ [te.r]).length ≤ 1000
        rw [List.length_append]; show _ + 1 ≤ 1000; omega
      · omega
    · rw [et]; exact ok.wd e1 h1
    · rw [et]; exact ok.ks e1 h1
    · rw [et]
      refine ⟨(ok.ls e1 h1).1, fun l hl => ⟨((ok.ls e1 h1).2 l hl).1, ?_⟩⟩
      obtain ⟨o, ho, z⟩ := ((ok.ls e1 h1).2 l hl).2
      exact ⟨_, fwd o ho, by rw [(jIn_t te o).1]; exact z⟩
    · rw [et]; exact ok.ro e1 h1
    · rw [et] at hm
      obtain ⟨o, ho, z⟩ := ok.my e1 h1 m hm
      exact ⟨_, fwd o ho, by rw [(jIn_t te o).1]; exact z⟩
  · exact ok
theorem jStep_len {es : List Jt} {te : Te} {n : Nat} (h : ∀ e ∈ es, e.rs.length ≤ n) : ∀ e ∈ jStep es te, e.rs.length ≤ n + 1 := by
  unfold jStep
  split
  · intro e he
    obtain ⟨e1, h1, rfl⟩ := List.mem_map.mp he
    have := h e1 h1
    unfold jIn; split
    · show (e1.rs ++ [te.r]).length ≤ n + 1
      rw [List.length_append]; show _ + 1 ≤ n + 1; omega
    · omega
  · intro e he; have := h e he; omega
def spJudge (C : Addr) : SpP := fun ps h Q => ∃ (I : Jd) (es : List Jt) (te : Te), ps = [.ref I.j, teP te] ∧ JO C I es h ∧ JOk es ∧ Gd h ∧ te.r.length ≤ 1000 ∧ (∀ e ∈ es, e.rs.length < 1000) ∧
  ∀ h', JO C I (jStep es te) h' → Gd h' → (∀ x, x ∉ es.map Jt.a → h' x = h x) → Q (whyP (whyOf es te)) h'
theorem pure_Judging_judge {C : Addr} : ∀ qs h Q, qs.length = 2 → spJudge C qs h Q → m_Judging_judge C (spWhy C) (ends Q) (sp0 3 qs) h := by
  rintro _ h Q - ⟨I, es, te, rfl, H, ok, g, rl, n, q⟩
  unfold m_Judging_judge
  refine seq_step fun P hP => ?_
  simp only [mAsg, mMeth, mVar, gt, N3.sp0, H.o, mCons, mNil]
  refine ⟨trivial, no_why, I, es, te, rfl, H, ok, rl, ?_⟩
  subst hP
  refine seq_step fun P hP => ?_
  have nn : N3.isNon (whyP (whyOf es te)) = decide (whyOf es te = none) := by
    cases whyOf es te with
    | none => rfl
    | some w => cases w <;> rfl
  simp only [mIfS, mTest, mB, mVar, mC, gt, gN, N3.st, N3.rIsN, nn]
  by_cases hw : whyOf es te = none
  · rw [decide_eq_true hw]
    obtain ⟨e, he, en, ew⟩ := why_none H.nk hw
    have js : jStep es te = es.map (jIn te) := if_pos hw
    have elk : ∀ f : Jt → PV, lk (es.map jk) (es.map f) (.inr te.t) = some (f e) := fun f => by rw [← en]; exact jt_lk H.nk he f
    have a2 : ∀ a b c d : PV, atI [a, b, c, d] 2 = some c := fun _ _ _ _ => rfl
    have a3 : ∀ a b c d : PV, atI [a, b, c, d] 3 = some d := fun _ _ _ _ => rfl
    have he' := H.r e he
    simp only [if_true, mDrop, mAppend, mB, mFld, mVar, mC, gt, H.o, jG_d, true_and, teP, N3.rIx, a2, a3, dctL, seqL, H.d, kOf, elk, mCons, mNil, he']
    refine ⟨⟨_, _, rfl, he'⟩, by rw [List.length_map]; have := n e he; show _ < 16777216; omega, ?_⟩
    have em := jIn_maps te es
    have hne : ∀ x, x ∉ es.map Jt.a → N3.up h e.a (.lst (e.rs.map rowV ++ [rowV te.r])) x = h x := fun x hx => up_ne fun z => hx (by rw [z]; exact List.mem_map_of_mem he)
    subst hP
    simp only [mRet, mVar, gt]
    refine q _ ?_ (g.up ?_ (fun _ _ e => by cases e)) hne
    · rw [js]
      refine ⟨(hne _ H.n1).trans H.o, ?_, ?_, fun x hx => ?_, by rw [em.1]; exact H.nk, by rw [em.2.1]; exact H.na, by rw [em.2.1]; exact H.n1, by rw [em.2.1]; exact H.n2, by rw [em.2.1]; exact H.n3⟩
      · rw [em.1, List.map_map]
        refine (hne _ H.n2).trans (H.k.trans ?_)
        rw [show es.map ((fun e => tbP e.t) ∘ jIn te) = es.map (fun e => tbP e.t) from List.map_congr_left fun e _ => by show tbP _ = tbP _; rw [(jIn_t te e).1]]
      · rw [em.1, List.map_map]
        refine (hne _ H.n3).trans (H.d.trans ?_)
        rw [show es.map ((fun e => PV.ref e.a) ∘ jIn te) = es.map (fun e => PV.ref e.a) from List.map_congr_left fun e _ => by show PV.ref _ = PV.ref _; rw [(jIn_t te e).2]]
      · obtain ⟨x1, h1, rfl⟩ := List.mem_map.mp hx
        rw [(jIn_t te x1).2]
        by_cases hn : x1.t.name = te.t
        · have : x1 = e := jt_one H.nk h1 he (by rw [hn, en])
          subst this
          rw [up_same]
          unfold jIn
          rw [if_pos hn, List.map_append]; rfl
        · have ne : x1.a ≠ e.a := fun z => by
            obtain ⟨ds, r, rfl⟩ := List.append_of_mem he
            obtain ⟨m1, m2⟩ := nd_anyS H.na
            rcases List.mem_append.mp h1 with w | w
            · exact m1 (by rw [← z]; exact List.mem_map_of_mem w)
            · rcases List.mem_cons.mp w with w | w
              · rw [w] at hn; exact hn en
              · exact m2 (by rw [← z]; exact List.mem_map_of_mem w)
          rw [up_ne ne, H.r x1 h1]
          unfold jIn
          rw [if_neg hn]
    · show nds _ = true
      rw [show e.rs.map rowV ++ [rowV te.r] = (e.rs ++ [te.r]).map rowV by rw [List.map_append]; rfl]
      exact nds_map (f := rowV) fun r _ => nd_rowV r
  · rw [decide_eq_false hw]
    have js : jStep es te = es := if_neg hw
    simp only [Bool.false_eq_true, if_false, mNx]
    subst hP
    simp only [mRet, mVar, gt]
    exact q h (by rw [js]; exact H) g fun _ _ => rfl
/-! ### made of a plan; all are judged -/
theorem dc_tbs {τ : PSt} {h : PH} {Q : List Key → List PV → PH → Prop} (t1 : ∀ v, gt (st τ 2 (some v)) 2 = some v) : ∀ (r ds : List Tb), ((ds ++ r).map Tb.name).Nodup → Q ((ds ++ r).map fun t => (.inr t.name : Key)) ((ds ++ r).map tbP) h →
    dcL (fun _ => True) τ (gN 2) mYes (mB N3.rIx (mVar 2) (mC (.int 0))) (mVar 2) (r.map tbP) (ds.map fun t => (.inr t.name : Key)) (ds.map tbP) h Q
  | [], ds, _, q => ⟨trivial, by simpa using q⟩
  | e :: r, ds, nd, q => by
    refine ⟨trivial, ?_⟩
    have i0 : ∀ a b c d e f : PV, atI [a, b, c, d, e, f] 0 = some a := fun _ _ _ _ _ _ => rfl
    simp only [gN, mYes, mB, mVar, mC, t1, N3.rIx, tbP, i0, kOf, if_true]
    have h1 : (Sum.inr e.name : Key) ∉ ds.map fun t => (.inr t.name : Key) := fun hx => by
      obtain ⟨y, hy, z⟩ := List.mem_map.mp hx
      injection z with z
      exact (nd_anyS nd).1 (by rw [← z]; exact List.mem_map_of_mem hy)
    have e1 : pk (ds.map fun t => (.inr t.name : Key)) (Sum.inr e.name) = (ds.map fun t => (.inr t.name : Key)) ++ [.inr e.name] := pk_new (K := fun t : Tb => (.inr t.name : Key)) h1
    have e2 : ∀ v, pvs (ds.map fun t => (.inr t.name : Key)) (ds.map tbP) (Sum.inr e.name) v = ds.map tbP ++ [v] := fun v => pvs_new (K := fun t : Tb => (.inr t.name : Key)) h1
    rw [e1, e2]
    have := dc_tbs (τ := τ) (h := h) (Q := Q) t1 r (ds ++ [e]) (by rw [List.append_assoc]; exact nd) (by rw [List.append_assoc]; exact q)
    rw [List.map_append, List.map_append] at this
    exact this
theorem dc_rows {τ : PSt} {h0 : PH} {Q : List Key → List PV → PH → Prop} (t1 : ∀ v, gt (st τ 2 (some v)) 2 = some v) : ∀ (r : List Tb) (es : List Jt) (h : PH), ((es.map Jt.t ++ r).map Tb.name).Nodup → (es.map Jt.a).Nodup → (∀ e ∈ es, e.rs = [] ∧ h e.a = some (.lst []) ∧ h0 e.a = none) → (∀ x, h0 x ≠ none → h x = h0 x) → (∀ x, h x ≠ none → h0 x ≠ none ∨ x ∈ es.map Jt.a) → Gd h →
    (∀ (es' : List Jt) h', es'.map Jt.t = es.map Jt.t ++ r → (es'.map Jt.a).Nodup → (∀ e ∈ es', e.rs = [] ∧ h' e.a = some (.lst []) ∧ h0 e.a = none) → (∀ x, h0 x ≠ none → h' x = h0 x) → Gd h' → Q (es'.map jk) (es'.map fun e => .ref e.a) h') →
    dcL (fun _ => True) τ (gN 2) mYes (mB N3.rIx (mVar 2) (mC (.int 0))) (mLstM mNil) (r.map tbP) (es.map jk) (es.map fun e => .ref e.a) h Q
  | [], es, h, nd, na, he, ho, hn, g, q => ⟨trivial, q es h (by simp) na he ho g⟩
  | t :: r, es, h, nd, na, he, ho, hn, g, q => by
    refine ⟨trivial, ?_⟩
    have i0 : ∀ a b c d e f : PV, atI [a, b, c, d, e, f] 0 = some a := fun _ _ _ _ _ _ => rfl
    simp only [gN, mYes, mB, mVar, mC, t1, N3.rIx, tbP, i0, kOf, if_true, mLstM, mNil]
    intro b hb
    have h1 : (Sum.inr t.name : Key) ∉ es.map jk := fun hx => by
      obtain ⟨y, hy, z⟩ := List.mem_map.mp hx
      unfold jk at z
      injection z with z
      exact (nd_anyS nd).1 (by rw [← z, List.map_map]; exact List.mem_map_of_mem hy)
    have nb : b ∉ es.map Jt.a := fun z => by
      obtain ⟨y, hy, w⟩ := List.mem_map.mp z
      have := (he y hy).2.1
      rw [w, hb] at this; cases this
    have b0 : h0 b = none := Classical.byContradiction fun z => z (by rw [← ho b z]; exact hb)
    have e1 : pk (es.map jk) (Sum.inr t.name) = es.map jk ++ [.inr t.name] := pk_new (K := jk) h1
    have e2 : ∀ v, pvs (es.map jk) (es.map fun e => .ref e.a) (Sum.inr t.name) v = (es.map fun e => .ref e.a) ++ [v] := fun v => pvs_new (K := jk) h1
    rw [e1, e2]
    have key := dc_rows (τ := τ) (h0 := h0) (Q := Q) t1 r (es ++ [⟨t, b, []⟩]) (N3.up h b (.lst [])) (by rw [show (es ++ [(⟨t, b, []⟩ : Jt)]).map Jt.t = es.map Jt.t ++ [t] by rw [List.map_append]; rfl, List.append_assoc]; exact nd) (by
      rw [List.map_append]
      exact List.nodup_append.mpr ⟨na, by simp, fun x hx y hy => by
        have hy : y ∈ [b] := hy
        rw [List.mem_singleton] at hy
        exact fun z => nb (by rw [← hy, ← z]; exact hx)⟩) (fun e hee => ?_) (fun x hx => ?_) (fun x hx => ?_) (g.up rfl (fun _ _ e => by cases e)) (fun es' h' a1 a2 a3 a4 a5 => q es' h' (by rw [a1, List.map_append, List.append_assoc]; rfl) a2 a3 a4 a5)
    · rw [List.map_append, List.map_append] at key
      exact key
    · rcases List.mem_append.mp hee with z | z
      · have := he e z
        refine ⟨this.1, ?_, this.2.2⟩
        rw [up_ne fun w => nb (by rw [← w]; exact List.mem_map_of_mem z)]; exact this.2.1
      · rw [List.mem_singleton] at z; subst z
        exact ⟨rfl, up_same, b0⟩
    · rw [up_ne fun z => hx (by rw [z]; exact b0)]; exact ho x hx
    · by_cases z : x = b
      · exact .inr (by rw [z, List.map_append]; simp)
      · rw [up_ne z] at hx
        rcases hn x hx with w | w
        · exact .inl w
        · exact .inr (by rw [List.map_append]; exact List.mem_append_left _ w)
abbrev jf1 : List Str := ["tables_known"]
theorem jN_1 : fN "tables_known" [] = jf1 := rfl
theorem jN_2 : fN "rows_taken" jf1 = jfn := by decide +kernel
theorem jV_2 {a v : PV} : fV "rows_taken" v jf1 [a] = [a, v] := by
  unfold fV; rw [if_neg (by decide +kernel)]; rfl
theorem nd_tbP (t : Tb) : nd (tbP t) = true := by
  have e1 : nds (t.keys.map plsP) = true := nds_map fun l _ => by
    show nds (l.map fun i : Nat => PV.int i) = true
    exact nds_map (f := fun i : Nat => PV.int i) fun _ _ => rfl
  have e2 : nds (t.leans.map leanP) = true := nds_map fun _ _ => rfl
  have e3 : nds (t.rooms.map roomP) = true := nds_map fun l _ => by
    show (nds (l.1.map fun i : Nat => PV.int i) && (true && true)) = true
    rw [nds_map (f := fun i : Nat => PV.int i) fun _ _ => rfl]; rfl
  have e4 : nd (mayP t.may) = true := by cases t.may <;> rfl
  show (true && (true && (nds _ && (nds _ && (nds _ && (nd (mayP t.may) && true)))))) = true
  rw [e1, e2, e3, e4]; rfl
def spJInit (C : Addr) : SpP := fun ps h Q => ∃ (a : Addr) (ts : List Tb) (vw : PV), ps = [.ref a, .tup [.tup (ts.map tbP), vw]] ∧ h a = some (.ins C [] []) ∧ Gd h ∧ (ts.map Tb.name).Nodup ∧
  ∀ I es h', I.j = a → JO C I es h' → Gd h' → es.map Jt.t = ts → (∀ e ∈ es, e.rs = []) → (∀ x ∈ jfp I es, x = a ∨ h x = none) → (∀ x, h x ≠ none → x ≠ a → h' x = h x) → Q .non h'
theorem pure_Judging_init {C : Addr} : ∀ qs h Q, qs.length = 2 → spJInit C qs h Q → m_Judging_init C (ends Q) (sp0 3 qs) h := by
  rintro _ h Q - ⟨a, ts, vw, rfl, ha, g, nd, q⟩
  unfold m_Judging_init
  have t0 : ∀ a b : PV, atI [a, b] 0 = some a := fun _ _ => rfl
  refine seq_step fun P hP => ?_
  simp only [mPutF, mDcM, mSeqs, mB, mVar, mC, gt, N3.sp0, N3.rIx, t0, N3.wp, N3.st]
  refine dc_tbs (fun _ => rfl) ts [] (by simpa using nd) ?_
  rw [List.nil_append]
  intro k hk
  have nk : k ≠ a := fun z => by rw [z, ha] at hk; cases hk
  rw [up_ne nk.symm, ha]
  simp only [true_and, jN_1]
  refine ⟨by decide, ?_⟩
  rw [show fV "tables_known" (PV.ref k) [] [] = [PV.ref k] from rfl, up_swap nk]
  have ga : Gd (N3.up h a (.ins C jf1 [.ref k])) := g.up rfl (fun _ _ e => by cases e)
  have G1 : Gd (N3.up (N3.up h a (.ins C jf1 [.ref k])) k (.dct (ts.map fun t => (.inr t.name : Key)) (ts.map tbP))) := ga.up (nds_map (f := tbP) fun t _ => nd_tbP t) (fun _ _ e => by cases e)
  have e1a : N3.up (N3.up h a (.ins C jf1 [.ref k])) k (.dct (ts.map fun t => (.inr t.name : Key)) (ts.map tbP)) a = some (.ins C jf1 [.ref k]) := by rw [up_ne nk.symm, up_same]
  have e1k : N3.up (N3.up h a (.ins C jf1 [.ref k])) k (.dct (ts.map fun t => (.inr t.name : Key)) (ts.map tbP)) k = some (.dct (ts.map fun t => (.inr t.name : Key)) (ts.map tbP)) := up_same
  have e1o : ∀ x, x ≠ a → x ≠ k → N3.up (N3.up h a (.ins C jf1 [.ref k])) k (.dct (ts.map fun t => (.inr t.name : Key)) (ts.map tbP)) x = h x := fun x x1 x2 => by rw [up_ne x2, up_ne x1]
  generalize N3.up (N3.up h a (.ins C jf1 [.ref k])) k (.dct (ts.map fun t => (.inr t.name : Key)) (ts.map tbP)) = h1 at G1 e1a e1k e1o
  subst hP
  simp only [mPutF, mDcM, mSeqs, mB, mVar, mC, gt, N3.rIx, t0, N3.wp, N3.st]
  refine dc_rows (h0 := h1) (fun _ => rfl) ts [] h1 (by simpa using nd) .nil (fun e he => by simp at he) (fun _ _ => rfl) (fun _ hx => .inl hx) G1 fun es h2 b1 b2 b3 b4 b5 => ?_
  rw [List.map_nil, List.nil_append] at b1
  intro d hd
  have d1 : h1 d = none := Classical.byContradiction fun z => z (by rw [← b4 d z]; exact hd)
  have nda : d ≠ a := fun z => by rw [z, e1a] at d1; cases d1
  have ndk : d ≠ k := fun z => by rw [z, e1k] at d1; cases d1
  have h2a : h2 a = some (.ins C jf1 [.ref k]) := (b4 a (by rw [e1a]; simp)).trans e1a
  have h2k : h2 k = some (.dct (ts.map fun t => (.inr t.name : Key)) (ts.map tbP)) := (b4 k (by rw [e1k]; simp)).trans e1k
  rw [up_ne nda.symm, h2a]
  simp only [true_and, jN_2, jV_2]
  refine ⟨by decide, ?_⟩
  have ka : ∀ x, h1 x = none → x ≠ a ∧ x ≠ k := fun x hx => ⟨fun z => (by rw [z, e1a] at hx; cases hx), fun z => (by rw [z, e1k] at hx; cases hx)⟩
  have esn : ∀ x ∈ es.map Jt.a, h1 x = none ∧ x ≠ d := fun x hx => by
    obtain ⟨e, he, rfl⟩ := List.mem_map.mp hx
    refine ⟨(b3 e he).2.2, fun z => ?_⟩
    have := (b3 e he).2.1
    rw [z, hd] at this; cases this
  have ej : es.map jk = ts.map fun t => (.inr t.name : Key) := by rw [← b1, List.map_map]; rfl
  refine q ⟨a, k, d⟩ es _ rfl ⟨?_, ?_, ?_, fun e he => ?_, ?_, b2, fun z => (ka _ (esn _ z).1).1 rfl, fun z => (ka _ (esn _ z).1).2 rfl, fun z => (esn _ z).2 rfl⟩ ?_ b1 (fun e he => (b3 e he).1) (fun x hx => ?_) (fun x x1 x2 => ?_)
  · exact up_same
  · show N3.up _ a _ k = _
    rw [up_ne nk, up_ne ndk.symm, h2k, ej, ← b1, List.map_map, List.map_map]; rfl
  · show N3.up _ a _ d = _
    rw [up_ne nda, up_same]
  · have := esn e.a (List.mem_map_of_mem he)
    rw [up_ne (ka _ this.1).1, up_ne this.2, (b3 e he).2.1, (b3 e he).1]; rfl
  · rw [ej]
    exact List.pairwise_map.mpr ((List.pairwise_map.mp nd).imp fun z w => z (Sum.inr.inj w))
  · exact (b5.up (o := .dct (es.map jk) (es.map fun e : Jt => PV.ref e.a)) (nds_map (f := fun e : Jt => PV.ref e.a) fun _ _ => rfl) (fun _ _ e => by cases e)).up rfl (fun _ _ e => by cases e)
  · simp only [jfp, List.mem_cons] at hx
    have back : h1 x = none → h x = none := fun z => by rw [← e1o x (ka x z).1 (ka x z).2]; exact z
    rcases hx with z | z | z | z
    · exact .inl z
    · exact .inr (by rw [z]; exact hk)
    · exact .inr (back (by rw [z]; exact d1))
    · exact .inr (back (esn x z).1)
  · have xk : x ≠ k := fun z => x1 (by rw [z]; exact hk)
    have h1x : h1 x = h x := e1o x x2 xk
    have xd : x ≠ d := fun z => x1 (by rw [← h1x, z]; exact d1)
    rw [up_ne x2, up_ne xd, b4 x (by rw [h1x]; exact x1), h1x]
def judgedL : List Jt → List Te → List (Te × Option Why)
  | _, [] => []
  | es, t :: ts => (t, whyOf es t) :: judgedL (jStep es t) ts
def jrP (x : Te × Option Why) : PV := .tup [teP x.1, whyP x.2]
def startJ (ts : List Tb) : List Jt := ts.map fun t => ⟨t, 0, []⟩
/-- where it lies is nothing to it -/
def sameJ (es fs : List Jt) : Prop := es.map (fun e => (e.t, e.rs)) = fs.map (fun e => (e.t, e.rs))
end Wneversaid_k09_judged_by_an_own_look

namespace Wneversaid_k09_judged_by_an_own_look
open PySem PySem.Spec PyProof.Rows L2 N3
/-! ### all tells, judged -/
def norm0 (e : Jt) : Jt := { e with a := 0 }
theorem there_norm (es : List Jt) (n : Str) (f : Nat) (w : Wo) : thereIn (es.map norm0) n f w = thereIn es n f w := by
  unfold thereIn; rw [List.any_map]; rfl
theorem whyE_norm (es : List Jt) (te : Te) (e : Jt) : whyE (es.map norm0) te (norm0 e) = whyE es te e := by
  have e1 : mayBad (es.map norm0) te (norm0 e) = mayBad es te e := by
    unfold mayBad
    rw [show (norm0 e).t = e.t from rfl]
    cases e.t.may with
    | none => rfl
    | some m => simp only [there_norm]
  have e2 : leanBad (es.map norm0) te.r = leanBad es te.r := by
    funext l
    unfold leanBad
    rw [there_norm]
  unfold whyE
  rw [e1, e2]; rfl
theorem whyOf_norm (es : List Jt) (te : Te) : whyOf (es.map norm0) te = whyOf es te := by
  unfold whyOf
  rw [List.find?_map]
  rw [show ((fun e : Jt => decide (e.t.name = te.t)) ∘ norm0) = fun e : Jt => decide (e.t.name = te.t) from rfl]
  cases es.find? (fun e => decide (e.t.name = te.t)) with
  | none => rfl
  | some e => exact whyE_norm es te e
theorem jStep_norm (es : List Jt) (te : Te) : (jStep es te).map norm0 = jStep (es.map norm0) te := by
  unfold jStep
  rw [whyOf_norm]
  split
  · rw [List.map_map, List.map_map]
    refine List.map_congr_left fun e _ => ?_
    show norm0 (jIn te e) = jIn te (norm0 e)
    unfold jIn
    by_cases h : e.t.name = te.t
    · rw [if_pos h, if_pos (show (norm0 e).t.name = te.t from h)]; rfl
    · rw [if_neg h, if_neg (show ¬ (norm0 e).t.name = te.t from h)]
  · rfl
def stateL (es : List Jt) (ts : List Te) : List Jt := ts.foldl jStep es
theorem judgedL_snoc : ∀ (es : List Jt) (ts : List Te) (t : Te), judgedL es (ts ++ [t]) = judgedL es ts ++ [(t, whyOf (stateL es ts) t)]
  | es, [], t => rfl
  | es, x :: ts, t => by
    show (x, whyOf es x) :: judgedL (jStep es x) (ts ++ [t]) = _
    rw [judgedL_snoc (jStep es x) ts t]; rfl
/-- what rules speak of is there -/
structure TOk (ts : List Tb) : Prop where
  nd : (ts.map Tb.name).Nodup
  wd : ∀ e ∈ ts, e.wide ≤ 100
  ks : ∀ e ∈ ts, e.keys.length ≤ 100 ∧ ∀ k ∈ e.keys, k.length ≤ 100 ∧ ∀ p ∈ k, p < e.wide
  ls : ∀ e ∈ ts, e.leans.length ≤ 100 ∧ ∀ l ∈ e.leans, l.1 < e.wide ∧ ∃ o ∈ ts, o.name = l.2.1 ∧ l.2.2 < o.wide
  ro : ∀ e ∈ ts, e.rooms.length ≤ 100 ∧ ∀ k ∈ e.rooms, k.1.length ≤ 100 ∧ ∀ p ∈ k.1, p < e.wide
  my : ∀ e ∈ ts, ∀ m, e.may = some m → ∃ o ∈ ts, o.name = m.1 ∧ m.2 < o.wide
theorem TOk.jok {ts : List Tb} (ok : TOk ts) {es : List Jt} (e1 : es.map Jt.t = ts) (e2 : ∀ e ∈ es, e.rs = []) : JOk es := by
  have m : ∀ e ∈ es, e.t ∈ ts := fun e he => by rw [← e1]; exact List.mem_map_of_mem he
  have back : ∀ o ∈ ts, ∃ e ∈ es, e.t = o := fun o ho => by
    rw [← e1] at ho
    obtain ⟨e, he, z⟩ := List.mem_map.mp ho
    exact ⟨e, he, z⟩
  refine ⟨fun e he r hr => ?_, fun e he => ?_, fun e he => ok.wd _ (m e he), fun e he => ok.ks _ (m e he), fun e he => ⟨(ok.ls _ (m e he)).1, fun l hl => ⟨((ok.ls _ (m e he)).2 l hl).1, ?_⟩⟩, fun e he => ok.ro _ (m e he), fun e he mm hm => ?_⟩
  · rw [e2 e he] at hr; simp at hr
  · rw [e2 e he]; simp
  · obtain ⟨o, ho, z⟩ := ((ok.ls _ (m e he)).2 l hl).2
    obtain ⟨e', he', rfl⟩ := back o ho
    exact ⟨e', he', z⟩
  · obtain ⟨o, ho, z⟩ := ok.my _ (m e he) mm hm
    obtain ⟨e', he', rfl⟩ := back o ho
    exact ⟨e', he', z⟩
def spJudged : SpP := fun ps h Q => ∃ (ts : List Tb) (vw : PV) (tells : List Te), ps = [.tup [.tup (ts.map tbP), vw], .tup (tells.map teP)] ∧ Gd h ∧ TOk ts ∧ tells.length ≤ 900 ∧ (∀ t ∈ tells, t.r.length ≤ 1000) ∧
  ∀ h', Gd h' → (∀ x, h x ≠ none → h' x = h x) → Q (.tup ((judgedL (startJ ts) tells).map jrP)) h'
theorem pure_judged {C : Addr} : ∀ qs h Q, qs.length = 2 → spJudged qs h Q → m_judged C (spJInit C) (spJudge C) (ends Q) (sp0 4 qs) h := by
  rintro _ h Q - ⟨ts, vw, tells, rfl, g, ok, tl, tr, q⟩
  unfold m_judged
  refine seq_step fun P hP => ?_
  simp only [mMake, N3.mDput, N3.mB, N3.mU, N3.mVar, N3.mC, N3.sp0, N3.gt, N3.st, N3.rIx, N3.seqL, N3.dctL, N3.kOf, N3.rAdd, N3.mAsg, N3.gN, N3.mIfS, N3.mTest, N3.mPop, N3.mAppend, N3.mDrop, N3.mRet, N3.mRetN, N3.mNx, N3.mBrk, N3.mCnt, N3.mLst, N3.mLstM, N3.mCons, N3.mNil, N3.mTup, N3.mBlt, N3.mKw, N3.cat2, N3.cat2r, N3.gS, N3.gL, N3.mSlM, N3.rSlM, N3.mM1, N3.mSl, N3.mRev, N3.mStep, N3.mRevM, N3.mPart, N3.mNoPart, N3.rII, N3.rII0, N3.rIB, N3.rCmp, N3.rLt, N3.rLe, N3.rGt, N3.rGe, N3.mIsI, N3.tn, N3.isI, N3.mDisp, N3.mDct0, N3.mDct0M, N3.mPar3, N3.mAug, N3.rIAdd, N3.mExtend, N3.mInsert, N3.mPopAt, N3.rMin2, N3.rMax2, N3.rIntT, N3.rSplit, N3.rSplitM, N3.rAddM, N3.gPut, N3.mFmt, N3.mJs, N3.mJoin, N3.rDictP, N3.mRepM, N3.rListA, N3.rSortA, N3.mLc2, N3.lcI, N3.lcO, N3.rAllB, N3.rAnyB, N3.rStrI, N3.rIntO, N3.vwL, N3.rMul, N3.rMulT, N3.rNeg, N3.rSub, N3.rDiv, N3.rMod, N3.rPow, N3.mPar, N3.mAndT, N3.mOrT, N3.mNotT, N3.mAnd, N3.mOr, N3.mOrV, N3.mAndV, N3.trv, N3.mNot, N3.mIf, N3.mChn, N3.mKeep, N3.mRep, N3.mDispM, N3.mPs, N3.ends, N3.rLen, N3.rListOf, N3.rListOfM, N3.rTupOf, N3.rSumI, N3.listed, N3.rSl, N3.rRev, N3.rEq, N3.rNe, N3.rIsN, N3.rNotN, N3.isNon, N3.vw, N3.mYes, N3.gT, N3.gsCons, N3.gsNil, N3.mFor, N3.mSeqs, N3.mLc, N3.mLcM, N3.mRng1, N3.mRng2, N3.mEnum, N3.mEnumA, N3.mZip, N3.wp, N3.rJoin, N3.rSS, N3.rIdxS, N3.rRepr, N3.flat, N3.flats, N3.toD, N3.toDs, List.length_cons, List.length_nil, List.append_eq, List.cons_append, List.nil_append, List.map_cons, List.map_nil, if_true, if_false, Bool.false_eq_true, decide_eq_true_eq, Option.some.injEq, true_and, and_true, Bool.not_true, Bool.not_false, reduceCtorEq, Bool.and_self, Bool.and_true, Bool.true_and, ite_true, ite_false]
  intro a ha
  refine ⟨a, ts, vw, rfl, up_same, g.up rfl (fun _ _ e => by cases e), ok.nd, fun I es0 h1 ja H1 G1 et er fr O1 => ⟨rfl, ?_⟩⟩
  have st0 : es0.map norm0 = startJ ts := by
    unfold startJ
    rw [← et, List.map_map]
    refine List.map_congr_left fun e he => ?_
    show norm0 e = ⟨e.t, 0, []⟩
    unfold norm0
    rw [er e he]
  have jok0 := ok.jok et er
  have fr0 : ∀ x ∈ jfp I es0, h x = none := fun x hx => by
    rcases fr x hx with z | z
    · rw [z]; exact ha
    · by_cases w : x = a
      · rw [w]; exact ha
      · rw [up_ne w] at z; exact z
  have O0 : ∀ x, h x ≠ none → h1 x = h x := fun x hx => by
    have : x ≠ a := fun z => hx (by rw [z]; exact ha)
    rw [O1 x (by rw [up_ne this]; exact hx) this, up_ne this]
  clear fr O1 et
  subst ja
  subst hP
  simp only [mRet, mBlt, mCons, mNil, mLc, mSeqs, mVar, gt, N3.wp, N3.st]
  refine lcL_of (W := fun ps acc h' => ∃ ds r es, tells = ds ++ r ∧ ps = r.map teP ∧ acc = (judgedL (startJ ts) ds).map jrP ∧ es.map norm0 = stateL (startJ ts) ds ∧ es.map Jt.a = es0.map Jt.a ∧ JO C I es h' ∧ JOk es ∧ Gd h' ∧ (∀ e ∈ es, e.rs.length ≤ ds.length) ∧ ∀ x, h x ≠ none → h' x = h x) ?_ ?_ _ _ _
    ⟨[], tells, es0, rfl, rfl, rfl, st0, rfl, H1, jok0, G1, (fun e he => by rw [er e he]; simp), O0⟩
  · rintro p ps acc h' ⟨ds, r, es, et, ee, rfl, en, ea, H, jk_, G, ln, O⟩
    obtain ⟨t, r, rfl⟩ : ∃ t r', r = t :: r' := by
      cases r with
      | nil => cases ee
      | cons t r => exact ⟨t, r, rfl⟩
    obtain ⟨rfl, rfl⟩ := List.cons.inj ee
    refine ⟨trivial, fun P' hP' => ?_⟩
    have dl : ds.length < 900 := by rw [et, List.length_append, List.length_cons] at tl; omega
    simp only [gN, mYes, if_true, N3.st, mTup, mCons, mNil, mMeth, mVar, gt, H.o]
    refine ⟨trivial, no_judge, I, es, t, rfl, H, jk_, G, tr t (by rw [et]; simp), fun e he => by have := ln e he; omega, fun h2 H2 G2 O2 => ?_⟩
    refine hP' _ _ ⟨ds ++ [t], r, jStep es t, by rw [et, List.append_assoc]; rfl, rfl, ?_, ?_, ?_, H2, jStep_ok H.nk jk_ (fun e he => by have := ln e he; omega), G2, fun e he => by have := jStep_len ln e he; rw [List.length_append]; exact this, fun x hx => ?_⟩
    · rw [judgedL_snoc, List.map_append, ← en, whyOf_norm]; rfl
    · rw [jStep_norm, en]
      unfold stateL
      rw [List.foldl_append]; rfl
    · rw [(jStep_maps t es).2.1, ea]
    · rw [O2 x fun z => hx (fr0 x (by unfold jfp; rw [← ea]; simp only [List.mem_cons]; exact .inr (.inr (.inr z))))]
      exact O x hx
  · rintro acc h' ⟨ds, r, es, et, ee, rfl, en, ea, H, jk_, G, ln, O⟩
    refine ⟨trivial, ?_⟩
    have : r = [] := by
      cases r with
      | nil => rfl
      | cons k r => cases ee
    subst this
    rw [List.append_nil] at et
    subst et
    simp only [N3.rTupOf, listed, seqL]
    exact q h' G O
end Wneversaid_k09_judged_by_an_own_look

namespace Wneversaid_k09_judged_by_an_own_look
open PySem PySem.Spec PyProof.Rows L2 N3
/-! ### how rows rise -/
def wkP : Key → PV
  | .inl i => .tup [.int 0, .int i, .str ""]
  | .inr x => .tup [.int 1, .int 0, .str x]
def keyP (k : List Key) : PV := .tup (k.map wkP)
def rdK : PV → List Key
  | .tup ps => ps.filterMap kOf
  | _ => []
theorem rdK_row (k : List Key) : rdK (rowT k) = k := by
  show (k.map kP).filterMap kOf = k
  induction k with
  | nil => rfl
  | cons x k ih =>
    have e : kOf (kP x) = some x := by cases x <;> rfl
    rw [List.map_cons, List.filterMap_cons, e]
    show x :: (k.map kP).filterMap kOf = _
    rw [ih]
theorem rowT_inj {a b : List Key} (e : rowT a = rowT b) : a = b := by rw [← rdK_row a, e, rdK_row]
def spWk : SpP := fun ps h Q => ∃ k : Key, ps = [kP k] ∧ Q (wkP k) h
theorem pure_worth_key : ∀ qs h Q, qs.length = 1 → spWk qs h Q → m_worth_key (ends Q) (sp0 1 qs) h := by
  rintro _ h Q - ⟨k, rfl, q⟩
  unfold m_worth_key
  cases k with
  | inl i => simp only [N3.mDput, N3.mB, N3.mU, N3.mVar, N3.mC, N3.sp0, N3.gt, N3.st, N3.rIx, N3.seqL, N3.dctL, N3.kOf, N3.rAdd, N3.mAsg, N3.gN, N3.mIfS, N3.mTest, N3.mPop, N3.mAppend, N3.mDrop, N3.mRet, N3.mRetN, N3.mNx, N3.mBrk, N3.mCnt, N3.mLst, N3.mLstM, N3.mCons, N3.mNil, N3.mTup, N3.mBlt, N3.mKw, N3.cat2, N3.cat2r, N3.gS, N3.gL, N3.mSlM, N3.rSlM, N3.mM1, N3.mSl, N3.mRev, N3.mStep, N3.mRevM, N3.mPart, N3.mNoPart, N3.rII, N3.rII0, N3.rIB, N3.rCmp, N3.rLt, N3.rLe, N3.rGt, N3.rGe, N3.mIsI, N3.tn, N3.isI, N3.mDisp, N3.mDct0, N3.mDct0M, N3.mPar3, N3.mAug, N3.rIAdd, N3.mExtend, N3.mInsert, N3.mPopAt, N3.rMin2, N3.rMax2, N3.rIntT, N3.rSplit, N3.rSplitM, N3.rAddM, N3.gPut, N3.mFmt, N3.mJs, N3.mJoin, N3.rDictP, N3.mRepM, N3.rListA, N3.rSortA, N3.mLc2, N3.lcI, N3.lcO, N3.rAllB, N3.rAnyB, N3.rStrI, N3.rIntO, N3.vwL, N3.rMul, N3.rMulT, N3.rNeg, N3.rSub, N3.rDiv, N3.rMod, N3.rPow, N3.mPar, N3.mAndT, N3.mOrT, N3.mNotT, N3.mAnd, N3.mOr, N3.mOrV, N3.mAndV, N3.trv, N3.mNot, N3.mIf, N3.mChn, N3.mKeep, N3.mRep, N3.mDispM, N3.mPs, N3.ends, N3.rLen, N3.rListOf, N3.rListOfM, N3.rTupOf, N3.rSumI, N3.listed, N3.rSl, N3.rRev, N3.rEq, N3.rNe, N3.rIsN, N3.rNotN, N3.isNon, N3.vw, N3.mYes, N3.gT, N3.gsCons, N3.gsNil, N3.mFor, N3.mSeqs, N3.mLc, N3.mLcM, N3.mRng1, N3.mRng2, N3.mEnum, N3.mEnumA, N3.mZip, N3.wp, N3.rJoin, N3.rSS, N3.rIdxS, N3.rRepr, N3.flat, N3.flats, N3.toD, N3.toDs, List.length_cons, List.length_nil, List.append_eq, List.cons_append, List.nil_append, List.map_cons, List.map_nil, if_true, if_false, Bool.false_eq_true, decide_eq_true_eq, Option.some.injEq, true_and, and_true, Bool.not_true, Bool.not_false, reduceCtorEq, Bool.and_self, Bool.and_true, Bool.true_and, ite_true, ite_false, kP]; exact q
  | inr x => simp only [N3.mDput, N3.mB, N3.mU, N3.mVar, N3.mC, N3.sp0, N3.gt, N3.st, N3.rIx, N3.seqL, N3.dctL, N3.kOf, N3.rAdd, N3.mAsg, N3.gN, N3.mIfS, N3.mTest, N3.mPop, N3.mAppend, N3.mDrop, N3.mRet, N3.mRetN, N3.mNx, N3.mBrk, N3.mCnt, N3.mLst, N3.mLstM, N3.mCons, N3.mNil, N3.mTup, N3.mBlt, N3.mKw, N3.cat2, N3.cat2r, N3.gS, N3.gL, N3.mSlM, N3.rSlM, N3.mM1, N3.mSl, N3.mRev, N3.mStep, N3.mRevM, N3.mPart, N3.mNoPart, N3.rII, N3.rII0, N3.rIB, N3.rCmp, N3.rLt, N3.rLe, N3.rGt, N3.rGe, N3.mIsI, N3.tn, N3.isI, N3.mDisp, N3.mDct0, N3.mDct0M, N3.mPar3, N3.mAug, N3.rIAdd, N3.mExtend, N3.mInsert, N3.mPopAt, N3.rMin2, N3.rMax2, N3.rIntT, N3.rSplit, N3.rSplitM, N3.rAddM, N3.gPut, N3.mFmt, N3.mJs, N3.mJoin, N3.rDictP, N3.mRepM, N3.rListA, N3.rSortA, N3.mLc2, N3.lcI, N3.lcO, N3.rAllB, N3.rAnyB, N3.rStrI, N3.rIntO, N3.vwL, N3.rMul, N3.rMulT, N3.rNeg, N3.rSub, N3.rDiv, N3.rMod, N3.rPow, N3.mPar, N3.mAndT, N3.mOrT, N3.mNotT, N3.mAnd, N3.mOr, N3.mOrV, N3.mAndV, N3.trv, N3.mNot, N3.mIf, N3.mChn, N3.mKeep, N3.mRep, N3.mDispM, N3.mPs, N3.ends, N3.rLen, N3.rListOf, N3.rListOfM, N3.rTupOf, N3.rSumI, N3.listed, N3.rSl, N3.rRev, N3.rEq, N3.rNe, N3.rIsN, N3.rNotN, N3.isNon, N3.vw, N3.mYes, N3.gT, N3.gsCons, N3.gsNil, N3.mFor, N3.mSeqs, N3.mLc, N3.mLcM, N3.mRng1, N3.mRng2, N3.mEnum, N3.mEnumA, N3.mZip, N3.wp, N3.rJoin, N3.rSS, N3.rIdxS, N3.rRepr, N3.flat, N3.flats, N3.toD, N3.toDs, List.length_cons, List.length_nil, List.append_eq, List.cons_append, List.nil_append, List.map_cons, List.map_nil, if_true, if_false, Bool.false_eq_true, decide_eq_true_eq, Option.some.injEq, true_and, and_true, Bool.not_true, Bool.not_false, reduceCtorEq, Bool.and_self, Bool.and_true, Bool.true_and, ite_true, ite_false, kP]; exact q
def spKey : SpP := fun ps h Q => ∃ k : List Key, ps = [rowT k] ∧ Q (keyP k) h
theorem pure_key_of : ∀ qs h Q, qs.length = 1 → spKey qs h Q → m_key_of spWk (ends Q) (sp0 2 qs) h := by
  rintro _ h Q - ⟨k, rfl, q⟩
  unfold m_key_of
  simp only [mRet, mBlt, mLc, mSeqs, mCons, mNil, mVar, gt, N3.sp0, rowT, N3.wp]
  refine lcL_map (f := fun p => match kOf p with | some k => wkP k | none => p) trivial _ _ (fun p hp P z => ?_) ?_
  · obtain ⟨x, -, rfl⟩ := List.mem_map.mp hp
    have e : kOf (kP x) = some x := by cases x <;> rfl
    simp only [gN, N3.st, mYes, mBlt, mCons, mNil, mVar, gt, e] at z ⊢
    exact ⟨x, rfl, z⟩
  · have e : (k.map kP).map (fun p => match kOf p with | some k => wkP k | none => p) = k.map wkP := by
      rw [List.map_map]
      refine List.map_congr_left fun x _ => ?_
      cases x <;> rfl
    rw [List.nil_append, e]
    exact q
/-! the order -/
abbrev Tok2 := Int ⊕ List Nat
def tokW : Key → List Tok2
  | .inl i => [.inl 1, .inl 0, .inl 1, .inl i, .inl 1, .inr [], .inl 0]
  | .inr x => [.inl 1, .inl 1, .inl 1, .inl 0, .inl 1, .inr (cl x), .inl 0]
def rtoks : List Key → List Tok2
  | [] => [.inl 0]
  | k :: ks => .inl 1 :: (tokW k ++ rtoks ks)
theorem toks_wk (k : Key) : PySem.W.keyToks (toD (wkP k)) = tokW k := by cases k <;> rfl
theorem toks_row : ∀ k : List Key, PySem.W.keyToks (toD (keyP k)) = rtoks k := by
  intro k
  show PySem.W.keyToksAll (toDs (k.map wkP)) = _
  induction k with
  | nil => rfl
  | cons x k ih =>
    show Sum.inl 1 :: (PySem.W.keyToks (toD (wkP x)) ++ PySem.W.keyToksAll (toDs (k.map wkP))) = _
    rw [toks_wk, ih]; rfl
abbrev lxl (a b : List Tok2) : Bool := PyProof.Rows.lexLt PyProof.Rows.itemOrd a b
def rowLt (a b : List Key) : Bool := lxl (rtoks a) (rtoks b)
def wLt : Key → Key → Bool
  | .inl i, .inl j => decide (i < j)
  | .inl _, .inr _ => true
  | .inr _, .inl _ => false
  | .inr x, .inr y => decide (cl x < cl y)
theorem cl_inj {x y : Str} (e : cl x = cl y) : x = y := by rw [← S_cl x, e, S_cl]
theorem tok_lt {x y : Key} (h : x ≠ y) (l m : List Tok2) : lxl (tokW x ++ l) (tokW y ++ m) = wLt x y := by
  have ls := fun (p : Tok2) (a b : List Tok2) => PyProof.Rows.lex_self (O := PyProof.Rows.itemOrd) p a b
  cases x with
  | inl i =>
    cases y with
    | inl j =>
      have hn : i ≠ j := fun z => h (by rw [z])
      show lxl (.inl 1 :: .inl 0 :: .inl 1 :: .inl i :: _) (.inl 1 :: .inl 0 :: .inl 1 :: .inl j :: _) = _
      unfold lxl
      rw [ls, ls, ls, PyProof.Rows.lex_diff (O := PyProof.Rows.itemOrd) (fun z => hn (Sum.inl.inj z))]
      rfl
    | inr y =>
      show lxl (.inl 1 :: .inl 0 :: _) (.inl 1 :: .inl 1 :: _) = _
      unfold lxl
      rw [ls, PyProof.Rows.lex_diff (O := PyProof.Rows.itemOrd) (fun z => by cases z)]
      rfl
  | inr x =>
    cases y with
    | inl j =>
      show lxl (.inl 1 :: .inl 1 :: _) (.inl 1 :: .inl 0 :: _) = _
      unfold lxl
      rw [ls, PyProof.Rows.lex_diff (O := PyProof.Rows.itemOrd) (fun z => by cases z)]
      rfl
    | inr y =>
      have hn : cl x ≠ cl y := fun z => h (by rw [cl_inj z])
      show lxl (.inl 1 :: .inl 1 :: .inl 1 :: .inl 0 :: .inl 1 :: .inr (cl x) :: _) (.inl 1 :: .inl 1 :: .inl 1 :: .inl 0 :: .inl 1 :: .inr (cl y) :: _) = _
      unfold lxl
      rw [ls, ls, ls, ls, ls, PyProof.Rows.lex_diff (O := PyProof.Rows.itemOrd) (fun z => hn (Sum.inr.inj z))]
      rfl
theorem rowLt_cons {x y : Key} {a b : List Key} : rowLt (x :: a) (y :: b) = if x = y then rowLt a b else wLt x y := by
  show lxl (.inl 1 :: (tokW x ++ rtoks a)) (.inl 1 :: (tokW y ++ rtoks b)) = _
  unfold lxl
  rw [PyProof.Rows.lex_self (O := PyProof.Rows.itemOrd)]
  split
  · rename_i e
    subst e
    exact PySem.W.lex_pre (tokW x) (rtoks a) (rtoks b)
  · rename_i e
    exact tok_lt e _ _
theorem rowLt_nil {y : Key} {b : List Key} : rowLt [] (y :: b) = true := by
  show lxl (.inl 0 :: _) (.inl 1 :: _) = true
  unfold lxl
  rw [PyProof.Rows.lex_diff (O := PyProof.Rows.itemOrd) (fun z => by cases z)]
  rfl
theorem rowLt_nil2 {x : Key} {a : List Key} : rowLt (x :: a) [] = false := by
  show lxl (.inl 1 :: _) (.inl 0 :: _) = false
  unfold lxl
  rw [PyProof.Rows.lex_diff (O := PyProof.Rows.itemOrd) (fun z => by cases z)]
  rfl
theorem rowLt_irr (a : List Key) : rowLt a a = false := PyProof.Rows.lex_irrefl (O := PyProof.Rows.itemOrd) _
theorem rowLt_trans {a b c : List Key} (h1 : rowLt a b = true) (h2 : rowLt b c = true) : rowLt a c = true := PyProof.Rows.lex_trans (O := PyProof.Rows.itemOrd) _ _ _ h1 h2
theorem wLt_tot {x y : Key} (h1 : wLt x y = false) (h2 : wLt y x = false) : x = y := by
  cases x with
  | inl i =>
    cases y with
    | inl j =>
      have a := of_decide_eq_false (show decide (i < j) = false from h1)
      have b := of_decide_eq_false (show decide (j < i) = false from h2)
      rw [show i = j by omega]
    | inr y => cases h1
  | inr x =>
    cases y with
    | inl j => cases h2
    | inr y =>
      have a := of_decide_eq_false (show decide (cl x < cl y) = false from h1)
      have b := of_decide_eq_false (show decide (cl y < cl x) = false from h2)
      rw [cl_inj (List.le_antisymm (List.not_lt.mp b) (List.not_lt.mp a))]
theorem rowLt_tot : ∀ {a b : List Key}, rowLt a b = false → rowLt b a = false → a = b
  | [], [], _, _ => rfl
  | [], _ :: _, h, _ => by rw [rowLt_nil] at h; cases h
  | _ :: _, [], _, h => by rw [rowLt_nil] at h; cases h
  | x :: a, y :: b, h1, h2 => by
    rw [rowLt_cons] at h1 h2
    by_cases e : x = y
    · subst e
      rw [if_pos rfl] at h1 h2
      rw [rowLt_tot h1 h2]
    · rw [if_neg e] at h1
      rw [if_neg (fun z => e z.symm)] at h2
      exact absurd (wLt_tot h1 h2) e
/-- out is rows, each once, rising -/
structure Ris (rows out : List (List Key)) : Prop where
  up : out.Pairwise fun a b => rowLt a b = true
  mem : ∀ r, r ∈ out ↔ r ∈ rows
theorem ris_one : ∀ {a b : List (List Key)}, (a.Pairwise fun a b => rowLt a b = true) → (b.Pairwise fun a b => rowLt a b = true) → (∀ r, r ∈ a ↔ r ∈ b) → a = b
  | [], [], _, _, _ => rfl
  | [], y :: b, _, _, h => absurd ((h y).mpr List.mem_cons_self) (by simp)
  | x :: a, [], _, _, h => absurd ((h x).mp List.mem_cons_self) (by simp)
  | x :: a, y :: b, h1, h2, h => by
    have ir : ∀ {r : List Key}, ¬ rowLt r r = true := fun {r} z => by rw [rowLt_irr] at z; cases z
    obtain ⟨p1, q1⟩ := List.pairwise_cons.mp h1
    obtain ⟨p2, q2⟩ := List.pairwise_cons.mp h2
    have e : x = y := by
      rcases List.mem_cons.mp ((h x).mp List.mem_cons_self) with e | hx
      · exact e
      rcases List.mem_cons.mp ((h y).mpr List.mem_cons_self) with e | hy
      · exact e.symm
      · exact absurd (rowLt_trans (p1 y hy) (p2 x hx)) ir
    subst e
    rw [ris_one q1 q2 fun r => ⟨fun hr => ?_, fun hr => ?_⟩]
    · rcases List.mem_cons.mp ((h r).mp (List.mem_cons_of_mem _ hr)) with e | z
      · rw [e] at hr; exact absurd (p1 x hr) ir
      · exact z
    · rcases List.mem_cons.mp ((h r).mpr (List.mem_cons_of_mem _ hr)) with e | z
      · rw [e] at hr; exact absurd (p2 x hr) ir
      · exact z
theorem Ris.one {rows rows' a b : List (List Key)} (h1 : Ris rows a) (h2 : Ris rows' b) (h : ∀ r, r ∈ rows ↔ r ∈ rows') : a = b := ris_one h1.up h2.up fun r => by rw [h1.mem, h2.mem, h]
theorem ded_mem : ∀ (l acc : List (List Key)) (r : List Key), r ∈ dedA acc l ↔ r ∈ acc ∨ r ∈ l
  | [], acc, r => by simp [dedA]
  | k :: l, acc, r => by
    unfold dedA
    rw [ded_mem l, List.mem_cons]
    split
    · rename_i e
      have := hasR_iff.mp e
      constructor
      · rintro (z | z)
        · exact .inl z
        · exact .inr (.inr z)
      · rintro (z | z | z)
        · exact .inl z
        · rw [z]; exact .inl this
        · exact .inr z
    · rw [List.mem_append, List.mem_singleton]
      constructor
      · rintro ((z | z) | z)
        · exact .inl z
        · exact .inr (.inl z)
        · exact .inr (.inr z)
      · rintro (z | z | z)
        · exact .inl (.inl z)
        · exact .inl (.inr z)
        · exact .inr z
theorem ded_nd : ∀ (l acc : List (List Key)), acc.Nodup → (dedA acc l).Nodup
  | [], acc, h => h
  | k :: l, acc, h => by
    unfold dedA
    refine ded_nd l _ ?_
    split
    · exact h
    · rename_i e
      exact List.nodup_append.mpr ⟨h, by simp, fun x hx y hy z => e (hasR_iff.mpr (by rw [List.mem_singleton] at hy; rw [← hy, ← z]; exact hx))⟩
abbrev rle : PV → PV → Bool := PySem.W.dataLe false fun p => toD (keyP (rdK p))
theorem rle_row (a b : List Key) : rle (rowT a) (rowT b) = !rowLt b a := by
  show (!lxl (PySem.W.keyToks (toD (keyP (rdK (rowT b))))) (PySem.W.keyToks (toD (keyP (rdK (rowT a)))))) = _
  rw [rdK_row, rdK_row, toks_row, toks_row]; rfl
theorem perm_map_ex {α β : Type} {f : α → β} {l : List β} {es : List α} (p : l.Perm (es.map f)) : ∃ fs : List α, fs.Perm es ∧ l = fs.map f := by
  generalize e : es.map f = m at p
  induction p generalizing es with
  | nil => exact ⟨[], by rw [List.map_eq_nil_iff.mp e], rfl⟩
  | cons x _ ih =>
    cases es with
    | nil => cases e
    | cons a es =>
      obtain ⟨rfl, e2⟩ := List.cons.inj e
      obtain ⟨fs, p, rfl⟩ := ih e2
      exact ⟨a :: fs, p.cons a, rfl⟩
  | swap x y l =>
    match es, e with
    | a :: b :: es, e =>
      obtain ⟨rfl, e2⟩ := List.cons.inj e
      obtain ⟨rfl, rfl⟩ := List.cons.inj e2
      exact ⟨b :: a :: es, List.Perm.swap _ _ _, rfl⟩
  | trans _ _ ih1 ih2 =>
    obtain ⟨fs, p, e1⟩ := ih2 e
    obtain ⟨gs, p2, e2⟩ := ih1 e1.symm
    exact ⟨gs, p2.trans p, e2⟩
/-- sorted of rows, each once -/
theorem ris_sort (rows : List (List Key)) : ∃ out, ((ded rows).map rowT).mergeSort rle = out.map rowT ∧ Ris rows out := by
  obtain ⟨out, po, eo⟩ := perm_map_ex (List.mergeSort_perm ((ded rows).map rowT) rle)
  refine ⟨out, eo, ?_, fun r => ?_⟩
  · have s : (out.map rowT).Pairwise fun a b => rle a b = true := by
      rw [← eo]
      exact PySem.W.sort_pairwise (PySem.W.sortLe_total _ _ _) _
    rw [List.pairwise_map] at s
    have nd : out.Nodup := po.nodup_iff.mpr (ded_nd rows [] .nil)
    refine (s.and nd).imp fun {a b} h => ?_
    obtain ⟨h1, h2⟩ := h
    rw [rle_row] at h1
    cases z : rowLt a b with
    | true => rfl
    | false => exact absurd (rowLt_tot z (by simpa using h1)) h2
  · rw [po.mem_iff, ded_mem]; simp
theorem flat_wk (k : Key) : flat (wkP k) = true := by cases k <;> rfl
theorem flat_key (k : List Key) : flat (keyP k) = true := flats_of fun p hp => by
  obtain ⟨x, -, rfl⟩ := List.mem_map.mp hp
  exact flat_wk x
theorem al_wk (a b : Key) : PySem.W.alike (toD (wkP a)) (toD (wkP b)) = true := by cases a <;> cases b <;> rfl
theorem al_key : ∀ a b : List Key, PySem.W.alikeAll (toDs (a.map wkP)) (toDs (b.map wkP)) = true
  | [], b => by cases b <;> rfl
  | x :: a, [] => rfl
  | x :: a, y :: b => by
    show (PySem.W.alike (toD (wkP x)) (toD (wkP y)) && PySem.W.alikeAll (toDs (a.map wkP)) (toDs (b.map wkP))) = true
    rw [al_wk, al_key a b]; rfl
theorem dep_key : ∀ k : List Key, PyData.depthAll (toDs (k.map wkP)) ≤ 1
  | [] => Nat.zero_le _
  | x :: k => by
    show max (toD (wkP x)).depth (PyData.depthAll (toDs (k.map wkP))) ≤ 1
    exact Nat.max_le.mpr ⟨by cases x <;> exact Nat.le_refl _, dep_key k⟩
theorem srtb_keys {rows : List (List Key)} (h : ∀ r ∈ rows, r ≠ []) : Srtb ((rows.map rowT).map fun p => toD (keyP (rdK p))) := by
  have mem : ∀ {d : PyData}, d ∈ (rows.map rowT).map (fun p => toD (keyP (rdK p))) → ∃ r ∈ rows, d = .tuple (toDs (r.map wkP)) := fun {d} hd => by
    obtain ⟨p, hp, rfl⟩ := List.mem_map.mp hd
    obtain ⟨r, hr, rfl⟩ := List.mem_map.mp hp
    exact ⟨r, hr, by rw [rdK_row]; rfl⟩
  refine ⟨fun d hd e he => ?_, .inl fun d hd => ?_, fun d hd => ?_, fun d hd => ?_⟩
  · obtain ⟨a, -, rfl⟩ := mem hd
    obtain ⟨b, -, rfl⟩ := mem he
    exact al_key a b
  · obtain ⟨a, ha, rfl⟩ := mem hd
    cases a with
    | nil => exact absurd rfl (h [] ha)
    | cons x a => exact ⟨_, _, rfl⟩
  · obtain ⟨a, -, rfl⟩ := mem hd
    exact noDict (keyP a) (flat_key a)
  · obtain ⟨a, -, rfl⟩ := mem hd
    have := dep_key a
    show PyData.depthAll (toDs (a.map wkP)) + 1 ≤ 60
    omega
abbrev lamQ : Str := (("rising" : Str) ++ ".<locals>." ++ "<lambda>")
def spRise (T : Addr) : SpP := fun ps h Q => ∃ rows : List (List Key), ps = [.tup (rows.map rowT)] ∧ (∀ r ∈ rows, r ≠ []) ∧ h T = some (.tab lamQ) ∧ ∀ out, Ris rows out → Q (.tup (out.map rowT)) h
theorem pure_rising {T : Addr} : ∀ qs h Q, qs.length = 1 → spRise T qs h Q → m_rising T spKey (ends Q) (sp0 2 qs) h := by
  rintro _ h Q - ⟨rows, rfl, ne, hT, q⟩
  unfold m_rising
  simp only [mRet, mBlt, mCons, mNil, mSortLam, mDedL, mSeqs, mVar, gt, N3.sp0]
  refine ⟨trivial, rows, rfl, ?_⟩
  simp only [seqL]
  refine ⟨hT, fun p => keyP (rdK p), fun p hp => ?_, ?_, srtb_keys fun r hr => ne r (((ded_mem rows [] r).mp hr).resolve_left (by simp)), ?_⟩
  · obtain ⟨r, -, rfl⟩ := List.mem_map.mp hp
    exact ⟨r, rfl, by show keyP r = keyP (rdK (rowT r)); rw [rdK_row], rfl⟩
  · refine flats_of fun p hp => ?_
    obtain ⟨r, -, rfl⟩ := List.mem_map.mp hp
    exact flat_key _
  · obtain ⟨out, e, ro⟩ := ris_sort rows
    rw [show ((ded rows).map rowT).mergeSort (PySem.W.dataLe false fun p => toD (keyP (rdK p))) = out.map rowT from e]
    simp only [N3.rTupOf, listed, seqL]
    exact q out ro
/-! ### taken: the rows of a table, rising -/
def koW : Wo → Key
  | .int i => .inl i
  | .str x => .inr x
theorem kP_ko (w : Wo) : kP (koW w) = woP w := by cases w <;> rfl
theorem koW_inj {a b : Wo} (h : koW a = koW b) : a = b := by
  cases a <;> cases b <;> simp_all [koW]
theorem rowV_T (r : Row) : rowV r = rowT (r.map koW) := by
  show PV.tup (r.map woP) = PV.tup ((r.map koW).map kP)
  rw [List.map_map]
  congr 1
  exact List.map_congr_left fun w _ => (kP_ko w).symm
theorem kos_inj : ∀ {a b : Row}, a.map koW = b.map koW → a = b
  | [], [], _ => rfl
  | [], _ :: _, e => by cases e
  | _ :: _, [], e => by cases e
  | x :: a, y :: b, e => by
    obtain ⟨e1, e2⟩ := List.cons.inj e
    rw [koW_inj e1, kos_inj e2]
theorem nonW (y : Option Why) : N3.isNon (whyP y) = decide (y = none) := by
  cases y with
  | none => rfl
  | some w => cases w <;> rfl
theorem nd_whyP (y : Option Why) : nd (whyP y) = true := by
  cases y with
  | none => rfl
  | some w => cases w <;> rfl
theorem nd_jrP (x : Te × Option Why) : nd (jrP x) = true := by
  show (nd (teP x.1) && (nd (whyP x.2) && true)) = true
  rw [nd_whyP]
  show ((true && (true && (true && (nd (rowV x.1.r) && true)))) && (true && true)) = true
  rw [nd_rowV]; rfl
def won (n : Str) (x : Te × Option Why) : Bool := decide (x.2 = none) && decide (x.1.t = n)
def takenL (n : Str) (js : List (Te × Option Why)) : List Row := (js.filter (won n)).map fun x => x.1.r
theorem judged_mem : ∀ (ts : List Te) (es : List Jt), ∀ x ∈ judgedL es ts, x.1 ∈ ts
  | [], es, x, hx => by cases hx
  | t :: ts, es, x, hx => by
    rcases List.mem_cons.mp hx with rfl | z
    · exact List.mem_cons_self
    · exact List.mem_cons_of_mem _ (judged_mem ts _ x z)
def spTaken (T : Addr) : SpP := fun ps h Q => ∃ (ts : List Tb) (vw : PV) (tells : List Te) (n : Str), ps = [.tup [.tup (ts.map tbP), vw], .tup (tells.map teP), .str n] ∧ Gd h ∧ TOk ts ∧ tells.length ≤ 900 ∧ (∀ t ∈ tells, t.r.length ≤ 1000) ∧ (∀ t ∈ tells, t.r ≠ []) ∧ h T = some (.tab lamQ) ∧
  ∀ out h', Gd h' → (∀ x, h x ≠ none → h' x = h x) → Ris ((takenL n (judgedL (startJ ts) tells)).map fun r => r.map koW) out → Q (.tup (out.map rowT)) h'
theorem pure_taken {T : Addr} : ∀ qs h Q, qs.length = 3 → spTaken T qs h Q → m_taken (spRise T) spJudged (ends Q) (sp0 5 qs) h := by
  rintro _ h Q - ⟨ts, vw, tells, n, rfl, g, ok, tl, tr, te, hT, q⟩
  unfold m_taken
  simp only [mRet, mBlt, mLc, mSeqs, mCons, mNil, mVar, gt, N3.sp0, N3.wp]
  refine ⟨ts, vw, tells, rfl, g, ok, tl, tr, fun h' g' o' => ?_⟩
  simp only [seqL]
  have i2 : ∀ a b c d : PV, atI [a, b, c, d] 2 = some c := fun _ _ _ _ => rfl
  have i3 : ∀ a b c d : PV, atI [a, b, c, d] 3 = some d := fun _ _ _ _ => rfl
  refine lcT (enc := jrP) (won n) (fun x => rowV x.1.r) trivial _ _ (fun x hx P acc z => ?_) ?_
  · simp only [jrP, gT, gsCons, gsNil, gN, N3.st, true_and]
    refine ⟨rfl, ?_⟩
    simp only [mAndT, mTest, mB, mVar, mC, gt, N3.rIsN, nonW]
    unfold won at z
    by_cases c : x.2 = none
    · rw [decide_eq_true c] at z ⊢
      simp only [if_true, teP, N3.rIx, i2, i3, N3.rEq, N3.vw, toD, flat, eqv_sd, true_and]
      refine ⟨by simp [PyData.depth], ?_⟩
      simpa using z
    · rw [decide_eq_false c] at z ⊢
      simpa using z
  · rw [List.nil_append]
    simp only [N3.rTupOf, listed, seqL]
    have e : ((judgedL (startJ ts) tells).filter (won n)).map (fun x => rowV x.1.r) = ((takenL n (judgedL (startJ ts) tells)).map fun r => r.map koW).map rowT := by
      unfold takenL
      rw [List.map_map, List.map_map]
      exact List.map_congr_left fun x _ => rowV_T _
    rw [e]
    refine ⟨_, rfl, fun r hr => ?_, (o' T (by rw [hT]; simp)).trans hT, fun out ro => q out h' g' o' ro⟩
    obtain ⟨r', hr', rfl⟩ := List.mem_map.mp hr
    unfold takenL at hr'
    obtain ⟨x, hx, rfl⟩ := List.mem_map.mp hr'
    have := te x.1 (judged_mem _ _ x (List.mem_filter.mp hx).1)
    exact fun z => this (List.map_eq_nil_iff.mp z)
end Wneversaid_k09_judged_by_an_own_look

namespace Wneversaid_k09_judged_by_an_own_look
open PySem PySem.Spec PyProof.Rows L2 N3
/-! ### the deck, by its two objects -/
def DO (D : Dk) (n : Nat) (h : PH) : Prop := ∃ (xs : List Int) (gone : Int), xs.length ≤ 63 ∧ 0 ≤ gone ∧ gone ≤ n ∧ h D.d = some (.dct dkeys [.ref D.l, .int D.ev, .int gone]) ∧ h D.l = some (.lst (xs.map PV.int))
theorem nds_ints (xs : List Int) : nds (xs.map PV.int) = true := nds_map fun _ _ => rfl
theorem DO.at {D : Dk} {n : Nat} {h : PH} (d : DO D n h) : Dk.At { D with h0 := h } n h := by
  obtain ⟨xs, g, h1, h2, h3, e1, e2⟩ := d
  refine ⟨xs, g, h1, h2, h3, ?_⟩
  unfold Dk.hp
  dsimp only
  funext b
  unfold N3.up
  split
  · rename_i q; rw [q]; exact e2
  · split
    · rename_i q; rw [q]; exact e1
    · rfl
theorem DO.of {D : Dk} {n : Nat} {h : PH} (a : D.At n h) : DO D n h := by
  obtain ⟨xs, g, h1, h2, h3, rfl⟩ := a
  exact ⟨xs, g, h1, h2, h3, Dk.at_d, Dk.at_l⟩
theorem at_out {D : Dk} {n : Nat} {h : PH} (a : D.At n h) {x : Addr} (n1 : x ≠ D.d) (n2 : x ≠ D.l) : h x = D.h0 x := a.rd n1 n2
theorem at_gd {D : Dk} {n : Nat} {h : PH} (a : D.At n h) (g : Gd D.h0) : Gd h := by
  obtain ⟨xs, g', h1, h2, h3, rfl⟩ := a
  unfold Dk.hp
  exact (g.up rfl (fun _ _ e => by cases e)).up (nds_ints xs) (fun _ _ e => by cases e)
theorem draw_do {D : Dk} {n : Nat} {h : PH} {Q : PK} {many : Int} (d : DO D n h) (g : Gd h) (hn : n < 900000000) (h1 : 1 ≤ many) (h2 : many < 1073741824)
    (k : ∀ r h', 0 ≤ r → r < many → DO D (n + 1) h' → Gd h' → (∀ x, x ≠ D.d → x ≠ D.l → h' x = h x) → Q (.int r) h') : spDraw [.ref D.d, .int many] h Q :=
  draw_to (D := { D with h0 := h }) d.at hn h1 h2 fun r h' r0 r1 a => k r h' r0 r1 (by have := DO.of a; exact this) (at_gd a g) fun x n1 n2 => a.rd n1 n2
theorem pick_do {D : Dk} {n : Nat} {h : PH} {Q : PK} {xs : List PV} (d : DO D n h) (g : Gd h) (hn : n < 900000000) (h1 : xs ≠ []) (h2 : xs.length ≤ 100000)
    (k : ∀ v ∈ xs, ∀ h', DO D (n + 1) h' → Gd h' → (∀ x, x ≠ D.d → x ≠ D.l → h' x = h x) → Q v h') : spPick [.ref D.d, .lst xs] h Q :=
  pick_lst (D := { D with h0 := h }) d.at hn h1 h2 fun v hv h' a => k v hv h' (by have := DO.of a; exact this) (at_gd a g) fun x n1 n2 => a.rd n1 n2
theorem DO.mono {D : Dk} {n m : Nat} {h : PH} (d : DO D n h) (hm : n ≤ m) : DO D m h := by
  obtain ⟨xs, g, h1, h2, h3, e⟩ := d
  exact ⟨xs, g, h1, h2, by omega, e⟩
theorem DO.keep {D : Dk} {n : Nat} {h h' : PH} (d : DO D n h) (e1 : h' D.d = h D.d) (e2 : h' D.l = h D.l) : DO D n h' := by
  obtain ⟨xs, g, h1, h2, h3, e, f⟩ := d
  exact ⟨xs, g, h1, h2, h3, e1.trans e, e2.trans f⟩
theorem DO.ne {D : Dk} {n : Nat} {h : PH} {x : Addr} (d : DO D n h) (e : h x = none) : x ≠ D.d ∧ x ≠ D.l := by
  obtain ⟨xs, g, h1, h2, h3, e1, e2⟩ := d
  exact ⟨fun z => (by rw [z, e1] at e; cases e), fun z => (by rw [z, e2] at e; cases e)⟩
theorem DO.live {D : Dk} {n : Nat} {h : PH} (d : DO D n h) : h D.d ≠ none ∧ h D.l ≠ none := by
  obtain ⟨xs, g, h1, h2, h3, e1, e2⟩ := d
  exact ⟨by rw [e1]; simp, by rw [e2]; simp⟩
/-! ### names, drawn -/
theorem cut_nat {α : Type} (xs : List α) (i : Int) (h : 0 ≤ i) : cut xs none (some i) = xs.take i.toNat := by
  unfold N3.cut HT.sIx
  simp only [if_neg (show ¬ i < 0 by omega), Nat.sub_zero, List.drop_zero]
  rw [List.take_eq_take_iff]
  omega
theorem cut_up {α : Type} (xs : List α) (i : Int) (h : 0 ≤ i) : cut xs (some i) none = xs.drop i.toNat := by
  unfold N3.cut HT.sIx
  simp only [if_neg (show ¬ i < 0 by omega)]
  by_cases c : i.toNat ≤ xs.length
  · rw [Nat.min_eq_left (by omega)]
    exact List.take_of_length_le (by rw [List.length_drop]; omega)
  · rw [Nat.min_eq_right (by omega), List.drop_of_length_le (by omega), List.drop_of_length_le (by omega), List.take_nil]
abbrev abcT : Str := "abcdefghijklmnopqrstuvwxyz"
def abcL : List Nat := (List.range 26).map (97 + ·)
theorem cl_abc : cl abcT = abcL := by decide +kernel
def tn (f : Nat) : List Nat := abcL.drop f ++ abcL.take f
theorem tn_perm (f : Nat) : (tn f).Perm abcL := by
  unfold tn
  exact List.perm_append_comm.trans (by rw [List.take_append_drop])
theorem tn_len (f : Nat) : (tn f).length = 26 := by rw [(tn_perm f).length_eq]; decide
theorem tn_nd (f : Nat) : (tn f).Nodup := (tn_perm f).nodup_iff.mpr (by decide)
theorem tn_ok (f : Nat) : ∀ c ∈ tn f, 97 ≤ c ∧ c < 123 := fun c hc => by
  have := (tn_perm f).mem_iff.mp hc
  unfold abcL at this
  obtain ⟨i, hi, rfl⟩ := List.mem_map.mp this
  rw [List.mem_range] at hi
  omega
theorem tn_at {f i : Nat} (h : i < 26) : (tn f)[i]? = some ((tn f).getD i 0) := by
  rw [List.getD_eq_getElem?_getD, List.getElem?_eq_getElem (by rw [tn_len]; exact h)]; rfl
theorem tn_mem {f i : Nat} (h : i < 26) : (tn f).getD i 0 ∈ tn f := List.mem_of_getElem? (tn_at h)
theorem tn_inj {f i j : Nat} (hi : i < 26) (hj : j < 26) (e : (tn f).getD i 0 = (tn f).getD j 0) : i = j := by
  have h1 := tn_at (f := f) hi
  have h2 := tn_at (f := f) hj
  rw [e] at h1
  obtain ⟨l1, g1⟩ := List.getElem?_eq_some_iff.mp h1
  obtain ⟨l2, g2⟩ := List.getElem?_eq_some_iff.mp h2
  have pw := List.pairwise_iff_getElem.mp (tn_nd f)
  rcases Nat.lt_trichotomy i j with z | z | z
  · exact (pw i j l1 l2 z (g1.trans g2.symm)).elim
  · exact z
  · exact (pw j i l2 l1 z (g2.trans g1.symm)).elim
def nmK (way : Int) (f k : Nat) : List Nat := if way = 0 then [(tn f).getD k 0] else if way = 1 then List.replicate (1 + k % 6) ((tn f).getD (k / 6) 0) else ((tn f).take 8).drop 3 ++ [(tn f).getD k 0]
theorem nmK_inj {way : Int} {f i j : Nat} (hi : i < 12) (hj : j < 12) (e : nmK way f i = nmK way f j) : i = j := by
  unfold nmK at e
  split at e
  · exact tn_inj (by omega) (by omega) (List.cons.inj e).1
  · split at e
    · have l := congrArg List.length e
      rw [List.length_replicate, List.length_replicate] at l
      rw [Nat.add_comm 1 (i % 6), Nat.add_comm 1 (j % 6), List.replicate_succ, List.replicate_succ] at e
      have := tn_inj (f := f) (by omega) (by omega) (List.cons.inj e).1
      omega
    · exact tn_inj (by omega) (by omega) (List.cons.inj (List.append_cancel_left e)).1
theorem nmK_ok (way : Int) (f k : Nat) (hk : k < 12) : Tx 20 (nmK way f k) := by
  have t1 : ∀ i, i < 26 → (tn f).getD i 0 < 128 := fun i hi => by have := tn_ok f _ (tn_mem (f := f) hi); omega
  unfold nmK
  split
  · exact (Tx.one (t1 k (by omega))).mono (by decide)
  · split
    · refine ⟨fun c hc => ?_, by rw [List.length_replicate]; omega⟩
      rw [(List.mem_replicate.mp hc).2]; exact t1 _ (by omega)
    · refine ⟨fun c hc => ?_, ?_⟩
      · rcases List.mem_append.mp hc with z | z
        · have := tn_ok f c (List.mem_of_mem_take (List.mem_of_mem_drop z)); omega
        · rw [List.mem_singleton] at z; rw [z]; exact t1 k (by omega)
      · rw [List.length_append, List.length_drop, List.length_take]; show _ + 1 ≤ 20; omega
structure NsOk (ns : List Str) : Prop where
  n : ns.length = 10
  nd : ns.Nodup
  t : ∀ x ∈ ns, Tx 20 (cl x)
def nsOf (way : Int) (f : Nat) : List Str := (List.range 10).map fun k => S (nmK way f k)
theorem nsOf_ok (way : Int) (f : Nat) : NsOk (nsOf way f) := by
  unfold nsOf
  refine ⟨by rw [List.length_map, List.length_range], ?_, fun x hx => ?_⟩
  · refine List.pairwise_map.mpr (List.Pairwise.imp_of_mem (R := (· ≠ ·)) (fun {i i'} hi hi' ne z => ne ?_) List.nodup_range)
    rw [List.mem_range] at hi hi'
    exact nmK_inj (by omega) (by omega) (by have := congrArg cl z; rwa [cl_S, cl_S] at this)
  · obtain ⟨k, hk, rfl⟩ := List.mem_map.mp hx
    rw [cl_S]
    exact nmK_ok way f k (Nat.lt_trans (List.mem_range.mp hk) (by decide))
def spNames10 : SpP := fun ps h Q => ∃ (D : Dk) (n : Nat), ps = [.ref D.d, .int 10] ∧ DO D n h ∧ Gd h ∧ n < 700000000 ∧
  ∀ ns h', NsOk ns → DO D (n + 2) h' → Gd h' → (∀ x, x ≠ D.d → x ≠ D.l → h' x = h x) → Q (.lst (ns.map PV.str)) h'
theorem at_tn {f : Nat} {i : Int} {h : PH} {Q : PK} (h0 : 0 ≤ i) (h1 : i < 26) (q : Q (.str (S [(tn f).getD i.toNat 0])) h) : N3.rIx (.str (S (tn f))) (.int i) h Q := by
  refine ⟨by rw [S_length, tn_len]; decide, ?_⟩
  have e : atI (cl (S (tn f))) i = some ((tn f).getD i.toNat 0) := by
    rw [cl_S]
    unfold atI
    rw [show i = ((i.toNat : Nat) : Int) by omega, ixN_nat (by rw [tn_len]; omega)]
    exact tn_at (by omega)
  rw [e]; exact q
theorem pure_law_names : ∀ qs h Q, qs.length = 2 → spNames10 qs h Q → m_law_names spDraw (ends Q) (sp0 7 qs) h := by
  rintro _ h Q - ⟨D, n, rfl, d, g, hn, q⟩
  unfold m_law_names
  refine seq_step fun P hP => ?_
  simp only [mPar, mCons, mNil, mBlt, mVar, mC, gt, N3.sp0, N3.st]
  refine draw_do d g (by omega) (by decide) (by decide) fun way h1 w0 w1 d1 g1 o1 => ?_
  subst hP
  refine seq_step fun P hP => ?_
  simp only [mAsg, mCons, mNil, mBlt, mVar, mC, gt, gN, N3.st]
  refine draw_do d1 g1 (by omega) (by decide) (by decide) fun f h2 f0 f1 d2 g2 o2 => ?_
  have fin : ∀ v, v = PV.lst ((nsOf way f.toNat).map PV.str) → Q v h2 := by
    rintro v rfl
    exact q _ h2 (nsOf_ok way f.toNat) d2 g2 fun x x1 x2 => (o2 x x1 x2).trans (o1 x x1 x2)
  subst hP
  refine seq_step fun P hP => ?_
  simp only [mAsg, mB, mSl, mVar, mPart, mNoPart, gt, gN, N3.st, N3.rSl, N3.rAdd, cl_abc, cut_up _ f f0, cut_nat _ f f0, S_append, S_length]
  rw [show abcL.drop f.toNat ++ abcL.take f.toNat = tn f.toNat from rfl]
  refine ⟨by rw [cl_length, cl_abc]; decide, by rw [cl_length, cl_abc]; decide, ?_, ?_⟩
  · have := tn_len f.toNat
    unfold tn at this
    rw [List.length_append] at this
    rw [this]; decide
  subst hP
  refine seq_step fun P hP => ?_
  simp only [mIfS, mTest, mB, mVar, mC, gt, N3.rEq, vw, toD, flat, eqv_int, true_and]
  refine ⟨by simp [PyData.depth], ite2 (fun c => ?_) (fun c => ?_)⟩
  · have c : way = 0 := by simpa using c
    simp only [mRet, mSl, mBlt, mCons, mNil, mVar, mNoPart, mPart, gt, rListA, N3.rSl, seqL]
    refine ⟨by rw [S_length, tn_len]; decide, fin _ ?_⟩
    rw [cut_nat _ _ (by decide)]
    unfold nsOf ones
    rw [cl_S, List.map_map, ← List.map_take]
    congr 1
    have e1 : (tn f.toNat).take (10 : Int).toNat = (List.range 10).map fun k => (tn f.toNat).getD k 0 := by
      refine List.ext_getElem? fun i => ?_
      rw [List.getElem?_map, List.getElem?_take]
      by_cases hi : i < 10
      · rw [if_pos (by simpa using hi), List.getElem?_range hi, tn_at (by omega)]; rfl
      · rw [if_neg (by simpa using hi), List.getElem?_eq_none (by rw [List.length_range]; omega)]; rfl
    rw [e1, List.map_map]
    refine List.map_congr_left fun k _ => ?_
    show PV.str (S [(tn f.toNat).getD k 0]) = PV.str (S (nmK way f.toNat k))
    unfold nmK
    rw [if_pos c]
  · have c : way ≠ 0 := by simpa using c
    simp only [mNx]
    subst hP
    refine seq_step fun P hP => ?_
    simp only [mIfS, mTest, mB, mVar, mC, gt, N3.rEq, vw, toD, flat, eqv_int, true_and]
    refine ⟨by simp [PyData.depth], ite2 (fun c2 => ?_) (fun c2 => ?_)⟩
    · have c2 : way = 1 := by simpa using c2
      simp only [mRet, mLc, mRng1, mCons, mNil, mVar, gt, N3.wp, N3.st]
      refine ⟨⟨by decide, by decide⟩, ?_⟩
      unfold N3.rng
      refine lcM (enc := fun i : Nat => PV.int (0 + (i : Nat))) (f := fun i : Nat => PV.str (S (nmK way f.toNat i))) trivial _ _ (fun i hi P z => ?_) ?_
      · have hi : i < 10 := List.mem_range.mp hi
        simp only [gN, N3.st, mB, mVar, mC, gt, N3.rDiv, N3.rMod, N3.rAdd, N3.rMul, N3.rII]
        refine ⟨⟨by decide, by decide⟩, at_tn (by omega) (by omega) ?_⟩
        simp only []
        refine ⟨by decide, by omega, ?_, by omega, ?_⟩
        · rw [S_length]; show 1 * _ ≤ 16777216; omega
        · rw [cl_S, rep_one]
          unfold nmK at z
          rw [if_neg c, if_pos c2] at z
          rw [show (1 + (0 + (i : Int)) % 6).toNat = 1 + i % 6 by omega, show ((0 + (i : Int)) / 6).toNat = i / 6 by omega]
          exact z
      · rw [List.nil_append]
        refine fin _ ?_
        unfold nsOf
        rw [List.map_map]; rfl
    · have c2 : way ≠ 1 := by simpa using c2
      simp only [mNx]
      subst hP
      simp only [mRet, mLc, mRng1, mCons, mNil, mVar, gt, N3.wp, N3.st]
      refine ⟨⟨by decide, by decide⟩, ?_⟩
      unfold N3.rng
      refine lcM (enc := fun i : Nat => PV.int (0 + (i : Nat))) (f := fun i : Nat => PV.str (S (nmK way f.toNat i))) trivial _ _ (fun i hi P z => ?_) ?_
      · have hi : i < 10 := List.mem_range.mp hi
        simp only [gN, N3.st, mB, mSl, mVar, mPart, mC, gt, N3.rSl, cl_S]
        refine ⟨by rw [S_length, tn_len]; decide, at_tn (by omega) (by omega) ?_⟩
        have ec : cut (tn f.toNat) (some 3) (some 8) = ((tn f.toNat).take 8).drop 3 := by
          unfold N3.cut HT.sIx
          rw [tn_len]
          show ((tn f.toNat).drop 3).take 5 = _
          rw [List.drop_take]
        simp only [N3.rAdd, ec, S_append, S_length]
        refine ⟨by rw [List.length_drop, List.length_take]; show _ + 1 ≤ 16777216; omega, ?_⟩
        unfold nmK at z
        rw [if_neg c, if_neg c2] at z
        rw [show (0 + (i : Int)).toNat = i by omega]
        exact z
      · rw [List.nil_append]
        refine fin _ ?_
        unfold nsOf
        rw [List.map_map]; rfl
def nsA (ns : List Str) (i : Nat) : Str := ns.getD i ""
theorem nsA_at {ns : List Str} (ok : NsOk ns) {i : Nat} (h : i < 10) : ns[i]? = some (nsA ns i) := by
  unfold nsA
  rw [List.getD_eq_getElem?_getD, List.getElem?_eq_getElem (by rw [ok.n]; exact h)]; rfl
theorem nsA_mem {ns : List Str} (ok : NsOk ns) {i : Nat} (h : i < 10) : nsA ns i ∈ ns := List.mem_of_getElem? (nsA_at ok h)
theorem nsA_tx {ns : List Str} (ok : NsOk ns) {i : Nat} (h : i < 10) : Tx 20 (cl (nsA ns i)) := ok.t _ (nsA_mem ok h)
theorem ix_ns {ns : List Str} (ok : NsOk ns) {i : Int} {h : PH} {Q : PK} (h0 : 0 ≤ i) (h1 : i < 10) (q : Q (.str (nsA ns i.toNat)) h) : N3.rIx (.lst (ns.map PV.str)) (.int i) h Q := by
  have e : atI (ns.map PV.str) i = some (.str (nsA ns i.toNat)) := by
    unfold atI
    rw [show i = ((i.toNat : Nat) : Int) by omega, ixN_nat (by rw [List.length_map, ok.n]; omega)]
    show (ns.map PV.str)[i.toNat]? = _
    rw [List.getElem?_map, nsA_at ok (by omega)]; rfl
  simp only [N3.rIx, seqL, e]
  exact q
theorem cut_map {α : Type} (f : α → PV) (xs : List α) (lo hi : Option Int) : cut (xs.map f) lo hi = (cut xs lo hi).map f := by
  unfold N3.cut
  rw [List.length_map, List.map_take, List.map_drop]
theorem nd_teP (t : Te) : nd (teP t) = true := by
  show (true && (true && (true && (nd (rowV t.r) && true)))) = true
  rw [nd_rowV]; rfl
end Wneversaid_k09_judged_by_an_own_look

namespace Wneversaid_k09_judged_by_an_own_look
open PySem PySem.Spec PyProof.Rows L2 N3
/-! ### going along by number, with an answer amid -/
theorem rng_find {α : Type} {bad : α → Bool} {ret : Nat → PV} {g : MG} {b : MS} {D : PEnds} {h : PH} (xs : List α) (Z : PSt → Prop)
    (step : ∀ (i : Nat) (x : α) (τ : PSt) (P : PSt → PH → Prop), xs[i]? = some x → Z τ → (bad x = true → D.rt (ret i) h) → (bad x = false → ∀ τ', Z τ' → P τ' h) → g (.int (0 + (i : Nat))) τ h fun τ1 h1 => b { D with nx := P, ct := P, bk := D.nx } τ1 h1)
    (fin : match xs.findIdx? bad with | some k => D.rt (ret k) h | none => ∀ τ, Z τ → D.nx τ h) (τ : PSt) (z : Z τ) : forL (fun _ => True) g b D (rng 0 xs.length) τ h := by
  refine forL_of (W := fun ps τ h' => h' = h ∧ Z τ ∧ ∃ ds r, xs = ds ++ r ∧ ps = (List.range' ds.length r.length).map (fun i : Nat => PV.int (0 + (i : Nat))) ∧ ∀ x ∈ ds, bad x = false) ?_ ?_ _ _ _ ⟨rfl, z, [], xs, rfl, ?_, fun x hx => by simp at hx⟩
  · rintro p ps τ h' ⟨rfl, z, ds, r, er, ee, hd⟩
    obtain ⟨x, r, rfl⟩ : ∃ x r', r = x :: r' := by
      cases r with
      | nil => cases ee
      | cons x r => exact ⟨x, r, rfl⟩
    rw [List.length_cons, List.range'_succ, List.map_cons] at ee
    obtain ⟨rfl, rfl⟩ := List.cons.inj ee
    refine ⟨trivial, fun P hP => step ds.length x τ P (by rw [er]; simp) z (fun hb => ?_) fun hb τ' z' => hP _ _ ⟨rfl, z', ds ++ [x], r, by rw [er, List.append_assoc]; rfl, by rw [List.length_append]; rfl, fun y hy => ?_⟩⟩
    · have e : xs.findIdx? bad = some ds.length := by
        rw [er, List.findIdx?_append, List.findIdx?_eq_none_iff.mpr hd, List.findIdx?_cons, hb]; simp
      rw [e] at fin
      exact fin
    · rcases List.mem_append.mp hy with hy | hy
      · exact hd y hy
      · rw [List.mem_singleton] at hy; subst hy; exact hb
  · rintro τ h' ⟨rfl, z, ds, r, er, ee, hd⟩
    refine ⟨trivial, ?_⟩
    cases r with
    | cons x r => rw [List.length_cons, List.range'_succ] at ee; cases ee
    | nil =>
      rw [List.append_nil] at er
      subst er
      rw [List.findIdx?_eq_none_iff.mpr hd] at fin
      exact fin τ z
  · unfold rng
    rw [List.range_eq_range']; rfl
/-! ### what the law itself looks at -/
theorem eq_nil {xs : List PV} {h : PH} {Q : PK} (fl : flats xs = true) (dp : PyData.depthAll (toDs xs) ≤ 60) (q : Q (.bl xs.isEmpty) h) : N3.rEq (.lst xs) (.lst []) h Q := by
  refine ⟨fl, rfl, ?_, ?_⟩
  · show (PyData.list (toDs xs)).depth ≤ 64
    simp only [PyData.depth]; omega
  · have e : PyData.eqv (toD (vw h (.lst xs))) (toD (vw h (.lst []))) = xs.isEmpty := by
      show PyData.eqv (.list (toDs xs)) (.list (toDs [])) = _
      cases xs <;> simp [toDs, PyData.eqv, PyData.eqvAll]
    rw [e]; exact q
theorem ne_nil {xs : List PV} {h : PH} {Q : PK} (fl : flats xs = true) (dp : PyData.depthAll (toDs xs) ≤ 60) (q : Q (.bl (!xs.isEmpty)) h) : N3.rNe (.lst xs) (.lst []) h Q := by
  refine ⟨fl, rfl, ?_, ?_⟩
  · show (PyData.list (toDs xs)).depth ≤ 64
    simp only [PyData.depth]; omega
  · have e : PyData.eqv (toD (vw h (.lst xs))) (toD (vw h (.lst []))) = xs.isEmpty := by
      show PyData.eqv (.list (toDs xs)) (.list (toDs [])) = _
      cases xs <;> simp [toDs, PyData.eqv, PyData.eqvAll]
    rw [e]; exact q
theorem deps_of {xs : List PV} {n : Nat} (h : ∀ x ∈ xs, (toD x).depth ≤ n) : PyData.depthAll (toDs xs) ≤ n := by
  induction xs with
  | nil => simp [toDs, PyData.depthAll]
  | cons x xs ih =>
    have h1 := h x List.mem_cons_self
    have h2 := ih fun y m => h y (List.mem_cons_of_mem _ m)
    show max (toD x).depth (PyData.depthAll (toDs xs)) ≤ n
    omega
theorem empty_map {α β : Type} (f : α → β) (l : List α) : (l.map f).isEmpty = l.isEmpty := by cases l <;> rfl
theorem pick_alike {pl : List Nat} {r one : Row} : ((pl.filter fun p => !decide (r.getD p (.int 0) = one.getD p (.int 0))).isEmpty) = decide (pick_ pl one = pick_ pl r) := by
  induction pl with
  | nil => rfl
  | cons p pl ih =>
    have e : decide (pick_ (p :: pl) one = pick_ (p :: pl) r) = (decide (one.getD p (.int 0) = r.getD p (.int 0)) && decide (pick_ pl one = pick_ pl r)) := by
      unfold pick_
      rw [List.map_cons, List.map_cons]
      by_cases h1 : one.getD p (.int 0) = r.getD p (.int 0) <;> simp [h1]
    rw [e, ← ih, List.filter_cons]
    by_cases h1 : r.getD p (.int 0) = one.getD p (.int 0)
    · rw [decide_eq_true h1, decide_eq_true h1.symm]; rfl
    · rw [decide_eq_false h1, decide_eq_false fun z => h1 z.symm]; rfl
def spSame : SpP := fun ps h Q => ∃ (r one : Row) (pl : List Nat), ps = [rowV r, rowV one, plsP pl] ∧ (∀ p ∈ pl, p < r.length ∧ p < one.length) ∧ Q (.bl (decide (pick_ pl one = pick_ pl r))) h
theorem pure_law_same : ∀ qs h Q, qs.length = 3 → spSame qs h Q → m_law_same (ends Q) (sp0 4 qs) h := by
  rintro _ h Q - ⟨r, one, pl, rfl, ok, q⟩
  unfold m_law_same
  simp only [mRet, mB, mLc, mSeqs, mVar, gt, N3.sp0, plsP, N3.wp, N3.st, mLst, mNil]
  refine lcT (enc := fun i : Nat => PV.int i) (c := fun p => !decide (r.getD p (.int 0) = one.getD p (.int 0))) (f := fun i : Nat => PV.int i) trivial _ _ (fun p hp P acc z => ?_) ?_
  · simp only [gN, N3.st, mTest, mB, mVar, gt]
    refine at_row (getD_ok (ok p hp).1) (at_row (getD_ok (ok p hp).2) (ne_wo ?_))
    exact z
  · rw [List.nil_append]
    refine eq_nil (flats_of fun x hx => ?_) (deps_of fun x hx => ?_) ?_
    · obtain ⟨i, -, rfl⟩ := List.mem_map.mp hx; rfl
    · obtain ⟨i, -, rfl⟩ := List.mem_map.mp hx; simp [toD, PyData.depth]
    · rw [empty_map, pick_alike]; exact q
/-- the rows had in a table -/
def rowsIn (had : List Te) (n : Str) : List Row := (had.filter fun t => decide (t.t = n)).map Te.r
def esH (ts : List Tb) (had : List Te) : List Jt := ts.map fun t => ⟨t, 0, rowsIn had t.name⟩
def HadOk (ts : List Tb) (had : List Te) : Prop := ∀ t ∈ had, ∀ b ∈ ts, b.name = t.t → t.r.length = b.wide
theorem esH_names (ts : List Tb) (had : List Te) : (esH ts had).map jk = (ts.map Tb.name).map Sum.inr := by
  unfold esH
  rw [List.map_map, List.map_map]; rfl
theorem esH_nk {ts : List Tb} (nd : (ts.map Tb.name).Nodup) (had : List Te) : ((esH ts had).map jk).Nodup := by
  rw [esH_names]
  exact List.pairwise_map.mpr (nd.imp fun ne z => ne (Sum.inr.inj z))
theorem esH_mem {ts : List Tb} {b : Tb} (h : b ∈ ts) (had : List Te) : (⟨b, 0, rowsIn had b.name⟩ : Jt) ∈ esH ts had := List.mem_map.mpr ⟨b, h, rfl⟩
theorem esH_there {ts : List Tb} (nd : (ts.map Tb.name).Nodup) {had : List Te} {o : Tb} (ho : o ∈ ts) (f : Nat) (w : Wo) : thereIn (esH ts had) o.name f w = isThere (rowsIn had o.name) f w :=
  there_in (esH_nk nd had) (esH_mem ho had) f w
theorem esH_why {ts : List Tb} (nd : (ts.map Tb.name).Nodup) {had : List Te} {te : Te} {b : Tb} (hb : b ∈ ts) (e : b.name = te.t) : whyOf (esH ts had) te = whyE (esH ts had) te ⟨b, 0, rowsIn had b.name⟩ := by
  unfold whyOf
  have := jt_find (esH_nk nd had) (esH_mem hb had)
  rw [← e, show (fun x : Jt => decide (x.t.name = b.name)) = fun x : Jt => decide (x.t.name = (⟨b, 0, rowsIn had b.name⟩ : Jt).t.name) from rfl, this]
theorem esH_form {ts : List Tb} {had : List Te} {te : Te} (no : ∀ b ∈ ts, b.name ≠ te.t) : whyOf (esH ts had) te = some .form := by
  unfold whyOf
  rw [List.find?_eq_none.mpr fun x hx => ?_]
  obtain ⟨b, hb, rfl⟩ := List.mem_map.mp hx
  simpa using no b hb
theorem esH_step {ts : List Tb} {had : List Te} {te : Te} (h : whyOf (esH ts had) te = none) : jStep (esH ts had) te = esH ts (had ++ [te]) := by
  unfold jStep
  rw [if_pos h]
  unfold esH
  rw [List.map_map]
  refine List.map_congr_left fun b _ => ?_
  show jIn te ⟨b, 0, rowsIn had b.name⟩ = ⟨b, 0, rowsIn (had ++ [te]) b.name⟩
  unfold jIn rowsIn
  rw [List.filter_append, List.map_append]
  by_cases c : b.name = te.t
  · rw [if_pos c, List.filter_cons_of_pos (by simp [c])]; rfl
  · rw [if_neg c, List.filter_cons_of_neg (by simpa using fun z => c z.symm)]
    simp
theorem esH_same {ts : List Tb} {had : List Te} {te : Te} (h : ¬ whyOf (esH ts had) te = none) : jStep (esH ts had) te = esH ts had := by
  unfold jStep
  rw [if_neg h]
theorem had_next {ts : List Tb} (nd : (ts.map Tb.name).Nodup) {had : List Te} {te : Te} (ok : HadOk ts had) (h : whyOf (esH ts had) te = none) : HadOk ts (had ++ [te]) := by
  intro t ht b hb e
  rcases List.mem_append.mp ht with ht | ht
  · exact ok t ht b hb e
  · rw [List.mem_singleton] at ht
    subst ht
    rw [esH_why nd hb e] at h
    unfold whyE at h
    split at h
    · cases h
    · rename_i c
      exact Decidable.not_not.mp c
theorem rows_wide {ts : List Tb} {had : List Te} (ok : HadOk ts had) {b : Tb} (hb : b ∈ ts) : ∀ r ∈ rowsIn had b.name, r.length = b.wide := by
  intro r hr
  obtain ⟨t, ht, rfl⟩ := List.mem_map.mp hr
  obtain ⟨h1, h2⟩ := List.mem_filter.mp ht
  exact ok t h1 b hb (of_decide_eq_true h2).symm
theorem only_one {ts : List Tb} (nd : (ts.map Tb.name).Nodup) {b : Tb} (hb : b ∈ ts) : ts.filter (fun t => decide (t.name = b.name)) = [b] := by
  induction ts with
  | nil => cases hb
  | cons t ts ih =>
    rw [List.map_cons, List.nodup_cons] at nd
    have no : ∀ (c : Tb), c.name ∉ ts.map Tb.name → ts.filter (fun t => decide (t.name = c.name)) = [] := fun c hc => List.filter_eq_nil_iff.mpr fun x hx z => hc (by rw [← of_decide_eq_true z]; exact List.mem_map_of_mem hx)
    rcases List.mem_cons.mp hb with rfl | hb
    · rw [List.filter_cons_of_pos (by simp), no _ nd.1]
    · have : ¬ t.name = b.name := fun z => nd.1 (by rw [z]; exact List.mem_map_of_mem hb)
      rw [List.filter_cons_of_neg (by simpa using this), ih nd.2 hb]
def spHas : SpP := fun ps h Q => ∃ (u : Addr) (had : List Te) (n : Str) (f : Nat) (w : Wo), ps = [.ref u, .str n, .int f, woP w] ∧ h u = some (.lst (had.map teP)) ∧ (∀ r ∈ rowsIn had n, f < r.length) ∧ Q (.bl (isThere (rowsIn had n) f w)) h
theorem i2_te : ∀ a b c d : PV, atI [a, b, c, d] 2 = some c := fun _ _ _ _ => rfl
theorem i3_te : ∀ a b c d : PV, atI [a, b, c, d] 3 = some d := fun _ _ _ _ => rfl
theorem pure_law_has : ∀ qs h Q, qs.length = 4 → spHas qs h Q → m_law_has (ends Q) (sp0 5 qs) h := by
  rintro _ h Q - ⟨u, had, n, f, w, rfl, hu, ok, q⟩
  unfold m_law_has
  simp only [mRet, mB, mLc, mSeqs, mVar, gt, N3.sp0, seqL, hu, N3.wp, N3.st]
  refine lcT (enc := teP) (c := fun t => decide (t.t = n)) (f := fun t => woP (t.r.getD f (.int 0))) hu _ _ (fun t ht P acc z => ?_) ?_
  · simp only [gN, N3.st, mTest, mB, mVar, mC, gt, teP, N3.rIx, i2_te, i3_te, N3.rEq, vw, toD, flat, eqv_sd, true_and]
    refine ⟨by simp [PyData.depth], ?_⟩
    by_cases c : t.t = n
    · rw [decide_eq_true c] at z ⊢
      simp only [if_true] at z ⊢
      refine at_row (getD_ok (ok t.r ?_)) z
      exact List.mem_map_of_mem (List.mem_filter.mpr ⟨ht, decide_eq_true c⟩)
    · rw [decide_eq_false c] at z ⊢
      simpa using z
  · rw [List.nil_append]
    have e : (had.filter fun t => decide (t.t = n)).map (fun t => woP (t.r.getD f (.int 0))) = ((rowsIn had n).map fun r => r.getD f (.int 0)).map woP := by
      unfold rowsIn
      rw [List.map_map, List.map_map]; rfl
    rw [e]
    refine in_wos (neg := false) rfl (fun y z => by cases z) ?_
    rw [Bool.bne_false]; exact q
end Wneversaid_k09_judged_by_an_own_look

namespace Wneversaid_k09_judged_by_an_own_look
open PySem PySem.Spec PyProof.Rows L2 N3
/-! ### why a tell is refused, by the law's own look -/
theorem flats_tbs (ts : List Tb) : flats (ts.map tbP) = true := flats_of fun p hp => by
  obtain ⟨b, -, rfl⟩ := List.mem_map.mp hp
  have f1 : flats (b.keys.map plsP) = true := flats_of fun p hp => by
    obtain ⟨k, -, rfl⟩ := List.mem_map.mp hp
    exact flats_of fun x hx => by obtain ⟨i, -, rfl⟩ := List.mem_map.mp hx; rfl
  have f2 : flats (b.leans.map leanP) = true := flats_of fun p hp => by
    obtain ⟨k, -, rfl⟩ := List.mem_map.mp hp; rfl
  have f3 : flats (b.rooms.map roomP) = true := flats_of fun p hp => by
    obtain ⟨k, -, rfl⟩ := List.mem_map.mp hp
    show (flats (k.1.map fun i : Nat => PV.int i) && (true && true)) = true
    rw [flats_of fun x hx => by obtain ⟨i, -, rfl⟩ := List.mem_map.mp hx; rfl]; rfl
  have f4 : flat (mayP b.may) = true := by cases b.may <;> rfl
  show (true && (true && (flats (b.keys.map plsP) && (flats (b.leans.map leanP) && (flats (b.rooms.map roomP) && (flat (mayP b.may) && true)))))) = true
  rw [f1, f2, f3, f4]; rfl
theorem dep_pls (k : List Nat) : (toD (plsP k)).depth = 1 := by
  show (PyData.tuple (toDs (k.map fun i : Nat => PV.int i))).depth = 1
  have := deps_of (xs := k.map fun i : Nat => PV.int i) (n := 0) fun x hx => by
    obtain ⟨i, -, rfl⟩ := List.mem_map.mp hx
    simp [toD, PyData.depth]
  simp only [PyData.depth]; omega
theorem dep_tb (b : Tb) : (toD (tbP b)).depth ≤ 20 := by
  have d1 := deps_of (xs := b.keys.map plsP) (n := 1) fun x hx => by
    obtain ⟨k, -, rfl⟩ := List.mem_map.mp hx
    rw [dep_pls]; exact Nat.le_refl _
  have d2 := deps_of (xs := b.leans.map leanP) (n := 1) fun x hx => by
    obtain ⟨k, -, rfl⟩ := List.mem_map.mp hx
    simp [leanP, toD, toDs, PyData.depth, PyData.depthAll]
  have d3 := deps_of (xs := b.rooms.map roomP) (n := 2) fun x hx => by
    obtain ⟨k, -, rfl⟩ := List.mem_map.mp hx
    show (PyData.tuple [toD (plsP k.1), .int k.2]).depth ≤ 2
    have := dep_pls k.1
    simp only [PyData.depth, PyData.depthAll, this]; omega
  have d4 : (toD (mayP b.may)).depth ≤ 1 := by cases b.may <;> simp [mayP, toD, toDs, PyData.depth, PyData.depthAll]
  show (PyData.tuple [.str b.name, .int b.wide, .tuple (toDs (b.keys.map plsP)), .tuple (toDs (b.leans.map leanP)), .tuple (toDs (b.rooms.map roomP)), toD (mayP b.may)]).depth ≤ 20
  simp only [PyData.depth, PyData.depthAll]
  omega
theorem deps_tb (ts : List Tb) : PyData.depthAll (toDs (ts.map tbP)) ≤ 20 := deps_of fun x hx => by
  obtain ⟨b, -, rfl⟩ := List.mem_map.mp hx
  exact dep_tb b
/-- the same of one row, of those that are had -/
theorem alike_rows {u : Addr} {rs : List Row} {r : Row} {pl : List Nat} {wide : Nat} (hw : ∀ x ∈ rs, x.length = wide) (rw_ : r.length = wide) (hp : ∀ p ∈ pl, p < wide) {τ : PSt} {m : ME} {h : PH} {Q : List PV → PH → Prop} (h1 : ∀ v, gt (st τ 19 (some v)) 6 = some (rowV r)) (h2 : ∀ v, gt (st τ 19 (some v)) 19 = some v)
    (hm : ∀ v (P : PK), P (plsP pl) h → m (st τ 19 (some v)) h P) (q : Q ((rs.filter fun one => decide (pick_ pl one = pick_ pl r)).map rowV) h) :
    lcL (fun _ => True) τ (gN 19) (mTest (mBlt spSame (mCons (mVar 6) (mCons (mVar 19) (mCons m mNil))))) (mVar 19) (rs.map rowV) [] h Q := by
  refine lcT (enc := rowV) (c := fun one => decide (pick_ pl one = pick_ pl r)) (f := rowV) trivial _ _ (fun x hx P acc z => ?_) (by rw [List.nil_append]; exact q)
  simp only [gN, mTest, mBlt, mCons, mNil, mVar, h1, h2]
  refine hm _ _ ⟨r, x, pl, rfl, fun p hp' => ⟨by rw [rw_]; exact hp p hp', by rw [hw x hx]; exact hp p hp'⟩, ?_⟩
  exact z
def spOwn : SpP := fun ps h Q => ∃ (ts : List Tb) (vw : PV) (u : Addr) (had : List Te) (te : Te), ps = [.tup [.tup (ts.map tbP), vw], .ref u, teP te] ∧ h u = some (.lst (had.map teP)) ∧ TOk ts ∧ HadOk ts had ∧ te.r.length ≤ 1000 ∧ Q (whyP (whyOf (esH ts had) te)) h
theorem pure_law_why : ∀ qs h Q, qs.length = 3 → spOwn qs h Q → m_law_why spHas spSame (ends Q) (sp0 20 qs) h := by
  rintro _ h Q - ⟨ts, vw, u, had, te, rfl, hu, ok, ho, rl, q⟩
  unfold m_law_why
  refine seq_step fun P hP => ?_
  simp only [mAsg, mVar, gt, N3.sp0, teP, gT, gsCons, gsNil, gN, N3.st]
  refine ⟨rfl, trivial, ?_⟩
  subst hP
  refine seq_step fun P hP => ?_
  have i0 : ∀ a b : PV, atI [a, b] 0 = some a := fun _ _ => rfl
  have i1 : ∀ a b : PV, atI [a, b] 1 = some b := fun _ _ => rfl
  simp only [mAsg, mLc, mSeqs, mB, mVar, mC, gt, N3.rIx, i0, seqL, N3.wp, N3.st]
  have t0 : ∀ a b c d e f : PV, atI [a, b, c, d, e, f] 0 = some a := fun _ _ _ _ _ _ => rfl
  have t1 : ∀ a b c d e f : PV, atI [a, b, c, d, e, f] 1 = some b := fun _ _ _ _ _ _ => rfl
  refine lcT (enc := tbP) (c := fun t => decide (t.name = te.t)) (f := tbP) trivial _ _ (fun t ht P acc z => ?_) ?_
  · simp only [gN, N3.st, mTest, mB, mVar, mC, gt, tbP, N3.rIx, t0, N3.rEq, N3.vw, toD, flat, eqv_sd, true_and] at z ⊢
    exact ⟨by simp [PyData.depth], z⟩
  rw [List.nil_append]
  simp only [gN, N3.st]
  subst hP
  refine seq_step fun P hP => ?_
  simp only [mIfS, mOrT, mTest, mB, mVar, mLst, mNil, gt]
  refine eq_nil (flats_tbs _) (Nat.le_trans (deps_tb _) (by decide)) ?_
  rw [empty_map]
  by_cases hm : ∃ b ∈ ts, b.name = te.t
  · obtain ⟨b, hb, eb⟩ := hm
    rw [esH_why ok.nd hb eb] at q
    have one : ts.filter (fun t => decide (t.name = te.t)) = [b] := by rw [← eb]; exact only_one ok.nd hb
    rw [one]
    generalize hes : esH ts had = es at q
    have ix1 : ∀ a : PV, atI [a] 0 = some a := fun _ => rfl
    simp only [List.isEmpty_cons, Bool.false_eq_true, if_false, mB, mBlt, mCons, mNil, mVar, mC, gt, List.map_cons, List.map_nil, N3.rIx, seqL, ix1, tbP, t1, rowV, N3.rLen, List.length_map, N3.rNe, N3.vw, toD, flat, eqv_int, true_and]
    refine ⟨by simp [PyData.depth], ?_⟩
    unfold whyE at q
    dsimp only at q
    by_cases hw : ¬ te.r.length = b.wide
    · rw [if_pos hw] at q
      rw [decide_eq_false (by omega)]
      simp only [Bool.not_false, if_true, mRet, mTup, mCons, mNil, mC]
      exact q
    have hw : te.r.length = b.wide := Decidable.not_not.mp hw
    rw [if_neg (fun z => z hw)] at q
    rw [decide_eq_true (by omega)]
    simp only [Bool.not_true, Bool.false_eq_true, if_false, mNx]
    subst hP
    refine seq_step fun P hP => ?_
    simp only [mAsg, mB, mVar, mC, gt, N3.rIx, seqL, ix1, gT, gsCons, gsNil, gN, N3.st]
    refine ⟨rfl, trivial, ?_⟩
    subst hP
    refine seq_step fun P hP => ?_
    simp only [mAsg, mLc, mSeqs, mVar, gt, seqL, hu, N3.wp, N3.st]
    refine lcT (enc := teP) (c := fun t => decide (t.t = te.t)) (f := fun t => rowV t.r) hu _ _ (fun t ht P acc z => ?_) ?_
    · simp only [gN, N3.st, mTest, mB, mVar, mC, gt, teP, N3.rIx, i2_te, i3_te, N3.rEq, N3.vw, toD, flat, eqv_sd, true_and]
      exact ⟨by simp [PyData.depth], z⟩
    have er : ([] : List PV) ++ (had.filter fun t => decide (t.t = te.t)).map (fun t => rowV t.r) = (rowsIn had b.name).map rowV := by
      rw [List.nil_append]
      unfold rowsIn
      rw [List.map_map, eb]; rfl
    rw [er]
    simp only [gN, N3.st]
    have wd := rows_wide ho hb
    have thr : ∀ {o : Tb}, o ∈ ts → ∀ f w, thereIn es o.name f w = isThere (rowsIn had o.name) f w := fun ho f w => by rw [← hes]; exact esH_there ok.nd ho f w
    have mayE : ∀ e : Jt, e.t = b → mayBad es te e = mayBad es te ⟨b, 0, rowsIn had b.name⟩ := fun e he => by unfold mayBad; rw [he]
    generalize hrs : rowsIn had b.name = rs at q wd
    have wd' := wd
    subst hP
    refine seq_step fun P hP => ?_
    simp only [mIfS, mTest, mB, mVar, gt]
    refine in_rows (rs := rs) (p := .lst (rs.map rowV)) (neg := false) rfl ?_
    rw [Bool.bne_false]
    by_cases hin : te.r ∈ rs
    · rw [if_pos hin] at q
      rw [decide_eq_true hin]
      simp only [if_true, mRet, mTup, mCons, mNil, mC]
      exact q
    rw [if_neg hin] at q
    rw [decide_eq_false hin]
    simp only [Bool.false_eq_true, if_false, mNx]
    subst hP
    refine seq_step fun P hP => ?_
    have hasOk : ∀ {o : Tb} {f : Nat}, o ∈ ts → f < o.wide → ∀ r ∈ rowsIn had o.name, f < r.length := fun ho' hf r hr => by rw [rows_wide ho ho' r hr]; exact hf
    have rest : (mayBad es te ⟨b, 0, rs⟩ = false → P [some (.tup [.tup (ts.map tbP), vw]), some (.ref u), some (.tup [.int te.m, .str te.w, .str te.t, .tup (te.r.map woP)]), some (.int te.m), some (.str te.w), some (.str te.t), some (.tup (te.r.map woP)), some (.lst [.tup [.str b.name, .int b.wide, .tup (b.keys.map plsP), .tup (b.leans.map leanP), .tup (b.rooms.map roomP), mayP b.may]]), some (.str b.name), some (.int b.wide), some (.tup (b.keys.map plsP)), some (.tup (b.leans.map leanP)), some (.tup (b.rooms.map roomP)), some (mayP b.may), some (.lst (rs.map rowV)), none, none, none, none, none] h) := by
      intro hmy
      rw [if_neg (by rw [hmy]; decide)] at q
      subst hP
      refine seq_step fun P hP => ?_
      simp only [mFor, mRng1, mBlt, mCons, mNil, mVar, gt, N3.rLen, List.length_map]
      have lk1 := ok.ls b hb
      refine ⟨by omega, ?_⟩
      rw [show ((b.leans.length : Int)).toNat = b.leans.length from rfl]
      refine rng_find (bad := leanBad es te.r) (ret := fun k => .tup [.str "lean", .int k]) b.leans (fun τ => ∃ v15 v16 v17 v18, τ = [some (.tup [.tup (ts.map tbP), vw]), some (.ref u), some (.tup [.int te.m, .str te.w, .str te.t, .tup (te.r.map woP)]), some (.int te.m), some (.str te.w), some (.str te.t), some (.tup (te.r.map woP)), some (.lst [.tup [.str b.name, .int b.wide, .tup (b.keys.map plsP), .tup (b.leans.map leanP), .tup (b.rooms.map roomP), mayP b.may]]), some (.str b.name), some (.int b.wide), some (.tup (b.keys.map plsP)), some (.tup (b.leans.map leanP)), some (.tup (b.rooms.map roomP)), some (mayP b.may), some (.lst (rs.map rowV)), v15, v16, v17, v18, none]) ?_ ?_ _ ⟨none, none, none, none, rfl⟩
      · rintro i l τ P' hl ⟨v15, v16, v17, v18, rfl⟩ hbd hg
        obtain ⟨l1, o, ho', on, lo⟩ := lk1.2 l (List.mem_of_getElem? hl)
        have lr : l.1 < te.r.length := by omega
        have a1 : atI (te.r.map woP) (l.1 : Nat) = some (woP (te.r.getD l.1 (.int 0))) := at_wo lr
        have al : atI (b.leans.map leanP) (0 + (i : Nat)) = some (leanP l) := by
          unfold atI
          rw [Int.zero_add, ixN_nat (by rw [List.length_map]; exact (List.getElem?_eq_some_iff.mp hl).1)]
          show (b.leans.map leanP)[i]? = _
          rw [List.getElem?_map, hl]; rfl
        simp only [gN, N3.st]
        refine seq_step fun P2 hP2 => ?_
        simp only [mAsg, mB, mVar, gt, N3.rIx, seqL, al, leanP, gT, gsCons, gsNil, gN, N3.st]
        refine ⟨rfl, trivial, ?_⟩
        subst hP2
        simp only [mIfS, mAndT, mNotT, mTest, mB, mVar, mC, gt, N3.rIx, a1]
        refine ne_wo (b := .int 0) ?_
        by_cases z : te.r.getD l.1 (.int 0) = .int 0
        · rw [decide_eq_true z]
          simp only [Bool.not_true, Bool.false_eq_true, if_false, mNx]
          exact hg (by unfold leanBad; rw [decide_eq_false (fun y => y z)]; rfl) _ ⟨_, _, _, _, rfl⟩
        · rw [decide_eq_false z]
          simp only [Bool.not_false, if_true, mBlt, mVar, gt, mCons, mNil, mB, N3.rIx, a1]
          refine ⟨u, had, o.name, l.2.2, te.r.getD l.1 (.int 0), by rw [on], hu, hasOk ho' lo, ?_⟩
          have ebd : leanBad es te.r l = !isThere (rowsIn had o.name) l.2.2 (te.r.getD l.1 (.int 0)) := by
            unfold leanBad
            rw [decide_eq_true z, ← on, thr ho']; rfl
          cases ht : isThere (rowsIn had o.name) l.2.2 (te.r.getD l.1 (.int 0)) with
          | true =>
            rw [ht] at ebd
            simp only [Bool.not_true, Bool.false_eq_true, if_false, mNx]
            exact hg ebd _ ⟨_, _, _, _, rfl⟩
          | false =>
            rw [ht] at ebd
            simp only [Bool.not_false, if_true, mRet, mTup, mCons, mNil, mC, mVar, gt, Int.zero_add]
            exact hbd ebd
      · cases hf : b.leans.findIdx? (leanBad es te.r) with
        | some k => rw [hf] at q; exact q
        | none =>
          rw [hf] at q
          rintro τ ⟨v15, v16, v17, v18, rfl⟩
          subst hP
          dsimp only
          refine seq_step fun P hP => ?_
          simp only [mFor, mRng1, mBlt, mCons, mNil, mVar, gt, N3.rLen, List.length_map]
          have kk1 := ok.ks b hb
          refine ⟨by omega, ?_⟩
          rw [show ((b.keys.length : Int)).toNat = b.keys.length from rfl]
          refine rng_find (bad := fun ps => decide (0 < howMany rs ps te.r)) (ret := fun k => .tup [.str "key", .int k]) b.keys (fun τ => ∃ v15 v16 v17 v18, τ = [some (.tup [.tup (ts.map tbP), vw]), some (.ref u), some (.tup [.int te.m, .str te.w, .str te.t, .tup (te.r.map woP)]), some (.int te.m), some (.str te.w), some (.str te.t), some (.tup (te.r.map woP)), some (.lst [.tup [.str b.name, .int b.wide, .tup (b.keys.map plsP), .tup (b.leans.map leanP), .tup (b.rooms.map roomP), mayP b.may]]), some (.str b.name), some (.int b.wide), some (.tup (b.keys.map plsP)), some (.tup (b.leans.map leanP)), some (.tup (b.rooms.map roomP)), some (mayP b.may), some (.lst (rs.map rowV)), v15, v16, v17, v18, none]) ?_ ?_ _ ⟨_, _, _, _, rfl⟩
          · rintro i l τ P' hl ⟨v15, v16, v17, v18, rfl⟩ hbd hg
            have al : atI (b.keys.map plsP) (0 + (i : Nat)) = some (plsP l) := by
              unfold atI
              rw [Int.zero_add, ixN_nat (by rw [List.length_map]; exact (List.getElem?_eq_some_iff.mp hl).1)]
              show (b.keys.map plsP)[i]? = _
              rw [List.getElem?_map, hl]; rfl
            simp only [gN, N3.st, mIfS, mTest, mB, mLc, mSeqs, mVar, gt, seqL, N3.wp, mLst, mNil]
            refine alike_rows (u := u) (r := te.r) (pl := l) wd hw (kk1.2 l (List.mem_of_getElem? hl)).2 (fun _ => rfl) (fun _ => rfl) (fun v P z => ?_) ?_
            · simp only [mB, mVar, gt, N3.st, N3.rIx, seqL, al]; exact z
            · refine ne_nil (flats_of fun x hx => ?_) (Nat.le_trans (depth_rows _) (by decide)) ?_
              · obtain ⟨y, -, rfl⟩ := List.mem_map.mp hx; exact flat_rowV y
              rw [empty_map]
              have ec : (!(rs.filter fun one => decide (pick_ l one = pick_ l te.r)).isEmpty) = decide (0 < howMany rs l te.r) := by
                unfold howMany
                cases rs.filter fun one => decide (pick_ l one = pick_ l te.r) <;> simp
              rw [ec]
              by_cases z : 0 < howMany rs l te.r
              · rw [decide_eq_true z]
                simp only [if_true, mRet, mTup, mCons, mNil, mC, mVar, gt, Int.zero_add]
                exact hbd (decide_eq_true z)
              · rw [decide_eq_false z]
                simp only [Bool.false_eq_true, if_false, mNx]
                exact hg (decide_eq_false z) _ ⟨_, _, _, _, rfl⟩
          · cases hf2 : b.keys.findIdx? (fun ps => decide (0 < howMany rs ps te.r)) with
            | some k => rw [hf2] at q; exact q
            | none =>
              rw [hf2] at q
              rintro τ ⟨v15, v16, v17, v18, rfl⟩
              subst hP
              dsimp only
              refine seq_step fun P hP => ?_
              simp only [mFor, mRng1, mBlt, mCons, mNil, mVar, gt, N3.rLen, List.length_map]
              have rr1 := ok.ro b hb
              refine ⟨by omega, ?_⟩
              rw [show ((b.rooms.length : Int)).toNat = b.rooms.length from rfl]
              refine rng_find (bad := fun x => decide (x.2 ≤ howMany rs x.1 te.r)) (ret := fun k => .tup [.str "room", .int k]) b.rooms (fun τ => ∃ v15 v16 v17 v18, τ = [some (.tup [.tup (ts.map tbP), vw]), some (.ref u), some (.tup [.int te.m, .str te.w, .str te.t, .tup (te.r.map woP)]), some (.int te.m), some (.str te.w), some (.str te.t), some (.tup (te.r.map woP)), some (.lst [.tup [.str b.name, .int b.wide, .tup (b.keys.map plsP), .tup (b.leans.map leanP), .tup (b.rooms.map roomP), mayP b.may]]), some (.str b.name), some (.int b.wide), some (.tup (b.keys.map plsP)), some (.tup (b.leans.map leanP)), some (.tup (b.rooms.map roomP)), some (mayP b.may), some (.lst (rs.map rowV)), v15, v16, v17, v18, none]) ?_ ?_ _ ⟨_, _, _, _, rfl⟩
              · rintro i l τ P' hl ⟨v15, v16, v17, v18, rfl⟩ hbd hg
                have al : atI (b.rooms.map roomP) (0 + (i : Nat)) = some (roomP l) := by
                  unfold atI
                  rw [Int.zero_add, ixN_nat (by rw [List.length_map]; exact (List.getElem?_eq_some_iff.mp hl).1)]
                  show (b.rooms.map roomP)[i]? = _
                  rw [List.getElem?_map, hl]; rfl
                simp only [gN, N3.st, mIfS, mTest, mB, mLc, mSeqs, mBlt, mCons, mNil, mVar, gt, seqL, N3.wp]
                refine alike_rows (u := u) (r := te.r) (pl := l.1) wd hw (rr1.2 l (List.mem_of_getElem? hl)).2 (fun _ => rfl) (fun _ => rfl) (fun v P z => ?_) ?_
                · simp only [mB, mVar, mC, gt, N3.st, N3.rIx, seqL, al, roomP, i0]; exact z
                · simp only [N3.rLen, seqL, List.length_map, N3.rIx, al, roomP, i1, mC, N3.rGe, N3.rCmp]
                  refine ite2 (fun c => ?_) (fun c => ?_)
                  · have z : l.2 ≤ howMany rs l.1 te.r := by have := of_decide_eq_true c; unfold howMany; omega
                    simp only [mRet, mTup, mCons, mNil, mC, mVar, gt, Int.zero_add]
                    exact hbd (decide_eq_true z)
                  · have z : ¬ l.2 ≤ howMany rs l.1 te.r := fun y => c (decide_eq_true (by unfold howMany at y; omega))
                    simp only [mNx]
                    exact hg (decide_eq_false z) _ ⟨_, _, _, _, rfl⟩
              · cases hf3 : b.rooms.findIdx? (fun x => decide (x.2 ≤ howMany rs x.1 te.r)) with
                | some k => rw [hf3] at q; exact q
                | none =>
                  rw [hf3] at q
                  rintro τ ⟨v15, v16, v17, v18, rfl⟩
                  subst hP
                  simp only [mRet, mC]
                  exact q
    cases hmay : b.may with
    | none =>
      have mb : mayBad es te ⟨b, 0, rs⟩ = false := by unfold mayBad; dsimp only; rw [hmay]
      have := rest mb
      rw [hmay] at this
      simp only [mIfS, mAndT, mNotT, mTest, mB, mVar, mC, gt, mayP, N3.rNotN, N3.isNon, Bool.not_true, Bool.false_eq_true, if_false, mNx]
      exact this
    | some m =>
      obtain ⟨o, ho', on, mo⟩ := ok.my b hb m hmay
      have mb : mayBad es te ⟨b, 0, rs⟩ = (decide (te.m ≠ 0) && !isThere (rowsIn had o.name) m.2 (.str te.w)) := by
        unfold mayBad
        dsimp only
        rw [hmay]
        show (_ && !thereIn es m.1 m.2 (.str te.w)) = _
        rw [← on, thr ho']
      rw [hmay] at rest
      simp only [mIfS, mAndT, mNotT, mTest, mB, mVar, mC, gt, mayP, N3.rNotN, N3.isNon, Bool.not_false, if_true, N3.rGt, N3.rCmp]
      refine ite2 (fun c => ?_) (fun c => ?_)
      · have z : te.m ≠ 0 := by have := of_decide_eq_true c; omega
        simp only [if_true, mBlt, mVar, gt, mCons, mNil, mB, mC, N3.rIx, i0, i1]
        refine ⟨u, had, o.name, m.2, .str te.w, by rw [on]; rfl, hu, hasOk ho' mo, ?_⟩
        rw [decide_eq_true z, Bool.true_and] at mb
        cases ht : isThere (rowsIn had o.name) m.2 (.str te.w) with
        | true =>
          rw [ht] at mb
          simp only [Bool.not_true, Bool.false_eq_true, if_false, mNx]
          exact rest mb
        | false =>
          rw [ht] at mb
          rw [if_pos (by rw [mb]; rfl)] at q
          simp only [Bool.not_false, if_true, mRet, mTup, mCons, mNil, mC]
          exact q
      · have z : te.m = 0 := Decidable.byContradiction fun y => c (decide_eq_true (by omega))
        simp only [Bool.false_eq_true, if_false, mNx]
        exact rest (by rw [mb, decide_eq_false (fun y => y z)]; rfl)
  · have no : ∀ b ∈ ts, b.name ≠ te.t := fun b hb e => hm ⟨b, hb, e⟩
    rw [esH_form no] at q
    rw [List.filter_eq_nil_iff.mpr fun b hb => by simpa using no b hb]
    simp only [List.isEmpty_nil, if_true, mRet, mTup, mCons, mNil, mC]
    exact q
end Wneversaid_k09_judged_by_an_own_look

namespace Wneversaid_k09_judged_by_an_own_look
open PySem PySem.Spec PyProof.Rows L2 N3
/-! ### what is due, by the law's own look -/
def hadOf (js : List (Te × Option Why)) : List Te := (js.filter fun x => decide (x.2 = none)).map Prod.fst
theorem hadOf_snoc (es : List Jt) (ds : List Te) (t : Te) : hadOf (judgedL es (ds ++ [t])) = hadOf (judgedL es ds) ++ (if whyOf (stateL es ds) t = none then [t] else []) := by
  rw [judgedL_snoc]
  unfold hadOf
  rw [List.filter_append, List.map_append]
  by_cases c : whyOf (stateL es ds) t = none
  · rw [if_pos c, List.filter_cons_of_pos (by simpa using c)]; rfl
  · rw [if_neg c, List.filter_cons_of_neg (by simpa using c)]; rfl
theorem state_go {ts : List Tb} (nd : (ts.map Tb.name).Nodup) : ∀ (ds had : List Te), HadOk ts had → stateL (esH ts had) ds = esH ts (had ++ hadOf (judgedL (esH ts had) ds)) ∧ HadOk ts (had ++ hadOf (judgedL (esH ts had) ds))
  | [], had, h => by
    rw [show hadOf (judgedL (esH ts had) []) = [] from rfl, List.append_nil]
    exact ⟨rfl, h⟩
  | t :: ds, had, h => by
    show stateL (jStep (esH ts had) t) ds = esH ts (had ++ hadOf ((t, whyOf (esH ts had) t) :: judgedL (jStep (esH ts had) t) ds)) ∧ HadOk ts (had ++ hadOf ((t, whyOf (esH ts had) t) :: judgedL (jStep (esH ts had) t) ds))
    by_cases c : whyOf (esH ts had) t = none
    · have := state_go nd ds (had ++ [t]) (had_next nd h c)
      rw [esH_step c, show ∀ js, hadOf ((t, whyOf (esH ts had) t) :: js) = t :: hadOf js from fun js => by unfold hadOf; rw [List.filter_cons_of_pos (by simpa using c)]; rfl]
      rw [List.append_assoc] at this
      exact this
    · have := state_go nd ds had h
      rw [esH_same c, show ∀ js, hadOf ((t, whyOf (esH ts had) t) :: js) = hadOf js from fun js => by unfold hadOf; rw [List.filter_cons_of_neg (by simpa using c)]]
      exact this
theorem state_had {ts : List Tb} (nd : (ts.map Tb.name).Nodup) (ds : List Te) : stateL (startJ ts) ds = esH ts (hadOf (judgedL (startJ ts) ds)) ∧ HadOk ts (hadOf (judgedL (startJ ts) ds)) :=
  state_go nd ds [] fun t ht => (List.not_mem_nil ht).elim
theorem judgedL_len : ∀ (es : List Jt) (ts : List Te), (judgedL es ts).length = ts.length
  | _, [] => rfl
  | es, t :: ts => by
    show (judgedL _ ts).length + 1 = _
    rw [judgedL_len]; rfl
theorem had_sub {es : List Jt} {tells : List Te} : ∀ t ∈ hadOf (judgedL es tells), t ∈ tells := by
  intro t ht
  obtain ⟨x, hx, rfl⟩ := List.mem_map.mp ht
  exact judged_mem _ _ x (List.mem_filter.mp hx).1
theorem had_len {es : List Jt} {tells : List Te} : (hadOf (judgedL es tells)).length ≤ tells.length := by
  unfold hadOf
  rw [List.length_map]
  exact Nat.le_trans (List.length_filter_le _ _) (by rw [judgedL_len]; exact Nat.le_refl _)
theorem nds_tes (ts : List Te) : nds (ts.map teP) = true := nds_map fun t _ => by
  show (true && (true && (true && (nd (rowV t.r) && true)))) = true
  rw [nd_rowV]; rfl
theorem nds_jrs (js : List (Te × Option Why)) : nds (js.map jrP) = true := nds_map fun x _ => nd_jrP x
def spDue : SpP := fun ps h Q => ∃ (ts : List Tb) (vw : PV) (tells : List Te), ps = [.tup [.tup (ts.map tbP), vw], .tup (tells.map teP)] ∧ Gd h ∧ TOk ts ∧ tells.length ≤ 900 ∧ (∀ t ∈ tells, t.r.length ≤ 1000) ∧
  ∀ u h', Gd h' → (∀ x, h x ≠ none → h' x = h x) → h' u = some (.lst ((hadOf (judgedL (startJ ts) tells)).map teP)) → Q (.tup [.tup ((judgedL (startJ ts) tells).map jrP), .ref u]) h'
theorem pure_law_due : ∀ qs h Q, qs.length = 2 → spDue qs h Q → m_law_due spOwn (ends Q) (sp0 6 qs) h := by
  rintro _ h Q - ⟨ts, vw, tells, rfl, g, ok, tl, tr, q⟩
  unfold m_law_due
  refine seq_step fun P hP => ?_
  simp only [mPar, mLstM, mCons, mNil, N3.sp0, N3.st]
  intro v hv u hu
  have uv : u ≠ v := fun e => by rw [e, up_same] at hu; cases hu
  have hu0 : h u = none := by rw [up_ne uv] at hu; exact hu
  subst hP
  refine seq_step fun P hP => ?_
  simp only [mFor, mSeqs, mVar, gt, seqL]
  refine forL_of (W := fun ps τ h' => ∃ (ds r : List Te) (v4 v5 : Option PV), tells = ds ++ r ∧ ps = r.map teP ∧ h' v = some (.lst ((judgedL (startJ ts) ds).map jrP)) ∧ h' u = some (.lst ((hadOf (judgedL (startJ ts) ds)).map teP)) ∧ Gd h' ∧ (∀ x, h x ≠ none → h' x = h x) ∧
    τ = [some (.tup [.tup (ts.map tbP), vw]), some (.tup (tells.map teP)), some (.ref v), some (.ref u), v4, v5]) ?_ ?_ _ _ _
    ⟨[], tells, none, none, rfl, rfl, by rw [up_ne (fun e => uv e.symm)]; exact up_same, up_same, (g.up (o := .lst []) rfl (fun _ _ e => by cases e)).up (o := .lst []) rfl (fun _ _ e => by cases e), fun x hx => by
      rw [up_ne fun e => hx (by rw [e]; exact hu0), up_ne fun e => hx (by rw [e]; exact hv)], rfl⟩
  · rintro p ps τ h1 ⟨ds, r, v4, v5, et, ee, V1, U1, g1, o1, rfl⟩
    obtain ⟨t, r, rfl⟩ : ∃ t r', r = t :: r' := by
      cases r with
      | nil => cases ee
      | cons t r => exact ⟨t, r, rfl⟩
    rw [List.map_cons] at ee
    obtain ⟨rfl, rfl⟩ := List.cons.inj ee
    refine ⟨trivial, fun P' hP' => ?_⟩
    have dl : ds.length < 900 := by rw [et, List.length_append, List.length_cons] at tl; omega
    obtain ⟨s1, s2⟩ := state_had ok.nd ds
    have snoc := hadOf_snoc (startJ ts) ds t
    have jsnoc := judgedL_snoc (startJ ts) ds t
    rw [s1] at snoc jsnoc
    have hl := had_len (es := startJ ts) (tells := ds)
    simp only [gN, N3.st]
    refine seq_step fun P2 hP2 => ?_
    simp only [mAsg, mBlt, mCons, mNil, mVar, gt, gN, N3.st]
    refine ⟨ts, vw, u, _, t, rfl, U1, ok, s2, tr t (by rw [et]; simp), ?_⟩
    subst hP2
    refine seq_step fun P2 hP2 => ?_
    simp only [mDrop, mAppend, mTup, mCons, mNil, mVar, gt]
    refine ⟨⟨_, _, rfl, V1⟩, ?_⟩
    rw [V1]
    dsimp only
    refine ⟨by rw [List.length_map, judgedL_len]; show _ < 16777216; omega, ?_⟩
    have e1 : (judgedL (startJ ts) ds).map jrP ++ [.tup [teP t, whyP (whyOf (esH ts (hadOf (judgedL (startJ ts) ds))) t)]] = (judgedL (startJ ts) (ds ++ [t])).map jrP := by
      rw [jsnoc, List.map_append]; rfl
    rw [e1]
    have g2 := g1.up (a := v) (o := .lst ((judgedL (startJ ts) (ds ++ [t])).map jrP)) (nds_jrs _) (fun _ _ e => by cases e)
    have o2 : ∀ x, h x ≠ none → N3.up h1 v (.lst ((judgedL (startJ ts) (ds ++ [t])).map jrP)) x = h x := fun x hx => (up_ne fun e => hx (by rw [e]; exact hv)).trans (o1 x hx)
    have U2 : N3.up h1 v (.lst ((judgedL (startJ ts) (ds ++ [t])).map jrP)) u = some (.lst ((hadOf (judgedL (startJ ts) ds)).map teP)) := (up_ne uv).trans U1
    subst hP2
    simp only [mIfS, mTest, mB, mVar, mC, gt, N3.rIsN, nonW]
    refine ite2 (fun c => ?_) (fun c => ?_)
    · have c := of_decide_eq_true c
      rw [if_pos c] at snoc
      simp only [mDrop, mAppend, mCons, mNil, mVar, gt]
      refine ⟨⟨_, _, rfl, U2⟩, ?_⟩
      rw [U2]
      dsimp only
      refine ⟨by rw [List.length_map]; show _ < 16777216; omega, ?_⟩
      have e2 : (hadOf (judgedL (startJ ts) ds)).map teP ++ [teP t] = (hadOf (judgedL (startJ ts) (ds ++ [t]))).map teP := by
        rw [snoc, List.map_append]; rfl
      rw [e2]
      exact hP' _ _ ⟨ds ++ [t], r, _, _, by rw [et, List.append_assoc]; rfl, rfl, (up_ne fun e => uv e.symm).trans up_same, up_same, g2.up (o := .lst ((hadOf (judgedL (startJ ts) (ds ++ [t]))).map teP)) (nds_tes _) (fun _ _ e => by cases e), fun x hx => (up_ne fun e => hx (by rw [e]; exact hu0)).trans (o2 x hx), rfl⟩
    · have c : ¬ whyOf (esH ts (hadOf (judgedL (startJ ts) ds))) t = none := fun z => c (decide_eq_true z)
      rw [if_neg c, List.append_nil] at snoc
      simp only [mNx]
      exact hP' _ _ ⟨ds ++ [t], r, _, _, by rw [et, List.append_assoc]; rfl, rfl, up_same, by rw [snoc]; exact U2, g2, o2, rfl⟩
  · rintro τ h1 ⟨ds, r, v4, v5, et, ee, V1, U1, g1, o1, rfl⟩
    refine ⟨trivial, ?_⟩
    have : r = [] := by
      cases r with
      | nil => rfl
      | cons k r => cases ee
    subst this
    rw [List.append_nil] at et
    subst et
    subst hP
    simp only [mRet, mTup, mBlt, mCons, mNil, mVar, gt, N3.rTupOf, listed, seqL, V1]
    exact q u h1 g1 o1 U1
end Wneversaid_k09_judged_by_an_own_look

namespace Wneversaid_k09_judged_by_an_own_look
open PySem PySem.Spec PyProof.Rows L2 N3
/-! ### tells, risen, each once -/
def rankP (t : Te) : PV := .tup [.int t.m, .str t.w, .str t.t, keyP (t.r.map koW)]
def rkP (w : Wo) : PV := wkP (koW w)
theorem wkP_inj {a b : Key} (h : wkP a = wkP b) : a = b := by
  cases a with
  | inl i =>
    cases b with
    | inl j => simp only [wkP, PV.tup.injEq, List.cons.injEq, PV.int.injEq, PV.str.injEq] at h; rw [h.2.1]
    | inr y => simp [wkP] at h
  | inr x =>
    cases b with
    | inl j => simp [wkP] at h
    | inr y => simp only [wkP, PV.tup.injEq, List.cons.injEq, PV.int.injEq, PV.str.injEq] at h; rw [h.2.2.1]
theorem wks_inj : ∀ {a b : List Key}, a.map wkP = b.map wkP → a = b
  | [], [], _ => rfl
  | [], _ :: _, e => by cases e
  | _ :: _, [], e => by cases e
  | x :: a, y :: b, e => by
    obtain ⟨e1, e2⟩ := List.cons.inj e
    rw [wkP_inj e1, wks_inj e2]
theorem rankP_inj {a b : Te} (h : rankP a = rankP b) : a = b := by
  obtain ⟨m, w, t, r⟩ := a
  obtain ⟨m', w', t', r'⟩ := b
  have h := PV.tup.inj h
  simp only [List.cons.injEq, PV.int.injEq, PV.str.injEq] at h
  obtain ⟨h1, h2, h3, h4, -⟩ := h
  have h5 := kos_inj (wks_inj (PV.tup.inj h4))
  rw [show m = m' by omega, h2, h3, h5]
theorem flat_rank (t : Te) : flat (rankP t) = true := by
  show (true && (true && (true && (flat (keyP (t.r.map koW)) && true)))) = true
  rw [flat_key]; rfl
theorem srtb_ranks (ts : List Te) : Srtb ((ts.map rankP).map toD) := by
  have mem : ∀ {d : PyData}, d ∈ (ts.map rankP).map toD → ∃ t ∈ ts, d = toD (rankP t) := fun {d} hd => by
    obtain ⟨p, hp, rfl⟩ := List.mem_map.mp hd
    obtain ⟨t, ht, rfl⟩ := List.mem_map.mp hp
    exact ⟨t, ht, rfl⟩
  refine ⟨fun d hd e he => ?_, .inl fun d hd => ?_, fun d hd => ?_, fun d hd => ?_⟩
  · obtain ⟨a, -, rfl⟩ := mem hd
    obtain ⟨b, -, rfl⟩ := mem he
    show (true && (true && (true && (PySem.W.alikeAll (toDs ((a.r.map koW).map wkP)) (toDs ((b.r.map koW).map wkP)) && true)))) = true
    rw [al_key]; rfl
  · obtain ⟨a, -, rfl⟩ := mem hd
    exact ⟨_, _, rfl⟩
  · obtain ⟨a, -, rfl⟩ := mem hd
    exact noDict (rankP a) (flat_rank a)
  · obtain ⟨a, -, rfl⟩ := mem hd
    have := dep_key (a.r.map koW)
    show max 0 (max 0 (max 0 (max (PyData.depthAll (toDs ((a.r.map koW).map wkP)) + 1) 0))) + 1 ≤ 60
    omega
theorem kp_wks : ∀ k : List Key, N3.keysP (k.map wkP) = true
  | [] => rfl
  | x :: k => by
    show (N3.keyP (wkP x) && N3.keysP (k.map wkP)) = true
    rw [kp_wks k, Bool.and_true]
    cases x <;> rfl
theorem kd_wks : ∀ k : List Key, NestedKey.depthAll (nkOfs (k.map wkP)) ≤ 1
  | [] => by simp [nkOfs, NestedKey.depthAll]
  | x :: k => by
    have := kd_wks k
    have e : (nkOf (wkP x)).depth = 1 := by cases x <;> simp [wkP, nkOf, nkOfs, NestedKey.depth, NestedKey.depthAll]
    show max (nkOf (wkP x)).depth (NestedKey.depthAll (nkOfs (k.map wkP))) ≤ 1
    omega
theorem kp_rank (t : Te) : N3.keyP (rankP t) = true ∧ (∃ ys, rankP t = .tup ys) ∧ (nkOf (rankP t)).depth ≤ 8 := by
  refine ⟨?_, ⟨_, rfl⟩, ?_⟩
  · show (true && (true && (true && (N3.keysP ((t.r.map koW).map wkP) && true)))) = true
    rw [kp_wks]; rfl
  · have := kd_wks (t.r.map koW)
    show NestedKey.depth (.tup [.num t.m, .text t.w, .text t.t, .tup (nkOfs ((t.r.map koW).map wkP))]) ≤ 8
    simp only [NestedKey.depth, NestedKey.depthAll]
    omega
def spRank : SpP := fun ps h Q => ∃ t : Te, ps = [teP t] ∧ Q (rankP t) h
theorem c3_te : ∀ a b c d : PV, cut [a, b, c, d] none (some 3) = [a, b, c] := fun _ _ _ _ => rfl
theorem pure_law_rank : ∀ qs h Q, qs.length = 1 → spRank qs h Q → m_law_rank (ends Q) (sp0 3 qs) h := by
  rintro _ h Q - ⟨t, rfl, q⟩
  unfold m_law_rank
  refine seq_step fun P hP => ?_
  simp only [mAsg, mLc, mSeqs, mB, mVar, mC, gt, N3.sp0, teP, N3.rIx, i3_te, rowV, seqL, N3.wp, N3.st]
  refine lcM (enc := woP) rkP trivial _ _ (fun x hx Pz z => ?_) ?_
  · simp only [gN, N3.st, mIf, mTest, mIsI, mVar, gt]
    cases x with
    | int i =>
      simp only [woP, N3.tn, N3.isI, Bool.false_eq_true, if_false, mTup, mCons, mNil, mC, mVar, gt]
      exact z
    | str y =>
      simp only [woP, N3.tn, N3.isI, if_true, mTup, mCons, mNil, mC, mVar, gt]
      exact z
  · rw [List.nil_append]
    simp only [gN, N3.st]
    subst hP
    simp only [mRet, mB, mSl, mNoPart, mPart, mTup, mBlt, mCons, mNil, mVar, mC, gt, N3.rSl, c3_te, N3.rTupOf, listed, seqL, N3.rAdd]
    refine ⟨by show 3 + 1 ≤ 16777216; decide, ?_⟩
    have e1 : PV.tup ([PV.int t.m, .str t.w, .str t.t] ++ [.tup (t.r.map rkP)]) = rankP t := by
      show PV.tup [PV.int t.m, .str t.w, .str t.t, .tup (t.r.map rkP)] = _
      unfold rankP keyP
      rw [List.map_map]; rfl
    rw [e1]; exact q
theorem map_ex {α β : Type} {f : α → β} : ∀ {bs : List β} {l : List α}, (∀ b ∈ bs, b ∈ l.map f) → ∃ us : List α, bs = us.map f
  | [], _, _ => ⟨[], rfl⟩
  | b :: bs, l, h => by
    obtain ⟨a, -, rfl⟩ := List.mem_map.mp (h b List.mem_cons_self)
    obtain ⟨us, e⟩ := map_ex fun x hx => h x (List.mem_cons_of_mem _ hx)
    exact ⟨a :: us, by rw [List.map_cons, ← e]⟩
open Classical in
theorem nd_le {α : Type} : ∀ {l m : List α}, l.Nodup → (∀ x ∈ l, x ∈ m) → l.length ≤ m.length
  | [], m, _, _ => Nat.zero_le _
  | x :: l, m, hn, hs => by
    have hn := List.nodup_cons.mp hn
    have h1 : x ∈ m := hs x List.mem_cons_self
    have ih := nd_le (m := m.erase x) hn.2 fun y hy => (List.mem_erase_of_ne (fun e => hn.1 (by rw [← e]; exact hy))).mpr (hs y (List.mem_cons_of_mem _ hy))
    rw [List.length_erase_of_mem h1] at ih
    have : 0 < m.length := List.length_pos_of_mem h1
    rw [List.length_cons]; omega
def rkLe (a b : Te) : Prop := PySem.W.dataLe false toD (rankP a) (rankP b) = true
def listAt (h : PH) (p : PV) (xs : List PV) : Prop := p = .lst xs ∨ ∃ a, p = .ref a ∧ h a = some (.lst xs)
theorem seqs_at {h : PH} {p : PV} {xs : List PV} {m : ME} {τ : PSt} {K : List PV → (PH → Prop) → PH → Prop} (hp : listAt h p xs) (hm : ∀ R : PK, R p h → m τ h R) (q : ∀ gd : PH → Prop, gd h → K xs gd h) : mSeqs m τ h K := by
  rcases hp with rfl | ⟨a, rfl, e⟩
  · unfold mSeqs
    refine hm _ ?_
    exact q _ trivial
  · unfold mSeqs
    refine hm _ ?_
    simp only [seqL, e]
    exact q _ e
def spRis : SpP := fun ps h Q => ∃ (p : PV) (ts : List Te), ps = [p] ∧ listAt h p (ts.map teP) ∧ Gd h ∧ ts.length < 64 ∧
  ∀ (us : List Te) h', us.Nodup → (∀ t, t ∈ us ↔ t ∈ ts) → us.Pairwise rkLe → Gd h' → (∀ v, h v ≠ none → h' v = h v) → Q (.tup (us.map teP)) h'
theorem nds_tesR (ts : List Te) : nds (ts.map teP) = true := nds_map fun t _ => by
  show (true && (true && (true && (nd (rowV t.r) && true)))) = true
  rw [nd_rowV]; rfl
theorem pure_law_risen : ∀ qs h Q, qs.length = 1 → spRis qs h Q → m_law_risen spRank (ends Q) (sp0 6 qs) h := by
  rintro _ h Q - ⟨p0, ts, rfl, lp, g, tl, q⟩
  unfold m_law_risen
  refine seq_step fun P hP => ?_
  simp only [mAsg, mLstM, mCons, mNil, gN, N3.sp0, N3.st]
  intro u hu
  have g0 : Gd (N3.up h u (.lst [])) := g.up (o := .lst []) rfl (fun _ _ e => by cases e)
  have o0 : ∀ v, h v ≠ none → N3.up h u (.lst []) v = h v := fun v hv => up_ne fun e => hv (by rw [e]; exact hu)
  have lp0 : listAt (N3.up h u (.lst [])) p0 (ts.map teP) := by
    rcases lp with e | ⟨a, e, ha⟩
    · exact .inl e
    · exact .inr ⟨a, e, (o0 a (by rw [ha]; simp)).trans ha⟩
  have U0 : N3.up h u (.lst []) u = some (.lst []) := up_same
  generalize N3.up h u (.lst []) = h0 at g0 o0 lp0 U0 hP ⊢
  subst hP
  refine seq_step fun P hP => ?_
  rw [mFor]
  show mBlt rNestSet _ _ _ _
  rw [mBlt]
  simp only [mCons, mNil, mLc]
  refine seqs_at lp0 (fun R z => by simp only [mVar, gt]; exact z) fun gd hgd => ?_
  simp only [N3.wp]
  refine lcM (enc := teP) rankP hgd _ _ (fun t ht Pz z => ?_) ?_
  · simp only [gN, N3.st, mBlt, mCons, mNil, mVar, gt]
    exact ⟨t, rfl, z⟩
  rw [List.nil_append]
  simp only [rNestSet, seqL]
  refine ⟨fun x hx => ?_, by rw [List.length_map]; exact tl, srtb_ranks ts, fun bs nb mb => ?_⟩
  · obtain ⟨t, -, rfl⟩ := List.mem_map.mp hx
    exact kp_rank t
  have pm := List.mergeSort_perm bs (PySem.W.dataLe false toD)
  have srt0 : (bs.mergeSort (PySem.W.dataLe false toD)).Pairwise fun a b => PySem.W.dataLe false toD a b = true := PySem.W.sort_pairwise (PySem.W.sortLe_total _ _ _) _
  generalize bs.mergeSort (PySem.W.dataLe false toD) = cs at pm srt0
  obtain ⟨us, rfl⟩ : ∃ us : List Te, cs = us.map rankP := map_ex (l := ts) fun c hc => (mb c).mp (pm.mem_iff.mp hc)
  have un : us.Nodup := by
    have := pm.nodup_iff.mpr nb
    exact (List.pairwise_map.mp this).imp fun ne z => ne (by rw [z])
  have um : ∀ t, t ∈ us ↔ t ∈ ts := fun t => by
    have e1 : t ∈ us ↔ rankP t ∈ us.map rankP := ⟨fun m => List.mem_map_of_mem m, fun m => by
      obtain ⟨x, hx, e⟩ := List.mem_map.mp m
      rw [← rankP_inj e]; exact hx⟩
    have e2 : rankP t ∈ ts.map rankP ↔ t ∈ ts := ⟨fun m => by
      obtain ⟨x, hx, e⟩ := List.mem_map.mp m
      rw [← rankP_inj e]; exact hx, fun m => List.mem_map_of_mem m⟩
    exact e1.trans ((pm.mem_iff).trans ((mb _).trans e2))
  have us_ : us.Pairwise rkLe := by
    rw [List.pairwise_map] at srt0
    exact srt0
  have ul : us.length < 64 := by
    have h1 : us.length ≤ ts.length := nd_le un fun t ht => (um t).mp ht
    omega
  refine forL_of (W := fun ps τ h' => ∃ (ds r : List Te) (v2 v3 v4 : Option PV), us = ds ++ r ∧ ps = r.map rankP ∧ h' u = some (.lst (ds.map teP)) ∧ Gd h' ∧ (∀ v, h v ≠ none → h' v = h v) ∧
    τ = [some p0, some (.ref u), v2, v3, v4, none]) ?_ ?_ _ _ _
    ⟨[], us, none, none, none, rfl, rfl, U0, g0, o0, rfl⟩
  · rintro p ps τ h1 ⟨ds, r, v2, v3, v4, et, ee, U, g1, o1, rfl⟩
    obtain ⟨t, r, rfl⟩ : ∃ t r', r = t :: r' := by
      cases r with
      | nil => cases ee
      | cons t r => exact ⟨t, r, rfl⟩
    rw [List.map_cons] at ee
    obtain ⟨rfl, rfl⟩ := List.cons.inj ee
    refine ⟨trivial, fun P' hP' => ?_⟩
    have dl : ds.length < 64 := by rw [et, List.length_append, List.length_cons] at ul; omega
    simp only [gN, N3.st]
    refine seq_step fun P2 hP2 => ?_
    simp only [mAsg, mLc, mSeqs, mB, mVar, mC, gt, rankP, N3.rIx, i3_te, keyP, seqL, N3.wp, List.map_map]
    refine lcM (enc := wkP ∘ koW) woP trivial _ _ (fun x hx Py y => ?_) ?_
    · cases x with
      | int i => exact y
      | str x => exact y
    · rw [List.nil_append]
      simp only [gN, N3.st]
      subst hP2
      simp only [mDrop, mAppend, mB, mSl, mNoPart, mPart, mTup, mBlt, mCons, mNil, mVar, mC, gt, N3.rSl, c3_te, N3.rTupOf, listed, seqL, N3.rAdd]
      refine ⟨⟨_, _, rfl, U⟩, by show 3 + 1 ≤ 16777216; decide, ?_⟩
      rw [U]
      dsimp only
      refine ⟨by rw [List.length_map]; show _ < 16777216; omega, ?_⟩
      have e1 : ds.map teP ++ [PV.tup ([.int t.m, .str t.w, .str t.t] ++ [.tup (t.r.map woP)])] = (ds ++ [t]).map teP := by
        rw [List.map_append]; rfl
      rw [e1]
      exact hP' _ _ ⟨ds ++ [t], r, _, _, _, by rw [et, List.append_assoc]; rfl, rfl, up_same, g1.up (o := .lst ((ds ++ [t]).map teP)) (nds_tesR _) (fun _ _ e => by cases e), fun v hv => (up_ne fun e => hv (by rw [e]; exact hu)).trans (o1 v hv), rfl⟩
  · rintro τ h1 ⟨ds, r, v2, v3, v4, et, ee, U, g1, o1, rfl⟩
    refine ⟨trivial, ?_⟩
    have : r = [] := by
      cases r with
      | nil => rfl
      | cons k r => cases ee
    subst this
    rw [List.append_nil] at et
    subst et
    subst hP
    simp only [mRet, mBlt, mCons, mNil, mVar, gt, N3.rTupOf, listed, seqL, U]
    exact q us h1 un um us_ g1 o1
end Wneversaid_k09_judged_by_an_own_look

namespace Wneversaid_k09_judged_by_an_own_look
open PySem PySem.Spec PyProof.Rows L2 N3
/-! ### texts of what is drawn -/
theorem gd_tab {T : Addr} {q : Str} : Gd (tabH T q) := by
  refine ⟨fun b o e => ?_, fun b ks vs e => ?_⟩
  · by_cases hb : b = T
    · subst hb; rw [tabH_at] at e; cases e; rfl
    · rw [tabH_ne hb] at e; cases e
  · by_cases hb : b = T
    · subst hb; rw [tabH_at] at e; cases e
    · rw [tabH_ne hb] at e; cases e
theorem ne_str {x y : Str} {h : PH} {Q : PK} (q : Q (.bl (!decide (x = y))) h) : N3.rNe (.str x) (.str y) h Q := by
  refine ⟨rfl, rfl, by simp [N3.vw, toD, PyData.depth], ?_⟩
  rw [show PyData.eqv (toD (N3.vw h (.str x))) (toD (N3.vw h (.str y))) = decide (x = y) from eqv_sd x y]
  exact q
theorem ne_same {x : Str} {h : PH} {Q : PK} (q : Q (.bl false) h) : N3.rNe (.str x) (.str x) h Q := by
  refine ne_str ?_
  rw [decide_eq_true rfl]
  exact q
def WoK : Wo → Prop
  | .int i => i.natAbs ≤ 1000
  | .str x => Tx 20 (cl x)
structure TO (t : Te) : Prop where
  m : t.m ≤ 1000
  w : Tx 20 (cl t.w)
  n : Tx 20 (cl t.t)
  l : t.r.length ≤ 4
  ne : t.r ≠ []
  r : ∀ x ∈ t.r, WoK x
theorem th_wo {w : Wo} (h : WoK w) : TH 0 202 (woP w) := by
  cases w with
  | int i => exact (TH.int (k := 10) (by have : i.natAbs ≤ 1000 := h; omega)).mono (by decide) (by decide)
  | str x => exact TH.strS h
theorem th_row {r : Row} (h : ∀ x ∈ r, WoK x) (l : r.length ≤ 4) : TH 1 819 (rowV r) := by
  refine (TH.tup (n := 0) (z := 202) fun x hx => ?_).mono (by decide) (by rw [List.length_map]; omega)
  obtain ⟨w, hw, rfl⟩ := List.mem_map.mp hx
  exact th_wo (h w hw)
theorem th_tell {t : Te} (h : TO t) : TH 2 3287 (teP t) := by
  refine (TH.tup (n := 1) (z := 819) fun x hx => ?_).mono (by decide) (by show 4 * (819 + 2) + 3 ≤ 3287; decide)
  simp only [List.mem_cons, List.not_mem_nil, or_false] at hx
  rcases hx with rfl | rfl | rfl | rfl
  · exact (TH.int (k := 10) (by have := h.m; omega)).mono (by decide) (by decide)
  · exact (TH.strS h.w).mono (by decide) (by decide)
  · exact (TH.strS h.n).mono (by decide) (by decide)
  · exact th_row h.r h.l
theorem th_tells {ts : List Te} (h : ∀ t ∈ ts, TO t) (l : ts.length ≤ 31) : TH 3 110000 (.tup (ts.map teP)) := by
  refine (TH.tup (n := 2) (z := 3287) fun x hx => ?_).mono (by decide) (by rw [List.length_map]; omega)
  obtain ⟨t, ht, rfl⟩ := List.mem_map.mp hx
  exact th_tell (h t ht)
theorem th_why {o : Option Why} (h : ∀ k, o = some (.lean k) ∨ o = some (.key k) ∨ o = some (.room k) → k ≤ 1000) : TH 1 819 (whyP o) := by
  have s : ∀ x : Str, Tx 20 (cl x) → TH 0 202 (.str x) := fun x h => TH.strS h
  have z : ∀ k : Nat, k ≤ 1000 → TH 0 202 (.int k) := fun k hk => (TH.int (k := 10) (by omega)).mono (by decide) (by decide)
  have t1 : ∀ p, TH 0 202 p → TH 1 819 (.tup [p]) := fun p hp => (TH.tup (n := 0) (z := 202) (ps := [p]) fun x hx => by rw [List.mem_singleton] at hx; rw [hx]; exact hp).mono (by decide) (by show 1 * (202 + 2) + 3 ≤ 819; decide)
  have t2 : ∀ p q, TH 0 202 p → TH 0 202 q → TH 1 819 (.tup [p, q]) := fun p q hp hq => (TH.tup (n := 0) (z := 202) (ps := [p, q]) fun x hx => by
    simp only [List.mem_cons, List.not_mem_nil, or_false] at hx
    rcases hx with rfl | rfl <;> assumption).mono (by decide) (by show 2 * (202 + 2) + 3 ≤ 819; decide)
  match o, h with
  | none, _ => exact TH.non.mono (by decide) (by decide)
  | some .form, _ => exact t1 _ (s _ ⟨by decide +kernel, by decide +kernel⟩)
  | some .there, _ => exact t1 _ (s _ ⟨by decide +kernel, by decide +kernel⟩)
  | some .may, _ => exact t1 _ (s _ ⟨by decide +kernel, by decide +kernel⟩)
  | some (.lean k), h => exact t2 _ _ (s _ ⟨by decide +kernel, by decide +kernel⟩) (z k (h k (.inl rfl)))
  | some (.key k), h => exact t2 _ _ (s _ ⟨by decide +kernel, by decide +kernel⟩) (z k (h k (.inr (.inl rfl))))
  | some (.room k), h => exact t2 _ _ (s _ ⟨by decide +kernel, by decide +kernel⟩) (z k (h k (.inr (.inr rfl))))
theorem th_js {js : List (Te × Option Why)} (h : ∀ x ∈ js, TO x.1 ∧ TH 1 819 (whyP x.2)) (l : js.length ≤ 31) : TH 4 210000 (.tup (js.map jrP)) := by
  refine (TH.tup (n := 3) (z := 6581) fun x hx => ?_).mono (by decide) (by rw [List.length_map]; omega)
  obtain ⟨j, hj, rfl⟩ := List.mem_map.mp hx
  have := h j hj
  refine (TH.tup (n := 2) (z := 3287) fun y hy => ?_).mono (by decide) (by show 2 * (3287 + 2) + 3 ≤ 6581; decide)
  simp only [List.mem_cons, List.not_mem_nil, or_false] at hy
  rcases hy with rfl | rfl
  · exact th_tell this.1
  · exact this.2.mono (by decide) (by decide)
theorem th_pls {l : List Nat} (h : ∀ p ∈ l, p ≤ 1000) (hl : l.length ≤ 4) : TH 1 819 (plsP l) := by
  refine (TH.tup (n := 0) (z := 202) fun x hx => ?_).mono (by decide) (by rw [List.length_map]; omega)
  obtain ⟨p, hp, rfl⟩ := List.mem_map.mp hx
  exact (TH.int (k := 10) (by have := h p hp; omega)).mono (by decide) (by decide)
structure TbK (t : Tb) : Prop where
  n : Tx 20 (cl t.name)
  w : t.wide ≤ 1000
  k : t.keys.length ≤ 2 ∧ ∀ l ∈ t.keys, l.length ≤ 4 ∧ ∀ p ∈ l, p ≤ 1000
  l : t.leans.length ≤ 2 ∧ ∀ l ∈ t.leans, l.1 ≤ 1000 ∧ Tx 20 (cl l.2.1) ∧ l.2.2 ≤ 1000
  r : t.rooms.length ≤ 2 ∧ ∀ l ∈ t.rooms, l.1.length ≤ 4 ∧ (∀ p ∈ l.1, p ≤ 1000) ∧ l.2 ≤ 1000
  m : ∀ m, t.may = some m → Tx 20 (cl m.1) ∧ m.2 ≤ 1000
theorem th_nat {i : Nat} (h : i ≤ 1000) : TH 0 202 (.int i) := (TH.int (k := 10) (by omega)).mono (by decide) (by decide)
theorem th_tb {t : Tb} (h : TbK t) : TH 4 19797 (tbP t) := by
  have tk : TH 3 3297 (.tup (t.keys.map plsP)) := by
    refine (TH.tup (n := 1) (z := 819) fun x hx => ?_).mono (by decide) (by rw [List.length_map]; have := h.k.1; omega)
    obtain ⟨l, hl, rfl⟩ := List.mem_map.mp hx
    exact th_pls (h.k.2 l hl).2 (h.k.2 l hl).1
  have tl : TH 3 3297 (.tup (t.leans.map leanP)) := by
    refine (TH.tup (n := 1) (z := 615) fun x hx => ?_).mono (by decide) (by rw [List.length_map]; have := h.l.1; omega)
    obtain ⟨l, hl, rfl⟩ := List.mem_map.mp hx
    have := h.l.2 l hl
    refine (TH.tup (n := 0) (z := 202) fun y hy => ?_).mono (by decide) (by show 3 * (202 + 2) + 3 ≤ 615; decide)
    simp only [List.mem_cons, List.not_mem_nil, or_false] at hy
    rcases hy with rfl | rfl | rfl
    · exact th_nat this.1
    · exact TH.strS this.2.1
    · exact th_nat this.2.2
  have tr : TH 3 3297 (.tup (t.rooms.map roomP)) := by
    refine (TH.tup (n := 2) (z := 1645) fun x hx => ?_).mono (by decide) (by rw [List.length_map]; have := h.r.1; omega)
    obtain ⟨l, hl, rfl⟩ := List.mem_map.mp hx
    have := h.r.2 l hl
    refine (TH.tup (n := 1) (z := 819) fun y hy => ?_).mono (by decide) (by show 2 * (819 + 2) + 3 ≤ 1645; decide)
    simp only [List.mem_cons, List.not_mem_nil, or_false] at hy
    rcases hy with rfl | rfl
    · exact th_pls this.2.1 this.1
    · exact (th_nat this.2.2).mono (by decide) (by decide)
  have tm : TH 3 3297 (mayP t.may) := by
    cases e : t.may with
    | none => exact TH.non.mono (by decide) (by decide)
    | some m =>
      have := h.m m e
      refine (TH.tup (n := 0) (z := 202) fun y hy => ?_).mono (by decide) (by show 2 * (202 + 2) + 3 ≤ 3297; decide)
      simp only [List.mem_cons, List.not_mem_nil, or_false] at hy
      rcases hy with rfl | rfl
      · exact TH.strS this.1
      · exact th_nat this.2
  refine (TH.tup (n := 3) (z := 3297) fun x hx => ?_).mono (by decide) (by show 6 * (3297 + 2) + 3 ≤ 19797; decide)
  simp only [List.mem_cons, List.not_mem_nil, or_false] at hx
  rcases hx with rfl | rfl | rfl | rfl | rfl | rfl
  · exact (TH.strS h.n).mono (by decide) (by decide)
  · exact (th_nat h.w).mono (by decide) (by decide)
  · exact tk
  · exact tl
  · exact tr
  · exact tm
theorem th_plan9 {ts : List Tb} (h : ∀ t ∈ ts, TbK t) (l : ts.length ≤ 5) : TH 6 200000 (.tup [.tup (ts.map tbP), .tup []]) := by
  refine (TH.tup (n := 5) (z := 99000) fun x hx => ?_).mono (by decide) (by show 2 * (99000 + 2) + 3 ≤ 200000; decide)
  simp only [List.mem_cons, List.not_mem_nil, or_false] at hx
  rcases hx with rfl | rfl
  · refine (TH.tup (n := 4) (z := 19797) fun y hy => ?_).mono (by decide) (by rw [List.length_map]; omega)
    obtain ⟨t, ht, rfl⟩ := List.mem_map.mp hy
    exact th_tb (h t ht)
  · exact (TH.tup (n := 4) (z := 19797) (ps := []) (fun y hy => by cases hy)).mono (by decide) (by decide)
theorem th_2 {n z : Nat} {p q : PV} (hp : TH n z p) (hq : TH n z q) : TH (n + 1) (2 * (z + 2) + 3) (.tup [p, q]) :=
  TH.tup (ps := [p, q]) fun x hx => by
    simp only [List.mem_cons, List.not_mem_nil, or_false] at hx
    rcases hx with rfl | rfl <;> assumption
theorem th_2l {n z : Nat} {p q : PV} (hp : TH n z p) (hq : TH n z q) : TH (n + 1) (2 * (z + 2) + 2) (.lst [p, q]) :=
  TH.lst (ps := [p, q]) fun x hx => by
    simp only [List.mem_cons, List.not_mem_nil, or_false] at hx
    rcases hx with rfl | rfl <;> assumption
/-! what is refused, by number -/
theorem fi_lt {α : Type} {p : α → Bool} {l : List α} {k : Nat} (h : l.findIdx? p = some k) : k < l.length := by
  rw [List.findIdx?_eq_some_iff_getElem] at h
  exact h.1
def WhK (o : Option Why) : Prop := ∀ k, o = some (.lean k) ∨ o = some (.key k) ∨ o = some (.room k) → k ≤ 1000
theorem why_k {es : List Jt} (h : ∀ e ∈ es, e.t.leans.length ≤ 100 ∧ e.t.keys.length ≤ 100 ∧ e.t.rooms.length ≤ 100) (te : Te) : WhK (whyOf es te) := by
  intro k
  unfold whyOf
  cases hf : es.find? (fun e => decide (e.t.name = te.t)) with
  | none => rintro (z | z | z) <;> cases z
  | some e =>
    have := h e (List.mem_of_find?_eq_some hf)
    dsimp only
    unfold whyE
    split
    · rintro (z | z | z) <;> cases z
    split
    · rintro (z | z | z) <;> cases z
    split
    · rintro (z | z | z) <;> cases z
    cases h1 : e.t.leans.findIdx? (leanBad es te.r) with
    | some j =>
      have := fi_lt h1
      rintro (z | z | z) <;> cases z
      omega
    | none =>
      dsimp only
      cases h2 : e.t.keys.findIdx? (fun ps => decide (0 < howMany e.rs ps te.r)) with
      | some j =>
        have := fi_lt h2
        rintro (z | z | z) <;> cases z
        omega
      | none =>
        dsimp only
        cases h3 : e.t.rooms.findIdx? (fun x => decide (x.2 ≤ howMany e.rs x.1 te.r)) with
        | some j =>
          have := fi_lt h3
          rintro (z | z | z) <;> cases z
          omega
        | none => rintro (z | z | z) <;> cases z
theorem js_k : ∀ (ts : List Te) (es : List Jt), (∀ e ∈ es, e.t.leans.length ≤ 100 ∧ e.t.keys.length ≤ 100 ∧ e.t.rooms.length ≤ 100) → ∀ x ∈ judgedL es ts, WhK x.2
  | [], es, _, x, hx => by cases hx
  | t :: ts, es, h, x, hx => by
    rcases List.mem_cons.mp hx with rfl | z
    · exact why_k h t
    · refine js_k ts (jStep es t) (fun e he => ?_) x z
      have m : e.t ∈ (jStep es t).map Jt.t := List.mem_map_of_mem he
      rw [(jStep_maps t es).2.2] at m
      obtain ⟨e1, h1, h2⟩ := List.mem_map.mp m
      rw [← h2]; exact h e1 h1
theorem start_k {ts : List Tb} (ok : TOk ts) : ∀ e ∈ startJ ts, e.t.leans.length ≤ 100 ∧ e.t.keys.length ≤ 100 ∧ e.t.rooms.length ≤ 100 := fun e he => by
  obtain ⟨b, hb, rfl⟩ := List.mem_map.mp he
  exact ⟨(ok.ls b hb).1, (ok.ks b hb).1, (ok.ro b hb).1⟩
theorem th_judged {ts : List Tb} (ok : TOk ts) {tells : List Te} (h : ∀ t ∈ tells, TO t) (l : tells.length ≤ 31) : TH 4 210000 (.tup ((judgedL (startJ ts) tells).map jrP)) :=
  th_js (fun x hx => ⟨h _ (judged_mem _ _ x hx), th_why (js_k _ _ (start_k ok) x hx)⟩) (by rw [judgedL_len]; exact l)
/-! ### rows that are taken, rising -/
def mkA (r : Row) : Te := ⟨0, "a", "a", r⟩
theorem row_app : ∀ {a b : List Key} (l : List Tok2), a ≠ b → lxl (rtoks a ++ l) (rtoks b ++ l) = rowLt a b
  | [], [], _, h => (h rfl).elim
  | [], y :: b, l, _ => by
    rw [rowLt_nil]
    show lxl (.inl 0 :: _) (.inl 1 :: _) = true
    unfold lxl
    rw [PyProof.Rows.lex_diff (O := PyProof.Rows.itemOrd) (fun z => by cases z)]
    rfl
  | x :: a, [], l, _ => by
    rw [rowLt_nil2]
    show lxl (.inl 1 :: _) (.inl 0 :: _) = false
    unfold lxl
    rw [PyProof.Rows.lex_diff (O := PyProof.Rows.itemOrd) (fun z => by cases z)]
    rfl
  | x :: a, y :: b, l, h => by
    rw [rowLt_cons]
    show lxl (.inl 1 :: ((tokW x ++ rtoks a) ++ l)) (.inl 1 :: ((tokW y ++ rtoks b) ++ l)) = _
    unfold lxl
    rw [PyProof.Rows.lex_self (O := PyProof.Rows.itemOrd), List.append_assoc, List.append_assoc]
    split
    · rename_i e
      subst e
      rw [PySem.W.lex_pre (tokW x)]
      exact row_app l fun z => h (by rw [z])
    · rename_i e
      exact tok_lt e _ _
theorem toks_rank (r : Row) : PySem.W.keyToks (toD (rankP (mkA r))) = [.inl 1, .inl 0, .inl 1, .inr (cl "a"), .inl 1, .inr (cl "a"), .inl 1] ++ (rtoks (r.map koW) ++ [.inl 0]) := by
  show Sum.inl 1 :: Sum.inl 0 :: Sum.inl 1 :: Sum.inr (cl "a") :: Sum.inl 1 :: Sum.inr (cl "a") :: Sum.inl 1 :: (PySem.W.keyToks (toD (keyP (r.map koW))) ++ [Sum.inl 0]) = _
  rw [toks_row]; rfl
theorem rise_a {r s : Row} (h : rkLe (mkA r) (mkA s)) (ne : r ≠ s) : rowLt (r.map koW) (s.map koW) = true := by
  have nk : s.map koW ≠ r.map koW := fun z => ne (kos_inj z).symm
  have h2 : (!lxl (PySem.W.keyToks (toD (rankP (mkA s)))) (PySem.W.keyToks (toD (rankP (mkA r))))) = true := h
  rw [toks_rank, toks_rank] at h2
  unfold lxl at h2
  rw [PySem.W.lex_pre] at h2
  have e := row_app [Sum.inl 0] nk
  unfold lxl at e
  rw [e] at h2
  cases c : rowLt (r.map koW) (s.map koW) with
  | true => rfl
  | false => exact (nk (rowLt_tot (by simpa using h2) c)).elim
theorem ris_own {rs : List Row} {us : List Te} (nd : us.Nodup) (m : ∀ t, t ∈ us ↔ t ∈ rs.map mkA) (s : us.Pairwise rkLe) : Ris (rs.map fun r => r.map koW) (us.map fun t => t.r.map koW) := by
  have mk : ∀ t ∈ us, t = mkA t.r := fun t ht => by
    obtain ⟨r, -, rfl⟩ := List.mem_map.mp ((m t).mp ht); rfl
  refine ⟨?_, fun k => ?_⟩
  · rw [List.pairwise_map]
    refine (nd.and s).imp_of_mem fun {a b} ha hb h => ?_
    have ea := mk a ha
    have eb := mk b hb
    obtain ⟨h1, h2⟩ := h
    rw [ea, eb] at h2
    exact rise_a h2 fun z => h1 (by rw [ea, eb, z])
  · constructor
    · intro h
      obtain ⟨t, ht, rfl⟩ := List.mem_map.mp h
      obtain ⟨r, hr, rfl⟩ := List.mem_map.mp ((m t).mp ht)
      exact List.mem_map_of_mem hr
    · intro h
      obtain ⟨r, hr, rfl⟩ := List.mem_map.mp h
      exact List.mem_map.mpr ⟨mkA r, (m _).mpr (List.mem_map_of_mem hr), rfl⟩
theorem taken_had (n : Str) (js : List (Te × Option Why)) : takenL n js = rowsIn (hadOf js) n := by
  unfold takenL rowsIn hadOf
  induction js with
  | nil => rfl
  | cons x js ih =>
    rw [List.filter_cons, List.filter_cons]
    unfold won at ih ⊢
    by_cases h1 : x.2 = none
    · by_cases h2 : x.1.t = n
      · simp only [h1, h2, decide_true, Bool.and_self, if_true, List.map_cons, List.filter_cons]
        rw [ih]
      · simp only [h1, h2, decide_true, decide_false, Bool.and_false, Bool.false_eq_true, if_false, if_true, List.map_cons, List.filter_cons]
        exact ih
    · simp only [h1, decide_false, Bool.false_and, Bool.false_eq_true, if_false]
      exact ih
end Wneversaid_k09_judged_by_an_own_look

namespace Wneversaid_k09_judged_by_an_own_look
open PySem PySem.Spec PyProof.Rows L2 N3
/-! ### right -/
theorem same_row (r : Row) : rowT (r.map koW) = rowV r := (rowV_T r).symm
def spRight (T : Addr) : SpP := fun ps h Q => ∃ (ts : List Tb) (tells : List Te) (ns : List Str), ps = [.tup [.tup (ts.map tbP), .tup []], .tup (tells.map teP), .lst (ns.map PV.str)] ∧ Gd h ∧ TOk ts ∧ tells.length ≤ 31 ∧ (∀ t ∈ tells, TO t) ∧ h T = some (.tab lamQ) ∧
  ∀ h', Gd h' → (∀ x, h x ≠ none → h' x = h x) → Q (.bl true) h'
theorem th_rows {rs : List Row} (h : ∀ r ∈ rs, (∀ x ∈ r, WoK x) ∧ r.length ≤ 4) (l : rs.length ≤ 63) : TH 2 60000 (.tup (rs.map rowV)) := by
  refine (TH.tup (n := 1) (z := 819) fun x hx => ?_).mono (by decide) (by rw [List.length_map]; omega)
  obtain ⟨r, hr, rfl⟩ := List.mem_map.mp hx
  exact th_row (h r hr).1 (h r hr).2
theorem pure_law_right {T : Addr} : ∀ qs h Q, qs.length = 3 → spRight T qs h Q → m_law_right spDue spJudged spRis (spTaken T) (ends Q) (sp0 8 qs) h := by
  rintro _ h Q - ⟨ts, tells, ns, rfl, g, ok, tl, tO, hT, q⟩
  unfold m_law_right
  refine seq_step fun P hP => ?_
  simp only [mAsg, mBlt, mCons, mNil, mVar, gt, N3.sp0, gN, N3.st]
  have tR : ∀ t ∈ tells, t.r.length ≤ 1000 := fun t ht => Nat.le_trans (tO t ht).l (by decide)
  have tE : ∀ t ∈ tells, t.r ≠ [] := fun t ht => (tO t ht).ne
  refine ⟨ts, _, tells, rfl, g, ok, by omega, tR, fun u h1 g1 o1 U1 => ?_⟩
  simp only [gT, gsCons, gsNil, gN, N3.st]
  refine ⟨rfl, trivial, ?_⟩
  have hd : ∀ t ∈ hadOf (judgedL (startJ ts) tells), TO t := fun t ht => tO t (had_sub t ht)
  have hl := had_len (es := startJ ts) (tells := tells)
  have tJ := th_judged ok tO tl
  have JD : ∀ (h' : PH) (R : PK), Gd h' → (∀ h'', Gd h'' → (∀ x, h' x ≠ none → h'' x = h' x) → R (.tup ((judgedL (startJ ts) tells).map jrP)) h'') → spJudged [.tup [.tup (ts.map tbP), .tup []], .tup (tells.map teP)] h' R := fun h' R g' k =>
    ⟨ts, _, tells, rfl, g', ok, by omega, tR, k⟩
  have TK : ∀ (n : Str) (h' : PH) (R : PK), Gd h' → h' T = some (.tab lamQ) → (∀ out h'', Gd h'' → (∀ x, h' x ≠ none → h'' x = h' x) → Ris ((takenL n (judgedL (startJ ts) tells)).map fun r => r.map koW) out → R (.tup (out.map rowT)) h'') → spTaken T [.tup [.tup (ts.map tbP), .tup []], .tup (tells.map teP), .str n] h' R := fun n h' R g' ht k =>
    ⟨ts, _, tells, n, rfl, g', ok, by omega, tR, tE, ht, k⟩
  have tkh : ∀ n, takenL n (judgedL (startJ ts) tells) = rowsIn (hadOf (judgedL (startJ ts) tells)) n := fun n => taken_had n _
  generalize hjs : judgedL (startJ ts) tells = js at *
  have two : ∀ (p : PV) (n z : Nat), TH n z p → n + 1 ≤ 64 → 2 * (z + 2) + 2 ≤ 16777216 → ∀ (h' : PH) (R : PK) (x : Str), (toD (.lst [p, p])).shown = x → R (.str x) h' → N3.rRepr [.lst [p, p]] h' R := fun p n z tp hn hz h' R x ex r =>
    TH.repr (p := .lst [_, _]) (th_2l tp tp) hn hz (by rw [show (toD (N3.vwL h' (.lst [p, p]))).shown = x from ex]; exact r)
  subst hP
  refine seq_step fun P hP => ?_
  simp only [mIfS, mTest, mB, mBlt, mLst, mCons, mNil, mVar, gt]
  obtain ⟨jx, ej⟩ : ∃ x : Str, (toD (.lst [.tup (js.map jrP), .tup (js.map jrP)])).shown = x := ⟨_, rfl⟩
  refine JD _ _ g1 fun h2 g2 o2 => JD _ _ g2 fun h3 g3 o3 => ?_
  refine two _ _ _ tJ (by decide) (by decide) _ _ jx ej (two _ _ _ tJ (by decide) (by decide) _ _ jx ej (ne_same ?_))
  simp only [Bool.false_eq_true, if_false, mNx]
  have o13 : ∀ v, h v ≠ none → h3 v = h v := fun v hv => by
    have e1 := o1 v hv
    have e2 := o2 v (by rw [e1]; exact hv)
    rw [o3 v (by rw [e2, e1]; exact hv), e2, e1]
  have U3 : h3 u = some (.lst ((hadOf js).map teP)) := by
    have e2 := o2 u (by rw [U1]; simp)
    rw [o3 u (by rw [e2, U1]; simp), e2, U1]
  clear o1 o2 o3 g2 U1
  subst hP
  refine seq_step fun P hP => ?_
  simp only [mFor, mSeqs, mVar, gt, seqL]
  refine forL_of (W := fun ps τ h' => ∃ (r : List Str) (v3 v5 v6 : Option PV), ps = r.map PV.str ∧ Gd h' ∧ (∀ v, h v ≠ none → h' v = h v) ∧ h' u = some (.lst ((hadOf js).map teP)) ∧
    τ = [some (.tup [.tup (ts.map tbP), .tup []]), some (.tup (tells.map teP)), some (.lst (ns.map PV.str)), v3, some (.ref u), v5, v6, none]) ?_ ?_ _ _ _
    ⟨ns, _, none, none, rfl, g3, o13, U3, rfl⟩
  · rintro p ps τ h4 ⟨r, v3, v5, v6, ee, g4, o4, U4, rfl⟩
    obtain ⟨n, r, rfl⟩ : ∃ n r', r = n :: r' := by
      cases r with
      | nil => cases ee
      | cons n r => exact ⟨n, r, rfl⟩
    rw [List.map_cons] at ee
    obtain ⟨rfl, rfl⟩ := List.cons.inj ee
    refine ⟨trivial, fun P' hP' => ?_⟩
    simp only [gN, N3.st]
    have hT4 : h4 T = some (.tab lamQ) := (o4 T (by rw [hT]; simp)).trans hT
    have rO : ∀ x ∈ rowsIn (hadOf js) n, (∀ w ∈ x, WoK w) ∧ x.length ≤ 4 := fun x hx => by
      obtain ⟨t, ht, rfl⟩ := List.mem_map.mp hx
      have := hd t (List.mem_filter.mp ht).1
      exact ⟨this.r, this.l⟩
    have rl : (rowsIn (hadOf js) n).length ≤ 31 := by
      unfold rowsIn
      rw [List.length_map]
      have := List.length_filter_le (fun t : Te => decide (t.t = n)) (hadOf js)
      omega
    refine seq_step fun P2 hP2 => ?_
    simp only [mAsg, mBlt, mLc, mSeqs, mCons, mNil, mVar, gt, seqL, U4, N3.wp, N3.st]
    refine lcT (enc := teP) (c := fun t => decide (t.t = n)) (f := fun t => teP (mkA t.r)) U4 _ _ (fun t ht Pz acc z => ?_) ?_
    · simp only [gN, N3.st, mTest, mTup, mB, mCons, mNil, mVar, mC, gt, teP, N3.rIx, i2_te, i3_te, N3.rEq, N3.vw, toD, flat, eqv_sd, true_and]
      exact ⟨by simp [PyData.depth], z⟩
    have e1 : ([] : List PV) ++ ((hadOf js).filter fun t => decide (t.t = n)).map (fun t => teP (mkA t.r)) = ((rowsIn (hadOf js) n).map mkA).map teP := by
      rw [List.nil_append]
      unfold rowsIn
      rw [List.map_map, List.map_map]; rfl
    rw [e1]
    refine ⟨_, (rowsIn (hadOf js) n).map mkA, rfl, .inl rfl, g4, by rw [List.length_map]; omega, fun us h5 un um us_ g5 o5 => ?_⟩
    have R1 := ris_own un um us_
    have um' : ∀ t ∈ us, t.r ∈ rowsIn (hadOf js) n := fun t ht => by
      obtain ⟨x, hx, rfl⟩ := List.mem_map.mp ((um t).mp ht)
      exact hx
    have ul : us.length ≤ 31 := by
      have := nd_le un fun t ht => (um t).mp ht
      rw [List.length_map] at this
      omega
    simp only [gN, N3.st]
    subst hP2
    refine seq_step fun P2 hP2 => ?_
    simp only [mAsg, mBlt, mLc, mSeqs, mCons, mNil, mVar, gt, seqL, N3.wp, N3.st]
    refine lcM (enc := teP) (fun t => rowV t.r) trivial _ _ (fun t ht Pz z => ?_) ?_
    · simp only [gN, N3.st, mB, mVar, mC, gt, teP, N3.rIx, i3_te]
      exact z
    rw [List.nil_append]
    simp only [N3.rTupOf, listed, seqL, gN, N3.st]
    have e2 : us.map (fun t => rowV t.r) = (us.map Te.r).map rowV := by rw [List.map_map]; rfl
    rw [e2]
    have tU : TH 2 60000 (.tup ((us.map Te.r).map rowV)) := th_rows (fun r hr => by
      obtain ⟨t, ht, rfl⟩ := List.mem_map.mp hr
      exact rO _ (um' t ht)) (by rw [List.length_map]; omega)
    have outE : ∀ {out : List (List Key)}, Ris ((takenL n js).map fun r => r.map koW) out → out.map rowT = (us.map Te.r).map rowV := fun {out} R2 => by
      have : out = us.map fun t => t.r.map koW := R2.one R1 fun r => by rw [tkh]
      rw [this, List.map_map, List.map_map]
      exact List.map_congr_left fun t _ => same_row t.r
    subst hP2
    have o45 : ∀ v, h v ≠ none → h5 v = h v := fun v hv => (o5 v (by rw [o4 v hv]; exact hv)).trans (o4 v hv)
    have U5 : h5 u = some (.lst ((hadOf js).map teP)) := (o5 u (by rw [U4]; simp)).trans U4
    have hT5 : h5 T = some (.tab lamQ) := (o45 T (by rw [hT]; simp)).trans hT
    simp only [mIfS, mTest, mB, mBlt, mLst, mCons, mNil, mVar, gt]
    obtain ⟨kx, ek⟩ : ∃ x : Str, (toD (.lst [.tup ((us.map Te.r).map rowV), .tup ((us.map Te.r).map rowV)])).shown = x := ⟨_, rfl⟩
    refine TK n _ _ g5 hT5 fun out1 h6 g6 o6 R2 => ?_
    rw [outE R2]
    have hT6 : h6 T = some (.tab lamQ) := (o6 T (by rw [hT5]; simp)).trans hT5
    refine TK n _ _ g6 hT6 fun out2 h7 g7 o7 R3 => ?_
    rw [outE R3]
    refine two _ _ _ tU (by decide) (by decide) _ _ kx ek (two _ _ _ tU (by decide) (by decide) _ _ kx ek (ne_same ?_))
    simp only [Bool.false_eq_true, if_false, mNx]
    refine hP' _ _ ⟨r, _, _, _, rfl, g7, fun v hv => ?_, ?_, rfl⟩
    · have e5 := o45 v hv
      have e6 := o6 v (by rw [e5]; exact hv)
      rw [o7 v (by rw [e6, e5]; exact hv), e6, e5]
    · have e6 := o6 u (by rw [U5]; simp)
      rw [o7 u (by rw [e6, U5]; simp), e6, U5]
  · rintro τ h4 ⟨r, v3, v5, v6, ee, g4, o4, U4, rfl⟩
    refine ⟨trivial, ?_⟩
    subst hP
    simp only [mRet, mC]
    exact q h4 g4 o4
end Wneversaid_k09_judged_by_an_own_look

namespace Wneversaid_k09_judged_by_an_own_look
open PySem PySem.Spec PyProof.Rows L2 N3
/-! ### k09: what is drawn -/
def Kp (D : Dk) (h h' : PH) : Prop := ∀ x, x ≠ D.d → x ≠ D.l → h x ≠ none → h' x = h x
theorem Kp.refl {D : Dk} {h : PH} : Kp D h h := fun _ _ _ _ => rfl
theorem Kp.trans {D : Dk} {h h1 h2 : PH} (a : Kp D h h1) (b : Kp D h1 h2) : Kp D h h2 := fun x n1 n2 nz => (b x n1 n2 (by rw [a x n1 n2 nz]; exact nz)).trans (a x n1 n2 nz)
theorem Kp.of {D : Dk} {h h' : PH} (o : ∀ x, x ≠ D.d → x ≠ D.l → h' x = h x) : Kp D h h' := fun x n1 n2 _ => o x n1 n2
theorem Kp.all {D : Dk} {h h' : PH} (o : ∀ x, h x ≠ none → h' x = h x) : Kp D h h' := fun x _ _ nz => o x nz
theorem Kp.up {D : Dk} {h h1 : PH} {u : Addr} {o : PO} (k : Kp D h h1) (hu : h u = none) : Kp D h (N3.up h1 u o) := fun x n1 n2 nz => (up_ne fun e => nz (by rw [e]; exact hu)).trans (k x n1 n2 nz)
theorem DO.up {D : Dk} {n : Nat} {h : PH} {u : Addr} {o : PO} (d : DO D n h) (n1 : u ≠ D.d) (n2 : u ≠ D.l) : DO D n (N3.up h u o) := d.keep (up_ne fun e => n1 e.symm) (up_ne fun e => n2 e.symm)
/-- picked of a list that may change, too -/
def spPick2 : SpP := fun ps h Q => spPick ps h Q ∨ ∃ (D : Dk) (n : Nat) (a : Addr) (xs : List PV), ps = [.ref D.d, .ref a] ∧ D.At n h ∧ n < 900000000 ∧ h a = some (.lst xs) ∧ a ≠ D.d ∧ a ≠ D.l ∧ xs ≠ [] ∧ xs.length ≤ 100000 ∧ ∀ v h', v ∈ xs → D.At (n + 1) h' → Q v h'
theorem pure_law_pick : ∀ qs h Q, qs.length = 2 → spPick2 qs h Q → m_law_pick spDraw (ends Q) (sp0 2 qs) h := by
  rintro qs h Q hl (z | ⟨D, n, a, xs, rfl, ha, hn, e, n1, n2, ne, hz, k⟩)
  · exact pure_pick qs h Q hl z
  · have pos : 0 < xs.length := List.length_pos_iff.mpr ne
    unfold m_law_pick
    simp only [mRet, mB, mBlt, mCons, mNil, mVar, gt, N3.sp0, N3.rLen, seqL, e]
    refine draw_to ha (by omega) (by omega) (by omega) fun r h' r0 r1 a' => ?_
    have e2 : h' a = some (.lst xs) := by rw [a'.rd n1 n2, ← ha.rd n1 n2]; exact e
    simp only [N3.rIx, seqL, e2]
    exact atI_lst (Z := fun v => _) r0 r1 fun v hv => k v h' hv a'
theorem pick_own {D : Dk} {n : Nat} {h : PH} {Q : PK} {a : Addr} {xs : List PV} (d : DO D n h) (g : Gd h) (hn : n < 900000000) (e : h a = some (.lst xs)) (n1 : a ≠ D.d) (n2 : a ≠ D.l) (h1 : xs ≠ []) (h2 : xs.length ≤ 100000)
    (k : ∀ v ∈ xs, ∀ h', DO D (n + 1) h' → Gd h' → Kp D h h' → Q v h') : spPick2 [.ref D.d, .ref a] h Q :=
  .inr ⟨{ D with h0 := h }, n, a, xs, rfl, d.at, hn, e, n1, n2, h1, h2, fun v h' hv w => k v hv h' (by have := DO.of w; exact this) (at_gd w g) (Kp.of fun x n1 n2 => w.rd n1 n2)⟩
/-- as many things as there are turns -/
theorem lc_many {α : Type} {τ : PSt} {g : MG} {m : ME} {h : PH} {Q : List PV → PH → Prop} (w : Nat) (enc : α → PV) (Z : α → Prop) (St : Nat → PH → Prop)
    (step : ∀ (i : Nat) h1 (R : PK), i < w → St i h1 → (∀ a h2, Z a → St (i + 1) h2 → R (enc a) h2) → g (.int (0 + (i : Nat))) τ h1 fun τ1 h2 => m τ1 h2 R) (s0 : St 0 h)
    (fin : ∀ (l : List α) h', l.length = w → (∀ a ∈ l, Z a) → St w h' → Q (l.map enc) h') : lcL (fun _ => True) τ g mYes m (rng 0 w) [] h Q := by
  refine lcL_of (W := fun ps acc h' => ∃ (i : Nat) (l : List α), ps = (List.range' i (w - i)).map (fun j : Nat => PV.int (0 + (j : Nat))) ∧ acc = l.map enc ∧ l.length = i ∧ i ≤ w ∧ (∀ a ∈ l, Z a) ∧ St i h') ?_ ?_ _ _ _ ⟨0, [], by unfold rng; rw [List.range_eq_range', Nat.sub_zero], rfl, rfl, Nat.zero_le _, fun a ha => (List.not_mem_nil ha).elim, s0⟩
  · rintro p ps acc h1 ⟨i, l, ee, rfl, ll, iw, hz, st⟩
    have lt : i < w := by
      rcases Nat.lt_or_ge i w with z | z
      · exact z
      · rw [Nat.sub_eq_zero_of_le z] at ee; cases ee
    rw [show w - i = (w - (i + 1)) + 1 by omega, List.range'_succ, List.map_cons] at ee
    obtain ⟨rfl, rfl⟩ := List.cons.inj ee
    refine ⟨trivial, fun P hP => ?_⟩
    have := step i h1 (fun v h3 => P (l.map enc ++ [v]) h3) lt st fun a h2 za st2 => hP _ _ ⟨i + 1, l ++ [a], rfl, by rw [List.map_append]; rfl, by rw [List.length_append, ll]; rfl, lt, fun b hb => by
      rcases List.mem_append.mp hb with z | z
      · exact hz b z
      · rw [List.mem_singleton.mp z]; exact za, st2⟩
    simpa only [mYes, if_true] using this
  · rintro acc h1 ⟨i, l, ee, rfl, ll, iw, hz, st⟩
    have : i = w := by
      rcases Nat.lt_or_ge i w with z | z
      · rw [show w - i = (w - (i + 1)) + 1 by omega, List.range'_succ] at ee; cases ee
      · omega
    subst this
    exact ⟨trivial, fin l h1 ll hz st⟩
def spPlaces : SpP := fun ps h Q => ∃ (D : Dk) (n w : Nat) (least : Int), ps = [.ref D.d, .int w, .int least] ∧ DO D n h ∧ Gd h ∧ n < 700000000 ∧ 1 ≤ w ∧ w ≤ 4 ∧
  ∀ (l : List Nat) h', l.length ≤ 4 → (∀ p ∈ l, p < w) → DO D (n + 5) h' → Gd h' → Kp D h h' → Q (plsP l) h'
theorem pure_law_places : ∀ qs h Q, qs.length = 3 → spPlaces qs h Q → m_law_places spDraw (ends Q) (sp0 5 qs) h := by
  rintro _ h Q - ⟨D, n, w, least, rfl, d, g, hn, w1, w4, q⟩
  unfold m_law_places
  refine seq_step fun P hP => ?_
  simp only [mAsg, mBlt, mLc, mRng1, mCons, mNil, mVar, gt, N3.sp0, N3.wp, N3.st, Int.toNat_natCast]
  refine ⟨⟨by omega, by omega⟩, ?_⟩
  refine lcL_of (W := fun ps acc h' => ∃ (i : Nat) (l : List Nat), ps = (List.range' i (w - i)).map (fun j : Nat => PV.int (0 + (j : Nat))) ∧ acc = l.map (fun i : Nat => PV.int i) ∧ l.length ≤ i ∧ i ≤ w ∧ (∀ a ∈ l, a < w) ∧ DO D (n + i) h' ∧ Gd h' ∧ Kp D h h') ?_ ?_ _ _ _ ⟨0, [], by unfold rng; rw [List.range_eq_range', Nat.sub_zero], rfl, Nat.le_refl _, Nat.zero_le _, fun a ha => (List.not_mem_nil ha).elim, d, g, Kp.refl⟩
  · rintro p ps acc h1 ⟨i, l, ee, rfl, ll, iw, hz, d1, g1, k1⟩
    have lt : i < w := by
      rcases Nat.lt_or_ge i w with z | z
      · exact z
      · rw [Nat.sub_eq_zero_of_le z] at ee; cases ee
    rw [show w - i = (w - (i + 1)) + 1 by omega, List.range'_succ, List.map_cons] at ee
    obtain ⟨rfl, rfl⟩ := List.cons.inj ee
    refine ⟨trivial, fun P' hP' => ?_⟩
    simp only [gN, N3.st, mTest, mB, mBlt, mCons, mNil, mVar, mC, gt]
    refine draw_do d1 g1 (by omega) (by decide) (by decide) fun r h2 r0 r1 d2 g2 o2 => ?_
    simp only [N3.rEq, N3.vw, toD, flat, eqv_int, true_and]
    refine ⟨by simp [PyData.depth], ite2 (fun c => ?_) (fun c => ?_)⟩
    · refine hP' _ _ ⟨i + 1, l ++ [i], rfl, by rw [List.map_append, Int.zero_add]; rfl, by rw [List.length_append]; exact Nat.succ_le_succ ll, lt, fun b hb => ?_, d2, g2, k1.trans (Kp.of o2)⟩
      rcases List.mem_append.mp hb with z | z
      · exact hz b z
      · rw [List.mem_singleton.mp z]; exact lt
    · exact hP' _ _ ⟨i + 1, l, rfl, rfl, Nat.le_succ_of_le ll, lt, hz, d2, g2, k1.trans (Kp.of o2)⟩
  · rintro acc h1 ⟨i, l, ee, rfl, ll, iw, hz, d1, g1, k1⟩
    refine ⟨trivial, ?_⟩
    simp only [N3.rTupOf, listed, seqL, gN, N3.st]
    subst hP
    simp only [mRet, mIf, mTest, mB, mBlt, mTup, mCons, mNil, mVar, mC, gt, N3.rLen, N3.rGe, N3.rCmp]
    refine ite2 (fun c => ?_) (fun c => ?_)
    · exact q l h1 (by omega) hz (d1.mono (by omega)) g1 k1
    · refine draw_do d1 g1 (by omega) (by omega) (by omega) fun r h2 r0 r1 d2 g2 o2 => ?_
      have e : PV.tup [.int r] = plsP [r.toNat] := by
        show _ = PV.tup [.int (r.toNat : Nat)]
        rw [show ((r.toNat : Nat) : Int) = r by omega]
      rw [e]
      exact q [r.toNat] h2 (by show 1 ≤ 4; decide) (fun p hp => by rw [List.mem_singleton] at hp; omega) (d2.mono (by omega)) g2 (k1.trans (Kp.of o2))
/-! tables -/
def wdP (x : Str × Nat) : PV := .tup [.str x.1, .int x.2]
structure WdOk (ws : List (Str × Nat)) : Prop where
  nd : (ws.map Prod.fst).Nodup
  n : ws.length ≤ 5
  ne : ws ≠ []
  w : ∀ x ∈ ws, 1 ≤ x.2 ∧ x.2 ≤ 4
  t : ∀ x ∈ ws, Tx 20 (cl x.1)
def wk (x : Str × Nat) : Key := .inr x.1
theorem prs_wd : ∀ ws : List (Str × Nat), prs (ws.map wdP) = some (ws.map wk, ws.map fun x => PV.int x.2)
  | [] => rfl
  | x :: ws => by
    show (match kOf (.str x.1), prs (ws.map wdP) with | some k', some (ks, vs) => some (k' :: ks, PV.int x.2 :: vs) | _, _ => none) = _
    rw [prs_wd ws]; rfl
theorem wk_nd {ws : List (Str × Nat)} (nd : (ws.map Prod.fst).Nodup) : (ws.map wk).Nodup := by
  rw [show ws.map wk = (ws.map Prod.fst).map Sum.inr from by rw [List.map_map]; rfl]
  exact List.pairwise_map.mpr (nd.imp fun ne z => ne (Sum.inr.inj z))
theorem dict_ix {ws : List (Str × Nat)} (ok : WdOk ws) {x : Str × Nat} (hx : x ∈ ws) {h : PH} {W : Addr} {Q : PK} (hW : h W = some (.lst (ws.map wdP))) (q : Q (.int x.2) h) : rDictP [.ref W] h fun p h1 => N3.rIx p (.str x.1) h1 Q := by
  have nk := wk_nd ok.nd
  have e : lk (ws.map wk) (ws.map fun x => PV.int x.2) (.inr x.1) = some (.int x.2) := by
    obtain ⟨ds, r, rfl⟩ := List.append_of_mem hx
    exact lk_mid (K := wk) (nd_mid nk).1
  simp only [rDictP, seqL, hW, prs_wd]
  refine ⟨nk, ?_⟩
  simp only [N3.rIx, seqL, dctL, kOf, e]
  exact q
structure TbS (ws : List (Str × Nat)) (t : Tb) : Prop where
  x : (t.name, t.wide) ∈ ws
  k : t.keys.length ≤ 2 ∧ ∀ l ∈ t.keys, l.length ≤ 4 ∧ ∀ p ∈ l, p < t.wide
  l : t.leans.length ≤ 2 ∧ ∀ l ∈ t.leans, l.1 < t.wide ∧ ∃ x ∈ ws, x.1 = l.2.1 ∧ l.2.2 < x.2
  r : t.rooms.length ≤ 2 ∧ ∀ l ∈ t.rooms, l.1.length ≤ 4 ∧ (∀ p ∈ l.1, p < t.wide) ∧ l.2 ≤ 1000
  m : ∀ m, t.may = some m → ∃ x ∈ ws, x.1 = m.1 ∧ m.2 < x.2
end Wneversaid_k09_judged_by_an_own_look

namespace Wneversaid_k09_judged_by_an_own_look
open PySem PySem.Spec PyProof.Rows L2 N3
/-! a table, drawn -/
def oxP (x : Str × Nat) : PV := .tup [.str x.1, .int x.2]
def OxOk (ws : List (Str × Nat)) (x : Str × Nat) : Prop := ∃ y ∈ ws, y.1 = x.1 ∧ x.2 < y.2
theorem wd_inj {x y : Str × Nat} (e : wdP x = wdP y) : x = y := by
  obtain ⟨a, b⟩ := x
  obtain ⟨c, d⟩ := y
  have e := PV.tup.inj e
  simp only [List.cons.injEq, PV.str.injEq, PV.int.injEq, and_true] at e
  rw [e.1, show b = d by omega]
def spTable : SpP := fun ps h Q => ∃ (D : Dk) (n : Nat) (W : Addr) (ws : List (Str × Nat)) (x : Str × Nat) (often : Int), ps = [.ref D.d, .str x.1, .ref W, .int often] ∧ DO D n h ∧ Gd h ∧ n < 600000000 ∧ h W = some (.lst (ws.map wdP)) ∧ W ≠ D.d ∧ W ≠ D.l ∧ WdOk ws ∧ x ∈ ws ∧ 1 ≤ often ∧ often ≤ 3 ∧
  ∀ (t : Tb) h', TbS ws t → t.name = x.1 → DO D (n + 100) h' → Gd h' → Kp D h h' → Q (tbP t) h'
theorem pure_law_table : ∀ qs h Q, qs.length = 4 → spTable qs h Q → m_law_table spDraw spPlaces spPick2 (ends Q) (sp0 14 qs) h := by
  rintro _ h Q - ⟨D, n, W, ws, x, often, rfl, d, g, hn, hW, W1, W2, ok, hx, of1, of3, q⟩
  obtain ⟨x1, x4⟩ := ok.w x hx
  unfold m_law_table
  refine seq_step fun P hP => ?_
  simp only [mAsg, mTup, mCons, mNil, mB, mBlt, mLst, mLstM, mVar, mC, gt, N3.sp0]
  refine dict_ix ok hx hW ?_
  intro O hO
  obtain ⟨O1, O2⟩ := d.ne hO
  have d0 := d.up (o := .lst []) O1 O2
  have g0 : Gd (N3.up h O (.lst [])) := g.up (o := .lst []) rfl (fun _ _ e => by cases e)
  have k0 : Kp D h (N3.up h O (.lst [])) := (Kp.refl (D := D)).up hO
  have O0 : N3.up h O (.lst []) O = some (.lst []) := up_same
  have OW : O ≠ W := fun e => by rw [e, hW] at hO; cases hO
  generalize N3.up h O (.lst []) = h0 at d0 g0 k0 O0
  have WK : ∀ {h' : PH}, Kp D h h' → h' W = some (.lst (ws.map wdP)) := fun k => (k W W1 W2 (by rw [hW]; simp)).trans hW
  refine draw_do d0 g0 (by omega) (by decide) (by decide) fun a h1 a0 a3 d1 g1 o1 => ?_
  simp only [N3.rAdd]
  refine draw_do d1 g1 (by omega) (by decide) (by decide) fun b h2 b0 b2 d2 g2 o2 => ?_
  have k2 := (k0.trans (Kp.of o1)).trans (Kp.of o2)
  have O2' : h2 O = some (.lst []) := by rw [o2 O O1 O2, o1 O O1 O2]; exact O0
  clear k0 o1 o2 d0 d1 g0 g1 O0
  obtain ⟨most, m1, m9, em⟩ : ∃ most : Nat, 1 ≤ most ∧ most ≤ 9 ∧ atI [PV.int 9, .int (1 + a)] b = some (.int most) := by
    rcases (show b = 0 ∨ b = 1 by omega) with rfl | rfl
    · exact ⟨9, by decide, by decide, rfl⟩
    · refine ⟨(1 + a).toNat, by omega, by omega, ?_⟩
      rw [show (((1 + a).toNat : Nat) : Int) = 1 + a by omega]; rfl
  simp only [N3.rIx, seqL, em, gT, gsCons, gsNil, gN, N3.st]
  refine ⟨rfl, trivial, ?_⟩
  subst hP
  /- keys -/
  refine seq_step fun P hP => ?_
  simp only [mAsg, mBlt, mCons, mNil, mVar, gt, gN, N3.st]
  refine draw_do d2 g2 (by omega) (by omega) (by omega) fun m h3 c0 c3 d3 g3 o3 => ?_
  obtain ⟨mk, rfl⟩ : ∃ mk : Nat, m = mk := ⟨m.toNat, by omega⟩
  have k3 := k2.trans (Kp.of o3)
  have O3 : h3 O = some (.lst []) := (o3 O O1 O2).trans O2'
  clear k2 o3 O2' d2 g2
  subst hP
  refine seq_step fun P hP => ?_
  simp only [mAsg, mBlt, mLc, mRng1, mCons, mNil, mVar, mC, gt, gN, N3.st, N3.wp, Int.toNat_natCast]
  refine ⟨⟨by omega, by omega⟩, ?_⟩
  refine lc_many mk plsP (fun l => l.length ≤ 4 ∧ ∀ p ∈ l, p < x.2) (fun i h' => DO D (n + 3 + 5 * i) h' ∧ Gd h' ∧ Kp D h3 h') (fun i h' R hi ⟨di, gi, ki⟩ nx => ?_) ⟨d3, g3, Kp.refl⟩ fun keys h4 lk zk ⟨d4, g4, k4⟩ => ?_
  · simp only [gN, N3.st, mBlt, mCons, mNil, mVar, mC, gt]
    refine ⟨D, _, x.2, 1, rfl, di, gi, by omega, x1, x4, fun l h5 l4 lp d5 g5 k5 => nx l h5 ⟨l4, lp⟩ ⟨d5.mono (by omega), g5, ki.trans k5⟩⟩
  simp only [N3.rTupOf, listed, seqL]
  have kk4 := k3.trans k4
  have O4 : h4 O = some (.lst []) := (k4 O O1 O2 (by rw [O3]; simp)).trans O3
  clear k3 k4 O3 d3 g3
  subst hP
  /- others -/
  refine seq_step fun P hP => ?_
  simp only [mFor, mRng1, mCons, mNil, mC, gt]
  refine ⟨⟨by decide, by decide⟩, ?_⟩
  refine forL_of (W := fun ps τ h' => ∃ (os : List (Str × Nat)) (v9 v10 v11 : Option PV), ps.length + os.length = 3 ∧ (∀ o ∈ os, OxOk ws o) ∧ h' O = some (.lst (os.map oxP)) ∧ DO D (n + 13 + 2 * os.length) h' ∧ Gd h' ∧ Kp D h h' ∧
    τ = [some (.ref D.d), some (.str x.1), some (.ref W), some (.int often), some (.int x.2), some (.ref O), some (.int most), some (.int mk), some (.tup (keys.map plsP)), v9, v10, v11, none, none]) ?_ ?_ _ _ _
    ⟨[], none, none, none, by rw [rng_len]; rfl, fun o ho => (List.not_mem_nil ho).elim, O4, d4.mono (by show _ ≤ n + 13 + 2 * 0; omega), g4, kk4, rfl⟩
  · rintro p ps τ h5 ⟨os, v9, v10, v11, pl, oo, O5, d5, g5, k5, rfl⟩
    rw [List.length_cons] at pl
    refine ⟨trivial, fun P' hP' => ?_⟩
    simp only [gN, N3.st]
    refine seq_step fun P2 hP2 => ?_
    simp only [mAsg, mBlt, mCons, mNil, mVar, gt]
    refine pick_own d5 g5 (by omega) (WK k5) W1 W2 (by simpa using ok.ne) (by rw [List.length_map]; have := ok.n; omega) fun v hv h6 d6 g6 k6 => ?_
    obtain ⟨y, hy, rfl⟩ := List.mem_map.mp hv
    obtain ⟨y1, y4⟩ := ok.w y hy
    simp only [wdP, gT, gsCons, gsNil, gN, N3.st]
    refine ⟨rfl, trivial, ?_⟩
    subst hP2
    simp only [mDrop, mAppend, mTup, mBlt, mCons, mNil, mVar, gt]
    have O6 : h6 O = some (.lst (os.map oxP)) := (k6 O O1 O2 (by rw [O5]; simp)).trans O5
    refine ⟨⟨_, _, rfl, O6⟩, ?_⟩
    refine draw_do d6 g6 (by omega) (by omega) (by omega) fun r h7 r0 r1 d7 g7 o7 => ?_
    have O7 : h7 O = some (.lst (os.map oxP)) := (o7 O O1 O2).trans O6
    rw [O7]
    dsimp only
    refine ⟨by rw [List.length_map]; show _ < 16777216; omega, ?_⟩
    have e1 : os.map oxP ++ [.tup [.str y.1, .int r]] = (os ++ [(y.1, r.toNat)]).map oxP := by
      rw [List.map_append]
      show _ ++ _ = _ ++ [PV.tup [.str y.1, .int (r.toNat : Nat)]]
      rw [show ((r.toNat : Nat) : Int) = r by omega]
    rw [e1]
    refine hP' _ _ ⟨os ++ [(y.1, r.toNat)], _, _, _, by rw [List.length_append]; show _ + (_ + 1) = 3; omega, fun o ho => ?_, up_same, (d7.up O1 O2).mono (by rw [List.length_append]; show _ ≤ n + 13 + 2 * (_ + 1); omega), g7.up (o := .lst ((os ++ [(y.1, r.toNat)]).map oxP)) (nds_map fun o _ => rfl) (fun _ _ e => by cases e), ((k5.trans k6).trans (Kp.of o7)).up hO, rfl⟩
    rcases List.mem_append.mp ho with z | z
    · exact oo o z
    · rw [List.mem_singleton.mp z]
      exact ⟨y, hy, rfl, by show r.toNat < y.2; omega⟩
  rintro τ h5 ⟨os, v9, v10, v11, pl, oo, O5, d5, g5, k5, rfl⟩
  refine ⟨trivial, ?_⟩
  have ol : os.length = 3 := by simpa using pl
  clear O4 d4 g4 kk4 pl
  rw [ol] at d5
  have oat : ∀ {h' : PH} {i : Nat}, h' O = some (.lst (os.map oxP)) → i < 3 → ∃ o, os[i]? = some o ∧ OxOk ws o ∧ ∀ (R : PK), R (oxP o) h' → N3.rIx (.ref O) (.int (0 + (i : Nat))) h' R := fun {h' i} e hi => by
    obtain ⟨o, eo⟩ : ∃ o, os[i]? = some o := ⟨_, List.getElem?_eq_getElem (by omega)⟩
    refine ⟨o, eo, oo o (List.mem_of_getElem? eo), fun R r => ?_⟩
    have : atI (os.map oxP) (0 + (i : Nat)) = some (oxP o) := by
      unfold atI
      rw [Int.zero_add, ixN_nat (by rw [List.length_map]; omega)]
      show (os.map oxP)[i]? = _
      rw [List.getElem?_map, eo]; rfl
    simp only [N3.rIx, seqL, e, this]
    exact r
  subst hP
  dsimp only
  /- leans -/
  refine seq_step fun P hP => ?_
  simp only [mAsg, mBlt, mCons, mNil, mVar, gt, gN, N3.st]
  refine draw_do d5 g5 (by omega) (by omega) (by omega) fun m h6 c0 c3' d6 g6 o6 => ?_
  obtain ⟨ml, rfl⟩ : ∃ ml : Nat, m = ml := ⟨m.toNat, by omega⟩
  have k6 := k5.trans (Kp.of o6)
  have O6 : h6 O = some (.lst (os.map oxP)) := (o6 O O1 O2).trans O5
  clear k5 o6 O5 d5 g5
  subst hP
  refine seq_step fun P hP => ?_
  simp only [mAsg, mBlt, mLc, mRng1, mCons, mNil, mVar, mC, gt, gN, N3.st, N3.wp, Int.toNat_natCast]
  refine ⟨⟨by omega, by omega⟩, ?_⟩
  refine lc_many ml leanP (fun l => l.1 < x.2 ∧ ∃ y ∈ ws, y.1 = l.2.1 ∧ l.2.2 < y.2) (fun i h' => DO D (n + 20 + i) h' ∧ Gd h' ∧ Kp D h6 h') (fun i h' R hi ⟨di, gi, ki⟩ nx => ?_) ⟨d6, g6, Kp.refl⟩ fun leans h7 ll zl ⟨d7, g7, k7⟩ => ?_
  · simp only [gN, N3.st, mB, mTup, mBlt, mCons, mNil, mVar, gt]
    refine draw_do di gi (by omega) (by omega) (by omega) fun r h8 r0 r1 d8 g8 o8 => ?_
    have O8 : h8 O = some (.lst (os.map oxP)) := (o8 O O1 O2).trans ((ki O O1 O2 (by rw [O6]; simp)).trans O6)
    obtain ⟨o, eo, ⟨y, hy, y1, y2⟩, ix⟩ := oat (i := i) O8 (by omega)
    refine ix _ ?_
    simp only [oxP, N3.rAdd]
    refine ⟨by show 1 + 2 ≤ 16777216; decide, ?_⟩
    have e1 : PV.tup ([.int r] ++ [.str o.1, .int o.2]) = leanP (r.toNat, o.1, o.2) := by
      show _ = PV.tup [.int (r.toNat : Nat), .str o.1, .int o.2]
      rw [show ((r.toNat : Nat) : Int) = r by omega]; rfl
    rw [e1]
    exact nx _ h8 ⟨by show r.toNat < x.2; omega, y, hy, y1, y2⟩ ⟨d8.mono (by omega), g8, ki.trans (Kp.of o8)⟩
  simp only [N3.rTupOf, listed, seqL]
  have kk7 := k6.trans k7
  have O7 : h7 O = some (.lst (os.map oxP)) := (k7 O O1 O2 (by rw [O6]; simp)).trans O6
  clear k6 k7 O6 d6 g6
  subst hP
  /- rooms -/
  refine seq_step fun P hP => ?_
  simp only [mAsg, mB, mBlt, mCons, mNil, mVar, mC, gt, gN, N3.st]
  refine draw_do d7 g7 (by omega) (by omega) (by omega) fun m h8 c0' c3'' d8 g8 o8 => ?_
  simp only [N3.rCmp, N3.rIntT, N3.rMul]
  obtain ⟨mr, mr2, emr⟩ : ∃ mr : Nat, mr ≤ 2 ∧ m * (if decide ((most : Int) < 8) = true then 1 else 0) = (mr : Int) := by
    split
    · exact ⟨m.toNat, by omega, by omega⟩
    · exact ⟨0, by decide, by simp⟩
  refine ⟨by unfold CMul; split <;> omega, ?_⟩
  rw [emr]
  have k8 := kk7.trans (Kp.of o8)
  have O8 : h8 O = some (.lst (os.map oxP)) := (o8 O O1 O2).trans O7
  clear kk7 o8 O7 d7 g7
  subst hP
  refine seq_step fun P hP => ?_
  simp only [mAsg, mBlt, mLc, mRng1, mCons, mNil, mVar, mC, gt, gN, N3.st, N3.wp, Int.toNat_natCast]
  refine ⟨⟨by omega, by omega⟩, ?_⟩
  refine lc_many mr roomP (fun l => l.1.length ≤ 4 ∧ (∀ p ∈ l.1, p < x.2) ∧ l.2 ≤ 1000) (fun i h' => DO D (n + 30 + 5 * i) h' ∧ Gd h' ∧ Kp D h8 h') (fun i h' R hi ⟨di, gi, ki⟩ nx => ?_) ⟨d8.mono (by omega), g8, Kp.refl⟩ fun rooms h9 lr zr ⟨d9, g9, k9⟩ => ?_
  · simp only [gN, N3.st, mB, mTup, mBlt, mCons, mNil, mVar, mC, gt]
    refine ⟨D, _, x.2, 0, rfl, di, gi, by omega, x1, x4, fun l h10 l4 lp d10 g10 k10 => ?_⟩
    simp only [N3.rAdd]
    have e1 : PV.tup [plsP l, .int ((most : Int) + (0 + (i : Nat)))] = roomP (l, most + i) := by
      show _ = PV.tup [plsP l, .int ((most + i : Nat) : Int)]
      rw [show ((most + i : Nat) : Int) = (most : Int) + (0 + (i : Nat)) by omega]
    rw [e1]
    exact nx _ h10 ⟨l4, lp, by show most + i ≤ 1000; omega⟩ ⟨d10.mono (by omega), g10, ki.trans k10⟩
  simp only [N3.rTupOf, listed, seqL]
  have kk9 := k8.trans k9
  have O9 : h9 O = some (.lst (os.map oxP)) := (k9 O O1 O2 (by rw [O8]; simp)).trans O8
  clear k8 k9 O8 d8 g8
  subst hP
  simp only [mRet, mB, mTup, mLst, mBlt, mCons, mNil, mVar, mC, gt]
  obtain ⟨o, eo, oo2, ix⟩ := oat (i := 2) O9 (by decide)
  refine ix _ ?_
  refine draw_do d9 g9 (by omega) (by decide) (by decide) fun r h10 r0 r1 d10 g10 o10 => ?_
  have k10 := kk9.trans (Kp.of o10)
  obtain ⟨may, em2, hmay⟩ : ∃ may : Option (Str × Nat), atI [PV.non, .non, oxP o] r = some (mayP may) ∧ ∀ m, may = some m → OxOk ws m := by
    rcases (show r = 0 ∨ r = 1 ∨ r = 2 by omega) with rfl | rfl | rfl
    · exact ⟨none, rfl, fun m hm => by cases hm⟩
    · exact ⟨none, rfl, fun m hm => by cases hm⟩
    · exact ⟨some o, rfl, fun m hm => by cases hm; exact oo2⟩
  simp only [N3.rIx, seqL, em2]
  exact q ⟨x.1, x.2, keys, leans, rooms, may⟩ h10 ⟨hx, ⟨by show keys.length ≤ 2; omega, zk⟩, ⟨by show leans.length ≤ 2; omega, zl⟩, ⟨by show rooms.length ≤ 2; omega, zr⟩, hmay⟩ rfl (d10.mono (by omega)) g10 k10
end Wneversaid_k09_judged_by_an_own_look

namespace Wneversaid_k09_judged_by_an_own_look
open PySem PySem.Spec PyProof.Rows L2 N3
/-! a tell, drawn -/
theorem cut_sub {α : Type} {xs : List α} {lo hi : Option Int} {x : α} (h : x ∈ cut xs lo hi) : x ∈ xs := by
  unfold N3.cut at h
  exact List.mem_of_mem_drop (List.mem_of_mem_take h)
theorem cut_58 {ns : List Str} (ok : NsOk ns) : (cut ns (some 5) (some 8)).length = 3 := by
  unfold N3.cut HT.sIx
  rw [ok.n]
  show ((ns.drop 5).take 3).length = 3
  rw [List.length_take, List.length_drop, ok.n]; rfl
def spTell : SpP := fun ps h Q => ∃ (D : Dk) (n : Nat) (W : Addr) (ws : List (Str × Nat)) (ns : List Str) (wos : List Wo), ps = [.ref D.d, .ref W, .lst (ns.map PV.str), .lst (wos.map woP)] ∧ DO D n h ∧ Gd h ∧ n < 600000000 ∧ h W = some (.lst (ws.map wdP)) ∧ W ≠ D.d ∧ W ≠ D.l ∧ WdOk ws ∧ NsOk ns ∧ wos ≠ [] ∧ wos.length ≤ 100 ∧ (∀ w ∈ wos, WoK w) ∧
  ∀ (t : Te) h', TO t → DO D (n + 20) h' → Gd h' → Kp D h h' → Q (teP t) h'
theorem pure_law_tell : ∀ qs h Q, qs.length = 4 → spTell qs h Q → m_law_tell spDraw spPick2 (ends Q) (sp0 11 qs) h := by
  rintro _ h Q - ⟨D, n, W, ws, ns, wos, rfl, d, g, hn, hW, W1, W2, ok, nk, wn, wl, wo, q⟩
  unfold m_law_tell
  refine seq_step fun P hP => ?_
  simp only [mAsg, mBlt, mCons, mNil, mVar, mC, gt, N3.sp0, gN, N3.st]
  refine draw_do d g (by omega) (by decide) (by decide) fun way h1 y0 y16 d1 g1 o1 => ?_
  have k1 : Kp D h h1 := Kp.of o1
  subst hP
  refine seq_step fun P hP => ?_
  simp only [mAsg, mBlt, mCons, mNil, mVar, gt]
  refine pick_own d1 g1 (by omega) ((o1 W W1 W2).trans hW) W1 W2 (by simpa using ok.ne) (by rw [List.length_map]; have := ok.n; omega) fun v hv h2 d2 g2 k2 => ?_
  obtain ⟨y, hy, rfl⟩ := List.mem_map.mp hv
  obtain ⟨y1, y4⟩ := ok.w y hy
  simp only [wdP, gT, gsCons, gsNil, gN, N3.st]
  refine ⟨rfl, trivial, ?_⟩
  have kk2 := k1.trans k2
  subst hP
  refine seq_step fun P hP => ?_
  have wide : ∀ (R : PK), (∀ (w : Nat) h3, 1 ≤ w → w ≤ 4 → DO D (n + 3) h3 → Gd h3 → Kp D h2 h3 → R (.int w) h3) → mIf (mTest (mB N3.rEq (mVar 4) (mC (.int 0)))) (mB N3.rAdd (mC (.int 1)) (mBlt spDraw (mCons (mVar 0) (mCons (mC (.int 4)) (mNil))))) (mVar 6) [some (.ref D.d), some (.ref W), some (.lst (ns.map PV.str)), some (.lst (wos.map woP)), some (.int way), some (.str y.1), some (.int y.2), none, none, none, none] h2 R := fun R k => by
    simp only [mIf, mTest, mB, mBlt, mCons, mNil, mVar, mC, gt, N3.rEq, N3.vw, toD, flat, eqv_int, true_and]
    refine ⟨by simp [PyData.depth], ite2 (fun c => ?_) (fun c => ?_)⟩
    · refine draw_do d2 g2 (by omega) (by decide) (by decide) fun r h3 r0 r1 d3 g3 o3 => ?_
      simp only [N3.rAdd]
      rw [show (1 + r : Int) = ((1 + r).toNat : Nat) by omega]
      exact k _ h3 (by omega) (by omega) d3 g3 (Kp.of o3)
    · exact k _ h2 y1 y4 (d2.mono (by omega)) g2 Kp.refl
  rw [mAsg]
  refine wide _ fun w h3 w1 w4 d3 g3 k3 => ?_
  simp only [gN, N3.st]
  have kk3 := kk2.trans k3
  subst hP
  refine seq_step fun P hP => ?_
  simp only [mAsg, mBlt, mLc, mRng1, mCons, mNil, mVar, mC, gt, gN, N3.st, N3.wp, Int.toNat_natCast]
  refine ⟨⟨by omega, by omega⟩, ?_⟩
  refine lc_many w woP WoK (fun i h' => DO D (n + 3 + i) h' ∧ Gd h' ∧ Kp D h3 h') (fun i h' R hi ⟨di, gi, ki⟩ nx => ?_) ⟨d3, g3, Kp.refl⟩ fun row h4 rl zr ⟨d4, g4, k4⟩ => ?_
  · simp only [gN, N3.st, mBlt, mCons, mNil, mVar, gt]
    refine .inl (pick_do di gi (by omega) (by simpa using wn) (by rw [List.length_map]; omega) fun v hv h5 d5 g5 o5 => ?_)
    obtain ⟨x, hx, rfl⟩ := List.mem_map.mp hv
    exact nx x h5 (wo x hx) ⟨d5, g5, ki.trans (Kp.of o5)⟩
  simp only [N3.rTupOf, listed, seqL]
  have kk4 := kk3.trans k4
  subst hP
  refine seq_step fun P hP => ?_
  simp only [mPar, mB, mSl, mPart, mLst, mBlt, mCons, mNil, mVar, mC, gt]
  refine draw_do d4 g4 (by omega) (by decide) (by decide) fun r h5 r0 r1 d5 g5 o5 => ?_
  simp only [N3.rMod]
  refine ⟨show (0 : Int) < 2 by decide, ?_⟩
  obtain ⟨f, f1, ef⟩ : ∃ f : Int, (f = 1 ∨ f = 333) ∧ atI [PV.int 1, .int 333] (way % 2) = some (.int f) := by
    rcases (show way % 2 = 0 ∨ way % 2 = 1 by omega) with z | z
    · rw [z]; exact ⟨1, .inl rfl, rfl⟩
    · rw [z]; exact ⟨333, .inr rfl, rfl⟩
  simp only [N3.rIx, seqL, ef, N3.rMul]
  obtain ⟨m, m1, em⟩ : ∃ m : Nat, m ≤ 1000 ∧ r * f = (m : Int) := by
    rcases f1 with rfl | rfl
    · exact ⟨r.toNat, by omega, by omega⟩
    · exact ⟨(r * 333).toNat, by omega, by omega⟩
  refine ⟨by unfold CMul; omega, ?_⟩
  rw [em]
  simp only [N3.rSl, seqL, cut_map]
  have c3 := cut_58 nk
  refine .inl (pick_do d5 g5 (by omega) (fun z => by have := congrArg List.length z; rw [List.length_map, c3] at this; cases this) (by rw [List.length_map, c3]; decide) fun v hv h6 d6 g6 o6 => ?_)
  obtain ⟨who, hwho, rfl⟩ := List.mem_map.mp hv
  have tw := nk.t who (cut_sub hwho)
  simp only [N3.st]
  have kk6 := (kk4.trans (Kp.of o5)).trans (Kp.of o6)
  subst hP
  have fin : ∀ tn : Str, Tx 20 (cl tn) → Q (.tup [.int m, .str who, .str tn, .tup (row.map woP)]) h6 := fun tn ht =>
    q ⟨m, who, tn, row⟩ h6 ⟨m1, tw, ht, by show row.length ≤ 4; omega, fun z => by have z : row = [] := z; rw [z] at rl; simp at rl; omega, zr⟩ (d6.mono (by omega)) g6 kk6
  simp only [mRet, mTup, mIf, mTest, mB, mCons, mNil, mVar, mC, gt, N3.rEq, N3.vw, toD, flat, eqv_int, true_and]
  refine ⟨by simp [PyData.depth], ite2 (fun c => ?_) (fun c => ?_)⟩
  · refine ix_ns nk (by decide) (by decide) ?_
    exact fin _ (nsA_tx nk (by decide))
  · exact fin _ (ok.t y hy)
/-! a plan, tells -/
theorem tok9 {ws : List (Str × Nat)} (ok : WdOk ws) {ts : List Tb} (e : ts.map Tb.name = ws.map Prod.fst) (h : ∀ t ∈ ts, TbS ws t) : TOk ts ∧ (∀ t ∈ ts, TbK t) ∧ ts.length ≤ 5 := by
  have wide : ∀ t ∈ ts, t.wide ≤ 4 := fun t ht => (ok.w _ (h t ht).x).2
  have back : ∀ y ∈ ws, ∃ o ∈ ts, o.name = y.1 ∧ o.wide = y.2 := fun y hy => by
    have : y.1 ∈ ts.map Tb.name := by rw [e]; exact List.mem_map_of_mem hy
    obtain ⟨o, ho, eo⟩ := List.mem_map.mp this
    refine ⟨o, ho, eo, ?_⟩
    have m1 := (h o ho).x
    obtain ⟨ds, r, rfl⟩ := List.append_of_mem hy
    have nd := ok.nd
    rw [List.map_append, List.map_cons] at nd
    obtain ⟨n1, n2, n3⟩ := List.nodup_append.mp nd
    have n4 := (List.nodup_cons.mp n2).1
    rcases List.mem_append.mp m1 with z | z
    · exact (n3 _ (List.mem_map_of_mem (f := Prod.fst) z) _ List.mem_cons_self eo).elim
    · rcases List.mem_cons.mp z with z | z
      · rw [← z]
      · exact (n4 (by rw [← eo]; exact List.mem_map_of_mem (f := Prod.fst) z)).elim
  refine ⟨⟨by rw [e]; exact ok.nd, fun t ht => by have := wide t ht; omega, fun t ht => ⟨by have := (h t ht).k.1; omega, fun k hk => ⟨by have := ((h t ht).k.2 k hk).1; omega, ((h t ht).k.2 k hk).2⟩⟩, fun t ht => ⟨by have := (h t ht).l.1; omega, fun l hl => ⟨((h t ht).l.2 l hl).1, ?_⟩⟩, fun t ht => ⟨by have := (h t ht).r.1; omega, fun k hk => ⟨by have := ((h t ht).r.2 k hk).1; omega, ((h t ht).r.2 k hk).2.1⟩⟩, fun t ht m hm => ?_⟩, fun t ht => ?_, ?_⟩
  · obtain ⟨y, hy, e1, e2⟩ := ((h t ht).l.2 l hl).2
    obtain ⟨o, ho, e3, e4⟩ := back y hy
    exact ⟨o, ho, e3.trans e1, by rw [e4]; exact e2⟩
  · obtain ⟨y, hy, e1, e2⟩ := (h t ht).m m hm
    obtain ⟨o, ho, e3, e4⟩ := back y hy
    exact ⟨o, ho, e3.trans e1, by rw [e4]; exact e2⟩
  · have w4 := wide t ht
    refine ⟨ok.t _ (h t ht).x, by omega, ⟨(h t ht).k.1, fun l hl => ⟨((h t ht).k.2 l hl).1, fun p hp => by have := ((h t ht).k.2 l hl).2 p hp; omega⟩⟩, ⟨(h t ht).l.1, fun l hl => ?_⟩, ⟨(h t ht).r.1, fun l hl => ⟨((h t ht).r.2 l hl).1, fun p hp => by have := ((h t ht).r.2 l hl).2.1 p hp; omega, ((h t ht).r.2 l hl).2.2⟩⟩, fun m hm => ?_⟩
    · obtain ⟨y, hy, e1, e2⟩ := ((h t ht).l.2 l hl).2
      have := (ok.w y hy).2
      exact ⟨by have := ((h t ht).l.2 l hl).1; omega, by rw [← e1]; exact ok.t y hy, by omega⟩
    · obtain ⟨y, hy, e1, e2⟩ := (h t ht).m m hm
      have := (ok.w y hy).2
      exact ⟨by rw [← e1]; exact ok.t y hy, by omega⟩
  · have := congrArg List.length e
    rw [List.length_map, List.length_map] at this
    have := ok.n
    omega
theorem ne_nilR {xs : List PV} {h : PH} {a : Addr} {Q : PK} (e : h a = some (.lst xs)) (fl : flats xs = true) (dp : PyData.depthAll (toDs xs) ≤ 60) (q : Q (.bl (!xs.isEmpty)) h) : N3.rNe (.ref a) (.lst []) h Q := by
  have ev : vw h (.ref a) = .lst xs := by simp only [vw, e]
  have e2 : PyData.eqv (toD (.lst xs)) (toD (.lst [])) = xs.isEmpty := by
    show PyData.eqv (.list (toDs xs)) (.list (toDs [])) = _
    cases xs <;> simp [toDs, PyData.eqv, PyData.eqvAll]
  refine ⟨by rw [ev]; exact fl, rfl, ?_, ?_⟩
  · rw [ev]
    show (PyData.list (toDs xs)).depth ≤ 64
    simp only [PyData.depth]; omega
  · rw [ev]
    show Q (.bl (!PyData.eqv (toD (.lst xs)) (toD (.lst [])))) h
    rw [e2]; exact q
theorem flats_tes (ts : List Te) : flats (ts.map teP) = true := flats_of fun p hp => by
  obtain ⟨t, -, rfl⟩ := List.mem_map.mp hp
  show (true && (true && (true && (flat (rowV t.r) && true)))) = true
  rw [flat_rowV]; rfl
theorem deps_tes (ts : List Te) : PyData.depthAll (toDs (ts.map teP)) ≤ 60 := deps_of fun p hp => by
  obtain ⟨t, -, rfl⟩ := List.mem_map.mp hp
  show (PyData.tuple [.int t.m, .str t.w, .str t.t, toD (rowV t.r)]).depth ≤ 60
  have := depth_rowV t.r
  simp only [PyData.depth, PyData.depthAll, this]
  decide
end Wneversaid_k09_judged_by_an_own_look

namespace Wneversaid_k09_judged_by_an_own_look
open PySem PySem.Spec PyProof.Rows L2 N3
def spMade : SpP := fun ps h Q => ∃ (D : Dk) (n : Nat), ps = [.ref D.d] ∧ DO D n h ∧ Gd h ∧ n < 500000000 ∧
  ∀ (ts : List Tb) (us : List Te) h', TOk ts → (∀ t ∈ ts, TbK t) → ts.length ≤ 5 → (∀ t ∈ us, TO t) → us.length ≤ 31 → DO D (n + 2000) h' → Gd h' → Kp D h h' → Q (.tup [.tup [.tup (ts.map tbP), .tup []], .tup (us.map teP)]) h'
theorem pure_law_made : ∀ qs h Q, qs.length = 1 → spMade qs h Q → m_law_made spDraw spNames10 spTable spTell spPick2 spRis (ends Q) (sp0 11 qs) h := by
  rintro _ h Q - ⟨D, n, rfl, d, g, hn, q⟩
  unfold m_law_made
  refine seq_step fun P hP => ?_
  simp only [mAsg, mTup, mB, mBlt, mLstM, mCons, mNil, mVar, mC, gt, N3.sp0]
  refine ⟨D, n, rfl, d, g, by omega, fun ns h1 nk d1 g1 o1 => ?_⟩
  intro W hW T hT
  obtain ⟨W1, W2⟩ := d1.ne hW
  have TW : T ≠ W := fun e => by rw [e, up_same] at hT; cases hT
  rw [up_ne TW] at hT
  obtain ⟨T1, T2⟩ := d1.ne hT
  have hW0 : h W = none := by rw [← o1 W W1 W2]; exact hW
  have hT0 : h T = none := by rw [← o1 T T1 T2]; exact hT
  have d2 := (d1.up (o := .lst []) W1 W2).up (o := .lst []) T1 T2
  have g2 : Gd (N3.up (N3.up h1 W (.lst [])) T (.lst [])) := (g1.up (o := .lst []) rfl (fun _ _ e => by cases e)).up (o := .lst []) rfl (fun _ _ e => by cases e)
  have k2 : Kp D h (N3.up (N3.up h1 W (.lst [])) T (.lst [])) := ((Kp.of o1).up hW0).up hT0
  have UW : N3.up (N3.up h1 W (.lst [])) T (.lst []) W = some (.lst []) := (up_ne fun e => TW e.symm).trans up_same
  have UT : N3.up (N3.up h1 W (.lst [])) T (.lst []) T = some (.lst []) := up_same
  generalize N3.up (N3.up h1 W (.lst [])) T (.lst []) = h2 at d2 g2 k2 UW UT
  clear d1 g1 o1 hW hT
  refine draw_do d2 g2 (by omega) (by decide) (by decide) fun a h3 a0 a3 d3 g3 o3 => ?_
  have k3 := k2.trans (Kp.of o3)
  have W3 := (o3 W W1 W2).trans UW
  have T3 := (o3 T T1 T2).trans UT
  clear d2 g2 k2 UW UT o3
  simp only [N3.rAdd, gT, gsCons, gsNil, gN, N3.st]
  refine ⟨rfl, trivial, ?_⟩
  subst hP
  refine seq_step fun P hP => ?_
  simp only [mFor, mRng1, mB, mBlt, mCons, mNil, mVar, mC, gt]
  refine draw_do d3 g3 (by omega) (by decide) (by decide) fun c h4 c0 c5 d4 g4 o4 => ?_
  simp only [N3.rAdd]
  obtain ⟨cn, cn1, cn5, ec⟩ : ∃ cn : Nat, 1 ≤ cn ∧ cn ≤ 5 ∧ (1 + c).toNat = cn := ⟨(1 + c).toNat, by omega, by omega, rfl⟩
  refine ⟨⟨by omega, by omega⟩, ?_⟩
  rw [ec]
  refine forL_of (W := fun ps τ h' => ∃ (i : Nat) (ws : List (Str × Nat)) (v5 : Option PV), ps = (List.range' i (cn - i)).map (fun j : Nat => PV.int (0 + (j : Nat))) ∧ i ≤ cn ∧ ws.length = i ∧ ws.map Prod.fst = ns.take i ∧ (∀ x ∈ ws, 1 ≤ x.2 ∧ x.2 ≤ 4) ∧ h' W = some (.lst (ws.map wdP)) ∧ h' T = some (.lst []) ∧ DO D (n + 4 + i) h' ∧ Gd h' ∧ Kp D h h' ∧
    τ = [some (.ref D.d), some (.lst (ns.map PV.str)), some (.ref W), some (.ref T), some (.int (1 + a)), v5, none, none, none, none, none]) ?_ ?_ _ _ _
    ⟨0, [], none, by unfold rng; rw [List.range_eq_range', Nat.sub_zero], Nat.zero_le _, rfl, rfl, fun x hx => (List.not_mem_nil hx).elim, (o4 W W1 W2).trans W3, (o4 T T1 T2).trans T3, d4, g4, k3.trans (Kp.of o4), rfl⟩
  · rintro p ps τ h5 ⟨i, ws, v5, ee, iw, wl, wf, wz, Wa, Ta, d5, g5, k5, rfl⟩
    have lt : i < cn := by
      rcases Nat.lt_or_ge i cn with z | z
      · exact z
      · rw [Nat.sub_eq_zero_of_le z] at ee; cases ee
    rw [show cn - i = (cn - (i + 1)) + 1 by omega, List.range'_succ, List.map_cons] at ee
    obtain ⟨rfl, rfl⟩ := List.cons.inj ee
    refine ⟨trivial, fun P' hP' => ?_⟩
    simp only [gN, N3.st, mDrop, mAppend, mTup, mB, mBlt, mCons, mNil, mVar, mC, gt]
    refine ⟨⟨_, _, rfl, Wa⟩, ix_ns nk (by omega) (by omega) ?_⟩
    refine draw_do d5 g5 (by omega) (by decide) (by decide) fun r h6 r0 r1 d6 g6 o6 => ?_
    have W6 := (o6 W W1 W2).trans Wa
    simp only [N3.rAdd]
    rw [W6]
    dsimp only
    refine ⟨by rw [List.length_map]; show _ < 16777216; omega, ?_⟩
    have e1 : ws.map wdP ++ [.tup [.str (nsA ns (0 + (i : Int)).toNat), .int (1 + r)]] = (ws ++ [(nsA ns i, (1 + r).toNat)]).map wdP := by
      rw [List.map_append]
      show _ ++ _ = _ ++ [PV.tup [.str (nsA ns i), .int ((1 + r).toNat : Nat)]]
      rw [show (((1 + r).toNat : Nat) : Int) = 1 + r by omega, show (0 + (i : Int)).toNat = i by omega]
    rw [e1]
    refine hP' _ _ ⟨i + 1, ws ++ [(nsA ns i, (1 + r).toNat)], _, rfl, lt, by rw [List.length_append, wl]; rfl, ?_, fun x hx => ?_, up_same, (up_ne TW).trans ((o6 T T1 T2).trans Ta), (d6.up W1 W2).mono (by omega), g6.up (o := .lst ((ws ++ [(nsA ns i, (1 + r).toNat)]).map wdP)) (nds_map fun x _ => rfl) (fun _ _ e => by cases e), (k5.trans (Kp.of o6)).up hW0, rfl⟩
    · rw [List.map_append, wf, List.take_add_one, nsA_at nk (by omega)]; rfl
    · rcases List.mem_append.mp hx with z | z
      · exact wz x z
      · rw [List.mem_singleton.mp z]
        exact ⟨by show 1 ≤ (1 + r).toNat; omega, by show (1 + r).toNat ≤ 4; omega⟩
  rintro τ h5 ⟨i, ws, v5, ee, iw, wl, wf, wz, Wa, Ta, d5, g5, k5, rfl⟩
  refine ⟨trivial, ?_⟩
  have ei : i = cn := by
    rcases Nat.lt_or_ge i cn with z | z
    · rw [show cn - i = (cn - (i + 1)) + 1 by omega, List.range'_succ] at ee; cases ee
    · omega
  subst ei
  have wok : WdOk ws := ⟨by rw [wf]; exact nk.nd.sublist (List.take_sublist _ _), by omega, fun z => by rw [z] at wl; simp at wl; omega, wz, fun x hx => nk.t _ (List.mem_of_mem_take (by rw [← wf]; exact List.mem_map_of_mem hx))⟩
  clear d3 g3 k3 W3 T3 d4 g4 o4 ee
  subst hP
  dsimp only
  /- the plan -/
  refine seq_step fun P hP => ?_
  simp only [mAsg, mTup, mBlt, mLc, mSeqs, mCons, mNil, mVar, gt, seqL, Wa, N3.wp, N3.st]
  refine lcL_of (W := fun ps acc h' => ∃ (ds r : List (Str × Nat)) (ts : List Tb), ws = ds ++ r ∧ ps = r.map wdP ∧ acc = ts.map tbP ∧ ts.map Tb.name = ds.map Prod.fst ∧ (∀ t ∈ ts, TbS ws t) ∧ DO D (n + 9 + 100 * ds.length) h' ∧ Gd h' ∧ Kp D h5 h') ?_ ?_ _ _ _ ⟨[], ws, [], rfl, rfl, rfl, rfl, fun t ht => (List.not_mem_nil ht).elim, d5.mono (by show _ ≤ n + 9 + 100 * 0; omega), g5, Kp.refl⟩
  · rintro p ps acc h6 ⟨ds, r, ts, ew, ee, rfl, en, hs, d6, g6, k6⟩
    obtain ⟨x, r, rfl⟩ : ∃ x r', r = x :: r' := by
      cases r with
      | nil => cases ee
      | cons x r => exact ⟨x, r, rfl⟩
    rw [List.map_cons] at ee
    obtain ⟨rfl, rfl⟩ := List.cons.inj ee
    have W6 : h6 W = some (.lst (ws.map wdP)) := (k6 W W1 W2 (by rw [Wa]; simp)).trans Wa
    have dl : ds.length < 5 := by have := wok.n; rw [ew, List.length_append, List.length_cons] at this; omega
    refine ⟨W6, fun P' hP' => ?_⟩
    simp only [wdP, gT, gsCons, gsNil, gN, N3.st, mYes, if_true, mBlt, mCons, mNil, mVar, gt]
    refine ⟨rfl, trivial, ?_⟩
    refine ⟨D, _, W, ws, x, 1 + a, rfl, d6, g6, by omega, W6, W1, W2, wok, by rw [ew]; simp, by omega, by omega, fun t h7 tS tn d7 g7 k7 => ?_⟩
    refine hP' _ _ ⟨ds ++ [x], r, ts ++ [t], by rw [ew, List.append_assoc]; rfl, rfl, by rw [List.map_append]; rfl, by rw [List.map_append, List.map_append, en]; show _ ++ [t.name] = _ ++ [x.1]; rw [tn], fun t' ht' => ?_, d7.mono (by rw [List.length_append]; show _ ≤ n + 9 + 100 * (_ + 1); omega), g7, k6.trans k7⟩
    rcases List.mem_append.mp ht' with z | z
    · exact hs t' z
    · rw [List.mem_singleton.mp z]; exact tS
  rintro acc h6 ⟨ds, r, ts, ew, ee, rfl, en, hs, d6, g6, k6⟩
  have W6 : h6 W = some (.lst (ws.map wdP)) := (k6 W W1 W2 (by rw [Wa]; simp)).trans Wa
  have T6 : h6 T = some (.lst []) := (k6 T T1 T2 (by rw [Ta]; simp)).trans Ta
  refine ⟨W6, ?_⟩
  have er : r = [] := by
    cases r with
    | nil => rfl
    | cons x r => cases ee
  subst er
  rw [List.append_nil] at ew
  rw [← ew] at en
  obtain ⟨tok, tbk, t5⟩ := tok9 wok en hs
  have d6' : DO D (n + 600) h6 := d6.mono (by rw [← ew]; have := wok.n; omega)
  have kk6 := k5.trans k6
  clear d5 g5 k5 Wa Ta d6 k6 ee en hs
  simp only [N3.rTupOf, listed, seqL, gN, N3.st]
  subst hP
  /- worths -/
  refine seq_step fun P hP => ?_
  have c3 := cut_58 nk
  have hwo : ∃ wos : List Wo, [PV.int 0, .int 0, .int 1, .int (-1)] ++ (cut ns (some 5) (some 8)).map PV.str ++ [.str (nsA ns 0), .int 12, .int 0] = wos.map woP ∧ wos.length = 10 ∧ ∀ w ∈ wos, WoK w := by
    refine ⟨[Wo.int 0, .int 0, .int 1, .int (-1)] ++ (cut ns (some 5) (some 8)).map Wo.str ++ [.str (nsA ns 0), .int 12, .int 0], by rw [List.map_append, List.map_append, List.map_map]; rfl, by rw [List.length_append, List.length_append, List.length_map, c3]; rfl, fun w hw => ?_⟩
    rcases List.mem_append.mp hw with hw | hw
    · rcases List.mem_append.mp hw with hw | hw
      · simp only [List.mem_cons, List.not_mem_nil, or_false] at hw
        rcases hw with rfl | rfl | rfl | rfl <;> (show Int.natAbs _ ≤ 1000; decide)
      · obtain ⟨x, hx, rfl⟩ := List.mem_map.mp hw
        exact nk.t x (cut_sub hx)
    · simp only [List.mem_cons, List.not_mem_nil, or_false] at hw
      rcases hw with rfl | rfl | rfl
      · exact nsA_tx nk (by decide)
      · show Int.natAbs _ ≤ 1000; decide
      · show Int.natAbs _ ≤ 1000; decide
  obtain ⟨wos, ewo, wl10, wok2⟩ := hwo
  simp only [mAsg, mB, mU, mSl, mPart, mNoPart, mLst, mBlt, mCons, mNil, mVar, mC, gt, N3.rNeg, N3.rSl, seqL, cut_map, N3.rAdd]
  refine ⟨by rw [List.length_map, c3]; decide, ix_ns nk (by decide) (by decide) ?_⟩
  refine ⟨by rw [List.length_append, List.length_map, c3]; show 4 + 3 + 3 ≤ 16777216; decide, ?_⟩
  refine draw_do d6' g6 (by omega) (by decide) (by decide) fun r h7 r0 r1 d7 g7 o7 => ?_
  simp only [Int.toNat_zero] at *
  rw [ewo, cut_map, cut_up _ r r0]
  simp only [gN, N3.st]
  have kk7 := kk6.trans (Kp.of o7)
  have W7 := (o7 W W1 W2).trans W6
  have T7 := (o7 T T1 T2).trans T6
  have wdl : (wos.drop r.toNat).length ≤ 10 ∧ (wos.drop r.toNat) ≠ [] := by
    refine ⟨by rw [List.length_drop]; omega, fun z => ?_⟩
    have := congrArg List.length z
    rw [List.length_drop, wl10] at this
    have : (10 : Nat) - r.toNat = 0 := this
    omega
  have wdk : ∀ w ∈ wos.drop r.toNat, WoK w := fun w hw => wok2 w (List.mem_of_mem_drop hw)
  generalize wos.drop r.toNat = wz at wdl wdk
  clear d6' g6 o7 kk6 W6 T6
  subst hP
  /- tells -/
  refine seq_step fun P hP => ?_
  simp only [mFor, mRng1, mBlt, mCons, mNil, mVar, mC, gt]
  refine draw_do d7 g7 (by omega) (by decide) (by decide) fun m h8 m0 m31 d8 g8 o8 => ?_
  refine ⟨⟨by omega, by omega⟩, ?_⟩
  obtain ⟨c2, c30, ec2⟩ : ∃ c2 : Nat, c2 ≤ 30 ∧ m.toNat = c2 := ⟨m.toNat, by omega, rfl⟩
  rw [ec2]
  refine forL_of (W := fun ps τ h' => ∃ (te : List Te) (v5 v8 : Option PV), ps.length + te.length = c2 ∧ (∀ t ∈ te, TO t) ∧ h' T = some (.lst (te.map teP)) ∧ h' W = some (.lst (ws.map wdP)) ∧ DO D (n + 602 + 22 * te.length) h' ∧ Gd h' ∧ Kp D h h' ∧
    τ = [some (.ref D.d), some (.lst (ns.map PV.str)), some (.ref W), some (.ref T), some (.int (1 + a)), v5, some (.tup [.tup (ts.map tbP), .tup []]), some (.lst (wz.map woP)), v8, none, none]) ?_ ?_ _ _ _
    ⟨[], _, none, by rw [rng_len]; rfl, fun t ht => (List.not_mem_nil ht).elim, (o8 T T1 T2).trans T7, (o8 W W1 W2).trans W7, d8.mono (by show _ ≤ n + 602 + 22 * 0; omega), g8, kk7.trans (Kp.of o8), rfl⟩
  · rintro p ps τ h9 ⟨te, v5, v8, pl, tO, Ta, Wa, d9, g9, k9, rfl⟩
    rw [List.length_cons] at pl
    refine ⟨trivial, fun P' hP' => ?_⟩
    simp only [gN, N3.st]
    refine seq_step fun P2 hP2 => ?_
    simp only [mAsg, mBlt, mCons, mNil, mVar, gt, gN, N3.st]
    refine ⟨D, _, W, ws, ns, wz, rfl, d9, g9, by omega, Wa, W1, W2, wok, nk, wdl.2, by omega, wdk, fun t h10 t1 d10 g10 k10 => ?_⟩
    have T10 : h10 T = some (.lst (te.map teP)) := (k10 T T1 T2 (by rw [Ta]; simp)).trans Ta
    have W10 : h10 W = some (.lst (ws.map wdP)) := (k10 W W1 W2 (by rw [Wa]; simp)).trans Wa
    have kk10 := k9.trans k10
    subst hP2
    refine seq_step fun P2 hP2 => ?_
    have add : ∀ (t : Te) (h' : PH), TO t → DO D (n + 624 + 22 * te.length) h' → Gd h' → Kp D h10 h' → P2 [some (.ref D.d), some (.lst (ns.map PV.str)), some (.ref W), some (.ref T), some (.int (1 + a)), some p, some (.tup [.tup (ts.map tbP), .tup []]), some (.lst (wz.map woP)), some (teP t), none, none] h' := fun t h' t1 dd gg kk => by
      have T' : h' T = some (.lst (te.map teP)) := (kk T T1 T2 (by rw [T10]; simp)).trans T10
      have W' : h' W = some (.lst (ws.map wdP)) := (kk W W1 W2 (by rw [W10]; simp)).trans W10
      subst hP2
      simp only [mDrop, mAppend, mCons, mNil, mVar, gt]
      refine ⟨⟨_, _, rfl, T'⟩, ?_⟩
      rw [T']
      dsimp only
      refine ⟨by rw [List.length_map]; show _ < 16777216; omega, ?_⟩
      have e1 : te.map teP ++ [teP t] = (te ++ [t]).map teP := by rw [List.map_append]; rfl
      rw [e1]
      refine hP' _ _ ⟨te ++ [t], _, _, by rw [List.length_append]; show _ + (_ + 1) = c2; omega, fun t' ht' => ?_, up_same, (up_ne fun e => TW e.symm).trans W', (dd.up T1 T2).mono (by rw [List.length_append]; show _ ≤ n + 602 + 22 * (_ + 1); omega), gg.up (o := .lst ((te ++ [t]).map teP)) (nds_tes _) (fun _ _ e => by cases e), (kk10.trans kk).up hT0, rfl⟩
      rcases List.mem_append.mp ht' with z | z
      · exact tO t' z
      · rw [List.mem_singleton.mp z]; exact t1
    simp only [mIfS, mAndT, mTest, mB, mLst, mBlt, mCons, mNil, mVar, mC, gt]
    refine ne_nilR T10 (flats_tes te) (deps_tes te) ?_
    rw [empty_map]
    by_cases c : te = []
    · subst c
      simp only [List.isEmpty_nil, Bool.not_true, Bool.false_eq_true, if_false, mNx]
      exact add t h10 t1 (d10.mono (by show _ ≤ n + 624 + 22 * 0; simp)) g10 Kp.refl
    · have c' : te.isEmpty = false := by cases te with
        | nil => exact (c rfl).elim
        | cons x r => rfl
      rw [c']
      simp only [Bool.not_false, if_true]
      refine draw_do d10 g10 (by omega) (by decide) (by decide) fun s h11 s0 s5 d11 g11 o11 => ?_
      simp only [N3.rEq, N3.vw, toD, flat, eqv_int, true_and]
      refine ⟨by simp [PyData.depth], ite2 (fun c2' => ?_) (fun c2' => ?_)⟩
      · simp only [mAsg, mB, mSl, mNoPart, mPart, mBlt, mCons, mNil, mVar, mC, gt, teP, N3.rSl]
        refine pick_own d11 g11 (by omega) ((o11 T T1 T2).trans T10) T1 T2 (by simpa using c) (by rw [List.length_map]; omega) fun v hv h12 d12 g12 k12 => ?_
        obtain ⟨t', ht', rfl⟩ := List.mem_map.mp hv
        have tO' := tO t' ht'
        have e2 : cut [PV.int t.m, .str t.w, .str t.t, rowV t.r] none (some 2) = [.int t.m, .str t.w] := rfl
        have e3 : cut [PV.int t'.m, .str t'.w, .str t'.t, rowV t'.r] (some 2) none = [.str t'.t, rowV t'.r] := rfl
        simp only [teP, N3.rSl, e2, e3, N3.rAdd, gN, N3.st]
        refine ⟨by show 2 + 2 ≤ 16777216; decide, ?_⟩
        exact add ⟨t.m, t.w, t'.t, t'.r⟩ h12 ⟨t1.m, t1.w, tO'.n, tO'.l, tO'.ne, tO'.r⟩ (d12.mono (by omega)) g12 ((Kp.of o11).trans k12)
      · simp only [mNx]
        exact add t h11 t1 (d11.mono (by omega)) g11 (Kp.of o11)
  rintro τ h9 ⟨te, v5, v8, pl, tO, Ta, Wa, d9, g9, k9, rfl⟩
  refine ⟨trivial, ?_⟩
  have tl : te.length ≤ 30 := by simp at pl; omega
  subst hP
  simp only [mRet, mTup, mBlt, mCons, mNil, mVar, gt]
  refine ⟨.ref T, te, rfl, .inr ⟨T, rfl, Ta⟩, g9, by omega, fun us h10 un um us_ g10 o10 => ?_⟩
  have ul := nd_le un fun t ht => (um t).mp ht
  exact q ts us h10 tok tbk t5 (fun t ht => tO t ((um t).mp ht)) (by omega) ((d9.keep (o10 _ d9.live.1) (o10 _ d9.live.2)).mono (by omega)) g10 (k9.trans (Kp.all o10))
end Wneversaid_k09_judged_by_an_own_look

namespace Wneversaid_k09_judged_by_an_own_look
open PySem PySem.Spec PyProof.Rows L2 N3
/-! ### k09: the law -/
theorem pure_law {T : Addr} : ∀ qs h Q, qs.length = 1 → spLawT T lamQ 63 qs h Q → m_law spDeckF spMade (spRight T) spDraw (ends Q) (sp0 8 qs) h := by
  rintro _ h Q - ⟨ns0, rfl, hn, -, rfl, kk⟩
  unfold m_law
  refine seq_step fun P1 hP1 => ?_
  simp only [mAsg, mBlt, mCons, mNil, mVar, gt, gN, N3.st, N3.sp0]
  refine ⟨ns0, rfl, hn, fun D h1 e f1 f2 a => ?_⟩
  have td : T ≠ D.d := fun z => by rw [← z, tabH_at] at f1; cases f1
  have tl : T ≠ D.l := fun z => by rw [← z, tabH_at] at f2; cases f2
  have dk1 := DO.of a
  have gd1 : Gd h1 := at_gd a (by rw [e]; exact gd_tab)
  have ht1 : h1 T = some (.tab lamQ) := by rw [a.rd td tl, e]; exact tabH_at
  subst hP1
  refine seq_step fun P1 hP1 => ?_
  simp only [mFor, mRng1, mCons, mNil, mC, gt]
  refine ⟨⟨by decide, by decide⟩, ?_⟩
  refine forL_of (W := fun ps τ h' => ∃ (k : Nat) (v2 v3 v4 v5 v6 : Option PV), ps.length + k = 3 ∧ DO D (2100 * k) h' ∧ Gd h' ∧ h' T = some (.tab lamQ) ∧
      τ = [some (.lst (ns0.map PV.int)), some (.ref D.d), v2, v3, v4, v5, v6, none]) ?_ ?_ _ _ _
    ⟨0, none, none, none, none, none, by rw [rng_len]; rfl, dk1, gd1, ht1, rfl⟩
  · rintro p ps τ h2 ⟨k, v2, v3, v4, v5, v6, hl, dk2, gd2, ht2, rfl⟩
    rw [List.length_cons] at hl
    refine ⟨trivial, fun P2 hP2 => ?_⟩
    simp only [gN, N3.st]
    refine seq_step fun P3 hP3 => ?_
    simp only [mAsg, mBlt, mCons, mNil, mVar, gt]
    refine ⟨D, _, rfl, dk2, gd2, by omega, fun ts us h3 tok tbk t5 uO ul dk3 gd3 o3 => ?_⟩
    have ht3 : h3 T = some (.tab lamQ) := (o3 T td tl (by rw [ht2]; simp)).trans ht2
    simp only [gT, gsCons, gsNil, gN, N3.st]
    refine ⟨rfl, trivial, ?_⟩
    have tP : TH 7 400007 (.tup [.tup [.tup (ts.map tbP), .tup []], .tup (us.map teP)]) := (th_2 (th_plan9 tbk t5) ((th_tells uO ul).mono (by decide) (by decide : 110000 ≤ 200000))).mono (Nat.le_refl _) (by decide)
    subst hP3
    refine seq_step fun P3 hP3 => ?_
    simp only [mPar, mTup, mBlt, mLc, mSeqs, mB, mCons, mNil, mVar, mC, gt]
    refine TH.repr (p := .tup [_, _]) tP (by decide) (by decide) ?_
    obtain ⟨kept, ek⟩ : ∃ x : Str, (toD (N3.vwL h3 (.tup [.tup [.tup (ts.map tbP), .tup []], .tup (us.map teP)]))).shown = x := ⟨_, rfl⟩
    rw [ek]
    have j0 : ∀ a b : PV, atI [a, b] 0 = some a := fun _ _ => rfl
    have t0 : ∀ a b c d e f : PV, atI [a, b, c, d, e, f] 0 = some a := fun _ _ _ _ _ _ => rfl
    simp only [N3.rIx, j0, seqL, N3.wp, N3.st]
    refine lcM (enc := tbP) (fun t => .str t.name) trivial _ _ (fun t ht Pz z => ?_) ?_
    · simp only [gN, N3.st, mB, mVar, mC, gt, tbP, N3.rIx, t0]
      exact z
    rw [List.nil_append]
    have en : ts.map (fun t => PV.str t.name) = (ts.map Tb.name).map PV.str := by rw [List.map_map]; rfl
    rw [en]
    generalize ts.map Tb.name = nm
    have RT : ∀ (tells : List Te) (ns : List Str) (h' : PH) (R : PK), Gd h' → h' T = some (.tab lamQ) → tells.length ≤ 31 → (∀ t ∈ tells, TO t) → (∀ h'', Gd h'' → (∀ x, h' x ≠ none → h'' x = h' x) → R (.bl true) h'') → spRight T [.tup [.tup (ts.map tbP), .tup []], .tup (tells.map teP), .lst (ns.map PV.str)] h' R := fun tells ns h' R g' ht' hl' ho' kx =>
      ⟨ts, tells, ns, rfl, g', tok, hl', ho', ht', kx⟩
    subst hP3
    refine seq_step fun P3 hP3 => ?_
    simp only [mIfS, mOrT, mNotT, mTest, mBlt, mSl, mNoPart, mPart, mCons, mNil, mVar, mC, gt]
    refine RT us nm _ _ gd3 ht3 ul uO fun h4 gd4 o4 => ?_
    simp only [Bool.not_true, Bool.false_eq_true, if_false]
    have dk4 := dk3.keep (o4 _ dk3.live.1) (o4 _ dk3.live.2)
    have ht4 : h4 T = some (.tab lamQ) := (o4 T (by rw [ht3]; simp)).trans ht3
    refine draw_do dk4 gd4 (by omega) (by decide) (by decide) fun r h5 r0 r31 dk5 gd5 o5 => ?_
    have ht5 : h5 T = some (.tab lamQ) := (o5 T td tl).trans ht4
    simp only [N3.rSl, cut_map]
    rw [cut_nat _ _ r0]
    refine RT (us.take r.toNat) nm _ _ gd5 ht5 (by rw [List.length_take]; omega) (fun t ht => uO t (List.mem_of_mem_take ht)) fun h6 gd6 o6 => ?_
    simp only [Bool.not_true, Bool.false_eq_true, if_false, mNx]
    have dk6 := dk5.keep (o6 _ dk5.live.1) (o6 _ dk5.live.2)
    have ht6 : h6 T = some (.tab lamQ) := (o6 T (by rw [ht5]; simp)).trans ht5
    subst hP3
    simp only [mIfS, mOrT, mNotT, mTest, mBlt, mB, mTup, mSl, mNoPart, mPart, mCons, mNil, mVar, mC, gt, N3.rSl, seqL, cut_map]
    rw [cut_nat _ _ (by decide)]
    refine RT us (nm.take (1 : Int).toNat) _ _ gd6 ht6 ul uO fun h7 gd7 o7 => ?_
    simp only [Bool.not_true, Bool.false_eq_true, if_false]
    refine TH.repr (p := .tup [_, _]) tP (by decide) (by decide) ?_
    rw [show (toD (N3.vwL h7 (.tup [.tup [.tup (ts.map tbP), .tup []], .tup (us.map teP)]))).shown = kept from ek]
    refine ne_same ?_
    simp only [Bool.false_eq_true, if_false, mNx]
    exact hP2 _ _ ⟨k + 1, _, _, _, _, _, by omega, (dk6.keep (o7 _ dk6.live.1) (o7 _ dk6.live.2)).mono (by omega), gd7, (o7 T (by rw [ht6]; simp)).trans ht6, rfl⟩
  · rintro τ h2 ⟨k, v2, v3, v4, v5, v6, hl, dk2, gd2, ht2, rfl⟩
    refine ⟨trivial, ?_⟩
    subst hP1
    exact kk _
theorem pure_law_deck : ∀ qs h Q, qs.length = 1 → spDeckF qs h Q → m_law_deck (ends Q) (sp0 4 qs) h := pure_deckF
theorem pure_law_draw : ∀ qs h Q, qs.length = 2 → spDraw qs h Q → m_law_draw (ends Q) (sp0 5 qs) h := pure_draw
end Wneversaid_k09_judged_by_an_own_look

open PySem PySem.W PyProof.Rows
set_option maxRecDepth 100000 in
set_option maxHeartbeats 0 in
theorem PySem.Challenge.cw_neversaid_k09_judged_by_an_own_look_holds : PySem.Challenge.rw_neversaid_k09_judged_by_an_own_look.Holds := by
  w_on; o_law; k_head; (case hw => w_witness2)
  k_fill
  refine' N3.walk_gT (l := PySem.Challenge.rw_neversaid_k09_judged_by_an_own_look) (k := 9) (x := "_law_script") (nm := (("rising" : Str) ++ ".<locals>." ++ "<lambda>")) rfl (by decide) rfl ⟨rfl, by decide, by decide⟩ (fun w h Y => PySem.W.km_in_of Y) (fun w h Y => PySem.W.km_tabs_of Y _ (List.mem_singleton.mpr rfl)) ?F
  case F =>
    intro w mg fa h KX G hmg
    refine' Wneversaid_k09_judged_by_an_own_look.all_mk KX G hmg ?A_Judging ?a_worth_key ?l_worth_key ?c_worth_key ?k_worth_key ?a_Judging_init ?i_Judging_init ?l_Judging_init ?c_Judging_init ?k_Judging_init ?a_Judging_is_there ?i_Judging_is_there ?l_Judging_is_there ?c_Judging_is_there ?k_Judging_is_there ?a_Judging_how_many ?i_Judging_how_many ?l_Judging_how_many ?c_Judging_how_many ?k_Judging_how_many ?a_law_deck ?l_law_deck ?c_law_deck ?k_law_deck ?a_law_draw ?l_law_draw ?c_law_draw ?k_law_draw ?a_law_rank ?l_law_rank ?c_law_rank ?k_law_rank ?a_law_same ?l_law_same ?c_law_same ?k_law_same ?a_law_has ?l_law_has ?c_law_has ?k_law_has ?a_key_of ?l_key_of ?c_key_of ?k_key_of ?a_Judging_why_not ?i_Judging_why_not ?l_Judging_why_not ?c_Judging_why_not ?k_Judging_why_not ?a_law_pick ?l_law_pick ?c_law_pick ?k_law_pick ?a_law_names ?l_law_names ?c_law_names ?k_law_names ?a_law_places ?l_law_places ?c_law_places ?k_law_places ?a_law_risen ?l_law_risen ?c_law_risen ?k_law_risen ?a_law_why ?l_law_why ?c_law_why ?k_law_why ?a_Judging_judge ?i_Judging_judge ?l_Judging_judge ?c_Judging_judge ?k_Judging_judge ?a_law_table ?l_law_table ?c_law_table ?k_law_table ?a_law_tell ?l_law_tell ?c_law_tell ?k_law_tell ?a_law_due ?l_law_due ?c_law_due ?k_law_due ?a_judged ?l_judged ?c_judged ?k_judged ?a_law_made ?l_law_made ?c_law_made ?k_law_made ?a_rising ?l_rising ?c_rising ?k_rising ?a_taken ?l_taken ?c_taken ?k_taken ?a_law_right ?l_law_right ?c_law_right ?k_law_right ?a_law ?l_law ?c_law ?k_law ?pg_Judging ?hd_Judging ?po_Judging ?sa_Judging ?mk_Judging ?kc_Judging ?n_Judging_tables_known ?n_Judging_rows_taken ?cc_rising ?ch_rising ?nt_rising ?z_isinstance ?z_str ?z_len ?z_list ?z_tuple ?z_enumerate ?z_range ?z_sorted ?z_set ?z_dict ?z_int ?z_repr ?g_ROOT Wneversaid_k09_judged_by_an_own_look.pure_worth_key Wneversaid_k09_judged_by_an_own_look.pure_Judging_init Wneversaid_k09_judged_by_an_own_look.pure_Judging_is_there Wneversaid_k09_judged_by_an_own_look.pure_Judging_how_many Wneversaid_k09_judged_by_an_own_look.pure_law_deck Wneversaid_k09_judged_by_an_own_look.pure_law_draw Wneversaid_k09_judged_by_an_own_look.pure_law_rank Wneversaid_k09_judged_by_an_own_look.pure_law_same Wneversaid_k09_judged_by_an_own_look.pure_law_has Wneversaid_k09_judged_by_an_own_look.pure_key_of Wneversaid_k09_judged_by_an_own_look.pure_Judging_why_not Wneversaid_k09_judged_by_an_own_look.pure_law_pick Wneversaid_k09_judged_by_an_own_look.pure_law_names Wneversaid_k09_judged_by_an_own_look.pure_law_places Wneversaid_k09_judged_by_an_own_look.pure_law_risen Wneversaid_k09_judged_by_an_own_look.pure_law_why Wneversaid_k09_judged_by_an_own_look.pure_Judging_judge Wneversaid_k09_judged_by_an_own_look.pure_law_table Wneversaid_k09_judged_by_an_own_look.pure_law_tell Wneversaid_k09_judged_by_an_own_look.pure_law_due Wneversaid_k09_judged_by_an_own_look.pure_judged Wneversaid_k09_judged_by_an_own_look.pure_law_made Wneversaid_k09_judged_by_an_own_look.pure_rising Wneversaid_k09_judged_by_an_own_look.pure_taken Wneversaid_k09_judged_by_an_own_look.pure_law_right Wneversaid_k09_judged_by_an_own_look.pure_law
    (case A_Judging => k_is)
    (case a_worth_key => k_is)
    (case l_worth_key => k_is)
    (case c_worth_key => k_is)
    (case k_worth_key => k_is)
    (case a_Judging_init => k_is)
    (case i_Judging_init => k_is)
    (case l_Judging_init => k_is)
    (case c_Judging_init => k_is)
    (case k_Judging_init => k_is)
    (case a_Judging_is_there => k_is)
    (case i_Judging_is_there => k_is)
    (case l_Judging_is_there => k_is)
    (case c_Judging_is_there => k_is)
    (case k_Judging_is_there => k_is)
    (case a_Judging_how_many => k_is)
    (case i_Judging_how_many => k_is)
    (case l_Judging_how_many => k_is)
    (case c_Judging_how_many => k_is)
    (case k_Judging_how_many => k_is)
    (case a_law_deck => k_is)
    (case l_law_deck => k_is)
    (case c_law_deck => k_is)
    (case k_law_deck => k_is)
    (case a_law_draw => k_is)
    (case l_law_draw => k_is)
    (case c_law_draw => k_is)
    (case k_law_draw => k_is)
    (case a_law_rank => k_is)
    (case l_law_rank => k_is)
    (case c_law_rank => k_is)
    (case k_law_rank => k_is)
    (case a_law_same => k_is)
    (case l_law_same => k_is)
    (case c_law_same => k_is)
    (case k_law_same => k_is)
    (case a_law_has => k_is)
    (case l_law_has => k_is)
    (case c_law_has => k_is)
    (case k_law_has => k_is)
    (case a_key_of => k_is)
    (case l_key_of => k_is)
    (case c_key_of => k_is)
    (case k_key_of => k_is)
    (case a_Judging_why_not => k_is)
    (case i_Judging_why_not => k_is)
    (case l_Judging_why_not => k_is)
    (case c_Judging_why_not => k_is)
    (case k_Judging_why_not => k_is)
    (case a_law_pick => k_is)
    (case l_law_pick => k_is)
    (case c_law_pick => k_is)
    (case k_law_pick => k_is)
    (case a_law_names => k_is)
    (case l_law_names => k_is)
    (case c_law_names => k_is)
    (case k_law_names => k_is)
    (case a_law_places => k_is)
    (case l_law_places => k_is)
    (case c_law_places => k_is)
    (case k_law_places => k_is)
    (case a_law_risen => k_is)
    (case l_law_risen => k_is)
    (case c_law_risen => k_is)
    (case k_law_risen => k_is)
    (case a_law_why => k_is)
    (case l_law_why => k_is)
    (case c_law_why => k_is)
    (case k_law_why => k_is)
    (case a_Judging_judge => k_is)
    (case i_Judging_judge => k_is)
    (case l_Judging_judge => k_is)
    (case c_Judging_judge => k_is)
    (case k_Judging_judge => k_is)
    (case a_law_table => k_is)
    (case l_law_table => k_is)
    (case c_law_table => k_is)
    (case k_law_table => k_is)
    (case a_law_tell => k_is)
    (case l_law_tell => k_is)
    (case c_law_tell => k_is)
    (case k_law_tell => k_is)
    (case a_law_due => k_is)
    (case l_law_due => k_is)
    (case c_law_due => k_is)
    (case k_law_due => k_is)
    (case a_judged => k_is)
    (case l_judged => k_is)
    (case c_judged => k_is)
    (case k_judged => k_is)
    (case a_law_made => k_is)
    (case l_law_made => k_is)
    (case c_law_made => k_is)
    (case k_law_made => k_is)
    (case a_rising => k_is)
    (case l_rising => k_is)
    (case c_rising => k_is)
    (case k_rising => k_is)
    (case a_taken => k_is)
    (case l_taken => k_is)
    (case c_taken => k_is)
    (case k_taken => k_is)
    (case a_law_right => k_is)
    (case l_law_right => k_is)
    (case c_law_right => k_is)
    (case k_law_right => k_is)
    (case a_law => k_is)
    (case l_law => k_is)
    (case c_law => k_is)
    (case k_law => k_is)
    (case pg_Judging => k_is)
    (case hd_Judging => k_is)
    (case po_Judging => k_is)
    (case sa_Judging => k_is)
    (case mk_Judging => k_is)
    (case kc_Judging => k_is)
    (case n_Judging_tables_known => k_is)
    (case n_Judging_rows_taken => k_is)
    (case cc_rising => rfl)
    (case ch_rising => kernel_rfl)
    (case nt_rising => kernel_rfl)
    (case z_isinstance => k_is)
    (case z_str => k_is)
    (case z_len => k_is)
    (case z_list => k_is)
    (case z_tuple => k_is)
    (case z_enumerate => k_is)
    (case z_range => k_is)
    (case z_sorted => k_is)
    (case z_set => k_is)
    (case z_dict => k_is)
    (case z_int => k_is)
    (case z_repr => k_is)
    (case g_ROOT => k_is)

