import PyProof.Rows.All
import Wide.All
import OpenK.AllK
import Wide.FinOn
import HandS.ForMost
import KE.KeyNested
import HandS.TupAny
import HandS.Small
import HandS.TupMul
import HandS.Style
import HandS.Steps
import HandS.StrMore
import HandS.Codes
import HandS.EndBits
import HandS.Zip
import HandS.Dict
import HandS.IsInst
import HandS.More
import KE.SortData
import HandS.FStr
import PyProof.ListStr
import KE.KUnpackStar
import HandS.NoneIn
import KE.GoesEnum
import KE.GoesMore
import HandS.Flow
import HandS.Defaults
import HandS.MakeKwOnly
import HandS.WordsDict
import HandS.DictComp
import HandS.Exc
import HandS.ExcOwn
import HandS.TryMany
import HandS.TryOnly
import KE.KExcIs
import HandS.ExcField
import HandS.ExcIs
import PyProof.InstNe
import KE.GoesComp
import HandS.Replace
import HandS.ReplaceLit
import HandS.RaiseMore
import HandS.Wide
import KE.KStrBytes
import KE.KIntText
import KE.IntTextText
import PySem.Challenge.RW_neversaid_k04_rows_written_and_read
set_option Elab.async false
set_option linter.all false
set_option maxRecDepth 100000
set_option maxHeartbeats 4000000
/-! Own layer over the hand layer: values with tuples, kept lists, kept dicts as plain data; a store of what may change. -/
namespace N3
open PySem PySem.Spec PyProof.Rows L2

/-- a value: tup, lst, dct are data that no one changes any more; ref is an object that may change -/
inductive PV where
  | non | bl (b : Bool) | int (i : Int) | str (x : Str) | tup (xs : List PV) | lst (xs : List PV) | dct (ks : List Key) (vs : List PV) | ref (a : Addr) | ty (n : String)

mutual
/-- a key of any depth, as a value -/
def pK : NestedKey → PV
  | .none => .non
  | .num i => .int i
  | .text x => .str x
  | .tup ks => .tup (pKs ks)
def pKs : List NestedKey → List PV
  | [] => []
  | k :: ks => pK k :: pKs ks
end
/-- an object that may change -/
inductive PO where
  | lst (xs : List PV)
  | dct (ks : List Key) (vs : List PV)
  | ins (C : Addr) (ns : List Str) (vs : List PV)
  | lck (ks : List Key) (vs : List PV)
  | xd (ns : List Str) (vs : List PV)
  | tab (q : Str)
  | dn (D : Addr) (w : World) (ks : List NestedKey) (vs : List PV)

abbrev PH := Addr → Option PO
abbrev PSt := List (Option PV)
def up (h : PH) (a : Addr) (o : PO) : PH := fun b => if b = a then some o else h b
theorem up_same {h : PH} {a : Addr} {o : PO} : up h a o a = some o := if_pos rfl
theorem up_ne {h : PH} {a b : Addr} {o : PO} (e : b ≠ a) : up h a o b = h b := if_neg e
theorem up_up {h : PH} {a : Addr} {o u : PO} : up (up h a o) a u = up h a u := by
  funext b; unfold up; by_cases e : b = a
  · rw [if_pos e, if_pos e]
  · rw [if_neg e, if_neg e, if_neg e]
theorem up_swap {h : PH} {a b : Addr} {o u : PO} (e : a ≠ b) : up (up h a o) b u = up (up h b u) a o := by
  funext c; unfold up
  by_cases h1 : c = a
  · subst h1; rw [if_neg e, if_pos rfl, if_pos rfl]
  · by_cases h2 : c = b
    · rw [if_pos h2, if_neg h1, if_pos h2]
    · rw [if_neg h2, if_neg h1, if_neg h1, if_neg h2]
def gt : PSt → Nat → Option PV
  | [], _ => none
  | x :: _, 0 => x
  | _ :: r, n + 1 => gt r n
def st : PSt → Nat → Option PV → PSt
  | [], _, _ => []
  | _ :: r, 0, v => v :: r
  | x :: r, n + 1, v => x :: st r n v
theorem gt_eq : ∀ (σ : PSt) (i : Nat), gt σ i = (σ[i]?).join
  | [], _ => by simp [gt]
  | _ :: _, 0 => by simp [gt]
  | _ :: r, n + 1 => by simp [gt, gt_eq r n]
theorem st_eq : ∀ (σ : PSt) (i : Nat) (v : Option PV), st σ i v = σ.set i v
  | [], _, _ => rfl
  | _ :: _, 0, _ => rfl
  | x :: r, n + 1, v => by simp [st, st_eq r n v]

/-! ### what stands for what -/
/-- a list that no one changes -/
def FrL (K : PySem.W.Frag) (H : Hp) (a : Addr) (xs : List V) : Prop :=
  (∃ o, H a = some (.frz o (.lst xs))) ∨
    ∃ (o : Obj) (its : Array Value) (n : Nat), K.lookup a = some o ∧ o.cls = .type "list" ∧ o.dict = none ∧ o.data = .seq its n ∧ its.size ≤ sizeLine ∧ Vals xs its.toList
theorem FrL.sq {K : PySem.W.Frag} {H : Hp} {a : Addr} {xs : List V} (h : FrL K H a xs) : SqL K H a xs := by
  rcases h with ⟨o, h⟩ | h
  · exact .inl (.inr ⟨o, h⟩)
  · exact .inr h
def FrD (H : Hp) (a : Addr) (kvs : List (Key × V)) : Prop := ∃ o, H a = some (.frz o (.dK kvs))
mutual
def Rel (K : PySem.W.Frag) (H : Hp) : PV → V → Prop
  | .non, v => v = .non
  | .bl b, v => v = .bl b
  | .int i, v => v = .int i
  | .str x, v => v = .str x
  | .tup ps, v => ∃ a xs, v = .ref a ∧ SqT K H a xs ∧ Rels K H ps xs
  | .lst ps, v => ∃ a xs, v = .ref a ∧ FrL K H a xs ∧ Rels K H ps xs
  | .dct ks vs, v => ∃ a kvs, v = .ref a ∧ FrD H a kvs ∧ ks = kvs.map (·.1) ∧ Rels K H vs (kvs.map (·.2))
  | .ref a, v => v = .ref a
  | .ty n, v => v = .ty n
def Rels (K : PySem.W.Frag) (H : Hp) : List PV → List V → Prop
  | [], xs => xs = []
  | p :: ps, xs => ∃ v vs, xs = v :: vs ∧ Rel K H p v ∧ Rels K H ps vs
end
/-- what stays from one abstract heap to a later one -/
structure Mono (H H' : Hp) : Prop where
  t : ∀ b xs, H b = some (.tup xs) → H' b = some (.tup xs)
  f : ∀ b o u, H b = some (.frz o u) → H' b = some (.frz o u)
theorem Mono.refl (H : Hp) : Mono H H := ⟨fun _ _ h => h, fun _ _ _ h => h⟩
theorem Mono.trans {H H1 H2 : Hp} (a : Mono H H1) (b : Mono H1 H2) : Mono H H2 :=
  ⟨fun c xs h => b.t c xs (a.t c xs h), fun c o u h => b.f c o u (a.f c o u h)⟩
theorem Mono.new {H : Hp} {a : Addr} {o : HO} (h : H a = none) : Mono H (upd H a o) :=
  ⟨fun b xs e => by rw [upd_ne (ne_of_none e h)]; exact e, fun b u w e => by rw [upd_ne (ne_of_none e h)]; exact e⟩
theorem Mono.wr {H : Hp} {a : Addr} {o u : HO} (h : H a = some u) (n1 : ∀ xs, u ≠ .tup xs) (n2 : ∀ o w, u ≠ .frz o w) : Mono H (upd H a o) :=
  ⟨fun b xs e => by rw [upd_ne (ne_of e h (n1 xs).symm)]; exact e, fun b o' w e => by rw [upd_ne (ne_of e h (n2 o' w).symm)]; exact e⟩
theorem Mono.lst {H : Hp} {a : Addr} {o : HO} {xs : List V} (h : H a = some (.lst xs)) : Mono H (upd H a o) := .wr h (fun _ e => nomatch e) (fun _ _ e => nomatch e)
theorem Mono.dK {H : Hp} {a : Addr} {o : HO} {kvs : List (Key × V)} (h : H a = some (.dK kvs)) : Mono H (upd H a o) := .wr h (fun _ e => nomatch e) (fun _ _ e => nomatch e)
theorem Mono.ins {H : Hp} {a C dx : Addr} {o : HO} {fs : List (Str × V)} (h : H a = some (.ins C dx fs)) : Mono H (upd H a o) := .wr h (fun _ e => nomatch e) (fun _ _ e => nomatch e)
section
variable {K : PySem.W.Frag} {H H' : Hp}
theorem Mono.rd {a : Addr} {u : HO} (m : Mono H H') (hu : ∃ xs, u = .tup xs) (h : Rd H a u) : Rd H' a u := by
  obtain ⟨xs, rfl⟩ := hu
  rcases h with h | ⟨o, h⟩
  · exact .inl (m.t _ _ h)
  · exact .inr ⟨o, m.f _ _ _ h⟩
theorem Mono.sqT {a : Addr} {xs : List V} (m : Mono H H') (h : SqT K H a xs) : SqT K H' a xs := by
  rcases h with h | h
  · exact .inl (m.rd ⟨_, rfl⟩ h)
  · exact .inr h
theorem Mono.frL {a : Addr} {xs : List V} (m : Mono H H') (h : FrL K H a xs) : FrL K H' a xs := by
  rcases h with ⟨o, h⟩ | h
  · exact .inl ⟨o, m.f _ _ _ h⟩
  · exact .inr h
mutual
theorem Rel.mono (m : Mono H H') : ∀ (p : PV) (v : V), Rel K H p v → Rel K H' p v
  | .non, _, h => by simpa only [Rel] using h
  | .bl _, _, h => by simpa only [Rel] using h
  | .int _, _, h => by simpa only [Rel] using h
  | .str _, _, h => by simpa only [Rel] using h
  | .tup ps, v, h => by
    simp only [Rel] at h ⊢
    obtain ⟨a, xs, e, h1, h2⟩ := h
    exact ⟨a, xs, e, m.sqT h1, Rels.mono m ps xs h2⟩
  | .lst ps, v, h => by
    simp only [Rel] at h ⊢
    obtain ⟨a, xs, e, h1, h2⟩ := h
    exact ⟨a, xs, e, m.frL h1, Rels.mono m ps xs h2⟩
  | .dct ks vs, v, h => by
    simp only [Rel] at h ⊢
    obtain ⟨a, kvs, e, ⟨o, h1⟩, h2, h3⟩ := h
    exact ⟨a, kvs, e, ⟨o, m.f _ _ _ h1⟩, h2, Rels.mono m vs _ h3⟩
  | .ref _, _, h => by simpa only [Rel] using h
  | .ty _, _, h => by simpa only [Rel] using h
theorem Rels.mono (m : Mono H H') : ∀ (ps : List PV) (xs : List V), Rels K H ps xs → Rels K H' ps xs
  | [], _, h => by simpa only [Rels] using h
  | p :: ps, xs, h => by
    simp only [Rels] at h ⊢
    obtain ⟨v, vs, e, h1, h2⟩ := h
    exact ⟨v, vs, e, Rel.mono m p v h1, Rels.mono m ps vs h2⟩
end
theorem Rels.nil_iff {xs : List V} : Rels K H [] xs ↔ xs = [] := by simp only [Rels]
theorem Rels.nil : Rels K H [] [] := by simp only [Rels]
theorem Rels.cons {p : PV} {ps : List PV} {v : V} {vs : List V} (h : Rel K H p v) (t : Rels K H ps vs) : Rels K H (p :: ps) (v :: vs) := by
  simp only [Rels]; exact ⟨v, vs, rfl, h, t⟩
theorem Rels.uncons {p : PV} {ps : List PV} {xs : List V} (h : Rels K H (p :: ps) xs) : ∃ v vs, xs = v :: vs ∧ Rel K H p v ∧ Rels K H ps vs := by
  simpa only [Rels] using h
theorem Rels.length : ∀ {ps : List PV} {xs : List V}, Rels K H ps xs → ps.length = xs.length
  | [], _, h => by rw [Rels.nil_iff] at h; subst h; rfl
  | p :: ps, _, h => by
    obtain ⟨v, vs, rfl, _, t⟩ := h.uncons
    rw [List.length_cons, List.length_cons, t.length]
theorem Rels.append : ∀ {ps qs : List PV} {xs ys : List V}, Rels K H ps xs → Rels K H qs ys → Rels K H (ps ++ qs) (xs ++ ys)
  | [], _, _, _, h, g => by rw [Rels.nil_iff] at h; subst h; exact g
  | p :: ps, _, _, _, h, g => by
    obtain ⟨v, vs, rfl, h1, t⟩ := h.uncons
    exact .cons h1 (Rels.append t g)
theorem Rels.get : ∀ {ps : List PV} {xs : List V} {i : Nat} {p : PV}, Rels K H ps xs → ps[i]? = some p → ∃ v, xs[i]? = some v ∧ Rel K H p v
  | [], _, _, _, _, e => by simp at e
  | p :: ps, _, 0, q, h, e => by
    obtain ⟨v, vs, rfl, h1, t⟩ := h.uncons
    simp at e; subst e
    exact ⟨v, rfl, h1⟩
  | p :: ps, _, i + 1, q, h, e => by
    obtain ⟨v, vs, rfl, h1, t⟩ := h.uncons
    obtain ⟨w, e1, r⟩ := Rels.get (i := i) (p := q) t (by simpa using e)
    exact ⟨w, by simpa using e1, r⟩
theorem Rels.get' : ∀ {ps : List PV} {xs : List V} {i : Nat} {v : V}, Rels K H ps xs → xs[i]? = some v → ∃ p, ps[i]? = some p ∧ Rel K H p v := fun {ps xs i v} h e => by
  have hi : i < ps.length := by rw [h.length]; exact (List.getElem?_eq_some_iff.mp e).1
  obtain ⟨w, e1, r⟩ := h.get (List.getElem?_eq_getElem hi)
  rw [e] at e1; cases e1
  exact ⟨_, List.getElem?_eq_getElem hi, r⟩
theorem Rels.of_get : ∀ {ps : List PV} {xs : List V}, ps.length = xs.length → (∀ (i : Nat) (p : PV) (v : V), ps[i]? = some p → xs[i]? = some v → Rel K H p v) → Rels K H ps xs
  | [], [], _, _ => .nil
  | p :: ps, x :: xs, hl, h => .cons (h 0 p x rfl rfl) (Rels.of_get (by simpa using hl) fun i q v e1 e2 => h (i + 1) q v (by simpa using e1) (by simpa using e2))
  | [], _ :: _, hl, _ => by simp at hl
  | _ :: _, [], hl, _ => by simp at hl
theorem Rels.set {p : PV} {v : V} (r : Rel K H p v) : ∀ {ps : List PV} {xs : List V} (i : Nat), Rels K H ps xs → Rels K H (ps.set i p) (xs.set i v)
  | [], _, _, h => by rw [Rels.nil_iff] at h; subst h; exact .nil
  | q :: ps, _, 0, h => by obtain ⟨v, vs, rfl, h1, t⟩ := h.uncons; exact .cons r t
  | q :: ps, _, i + 1, h => by obtain ⟨v, vs, rfl, h1, t⟩ := h.uncons; exact .cons h1 (Rels.set r i t)
theorem Rels.take : ∀ {ps : List PV} {xs : List V} (n : Nat), Rels K H ps xs → Rels K H (ps.take n) (xs.take n)
  | _, _, 0, _ => by simp only [List.take_zero]; exact .nil
  | [], _, n + 1, h => by rw [Rels.nil_iff] at h; subst h; exact .nil
  | q :: ps, _, n + 1, h => by obtain ⟨v, vs, rfl, h1, t⟩ := h.uncons; exact .cons h1 (Rels.take n t)
theorem Rels.drop : ∀ {ps : List PV} {xs : List V} (n : Nat), Rels K H ps xs → Rels K H (ps.drop n) (xs.drop n)
  | _, _, 0, h => h
  | [], _, n + 1, h => by rw [Rels.nil_iff] at h; subst h; exact .nil
  | q :: ps, _, n + 1, h => by obtain ⟨v, vs, rfl, h1, t⟩ := h.uncons; exact Rels.drop n t
theorem Rels.reverse : ∀ {ps : List PV} {xs : List V}, Rels K H ps xs → Rels K H ps.reverse xs.reverse
  | [], _, h => by rw [Rels.nil_iff] at h; subst h; exact .nil
  | q :: ps, _, h => by
    obtain ⟨v, vs, rfl, h1, t⟩ := h.uncons
    rw [List.reverse_cons, List.reverse_cons]
    exact (Rels.reverse t).append (.cons h1 .nil)
theorem Rels.one {p : PV} {xs : List V} (h : Rels K H [p] xs) : ∃ v, xs = [v] ∧ Rel K H p v := by
  obtain ⟨v, vs, rfl, h1, t⟩ := h.uncons
  rw [Rels.nil_iff] at t; subst t
  exact ⟨v, rfl, h1⟩
theorem Rels.two {p q : PV} {xs : List V} (h : Rels K H [p, q] xs) : ∃ v w, xs = [v, w] ∧ Rel K H p v ∧ Rel K H q w := by
  obtain ⟨v, vs, rfl, h1, t⟩ := h.uncons
  obtain ⟨w, rfl, h2⟩ := t.one
  exact ⟨v, w, rfl, h1, h2⟩
theorem Rels.len0 {xs : List V} (h : Rels K H [] xs) : xs = [] := Rels.nil_iff.mp h
end

/-- a code object's table: each code object that it tells bears the name q -/
def TabOk (H : Hp) (q : Str) (ps : Array Value) : Prop := TriplesOk ps.toList ∧ ∀ (pos : Pos) (cv : Value), codeAmong pos ps.toList = some cv → ∃ (c : Addr) (oc : Obj) (vs : Array Value) (t : Tok), cv = .ref c ∧ H c = some (.frz oc (.own 0)) ∧ oc.data = .fields vs ∧ vs[1]? = some (.str q t)
/-- a dict whose keys are tuples of any depth: each key, where its tuple lies, its value -/
def DN (D : Addr) (w : World) (kvs : List (NestedKey × Addr × V)) : HO := .ext fun h => (D == sysModules) = false ∧ (kvs.map (·.1)).Nodup ∧ ∃ (us : List Value) (o : Obj) (es : Array DictEntry) (ep : Nat), Vals (kvs.map (·.2.2)) us ∧ h.get? D = some o ∧ o.ExactDict ∧ o.data = .dict es ep ∧
  es.toList = List.zipWith (fun (e : NestedKey × Addr × V) u => (⟨e.1.hash w, .ref e.2.1, u⟩ : DictEntry)) kvs us
/-- an object of the store -/
def RelO (K : PySem.W.Frag) (H : Hp) : PO → HO → Prop
  | .lst ps, o => ∃ xs, o = .lst xs ∧ Rels K H ps xs
  | .dct ks vs, o => ∃ kvs, o = .dK kvs ∧ ks = kvs.map (·.1) ∧ Rels K H vs (kvs.map (·.2))
  | .ins C ns vs, o => ∃ dx fs, o = .ins C dx fs ∧ ns = fs.map (·.1) ∧ Rels K H vs (fs.map (·.2))
  | .lck ks vs, o => ∃ ob kvs, o = .frz ob (.dK kvs) ∧ ks = kvs.map (·.1) ∧ Rels K H vs (kvs.map (·.2))
  | .xd ns vs, o => ∃ fs, o = .xd fs ∧ ns = fs.map (·.1) ∧ Rels K H vs (fs.map (·.2))
  | .tab q, o => ∃ ps, o = .tbl ps ∧ TabOk H q ps
  | .dn D w ks vs, o => ∃ kvs, o = DN D w kvs ∧ ks = kvs.map (·.1) ∧ (∀ e ∈ kvs, e.1.depth ≤ 8 ∧ Rel K H (pK e.1) (.ref e.2.1)) ∧ Rels K H vs (kvs.map (·.2.2))
def Sim (K : PySem.W.Frag) (H : Hp) (h : PH) : Prop := ∀ a o, h a = some o → ∃ u, H a = some u ∧ RelO K H o u
def SimS (K : PySem.W.Frag) (H : Hp) (σ : L2.St) (τ : PSt) : Prop := σ.length = τ.length ∧ ∀ i p, gt τ i = some p → ∃ v, σ[i]? = some (some v) ∧ Rel K H p v
section
variable {K : PySem.W.Frag} {H H' : Hp} {h : PH} {σ : L2.St} {τ : PSt} {a : Addr}
theorem TabOk.mono (m : Mono H H') {q : Str} {ps : Array Value} (t : TabOk H q ps) : TabOk H' q ps :=
  ⟨t.1, fun pos cv e => let ⟨c, oc, vs, tk, e1, e2, r⟩ := t.2 pos cv e; ⟨c, oc, vs, tk, e1, m.f _ _ _ e2, r⟩⟩
theorem RelO.mono (m : Mono H H') : ∀ {o : PO} {u : HO}, RelO K H o u → RelO K H' o u
  | .lst ps, _, ⟨xs, e, r⟩ => ⟨xs, e, r.mono m⟩
  | .dct ks vs, _, ⟨kvs, e, r, q⟩ => ⟨kvs, e, r, q.mono m⟩
  | .ins C ns vs, _, ⟨dx, fs, e, n, r⟩ => ⟨dx, fs, e, n, r.mono m⟩
  | .lck ks vs, _, ⟨ob, kvs, e, n, r⟩ => ⟨ob, kvs, e, n, r.mono m⟩
  | .xd ns vs, _, ⟨fs, e, n, r⟩ => ⟨fs, e, n, r.mono m⟩
  | .tab q, _, ⟨ps, e, t⟩ => ⟨ps, e, t.mono m⟩
  | .dn D w ks vs, _, ⟨kvs, e, n, r, q⟩ => ⟨kvs, e, n, fun x hx => ⟨(r x hx).1, (r x hx).2.mono m⟩, q.mono m⟩
theorem SimS.mono (m : Mono H H') (s : SimS K H σ τ) : SimS K H' σ τ := ⟨s.1, fun i p e => let ⟨v, e1, r⟩ := s.2 i p e; ⟨v, e1, r.mono m⟩⟩
theorem SimS.get {i : Nat} {p : PV} (s : SimS K H σ τ) (e : gt τ i = some p) : ∃ v, σ[i]? = some (some v) ∧ Rel K H p v := s.2 i p e
theorem SimS.set {i : Nat} {p : PV} {v : V} (s : SimS K H σ τ) (r : Rel K H p v) : SimS K H (σ.set i (some v)) (st τ i (some p)) := by
  refine ⟨by rw [st_eq, List.length_set, List.length_set]; exact s.1, fun j q e => ?_⟩
  rw [st_eq, gt_eq] at e
  by_cases hj : i = j
  · subst hj
    by_cases hi : i < τ.length
    · rw [List.getElem?_set_self hi] at e
      simp at e
      subst e
      exact ⟨v, by rw [List.getElem?_set_self (by rw [s.1]; exact hi)], r⟩
    · rw [List.getElem?_eq_none (by simpa using hi)] at e
      simp at e
  · rw [List.getElem?_set_ne hj] at e ⊢
    exact s.2 j q (by rw [gt_eq]; exact e)
/-- the store may know less than there is -/
theorem Sim.less {h' : PH} (s : Sim K H h) (e : ∀ a o, h' a = some o → h a = some o) : Sim K H h' := fun a o q => s a o (e a o q)
theorem Sim.fresh (s : Sim K H h) (e : H a = none) : h a = none := by
  cases q : h a with
  | none => rfl
  | some o =>
    obtain ⟨u, e1, _⟩ := s a o q
    rw [e] at e1; cases e1
theorem Sim.new {o : HO} (s : Sim K H h) (e : H a = none) : Sim K (upd H a o) h := fun b p q => by
  obtain ⟨u, e1, r⟩ := s b p q
  exact ⟨u, by rw [upd_ne (ne_of_none e1 e)]; exact e1, r.mono (Mono.new e)⟩
/-- an object of the store is what it was, or a new one -/
theorem Sim.put {o : PO} {u : HO} (s : Sim K H h) (m : Mono H (upd H a u)) (r : RelO K (upd H a u) o u) : Sim K (upd H a u) (up h a o) := fun b p q => by
  by_cases hb : b = a
  · subst hb
    rw [up_same] at q; cases q
    exact ⟨u, upd_same, r⟩
  · rw [up_ne hb] at q
    obtain ⟨w, e1, r1⟩ := s b p q
    exact ⟨w, by rw [upd_ne hb]; exact e1, r1.mono m⟩
/-- .. forgotten where it changes kind -/
theorem Sim.drop {u : HO} (s : Sim K H h) (m : Mono H (upd H a u)) (e : h a = none) : Sim K (upd H a u) h := fun b p q => by
  by_cases hb : b = a
  · subst hb
    rw [e] at q; cases q
  · obtain ⟨w, e1, r1⟩ := s b p q
    exact ⟨w, by rw [upd_ne hb]; exact e1, r1.mono m⟩
end

/-- from one state to a later one: what is not of the store stays as it is and comes to no store -/
structure Go (H : Hp) (h : PH) (H1 : Hp) (h1 : PH) : Prop where
  mono : Mono H H1
  frame : ∀ b u, H b = some u → h b = none → H1 b = some u
  dom : ∀ b u, H b = some u → h b = none → h1 b = none
  live : ∀ b, H1 b = none → H b = none
section
variable {H H1 H2 : Hp} {h h1 h2 : PH} {a : Addr} {u : HO} {o : PO}
theorem live_upd (b : Addr) (e : upd H a u b = none) : H b = none := by
  unfold upd at e; split at e
  · cases e
  · exact e
theorem Go.refl : Go H h H h := ⟨Mono.refl H, fun _ _ e _ => e, fun _ _ _ e => e, fun _ e => e⟩
theorem Go.trans (g : Go H h H1 h1) (g' : Go H1 h1 H2 h2) : Go H h H2 h2 :=
  ⟨g.mono.trans g'.mono, fun b w e n => g'.frame b w (g.frame b w e n) (g.dom b w e n), fun b w e n => g'.dom b w (g.frame b w e n) (g.dom b w e n), fun b e => g.live b (g'.live b e)⟩
/-- a new object that is not of the store; one of the store -/
theorem Go.new (e : H a = none) : Go H h (upd H a u) h := ⟨Mono.new e, fun b w q _ => by rw [upd_ne (ne_of_none q e)]; exact q, fun _ _ _ n => n, live_upd⟩
theorem Go.add (e : H a = none) : Go H h (upd H a u) (up h a o) := ⟨Mono.new e, fun b w q _ => by rw [upd_ne (ne_of_none q e)]; exact q, fun b w q n => by rw [up_ne (ne_of_none q e)]; exact n, live_upd⟩
/-- .. that was new: it is written -/
theorem Go.renew (g : Go H h H1 h1) (e : H a = none) (m : Mono H1 (upd H1 a u)) : Go H h (upd H1 a u) h1 :=
  ⟨g.mono.trans m, fun b w q n => by rw [upd_ne (ne_of_none q e)]; exact g.frame b w q n, g.dom, fun b z => g.live b (live_upd b z)⟩
theorem Go.own (g : Go H h H1 h1) (e : H a = none) : Go H h H1 (up h1 a o) :=
  ⟨g.mono, g.frame, fun b w q n => by rw [up_ne (ne_of_none q e)]; exact g.dom b w q n, g.live⟩
/-- an object of the store is written; forgotten -/
theorem ne_own {b : Addr} {o : PO} (e : h a = some o) (n : h b = none) : b ≠ a := fun z => by rw [z, e] at n; cases n
theorem Go.wr {o' : PO} (e : h a = some o') (m : Mono H (upd H a u)) : Go H h (upd H a u) (up h a o) :=
  ⟨m, fun b w q n => by rw [upd_ne (ne_own e n)]; exact q, fun b w q n => by rw [up_ne (ne_own e n)]; exact n, live_upd⟩
def lose (h : PH) (a : Addr) : PH := fun b => if b = a then none else h b
theorem lose_same : lose h a a = none := if_pos rfl
theorem lose_ne {b : Addr} (e : b ≠ a) : lose h a b = h b := if_neg e
theorem Go.lose {o' : PO} (e : h a = some o') (m : Mono H (upd H a u)) : Go H h (upd H a u) (lose h a) :=
  ⟨m, fun b w q n => by rw [upd_ne (ne_own e n)]; exact q, fun b w q n => by rw [lose_ne (ne_own e n)]; exact n, live_upd⟩
end

/-! ### what is said of an expression, a test, arguments, a statement -/
abbrev PK := PV → PH → Prop
abbrev ME := PSt → PH → PK → Prop
abbrev MT := PSt → PH → (Bool → PH → Prop) → Prop
abbrev MA := PSt → PH → (List PV → PH → Prop) → Prop
structure PEnds where
  nx : PSt → PH → Prop
  rt : PK
  bk : PSt → PH → Prop
  ct : PSt → PH → Prop
abbrev MS := PEnds → PSt → PH → Prop
def LQ (K : PySem.W.Frag) (H : Hp) (h : PH) (Q' : PK) (Q : VK) : Prop := ∀ p h1 v H1, Q' p h1 → Go H h H1 h1 → Rel K H1 p v → Sim K H1 h1 → Q v H1
def LB (K : PySem.W.Frag) (H : Hp) (h : PH) (Q' : Bool → PH → Prop) (Q : Bool → Hp → Prop) : Prop := ∀ b h1 H1, Q' b h1 → Go H h H1 h1 → Sim K H1 h1 → Q b H1
def LN (K : PySem.W.Frag) (H : Hp) (h : PH) (Q' : PSt → PH → Prop) (Q : L2.St → Hp → Prop) : Prop := ∀ τ h1 σ H1, Q' τ h1 → Go H h H1 h1 → SimS K H1 σ τ → Sim K H1 h1 → Q σ H1
structure LD (K : PySem.W.Frag) (H : Hp) (h : PH) (D' : PEnds) (D : Ends) : Prop where
  nx : LN K H h D'.nx D.nx
  rt : LQ K H h D'.rt D.rt
  bk : LN K H h D'.bk D.bk
  ct : LN K H h D'.ct D.ct
section
variable {K : PySem.W.Frag} {H H' : Hp} {h h' : PH}
theorem LQ.mono {Q' : PK} {Q : VK} (l : LQ K H h Q' Q) (m : Go H h H' h') : LQ K H' h' Q' Q := fun p h1 v H1 q m1 r s => l p h1 v H1 q (m.trans m1) r s
theorem LB.mono {Q' : Bool → PH → Prop} {Q : Bool → Hp → Prop} (l : LB K H h Q' Q) (m : Go H h H' h') : LB K H' h' Q' Q := fun p h1 H1 q m1 s => l p h1 H1 q (m.trans m1) s
theorem LN.mono {Q' : PSt → PH → Prop} {Q : L2.St → Hp → Prop} (l : LN K H h Q' Q) (m : Go H h H' h') : LN K H' h' Q' Q := fun p h1 v H1 q m1 r s => l p h1 v H1 q (m.trans m1) r s
theorem LD.mono {D' : PEnds} {D : Ends} (l : LD K H h D' D) (m : Go H h H' h') : LD K H' h' D' D := ⟨l.nx.mono m, l.rt.mono m, l.bk.mono m, l.ct.mono m⟩
end
def upE (K : PySem.W.Frag) (m : ME) : TE := fun σ H Q => ∃ τ h Q', SimS K H σ τ ∧ Sim K H h ∧ m τ h Q' ∧ LQ K H h Q' Q
def upT (K : PySem.W.Frag) (m : MT) : TT := fun σ H Q => ∃ τ h Q', SimS K H σ τ ∧ Sim K H h ∧ m τ h Q' ∧ LB K H h Q' Q
def upS (K : PySem.W.Frag) (m : MS) : TS := fun D σ H => ∃ τ h D', SimS K H σ τ ∧ Sim K H h ∧ m D' τ h ∧ LD K H h D' D
abbrev LE (X : Cx) (e : Expr) (m : ME) : Prop := PE X e (upE X.K m)
abbrev LT (X : Cx) (e : Expr) (m : MT) : Prop := PT X e (upT X.K m)
abbrev LW (X : Cx) (e : Expr) (m : MT) : Prop := PW X e (upT X.K m)
abbrev LS (X : Cx) (s : Stmt) (m : MS) : Prop := PS X s (upS X.K m)
abbrev LSs (X : Cx) (s : List Stmt) (m : MS) : Prop := PSs X s (upS X.K m)

section
variable {X : Cx} {e : Expr} {es : List Expr} {s : Stmt} {ss : List Stmt}
theorem PE.weak {t u : TE} (h : PE X e t) (w : ∀ σ H Q, u σ H Q → t σ H Q) : PE X e u := ⟨fun pins s σ H Q I q => h.run pins s σ H Q I (w σ H Q q)⟩
theorem PT.weak {t u : TT} (h : PT X e t) (w : ∀ σ H Q, u σ H Q → t σ H Q) : PT X e u := ⟨fun pins s σ H Q I q => h.run pins s σ H Q I (w σ H Q q)⟩
theorem PW.weak {t u : TT} (h : PW X e t) (w : ∀ σ H Q, u σ H Q → t σ H Q) : PW X e u := ⟨fun wh pins s σ H Q I q => h.run wh pins s σ H Q I (w σ H Q q)⟩
theorem PA.weak {t u : TA} (h : PA X es t) (w : ∀ σ H Q, u σ H Q → t σ H Q) : PA X es u := ⟨fun pos pins s σ H Q I q => h.run pos pins s σ H Q I (w σ H Q q)⟩
theorem PS.weak {t u : TS} (h : PS X s t) (w : ∀ D σ H, u D σ H → t D σ H) : PS X s u := ⟨fun pins s σ H D I q => h.run pins s σ H D I (w D σ H q)⟩
theorem PSs.weak {t u : TS} (h : PSs X ss t) (w : ∀ D σ H, u D σ H → t D σ H) : PSs X ss u := ⟨fun pins s σ H D I q => h.run pins s σ H D I (w D σ H q)⟩
end

/-! ### keeping: an object that was just made is not changed any more -/
def Keepable : HO → Prop
  | .lst _ => True
  | .dK _ => True
  | _ => False
theorem Inv.keep {X : Cx} {pins : List (Addr × Obj)} {σ : L2.St} {H : Hp} {s : Shared} {a : Addr} {u : HO} (I : Inv X pins σ H s) (h : H a = some u) (k : Keepable u) : ∃ o, Inv X pins σ (upd H a (.frz o u)) s := by
  have ha := I.hok a u h
  have hob : ∃ o, s.heap.get? a = some o := by
    cases u with
    | lst xs => obtain ⟨_, _, _, _, e⟩ := ha; exact ⟨_, e⟩
    | dK kvs => obtain ⟨_, _, _, _, o, _, _, e, _⟩ := ha; exact ⟨o, e⟩
    | _ => exact k.elim
  obtain ⟨o, e⟩ := hob
  have nt : ∀ xs, u ≠ .tup xs := fun xs z => by subst z; exact k
  have nf : ∀ o w, u ≠ .frz o w := fun o w z => by subst z; exact k
  have no : ∀ x, u ≠ .own x := fun x z => by subst z; exact k
  have nb : ∀ p, u ≠ .tbl p := fun x z => by subst z; exact k
  refine ⟨o, ?_⟩
  have un : Un X.fs [] H (upd H a (.frz o u)) s.heap s.heap := by
    refine ⟨fun b ob q _ _ _ => q, fun b ob q _ _ _ => ⟨ob.slots, q⟩, fun b ob q n _ => ?_, fun b ob q _ => ⟨ob, q⟩, fun b xs q => ?_, fun b ob w q => ?_, fun b ps q => ⟨#[], ?_⟩⟩
    · rw [upd_ne (ne_of_none h n).symm]; exact n
    · rw [upd_ne (ne_of q h (nt xs).symm)]; exact q
    · rw [upd_ne (ne_of q h (nf ob w).symm)]; exact q
    · rw [upd_ne (ne_of q h (nb ps).symm), q]; simp
  have hok : HOk X.prog X.w (upd H a (.frz o u)) s.heap := fun b w q => by
    by_cases hb : b = a
    · subst hb
      rw [upd_same] at q; cases q
      refine ⟨e, ?_⟩
      cases u with
      | lst xs => exact ha
      | dK kvs => exact ha
      | _ => exact k.elim
    · rw [upd_ne hb] at q
      refine (I.hok b w q).stay (fun c v _ r => r) (fun c r => ?_) fun c xs r => ?_
      · rw [upd_ne (ne_of r h (no b).symm)]; exact r
      · rw [upd_ne (ne_of r h (nt xs).symm)]; exact r
  exact I.un (h' := s.heap) (t' := s.toks) un hok
/-- as it is, or kept -/
def kQ (Q : VK) : VK := fun v H1 => Q v H1 ∨ ∃ a u, v = .ref a ∧ H1 a = some u ∧ Keepable u ∧ ∀ o, Q v (upd H1 a (.frz o u))
theorem PE.kp {X : Cx} {e : Expr} {t : TE} (h : PE X e t) : PE X e (fun σ H Q => t σ H (kQ Q)) := by
  refine ⟨fun pins s σ H Q I q => ?_⟩
  refine thn (h.run pins s σ H _ I q) fun u s1 ⟨v, H1, I1, r, q1⟩ => ?_
  rcases q1 with q1 | ⟨a, w, e1, e2, k, q1⟩
  · exact ⟨v, H1, I1, r, q1⟩
  · obtain ⟨o, I2⟩ := Inv.keep I1 e2 k
    exact ⟨v, _, I2, r, q1 o⟩
section
variable {K : PySem.W.Frag} {H : Hp} {h : PH} {Q' : PK} {Q : VK} {a : Addr}
/-- a new list, kept -/
theorem keep_l {ps : List PV} {xs : List V} (l : LQ K H h Q' Q) (s : Sim K H h) (r : Rels K H ps xs) (q : Q' (.lst ps) h) (e : H a = none) : kQ Q (.ref a) (upd H a (.lst xs)) := by
  refine .inr ⟨a, _, rfl, upd_same, trivial, fun o => ?_⟩
  rw [upd_upd]
  have m : Mono H (upd H a (.frz o (.lst xs))) := Mono.new e
  refine l _ _ _ _ q (.new e) ?_ (s.new e)
  simp only [Rel]
  exact ⟨a, xs, rfl, .inl ⟨o, upd_same⟩, r.mono m⟩
/-- .. one that may change -/
theorem make_l {ps : List PV} {xs : List V} (l : LQ K H h Q' Q) (s : Sim K H h) (r : Rels K H ps xs) (q : ∀ a, h a = none → Q' (.ref a) (up h a (.lst ps))) (e : H a = none) : kQ Q (.ref a) (upd H a (.lst xs)) := by
  refine .inl ?_
  have m : Mono H (upd H a (.lst xs)) := Mono.new e
  refine l _ _ _ _ (q a (s.fresh e)) (.add e) ?_ (s.put m ⟨xs, rfl, r.mono m⟩)
  simp only [Rel]
/-- a new dict, kept; one that may change -/
theorem keep_d {ks : List Key} {vs : List PV} {kvs : List (Key × V)} (l : LQ K H h Q' Q) (s : Sim K H h) (r1 : ks = kvs.map (·.1)) (r2 : Rels K H vs (kvs.map (·.2))) (q : Q' (.dct ks vs) h) (e : H a = none) : kQ Q (.ref a) (upd H a (.dK kvs)) := by
  refine .inr ⟨a, _, rfl, upd_same, trivial, fun o => ?_⟩
  rw [upd_upd]
  have m : Mono H (upd H a (.frz o (.dK kvs))) := Mono.new e
  refine l _ _ _ _ q (.new e) ?_ (s.new e)
  simp only [Rel]
  exact ⟨a, kvs, rfl, ⟨o, upd_same⟩, r1, r2.mono m⟩
theorem make_d {ks : List Key} {vs : List PV} {kvs : List (Key × V)} (l : LQ K H h Q' Q) (s : Sim K H h) (r1 : ks = kvs.map (·.1)) (r2 : Rels K H vs (kvs.map (·.2))) (q : ∀ a, h a = none → Q' (.ref a) (up h a (.dct ks vs))) (e : H a = none) : kQ Q (.ref a) (upd H a (.dK kvs)) := by
  refine .inl ?_
  have m : Mono H (upd H a (.dK kvs)) := Mono.new e
  refine l _ _ _ _ (q a (s.fresh e)) (.add e) ?_ (s.put m ⟨kvs, rfl, r1, r2.mono m⟩)
  simp only [Rel]
/-- a new tuple -/
theorem make_t {ps : List PV} {xs : List V} (l : LQ K H h Q' Q) (s : Sim K H h) (r : Rels K H ps xs) (q : Q' (.tup ps) h) (e : H a = none) : Q (.ref a) (upd H a (.tup xs)) := by
  have m : Mono H (upd H a (.tup xs)) := Mono.new e
  refine l _ _ _ _ q (.new e) ?_ (s.new e)
  simp only [Rel]
  exact ⟨a, xs, rfl, .inl (.inl upd_same), r.mono m⟩
end
/-- what an operation on values asks, at this level and at the other one -/
abbrev PR1 := PV → PH → PK → Prop
abbrev PR2 := PV → PV → PH → PK → Prop
abbrev PRA := List PV → PH → PK → Prop
def Lf1 (K : PySem.W.Frag) (r : V → Hp → VK → Prop) (r' : PR1) : Prop := ∀ x H p h Q' Q, Rel K H p x → Sim K H h → r' p h Q' → LQ K H h Q' Q → r x H Q
def Lf2 (K : PySem.W.Frag) (r : R2) (r' : PR2) : Prop := ∀ x y H p q h Q' Q, Rel K H p x → Rel K H q y → Sim K H h → r' p q h Q' → LQ K H h Q' Q → r x y H Q
def LfA (K : PySem.W.Frag) (r : List V → Hp → VK → Prop) (r' : PRA) : Prop := ∀ xs H ps h Q' Q, Rels K H ps xs → Sim K H h → r' ps h Q' → LQ K H h Q' Q → r xs H Q
/-- .. of one that may make a list -/
def Kf1 (K : PySem.W.Frag) (r : V → Hp → VK → Prop) (r' : PR1) : Prop := ∀ x H p h Q' Q, Rel K H p x → Sim K H h → r' p h Q' → LQ K H h Q' Q → r x H (kQ Q)
def Kf2 (K : PySem.W.Frag) (r : R2) (r' : PR2) : Prop := ∀ x y H p q h Q' Q, Rel K H p x → Rel K H q y → Sim K H h → r' p q h Q' → LQ K H h Q' Q → r x y H (kQ Q)
def KfA (K : PySem.W.Frag) (r : List V → Hp → VK → Prop) (r' : PRA) : Prop := ∀ xs H ps h Q' Q, Rels K H ps xs → Sim K H h → r' ps h Q' → LQ K H h Q' Q → r xs H (kQ Q)
theorem LQ.kq {K : PySem.W.Frag} {H : Hp} {h : PH} {Q' : PK} {Q : VK} (l : LQ K H h Q' Q) : LQ K H h Q' (kQ Q) := fun p h v H1 q m r s => .inl (l p h v H1 q m r s)

/-! ### expressions -/
def mVar (i : Nat) : ME := fun τ h Q => match gt τ i with | some p => Q p h | none => False
def mC (p : PV) : ME := fun _ h Q => Q p h
/-- a name whose list is kept from here on -/
def mKeep (m : ME) : ME := fun τ h Q => m τ h fun p h1 => match p with
  | .ref a => (match h1 a with
    | some (.lst ps) => Q (.lst ps) (lose h1 a)
    | some (.dct ks vs) => Q (.dct ks vs) (lose h1 a)
    | _ => False)
  | p => Q p h1
section
variable {X : Cx} {pos : Pos}
theorem le_var {i : Nat} {x : Str} (hN : X.N[i]? = some x := by rfl) (hv : Vis X.env.scope x := by first | exact Or.inl rfl | exact Or.inr (Or.inl rfl) | exact Or.inr (Or.inr rfl)) (hd : (x == ("__debug__" : Str)) = false := by decide)
    (hcd : (x == ("__classdict__" : Str)) = false := by decide) : LE X (.Name x pos) (mVar i) :=
  PE.weak (pe_var hN hv hd hcd) fun σ H Q ⟨τ, h, Q', s, sh, q, l⟩ => by
    unfold mVar at q
    cases e : gt τ i with
    | none => rw [e] at q; exact q.elim
    | some p =>
      rw [e] at q
      obtain ⟨v, e1, r⟩ := s.get e
      exact ⟨v, e1, l p h v H q .refl r sh⟩
theorem le_c {e : Expr} {v : V} {p : PV} (h : PE X e (tC v)) (r : ∀ H, Rel X.K H p v) : LE X e (mC p) :=
  PE.weak h fun σ H Q ⟨τ, h, Q', s, sh, q, l⟩ => l p h v H q .refl (r H) sh
theorem le_int {i : Int} {k : Nat} : LE X (.Constant (.int i) k pos) (mC (.int i)) := le_c pe_int fun _ => by simp only [Rel]
theorem le_bl {b : Bool} {k : Nat} : LE X (.Constant (.bool b) k pos) (mC (.bl b)) := le_c pe_bl fun _ => by simp only [Rel]
theorem le_non {k : Nat} : LE X (.Constant .none k pos) (mC .non) := le_c pe_non fun _ => by simp only [Rel]
theorem le_str {x : Str} {k : Nat} : LE X (.Constant (.str x) k pos) (mC (.str x)) := le_c pe_str fun _ => by simp only [Rel]
theorem le_keep {e : Expr} {m : ME} (he : LE X e m) : LE X e (mKeep m) := by
  refine PE.weak (PE.kp he) fun σ H Q ⟨τ, h, Q', s, sh, q, l⟩ => ?_
  refine ⟨τ, h, _, s, sh, q, fun p h1 v H1 q1 m1 r s1 => ?_⟩
  cases p with
  | ref a =>
    simp only at q1
    have ev : v = .ref a := by simpa only [Rel] using r
    subst ev
    cases e1 : h1 a with
    | none => rw [e1] at q1; exact q1.elim
    | some o =>
      rw [e1] at q1
      obtain ⟨u, e2, ro⟩ := s1 a o e1
      cases o with
      | lst ps =>
        obtain ⟨xs, rfl, rx⟩ := ro
        refine .inr ⟨a, _, rfl, e2, trivial, fun ob => ?_⟩
        have mm : Mono H1 (upd H1 a (.frz ob (.lst xs))) := Mono.lst e2
        refine l _ _ _ _ q1 (m1.trans (.lose e1 mm)) ?_ ?_
        · simp only [Rel]; exact ⟨a, xs, rfl, .inl ⟨ob, upd_same⟩, rx.mono mm⟩
        · exact Sim.drop (h := lose h1 a) (s1.less fun b o q => by unfold lose at q; split at q; cases q; exact q) mm lose_same
      | dct ks vs =>
        obtain ⟨kvs, rfl, r1, r2⟩ := ro
        refine .inr ⟨a, _, rfl, e2, trivial, fun ob => ?_⟩
        have mm : Mono H1 (upd H1 a (.frz ob (.dK kvs))) := Mono.dK e2
        refine l _ _ _ _ q1 (m1.trans (.lose e1 mm)) ?_ ?_
        · simp only [Rel]; exact ⟨a, kvs, rfl, ⟨ob, upd_same⟩, r1, r2.mono mm⟩
        · exact Sim.drop (h := lose h1 a) (s1.less fun b o q => by unfold lose at q; split at q; cases q; exact q) mm lose_same
      | ins C ns vs => exact q1.elim
      | lck ks vs => exact q1.elim
      | xd ns vs => exact q1.elim
      | tab _ => exact q1.elim
      | dn _ _ _ _ => exact q1.elim
  | _ => exact .inl (l _ _ _ _ q1 m1 r s1)

def mB (r : PR2) (a b : ME) : ME := fun τ h Q => a τ h fun p h1 => b τ h1 fun q h2 => r p q h2 Q
def mU (r : PR1) (a : ME) : ME := fun τ h Q => a τ h fun p h1 => r p h1 Q
/-- from two expressions: what the elder rule asks -/
theorem two_up {K : PySem.W.Frag} {r : R2} {r' : PR2} {Z : VK → VK} (hr : ∀ x y H p q h Q' Q, Rel K H p x → Rel K H q y → Sim K H h → r' p q h Q' → LQ K H h Q' Q → r x y H (Z Q)) {a b : ME} {σ : L2.St} {H : Hp} {Q : VK} (h : upE K (mB r' a b) σ H Q) : tOp r (upE K a) (upE K b) σ H (Z Q) := by
  obtain ⟨τ, h, Q', s, sh, q, l⟩ := h
  refine ⟨τ, h, _, s, sh, q, fun p h1 x H1 q1 m1 r1 s1 => ?_⟩
  refine ⟨τ, h1, _, s.mono m1.mono, s1, q1, fun p2 h2 y H2 q2 m2 r2 s2 => ?_⟩
  exact hr x y H2 p p2 h2 Q' Q (r1.mono m2.mono) r2 s2 q2 (l.mono (m1.trans m2))
theorem le_op {op : Operator} {r : R2} {r' : PR2} {a b : Expr} {ma mb : ME} (ho : OpR X (binaryOp op) r) (hr : Kf2 X.K r r') (ha : LE X a ma) (hb : LE X b mb) : LE X (.BinOp a op b pos) (mB r' ma mb) :=
  PE.weak (PE.kp (pe_op ho ha hb)) fun _ _ _ h => two_up (Z := kQ) hr h
theorem le_cmp {op : CmpOp} {r : R2} {r' : PR2} {a b : Expr} {ma mb : ME} (ho : OpR X (compareOp op) r) (hr : Lf2 X.K r r') (ha : LE X a ma) (hb : LE X b mb) (hm : behindInMarks op b = false) : LE X (.Compare a [op] [b] pos) (mB r' ma mb) :=
  PE.weak (pe_cmpR ho ha hb hm) fun _ _ _ h => two_up (Z := fun Q => Q) hr h
theorem le_un {op : UnaryOp} {r : V → Hp → VK → Prop} {r' : PR1} {a : Expr} {ma : ME} (ho : UnR X (unaryOp op) r) (hr : Lf1 X.K r r') (ha : LE X a ma) : LE X (.UnaryOp op a pos) (mU r' ma) := by
  refine PE.weak (pe_un ho ha) fun σ H Q ⟨τ, h, Q', s, sh, q, l⟩ => ?_
  exact ⟨τ, h, _, s, sh, q, fun p h1 x H1 q1 m1 r1 s1 => hr x H1 p h1 Q' Q r1 s1 q1 (l.mono m1)⟩

/-! ### tests -/
def mTest (m : ME) : MT := fun τ h Q => m τ h fun p h1 => match p with | .bl b => Q b h1 | _ => False
theorem LB.test {K : PySem.W.Frag} {H : Hp} {h : PH} {Q' : Bool → PH → Prop} {Q : Bool → Hp → Prop} (l : LB K H h Q' Q) : LQ K H h (fun p h1 => match p with | .bl b => Q' b h1 | _ => False) (fun x H' => ∃ k, x = .bl k ∧ Q k H') := fun p h1 v H1 q1 m1 r s1 => by
  cases p with
  | bl b =>
    have ev : v = .bl b := by simpa only [Rel] using r
    exact ⟨b, ev, l b h1 H1 q1 m1 s1⟩
  | _ => exact q1.elim
theorem lt_val {e : Expr} {m : ME} (he : LE X e m) (hw : ∀ whole, isTrue e X.env whole = (do let v ← whole; standAt e.pos; holding [v] (truthy v)) := by intro _; rfl) : LT X e (mTest m) :=
  PT.weak (pt_val he hw) fun σ H Q ⟨τ, h, Q', s, sh, q, l⟩ => ⟨τ, h, _, s, sh, q, l.test⟩
/-- a comparison as a test -/
theorem lt_cmp {op : CmpOp} {r : R2} {r' : PR2} {a b : Expr} {ma mb : ME} (ho : OpR X (compareOp op) r) (hr : Lf2 X.K r r') (ha : LE X a ma) (hb : LE X b mb) (hm : behindInMarks op b = false) : LT X (.Compare a [op] [b] pos) (mTest (mB r' ma mb)) :=
  PT.weak (pt_cmpR ho ha hb hm) fun σ H Q ⟨τ, h, Q', s, sh, q, l⟩ => two_up (Z := fun Q => Q) hr (Q := fun x H' => ∃ k, x = .bl k ∧ Q k H') ⟨τ, h, _, s, sh, q, l.test⟩
end
end N3

namespace N3
open PySem PySem.Spec PyProof.Rows L2

/-! ### tests, put together -/
def mAndT (t u : MT) : MT := fun τ h Q => t τ h fun b h1 => if b = true then u τ h1 Q else Q false h1
def mOrT (t u : MT) : MT := fun τ h Q => t τ h fun b h1 => if b = true then Q true h1 else u τ h1 Q
def mNotT (t : MT) : MT := fun τ h Q => t τ h fun b h1 => Q (!b) h1
def mAnd (a b : ME) : ME := fun τ h Q => a τ h fun p h1 => match p with | .bl c => (if c = true then b τ h1 Q else Q (.bl false) h1) | _ => False
def mOr (a b : ME) : ME := fun τ h Q => a τ h fun p h1 => match p with | .bl c => (if c = true then Q (.bl true) h1 else b τ h1 Q) | _ => False
def mNot (a : ME) : ME := fun τ h Q => a τ h fun p h1 => match p with | .bl c => Q (.bl (!c)) h1 | _ => False
def mIf (t : MT) (a b : ME) : ME := fun τ h Q => t τ h fun c h1 => if c = true then a τ h1 Q else b τ h1 Q
def mChn (r r' : PR2) (a b c : ME) : ME := fun τ h Q => a τ h fun p h1 => b τ h1 fun q h2 => r p q h2 fun z h3 => match z with
  | .bl k => (if k = true then c τ h3 fun s h4 => r' q s h4 Q else Q (.bl false) h3)
  | _ => False
section
variable {X : Cx} {pos : Pos} {a b c : Expr} {rest : List Expr}
theorem lw_and1 {t : MT} (ha : LT X a t) : LW X (.BoolOp .And [a] pos) t := pw_and1 ha
theorem lw_or1 {t : MT} (ha : LT X a t) : LW X (.BoolOp .Or [a] pos) t := pw_or1 ha
theorem lw_and {t u : MT} (ha : LT X a t) (hb : LW X (.BoolOp .And (b :: rest) pos) u) : LW X (.BoolOp .And (a :: b :: rest) pos) (mAndT t u) := by
  refine PW.weak (pw_and ha hb) fun σ H Q ⟨τ, h, Q', s, sh, q, l⟩ => ?_
  refine ⟨τ, h, _, s, sh, q, fun c h1 H1 q1 m1 s1 => ?_⟩
  cases c with
  | true => exact ⟨τ, h1, Q', s.mono m1.mono, s1, q1, l.mono m1⟩
  | false => exact l _ _ _ q1 m1 s1
theorem lw_or {t u : MT} (ha : LT X a t) (hb : LW X (.BoolOp .Or (b :: rest) pos) u) : LW X (.BoolOp .Or (a :: b :: rest) pos) (mOrT t u) := by
  refine PW.weak (pw_or ha hb) fun σ H Q ⟨τ, h, Q', s, sh, q, l⟩ => ?_
  refine ⟨τ, h, _, s, sh, q, fun c h1 H1 q1 m1 s1 => ?_⟩
  cases c with
  | true => exact l _ _ _ q1 m1 s1
  | false => exact ⟨τ, h1, Q', s.mono m1.mono, s1, q1, l.mono m1⟩
theorem lt_w {e : Expr} {t : MT} (h : LW X e t) : LT X e t := h.pt
theorem lt_not {t : MT} (ha : LT X a t) : LT X (.UnaryOp .Not a pos) (mNotT t) := by
  refine PT.weak (pt_not ha) fun σ H Q ⟨τ, h, Q', s, sh, q, l⟩ => ?_
  exact ⟨τ, h, _, s, sh, q, fun c h1 H1 q1 m1 s1 => l _ _ _ q1 m1 s1⟩
theorem le_one {op} {m : ME} (h : LE X a m) : LE X (.BoolOp op [a] pos) m := pe_one h
theorem le_and {ma mb : ME} (ha : LE X a ma) (hb : LE X (.BoolOp .And (b :: rest) pos) mb) : LE X (.BoolOp .And (a :: b :: rest) pos) (mAnd ma mb) := by
  refine PE.weak (pe_and ha hb) fun σ H Q ⟨τ, h, Q', s, sh, q, l⟩ => ?_
  refine ⟨τ, h, _, s, sh, q, fun p h1 v H1 q1 m1 r s1 => ?_⟩
  cases p with
  | bl c =>
    refine ⟨c, by simpa only [Rel] using r, ?_⟩
    cases c with
    | true => exact ⟨τ, h1, Q', s.mono m1.mono, s1, q1, l.mono m1⟩
    | false => exact l _ _ _ _ q1 m1 (by simp only [Rel]) s1
  | _ => exact q1.elim
theorem le_or {ma mb : ME} (ha : LE X a ma) (hb : LE X (.BoolOp .Or (b :: rest) pos) mb) : LE X (.BoolOp .Or (a :: b :: rest) pos) (mOr ma mb) := by
  refine PE.weak (pe_or ha hb) fun σ H Q ⟨τ, h, Q', s, sh, q, l⟩ => ?_
  refine ⟨τ, h, _, s, sh, q, fun p h1 v H1 q1 m1 r s1 => ?_⟩
  cases p with
  | bl c =>
    refine ⟨c, by simpa only [Rel] using r, ?_⟩
    cases c with
    | true => exact l _ _ _ _ q1 m1 (by simp only [Rel]) s1
    | false => exact ⟨τ, h1, Q', s.mono m1.mono, s1, q1, l.mono m1⟩
  | _ => exact q1.elim
theorem le_not {ma : ME} (ha : LE X a ma) : LE X (.UnaryOp .Not a pos) (mNot ma) := by
  refine PE.weak (pe_not ha) fun σ H Q ⟨τ, h, Q', s, sh, q, l⟩ => ?_
  refine ⟨τ, h, _, s, sh, q, fun p h1 v H1 q1 m1 r s1 => ?_⟩
  cases p with
  | bl c => exact ⟨c, by simpa only [Rel] using r, l _ _ _ _ q1 m1 (by simp only [Rel]) s1⟩
  | _ => exact q1.elim
theorem le_if {t : MT} {ma mb : ME} (hc : LT X c t) (ha : LE X a ma) (hb : LE X b mb) : LE X (.IfExp c a b pos) (mIf t ma mb) := by
  refine PE.weak (pe_ifExp hc ha hb) fun σ H Q ⟨τ, h, Q', s, sh, q, l⟩ => ?_
  refine ⟨τ, h, _, s, sh, q, fun c h1 H1 q1 m1 s1 => ?_⟩
  cases c with
  | true => exact ⟨τ, h1, Q', s.mono m1.mono, s1, q1, l.mono m1⟩
  | false => exact ⟨τ, h1, Q', s.mono m1.mono, s1, q1, l.mono m1⟩
theorem chn_up {K : PySem.W.Frag} {r r' : R2} {s s' : PR2} (hr : Lf2 K r s) (hr' : Lf2 K r' s') {ma mb mc : ME} {σ : L2.St} {H : Hp} {Q : VK} (h : upE K (mChn s s' ma mb mc) σ H Q) :
    upE K ma σ H fun x H1 => upE K mb σ H1 fun y H2 => r x y H2 fun z H3 => ∃ k, z = .bl k ∧ if k = true then upE K mc σ H3 fun w H4 => r' y w H4 Q else Q (.bl false) H3 := by
  obtain ⟨τ, h, Q', ss, sh, q, l⟩ := h
  refine ⟨τ, h, _, ss, sh, q, fun p h1 x H1 q1 m1 r1 s1 => ?_⟩
  refine ⟨τ, h1, _, ss.mono m1.mono, s1, q1, fun p2 h2 y H2 q2 m2 r2 s2 => ?_⟩
  refine hr x y H2 p p2 h2 _ _ (r1.mono m2.mono) r2 s2 q2 fun p3 h3 z H3 q3 m3 r3 s3 => ?_
  cases p3 with
  | bl k =>
    refine ⟨k, by simpa only [Rel] using r3, ?_⟩
    cases k with
    | true =>
      refine ⟨τ, h3, _, ((ss.mono m1.mono).mono m2.mono).mono m3.mono, s3, q3, fun p4 h4 w H4 q4 m4 r4 s4 => ?_⟩
      exact hr' y w H4 p2 p4 h4 Q' Q ((r2.mono m3.mono).mono m4.mono) r4 s4 q4 (l.mono (((m1.trans m2).trans m3).trans m4))
    | false => exact l _ _ _ _ q3 ((m1.trans m2).trans m3) (by simp only [Rel]) s3
  | _ => exact q3.elim
theorem le_chn {op op' : CmpOp} {r r' : R2} {s s' : PR2} {ma mb mc : ME} (ho : OpR X (compareOp op) r) (ho' : OpR X (compareOp op') r') (hr : Lf2 X.K r s) (hr' : Lf2 X.K r' s') (ha : LE X a ma) (hb : LE X b mb) (hc : LE X c mc)
    (hm : lastMarks [op, op'] [b, c] = false := by with_unfolding_all rfl) : LE X (.Compare a [op, op'] [b, c] pos) (mChn s s' ma mb mc) :=
  PE.weak (pe_chain ho ho' ha hb hc hm) fun σ H Q h => chn_up hr hr' h
theorem lt_chn {op op' : CmpOp} {r r' : R2} {s s' : PR2} {ma mb mc : ME} (ho : OpR X (compareOp op) r) (ho' : OpR X (compareOp op') r') (hr : Lf2 X.K r s) (hr' : Lf2 X.K r' s') (ha : LE X a ma) (hb : LE X b mb) (hc : LE X c mc)
    (hm : lastMarks [op, op'] [b, c] = false := by with_unfolding_all rfl) : LT X (.Compare a [op, op'] [b, c] pos) (mTest (mChn s s' ma mb mc)) :=
  PT.weak (pt_chain ho ho' ha hb hc hm) fun σ H Q ⟨τ, h, Q', s, sh, q, l⟩ => chn_up hr hr' (Q := fun (x : V) H' => ∃ k, x = V.bl k ∧ Q k H') ⟨τ, h, _, s, sh, q, l.test⟩
end

/-! ### arguments -/
def LLn (K : PySem.W.Frag) (H : Hp) (h : PH) (n : Nat) (Q' : List PV → PH → Prop) (Q : List V → Hp → Prop) : Prop := ∀ ps h1 vs H1, Q' ps h1 → ps.length = n → Go H h H1 h1 → Rels K H1 ps vs → Sim K H1 h1 → Q vs H1
def upL (K : PySem.W.Frag) (n : Nat) (m : MA) : TA := fun σ H Q => ∃ τ h Q', SimS K H σ τ ∧ Sim K H h ∧ m τ h Q' ∧ LLn K H h n Q' Q
abbrev LAn (X : Cx) (es : List Expr) (n : Nat) (m : MA) : Prop := PA X es (upL X.K n m)
def mNil : MA := fun _ h Q => Q [] h
def mCons (a : ME) (r : MA) : MA := fun τ h Q => a τ h fun p h1 => r τ h1 fun ps h2 => Q (p :: ps) h2
section
variable {X : Cx} {pos : Pos} {e : Expr} {es : List Expr} {n : Nat}
theorem la_nil : LAn X [] 0 mNil := PA.weak pa_nil fun σ H Q ⟨τ, h, Q', s, sh, q, l⟩ => l [] h [] H q rfl .refl .nil sh
theorem la_cons {ma : ME} {mr : MA} (ha : LE X e ma) (hr : LAn X es n mr) (hs : starEach (e :: es) X.env = (false, eval e X.env) :: starEach es X.env := by rfl) : LAn X (e :: es) (n + 1) (mCons ma mr) := by
  refine PA.weak (pa_cons ha hr hs) fun σ H Q ⟨τ, h, Q', s, sh, q, l⟩ => ?_
  refine ⟨τ, h, _, s, sh, q, fun p h1 v H1 q1 m1 r s1 => ?_⟩
  refine ⟨τ, h1, _, s.mono m1.mono, s1, q1, fun ps h2 vs H2 q2 hn m2 r2 s2 => ?_⟩
  exact l _ _ _ _ q2 (by rw [List.length_cons, hn]) (m1.trans m2) (.cons (r.mono m2.mono) r2) s2
def mTup (m : MA) : ME := fun τ h Q => m τ h fun ps h1 => Q (.tup ps) h1
/-- a list, kept; one that may change -/
def mLst (m : MA) : ME := fun τ h Q => m τ h fun ps h1 => Q (.lst ps) h1
def mLstM (m : MA) : ME := fun τ h Q => m τ h fun ps h1 => ∀ a, h1 a = none → Q (.ref a) (up h1 a (.lst ps))
theorem few {n : Nat} (h : n ≤ 1000) : n ≤ sizeLine := Nat.le_trans h (by decide)
theorem le_tup {x1} {m : MA} (h : LAn X es n m) (hn : n ≤ 1000 := by decide) : LE X (.Tuple es x1 pos) (mTup m) := by
  refine PE.weak (pe_tup h) fun σ H Q ⟨τ, h, Q', s, sh, q, l⟩ => ?_
  refine ⟨τ, h, _, s, sh, q, fun ps h1 vs H1 q1 hl m1 r s1 => ⟨?_, fun p e => make_t (l.mono m1) s1 r q1 e⟩⟩
  rw [← r.length, hl]; exact few hn
theorem le_lst {m : MA} (h : LAn X es n m) (hn : n ≤ 1000 := by decide) : LE X (.List es pos) (mLst m) := by
  refine PE.weak (PE.kp (pe_lst h)) fun σ H Q ⟨τ, h, Q', s, sh, q, l⟩ => ?_
  refine ⟨τ, h, _, s, sh, q, fun ps h1 vs H1 q1 hl m1 r s1 => ⟨?_, fun p e => keep_l (l.mono m1) s1 r q1 e⟩⟩
  rw [← r.length, hl]; exact few hn
theorem le_lstM {m : MA} (h : LAn X es n m) (hn : n ≤ 1000 := by decide) : LE X (.List es pos) (mLstM m) := by
  refine PE.weak (PE.kp (pe_lst h)) fun σ H Q ⟨τ, h, Q', s, sh, q, l⟩ => ?_
  refine ⟨τ, h, _, s, sh, q, fun ps h1 vs H1 q1 hl m1 r s1 => ⟨?_, fun p e => make_l (l.mono m1) s1 r q1 e⟩⟩
  rw [← r.length, hl]; exact few hn
/-- a built-in called by its name -/
def mBlt (r : PRA) (m : MA) : ME := fun τ h Q => m τ h fun ps h1 => r ps h1 Q
theorem args_up {K : PySem.W.Frag} {r : List V → Hp → VK → Prop} {r' : PRA} {Z : VK → VK} (hr : ∀ xs H ps h Q' Q, Rels K H ps xs → Sim K H h → r' ps h Q' → LQ K H h Q' Q → r xs H (Z Q)) {m : MA} {σ : L2.St} {H : Hp} {Q : VK}
    (h : upE K (mBlt r' m) σ H Q) : tCB r (upL K n m) σ H (Z Q) := by
  obtain ⟨τ, h, Q', s, sh, q, l⟩ := h
  exact ⟨τ, h, _, s, sh, q, fun ps h1 vs H1 q1 hl m1 r1 s1 => hr vs H1 ps h1 Q' Q r1 s1 q1 (l.mono m1)⟩
theorem le_blt {x : Str} {id : String} {p : Pos} {r : List V → Hp → VK → Prop} {r' : PRA} {m : MA} (hc : CallR X (.builtin id) r) (hr : LfA X.K r r') (hm : X.mg x = none) (ha : LAn X (e :: es) n m) (hg : Gl X x := by rfl) (hv : bootBuiltins x = some (.builtin id) := by decide +kernel)
    (hn : x ≠ "__name__" := by decide) (hdb : (x == ("__debug__" : Str)) = false := by decide)
    (h1 : starEach (e :: es) X.env = (false, eval e X.env) :: starEach es X.env := by rfl) (h2 : (backTo pos (starEach es X.env)).any (·.1) = false := by rfl) : LE X (.Call (.Name x p) (e :: es) [] pos) (mBlt r' m) :=
  PE.weak (pe_callB hc hg hm hv ha hn hdb h1 h2) fun _ _ _ h => args_up (Z := fun Q => Q) hr h
theorem le_bltK {x : Str} {id : String} {p : Pos} {r : List V → Hp → VK → Prop} {r' : PRA} {m : MA} (hc : CallR X (.builtin id) r) (hr : KfA X.K r r') (hm : X.mg x = none) (ha : LAn X (e :: es) n m) (hg : Gl X x := by rfl) (hv : bootBuiltins x = some (.builtin id) := by decide +kernel)
    (hn : x ≠ "__name__" := by decide) (hdb : (x == ("__debug__" : Str)) = false := by decide)
    (h1 : starEach (e :: es) X.env = (false, eval e X.env) :: starEach es X.env := by rfl) (h2 : (backTo pos (starEach es X.env)).any (·.1) = false := by rfl) : LE X (.Call (.Name x p) (e :: es) [] pos) (mBlt r' m) :=
  PE.weak (PE.kp (pe_callB hc hg hm hv ha hn hdb h1 h2)) fun _ _ _ h => args_up (Z := kQ) hr h
theorem le_ty {x : Str} {T : String} {p : Pos} {r : List V → Hp → VK → Prop} {r' : PRA} {m : MA} (hc : CallR X (.type T) r) (hr : LfA X.K r r') (hm : X.mg x = none) (ha : LAn X (e :: es) n m) (hg : Gl X x := by rfl) (hv : bootBuiltins x = some (.type T) := by decide +kernel)
    (hn : x ≠ "__name__" := by decide) (hdb : (x == ("__debug__" : Str)) = false := by decide)
    (h1 : starEach (e :: es) X.env = (false, eval e X.env) :: starEach es X.env := by rfl) (h2 : (backTo pos (starEach es X.env)).any (·.1) = false := by rfl) : LE X (.Call (.Name x p) (e :: es) [] pos) (mBlt r' m) :=
  PE.weak (pe_callTy hc hg hm hv ha hn hdb h1 h2) fun _ _ _ h => args_up (Z := fun Q => Q) hr h
theorem le_tyK {x : Str} {T : String} {p : Pos} {r : List V → Hp → VK → Prop} {r' : PRA} {m : MA} (hc : CallR X (.type T) r) (hr : KfA X.K r r') (hm : X.mg x = none) (ha : LAn X (e :: es) n m) (hg : Gl X x := by rfl) (hv : bootBuiltins x = some (.type T) := by decide +kernel)
    (hn : x ≠ "__name__" := by decide) (hdb : (x == ("__debug__" : Str)) = false := by decide)
    (h1 : starEach (e :: es) X.env = (false, eval e X.env) :: starEach es X.env := by rfl) (h2 : (backTo pos (starEach es X.env)).any (·.1) = false := by rfl) : LE X (.Call (.Name x p) (e :: es) [] pos) (mBlt r' m) :=
  PE.weak (PE.kp (pe_callTy hc hg hm hv ha hn hdb h1 h2)) fun _ _ _ h => args_up (Z := kQ) hr h
end

/-! ### what a def does -/
abbrev SpP := List PV → PH → PK → Prop
def upF (K : PySem.W.Frag) (n : Nat) (sp : SpP) : Sp := fun vs H Q _ => ∃ ps h Q', ps.length = n ∧ Rels K H ps vs ∧ Sim K H h ∧ sp ps h Q' ∧ LQ K H h Q' Q
/-- what a def promises where no text of a list, tuple, dict is just being made (so all the while here) -/
structure FnG (P : Program) (w : World) (K : PySem.W.Frag) (mg : Str → Option Value) (base : Heap) (k : Nat) (f : Addr) (fd : FuncData) (ps : List Str) (sp : SpP) : Prop where
  run : ∀ (A : Around) (outer : List Env) (s : Shared) (H : Hp) (args : Args) (us : List Value) (vs : List V) (Q : VK), Room k A → A.guards = some [] → Env0 P w K mg base A outer s H → BindsTo s fd args (ps.zip us) → Vals vs us →
    upF K ps.length sp vs H Q E0 → codeAny (model P w) A (.call (.ref f) args) (CR CX0 outer P w H s Q E0) s
section
variable {P : Program} {w : World} {K : PySem.W.Frag} {mg : Str → Option Value} {base : Heap} {j k : Nat} {f : Addr} {fd : FuncData} {ps : List Str} {sp sp' : SpP}
theorem FnG.mono (F : FnG P w K mg base j f fd ps sp) (h : j ≤ k) : FnG P w K mg base k f fd ps sp :=
  ⟨fun A outer s H args us vs Q hr => F.run A outer s H args us vs Q (hr.mono h)⟩
theorem FnG.imp (F : FnG P w K mg base k f fd ps sp) (h : ∀ qs h Q, qs.length = ps.length → sp' qs h Q → sp qs h Q) : FnG P w K mg base k f fd ps sp' :=
  ⟨fun A outer s H args us vs Q hr hg he hb r ⟨qs, h1, Q', hl, rr, ss, z, l⟩ => F.run A outer s H args us vs Q hr hg he hb r ⟨qs, h1, Q', hl, rr, ss, h qs h1 Q' hl z, l⟩⟩
/-- nothing is promised -/
theorem FnG.never : FnG P w K mg base k f fd ps (fun _ _ _ => False) := ⟨fun _ _ _ _ _ _ _ _ _ _ _ _ _ ⟨_, _, _, _, _, _, z, _⟩ => z.elim⟩
end
/-- the arguments by place, then those by keywords, in the parameters' order -/
structure KwB (fd : FuncData) (ps ks : List Str) (g : List Value → List Value → List Value) (gV : List V → List V → List V) (gP : List PV → List PV → List PV) (i j : Nat) : Prop where
  to : ∀ (s : Shared) (us ws : List Value), us.length = i → ws.length = j → BindsTo s fd ⟨us, ks.zip ws⟩ (ps.zip (g us ws))
  rel : ∀ {vs : List V} {us : List Value} {zs : List V} {ws : List Value}, us.length = i → ws.length = j → Vals vs us → Vals zs ws → Vals (gV vs zs) (g us ws)
  relP : ∀ {K : PySem.W.Frag} {H : Hp} {ps : List PV} {vs : List V} {qs : List PV} {zs : List V}, ps.length = i → qs.length = j → Rels K H ps vs → Rels K H qs zs → Rels K H (gP ps qs) (gV vs zs)
  len : ∀ {qs zs : List PV}, qs.length = i → zs.length = j → (gP qs zs).length = ps.length
section
variable {X : Cx} {pos : Pos} {e : Expr} {es : List Expr} {n : Nat}
theorem call_g {k : Nat} {f : Addr} {fd : FuncData} {ps : List Str} {sp : SpP} {pins : List (Addr × Obj)} {σ : L2.St} {H : Hp} {s : Shared} {Q : VK} {us xs : List Value} {kw : List (Str × Value)} {vs : List V} (F : FnG X.prog X.w X.K X.mg X.base k f fd ps sp) (hr : Room k X.A) (hG : X.A.guards = some [])
    (I : Inv X pins σ H s) (hb : BindsTo s fd ⟨xs, kw⟩ (ps.zip us)) (r : Vals vs us) (h : upF X.K ps.length sp vs H Q E0) : wpAny (model X.prog X.w) X.A (call (.ref f) xs kw) (EP X pins σ Q) X.xe s :=
  wpAny_call (codeAny_mono (F.run X.A X.stack s H ⟨xs, kw⟩ us vs Q hr hG I.env0 hb r h) fun r s' hq => by
    cases r with
    | error e => exact False.elim hq
    | ok fl =>
      cases fl with
      | ret u => exact I.after hq
      | _ => exact False.elim hq)
/-- a def of the text, called by its name -/
theorem le_call {x : Str} {p : Pos} {k : Nat} {f : Addr} {fd : FuncData} {ps : List Str} {sp : SpP} {m : MA} (F : FnG X.prog X.w X.K X.mg X.base k f fd ps sp) (hr : Room k X.A) (hG : X.A.guards = some []) (hm : X.mg x = some (.ref f)) (hk : PySem.W.keepIn X.K (.ref f) = true) (hb : Binds X.K fd ps [])
    (ha : LAn X (e :: es) n m) (hp : n = ps.length := by rfl) (hg : Gl X x := by rfl) (hdb : (x == ("__debug__" : Str)) = false := by decide)
    (he : starEach (e :: es) X.env = (false, eval e X.env) :: starEach es X.env := by rfl) (hpl : (backTo pos (starEach es X.env)).any (·.1) = false := by rfl) : LE X (.Call (.Name x p) (e :: es) [] pos) (mBlt sp m) := by
  refine ⟨fun pins s σ H Q I ⟨τ, h, Q', ss, sh, q, l⟩ => ?_⟩
  refine wpAny_Call_Name_kw (ld_glob I hg hm ?_ hdb)
  refine PySem.W.callWith_K (h₀ := X.base) I.ok.mod.kin hk (thn (ha.run pos pins s σ H (fun vs H1 => vs.length = ps.length ∧ upF X.K ps.length sp vs H1 Q E0) I
    ⟨τ, h, _, ss, sh, q, fun qs h1 vs H1 q1 hl g1 r1 s1 => ⟨by rw [← r1.length, hl, hp], qs, h1, Q', by rw [hl, hp], r1, s1, q1, l.mono g1⟩⟩) fun us s1 ⟨vs, H1, I1, r, hl, q⟩ => ⟨I1.kIn, ?_⟩) he hpl
  have z := hb s1 us I1.kIn (by rw [List.append_nil, ← r.length, hl])
  rw [List.append_nil] at z
  exact call_g (kw := []) F hr hG I1 z r q
theorem le_call0 {x : Str} {p : Pos} {k : Nat} {f : Addr} {fd : FuncData} {sp : SpP} (F : FnG X.prog X.w X.K X.mg X.base k f fd [] sp) (hr : Room k X.A) (hG : X.A.guards = some []) (hm : X.mg x = some (.ref f)) (hk : PySem.W.keepIn X.K (.ref f) = true) (hb : Binds X.K fd [] [])
    (hg : Gl X x := by rfl) (hdb : (x == ("__debug__" : Str)) = false := by decide) : LE X (.Call (.Name x p) [] [] pos) (mBlt sp mNil) := by
  refine ⟨fun pins s σ H Q I ⟨τ, h, Q', ss, sh, q, l⟩ => ?_⟩
  refine wpAny_Call_Name_kw (ld_glob I hg hm ?_ hdb)
  exact PySem.W.callWith_K0 I.kIn hk (call_g (kw := []) (xs := []) (us := []) F hr hG I (hb s [] I.kIn rfl) .nil ⟨[], h, Q', rfl, .nil, sh, q, l⟩)
/-- keywords' values -/
abbrev LKn (X : Cx) (kws : List Keyword) (n : Nat) (m : MA) : Prop := L2.PK X kws (upL X.K n m)
theorem lk_nil : LKn X [] 0 mNil := ⟨fun pos pins s σ H Q I ⟨τ, h, Q', ss, sh, q, l⟩ => pk_nil.run pos pins s σ H Q I (l [] h [] H q rfl .refl .nil sh)⟩
theorem lk_cons {nm : Option Str} {kpos : Pos} {kws : List Keyword} {ma : ME} {mr : MA} (ha : LE X e ma) (hr : LKn X kws n mr) : LKn X (⟨nm, e, kpos⟩ :: kws) (n + 1) (mCons ma mr) :=
  ⟨fun pos pins s σ H Q I ⟨τ, h, Q', ss, sh, q, l⟩ => (pk_cons ha hr).run pos pins s σ H Q I ⟨τ, h, _, ss, sh, q, fun p h1 v H1 q1 g1 r s1 => ⟨τ, h1, _, ss.mono g1.mono, s1, q1, fun ps h2 vs H2 q2 hn g2 r2 s2 =>
    l _ _ _ _ q2 (by rw [List.length_cons, hn]) (g1.trans g2) (.cons (r.mono g2.mono) r2) s2⟩⟩⟩
def mKw (sp : SpP) (gP : List PV → List PV → List PV) (m mk : MA) : ME := fun τ h Q => m τ h fun ps h1 => mk τ h1 fun qs h2 => sp (gP ps qs) h2 Q
theorem vals_len {vs : List V} {us : List Value} {n : Nat} (r : Vals vs us) (h : vs.length = n) : us.length = n := by rw [← r.length, h]
/-- f(e, .., k = v, ..) -/
theorem le_callK {x : Str} {p : Pos} {k i j : Nat} {f : Addr} {fd : FuncData} {ps ks : List Str} {sp : SpP} {m mk : MA} {kws : List Keyword} {g : List Value → List Value → List Value} {gV : List V → List V → List V} {gP : List PV → List PV → List PV}
    (F : FnG X.prog X.w X.K X.mg X.base k f fd ps sp) (hr : Room k X.A) (hG : X.A.guards = some []) (hm : X.mg x = some (.ref f)) (hk : PySem.W.keepIn X.K (.ref f) = true) (hb : KwB fd ps ks g gV gP i j)
    (ha : LAn X (e :: es) i m) (hkw : LKn X kws j mk) (hg : Gl X x := by rfl) (hall : (backToKw pos (keywordEach kws X.env)).all (·.1.isSome) = true := by rfl) (hks : (backToKw pos (keywordEach kws X.env)).filterMap (·.1) = ks := by rfl)
    (hdb : (x == ("__debug__" : Str)) = false := by decide) (he : starEach (e :: es) X.env = (false, eval e X.env) :: starEach es X.env := by rfl)
    (hpl : ((backTo pos (starEach (e :: es) X.env)).any (·.1) || (backToKw pos (keywordEach kws X.env)).any (·.1.isNone)) = false := by rfl) : LE X (.Call (.Name x p) (e :: es) kws pos) (mKw sp gP m mk) := by
  refine ⟨fun pins s σ H Q I ⟨τ, h, Q', ss, sh, q, l⟩ => ?_⟩
  refine wpAny_Call_Name_kw (ld_glob I hg hm ?_ hdb)
  refine PySem.W.callWith_KW (h₀ := X.base) I.ok.mod.kin hk hall (thn (ha.run pos pins s σ H (fun vs H1 => ∃ qs h1, qs.length = i ∧ vs.length = i ∧ Rels X.K H1 qs vs ∧ SimS X.K H1 σ τ ∧ Sim X.K H1 h1 ∧ LQ X.K H1 h1 Q' Q ∧ mk τ h1 fun zs h2 => sp (gP qs zs) h2 Q') I
    ⟨τ, h, _, ss, sh, q, fun qs h1 vs H1 q1 hl g1 r1 s1 => ⟨qs, h1, hl, by rw [← r1.length, hl], r1, ss.mono g1.mono, s1, l.mono g1, q1⟩⟩) fun us s1 ⟨vs, H1, I1, r, qs, h1, hl, hv, rq, ss1, sh1, l1, q1⟩ => ?_) hpl he
  refine thn (hkw.run pos pins s1 σ H1 (fun zs H2 => zs.length = j ∧ upF X.K ps.length sp (gV vs zs) H2 Q E0) I1
    ⟨τ, h1, _, ss1, sh1, q1, fun zs h2 ws H2 q2 hz g2 r2 s2 => ⟨by rw [← r2.length, hz], gP qs zs, h2, Q', hb.len hl hz, hb.relP hl hz (rq.mono g2.mono) r2, s2, q2, l1.mono g2⟩⟩) fun ws s2 ⟨zs, H2, I2, rz, hz, q2⟩ => ⟨I2.kIn, ?_⟩
  rw [hks]
  exact call_g F hr hG I2 (hb.to s2 us ws (vals_len r hv) (vals_len rz hz)) (hb.rel (vals_len r hv) (vals_len rz hz) r rz) q2
theorem le_callK0 {x : Str} {p : Pos} {k j : Nat} {f : Addr} {fd : FuncData} {ps ks : List Str} {sp : SpP} {mk : MA} {kws : List Keyword} {g : List Value → List Value → List Value} {gV : List V → List V → List V} {gP : List PV → List PV → List PV}
    (F : FnG X.prog X.w X.K X.mg X.base k f fd ps sp) (hr : Room k X.A) (hG : X.A.guards = some []) (hm : X.mg x = some (.ref f)) (hk : PySem.W.keepIn X.K (.ref f) = true) (hb : KwB fd ps ks g gV gP 0 j)
    (hkw : LKn X kws j mk) (hg : Gl X x := by rfl) (hall : (backToKw pos (keywordEach kws X.env)).all (·.1.isSome) = true := by rfl) (hks : (backToKw pos (keywordEach kws X.env)).filterMap (·.1) = ks := by rfl)
    (hdb : (x == ("__debug__" : Str)) = false := by decide) (hpl : ((backTo pos (starEach [] X.env)).any (·.1) || (backToKw pos (keywordEach kws X.env)).any (·.1.isNone)) = false := by rfl) : LE X (.Call (.Name x p) [] kws pos) (mKw sp gP mNil mk) := by
  refine ⟨fun pins s σ H Q I ⟨τ, h, Q', ss, sh, q, l⟩ => ?_⟩
  refine wpAny_Call_Name_kw (ld_glob I hg hm ?_ hdb)
  refine PySem.W.callWith_KW0 (h₀ := X.base) I.ok.mod.kin hk hall (thn (hkw.run pos pins s σ H (fun zs H2 => zs.length = j ∧ upF X.K ps.length sp (gV [] zs) H2 Q E0) I
    ⟨τ, h, _, ss, sh, q, fun zs h2 ws H2 q2 hz g2 r2 s2 => ⟨by rw [← r2.length, hz], gP [] zs, h2, Q', hb.len rfl hz, hb.relP rfl hz .nil r2, s2, q2, l.mono g2⟩⟩) fun ws s2 ⟨zs, H2, I2, rz, hz, q2⟩ => ⟨I2.kIn, ?_⟩) hpl
  rw [hks]
  exact call_g F hr hG I2 (hb.to s2 [] ws rfl (vals_len rz hz)) (hb.rel rfl (vals_len rz hz) .nil rz) q2
end

/-! ### statements -/
def mNx : MS := fun D τ h => D.nx τ h
def mSeq (a b : MS) : MS := fun D τ h => a { D with nx := b D } τ h
def mDrop (e : ME) : MS := fun D τ h => e τ h fun _ h1 => D.nx τ h1
def mRet (e : ME) : MS := fun D τ h => e τ h D.rt
def mRetN : MS := fun D _ h => D.rt .non h
def mIfS (t : MT) (a b : MS) : MS := fun D τ h => t τ h fun c h1 => if c = true then a D τ h1 else b D τ h1
def mBrk : MS := fun D τ h => D.bk τ h
def mCnt : MS := fun D τ h => D.ct τ h
section
variable {X : Cx} {pos : Pos} {s : Stmt} {rest : List Stmt} {e : Expr}
theorem LD.seq {K : PySem.W.Frag} {H : Hp} {h : PH} {D' : PEnds} {D : Ends} (l : LD K H h D' D) (b : MS) : LD K H h { D' with nx := b D' } { D with nx := upS K b D } :=
  ⟨fun τ h1 σ H1 q m s sh => ⟨τ, h1, D', s, sh, q, l.mono m⟩, l.rt, l.bk, l.ct⟩
theorem ls_nil : LSs X [] mNx := PSs.weak pss_nil fun D σ H ⟨τ, h, D', s, sh, q, l⟩ => l.nx τ h σ H q .refl s sh
theorem ls_cons {a b : MS} (h1 : LS X s a) (h2 : LSs X rest b) : LSs X (s :: rest) (mSeq a b) :=
  PSs.weak (pss_cons h1 h2) fun D σ H ⟨τ, h, D', s, sh, q, l⟩ => ⟨τ, h, _, s, sh, q, l.seq b⟩
theorem ls_one {a : MS} (h1 : LS X s a) : LSs X [s] a := pss_one h1
theorem ls_pass : LS X (.Pass pos) mNx := PS.weak ps_pass fun D σ H ⟨τ, h, D', s, sh, q, l⟩ => l.nx τ h σ H q .refl s sh
theorem ls_brk : LS X (.Break pos) mBrk := PS.weak ps_break fun D σ H ⟨τ, h, D', s, sh, q, l⟩ => l.bk τ h σ H q .refl s sh
theorem ls_cnt : LS X (.Continue pos) mCnt := PS.weak ps_continue fun D σ H ⟨τ, h, D', s, sh, q, l⟩ => l.ct τ h σ H q .refl s sh
theorem ls_expr {m : ME} (he : LE X e m) (hs : swapsWith e none pos.line X.env = pure false := by rfl) : LS X (.Expr e pos) (mDrop m) :=
  PS.weak (ps_expr he hs) fun D σ H ⟨τ, h, D', s, sh, q, l⟩ => ⟨τ, h, _, s, sh, q, fun p h1 v H1 q1 m1 r s1 => l.nx τ h1 σ H1 q1 m1 (s.mono m1.mono) s1⟩
theorem ls_ret {m : ME} (he : LE X e m) : LS X (.Return (some e) pos) (mRet m) :=
  PS.weak (ps_ret he) fun D σ H ⟨τ, h, D', s, sh, q, l⟩ => ⟨τ, h, _, s, sh, q, l.rt⟩
theorem ls_retN : LS X (.Return none pos) mRetN := PS.weak ps_retN fun D σ H ⟨τ, h, D', s, sh, q, l⟩ => l.rt _ _ _ _ q .refl (by simp only [Rel]) sh
theorem ls_if {c : Expr} {a b : List Stmt} {t : MT} {ma mb : MS} (hc : LT X c t) (ha : LSs X a ma) (hb : LSs X b mb) : LS X (.If c a b pos) (mIfS t ma mb) := by
  refine PS.weak (ps_if hc ha hb) fun D σ H ⟨τ, h, D', s, sh, q, l⟩ => ?_
  refine ⟨τ, h, _, s, sh, q, fun c h1 H1 q1 m1 s1 => ?_⟩
  cases c with
  | true => exact ⟨τ, h1, D', s.mono m1.mono, s1, q1, l.mono m1⟩
  | false => exact ⟨τ, h1, D', s.mono m1.mono, s1, q1, l.mono m1⟩
end

/-! ### targets -/
abbrev MG := PV → PSt → PH → (PSt → PH → Prop) → Prop
abbrev MGs := List PV → PSt → PH → (PSt → PH → Prop) → Prop
def upG (K : PySem.W.Frag) (vs : List Nat) (g : MG) : TG := fun v σ H Q => ∃ p τ h Q', Rel K H p v ∧ SimS K H σ τ ∧ Sim K H h ∧ g p τ h Q' ∧
  ∀ τ1 h1 σ1 H1, Q' τ1 h1 → Go H h H1 h1 → SimS K H1 σ1 τ1 → Sim K H1 h1 → wipe σ1 vs = wipe σ vs → Q σ1 H1
def upGs (K : PySem.W.Frag) (vs : List Nat) (g : MGs) : TGs := fun us σ H Q => ∃ ps τ h Q', Rels K H ps us ∧ SimS K H σ τ ∧ Sim K H h ∧ g ps τ h Q' ∧
  ∀ τ1 h1 σ1 H1, Q' τ1 h1 → Go H h H1 h1 → SimS K H1 σ1 τ1 → Sim K H1 h1 → wipe σ1 vs = wipe σ vs → Q σ1 H1
abbrev LG (X : Cx) (t : Expr) (vs : List Nat) (g : MG) : Prop := PG X t (upG X.K vs g)
abbrev LGs (X : Cx) (ts : List Expr) (vs : List Nat) (g : MGs) : Prop := PGs X ts (upGs X.K vs g)
def gN (i : Nat) : MG := fun p τ h Q => Q (st τ i (some p)) h
def gsNil : MGs := fun ps τ h Q => ps = [] ∧ Q τ h
def gsCons (g : MG) (r : MGs) : MGs := fun ps τ h Q => match ps with | p :: qs => g p τ h fun τ1 h1 => r qs τ1 h1 Q | [] => False
def gT (n : Nat) (g : MGs) : MG := fun p τ h Q => match p with | .tup ps => ps.length = n ∧ g ps τ h Q | _ => False
theorem wipe_set {σ : L2.St} {i : Nat} {x : Option V} : ∀ {vs : List Nat}, i ∈ vs → wipe (σ.set i x) vs = wipe σ vs
  | v :: vs, hi => by
    unfold wipe
    by_cases e : v = i
    · subst e
      by_cases hm : v ∈ vs
      · rw [wipe_set hm]
      · clear hi
        have : ∀ vs : List Nat, v ∉ vs → wipe (σ.set v x) vs = (wipe σ vs).set v x := by
          intro vs
          induction vs with
          | nil => intro _; rfl
          | cons u us ih =>
            intro hn
            unfold wipe
            rw [ih fun z => hn (List.mem_cons_of_mem _ z), List.set_comm _ _ fun z => hn (by rw [z]; exact List.mem_cons_self)]
        rw [this vs hm, List.set_set]
    · have hm : i ∈ vs := by
        rcases List.mem_cons.mp hi with z | z
        · exact absurd z.symm e
        · exact z
      rw [wipe_set hm]
section
variable {X : Cx} {pos : Pos} {vs : List Nat} {e : Expr} {es : List Expr}
theorem PG.weak {t u : TG} (h : PG X e t) (w : ∀ v σ H Q, u v σ H Q → t v σ H Q) : PG X e u := ⟨fun pins s σ H v uu Q I r q => h.run pins s σ H v uu Q I r (w v σ H Q q)⟩
theorem PGs.weak {t u : TGs} (h : PGs X es t) (w : ∀ v σ H Q, u v σ H Q → t v σ H Q) : PGs X es u := ⟨fun pins s σ H v uu Q I r q => h.run pins s σ H v uu Q I r (w v σ H Q q)⟩
theorem lg_name {i : Nat} {x : Str} (hN : X.N.Nodup) (hi : X.N[i]? = some x := by rfl) (hx : Loc X.env.scope x := by first | exact Or.inl rfl | exact Or.inr rfl) (hv : i ∈ vs := by simp) (hf : X.fn x = true ∨ X.env.scope.names.lookup x = some .local := by first | exact .inl rfl | exact .inr rfl | assumption) : LG X (.Name x pos) vs (gN i) :=
  PG.weak (pg_name hN hi hx hf) fun v σ H Q ⟨p, τ, h, Q', r, s, sh, q, l⟩ => l _ _ _ _ q .refl (s.set r) sh (wipe_set hv)
theorem lgs_nil : LGs X [] vs gsNil := PGs.weak pgs_nil fun us σ H Q ⟨ps, τ, h, Q', r, s, sh, ⟨q1, q2⟩, l⟩ => by
  subst q1
  exact ⟨r.len0, l _ _ _ _ q2 .refl s sh rfl⟩
theorem lgs_cons {g : MG} {r : MGs} (h1 : LG X e vs g) (h2 : LGs X es vs r) (hs : (assignEach (e :: es) X.env).map (·.2) = assign e X.env :: (assignEach es X.env).map (·.2) := by rfl) : LGs X (e :: es) vs (gsCons g r) := by
  refine PGs.weak (pgs_cons h1 h2 hs) fun us σ H Q ⟨ps, τ, h, Q', rr, s, sh, q, l⟩ => ?_
  cases ps with
  | nil => exact q.elim
  | cons p qs =>
    obtain ⟨v, ws, rfl, r1, r2⟩ := rr.uncons
    refine ⟨v, ws, rfl, p, τ, h, _, r1, s, sh, q, fun τ1 h1 σ1 H1 q1 m1 s1 sh1 w1 => ?_⟩
    refine ⟨qs, τ1, h1, _, r2.mono m1.mono, s1, sh1, q1, fun τ2 h2 σ2 H2 q2 m2 s2 sh2 w2 => ?_⟩
    exact l _ _ _ _ q2 (m1.trans m2) s2 sh2 (w2.trans w1)
theorem lg_tup {k : Nat} {g : MGs} {n : Nat} (hc : X.calm = true) (h : LGs X es vs g) (hn : (assignEach es X.env).length = n := by rfl) (hst : (assignEach es X.env).findIdx? (·.1) = none := by rfl) : LG X (.Tuple es k pos) vs (gT n g) := by
  refine PG.weak (pg_tup hc h hn hst) fun v σ H Q ⟨p, τ, h, Q', r, s, sh, q, l⟩ => ?_
  cases p with
  | tup ps =>
    obtain ⟨ql, q⟩ := q
    simp only [Rel] at r
    obtain ⟨a, xs, e1, e2, rx⟩ := r
    exact ⟨a, xs, e1, e2, by rw [← rx.length, ql], ps, τ, h, Q', rx, s, sh, q, l⟩
  | _ => exact q.elim
/-- target = value -/
def mAsg (m : ME) (g : MG) : MS := fun D τ h => m τ h fun p h1 => g p τ h1 D.nx
theorem ls_asg {tg : Expr} {m : ME} {g : MG} (he : LE X e m) (hg : LG X tg vs g) (hs : swapsWithSole [tg] e pos.line X.env = pure false := by rfl) (hw : swappedStores [tg] e X.env = pure none := by rfl)
    (h1 : (assignEach [tg] X.env).map (·.2) = [assign tg X.env] := by rfl) : LS X (.Assign [tg] e pos) (mAsg m g) := by
  refine PS.weak (ps_asg he hg hs hw h1) fun D σ H ⟨τ, h, D', s, sh, q, l⟩ => ?_
  refine ⟨τ, h, _, s, sh, q, fun p h1 v H1 q1 m1 r s1 => ?_⟩
  exact ⟨p, τ, h1, _, r, s.mono m1.mono, s1, q1, fun τ1 h2 σ1 H2 q2 m2 s2 sh2 _ => l.nx _ _ _ _ q2 (m1.trans m2) s2 sh2⟩
theorem ls_set {i : Nat} {x : Str} {m : ME} {pos' : Pos} (hN : X.N.Nodup) (he : LE X e m) (hi : X.N[i]? = some x := by rfl) (hx : Loc X.env.scope x := by first | exact Or.inl rfl | exact Or.inr rfl) (hs : swapsWith e (some (.Name x pos')) pos.line X.env = pure false := by rfl) (hf : X.fn x = true ∨ X.env.scope.names.lookup x = some .local := by first | exact .inl rfl | exact .inr rfl | assumption) :
    LS X (.Assign [.Name x pos'] e pos) (mAsg m (gN i)) := by
  refine PS.weak (ps_set hN hi hx he hs hf) fun D σ H ⟨τ, h, D', s, sh, q, l⟩ => ?_
  exact ⟨τ, h, _, s, sh, q, fun p h1 v H1 q1 m1 r s1 => l.nx _ _ _ _ q1 m1 ((s.mono m1.mono).set r) s1⟩
/-- a, b = x, y with plain local names -/
def mPar (i j : Nat) (m : MA) : MS := fun D τ h => m τ h fun ps h1 => match ps with | [p, q] => D.nx (st (st τ i (some p)) j (some q)) h1 | _ => False
theorem ls_par {i j : Nat} {x y : Str} {a b : Expr} {ta : MA} {px py pt : Pos} {kt k2 pt2} (hc : X.calm = true) (hN : X.N.Nodup) (ha : LAn X [a, b] 2 ta) (hi : X.N[i]? = some x := by rfl) (hj : X.N[j]? = some y := by rfl) (hij : i ≠ j := by decide)
    (hx : X.env.scope.names.lookup x = some .local := by rfl) (hy : X.env.scope.names.lookup y = some .local := by rfl)
    (hw : swappedStores [.Tuple [.Name x px, .Name y py] kt pt] (.Tuple [a, b] k2 pt2) X.env = pure (some [x, y]) := by rfl)
    (hs : swapsWithSole [.Tuple [.Name x px, .Name y py] kt pt] (.Tuple [a, b] k2 pt2) pos.line X.env = pure false := by rfl) :
    LS X (.Assign [.Tuple [.Name x px, .Name y py] kt pt] (.Tuple [a, b] k2 pt2) pos) (mPar i j ta) := by
  refine PS.weak (ps_par hc hN hi hj hij hx hy ha hw hs) fun D σ H ⟨τ, h, D', s, sh, q, l⟩ => ?_
  refine ⟨τ, h, _, s, sh, q, fun ps h1 vs H1 q1 hl m1 r s1 => ?_⟩
  match ps, q1, r with
  | [p, q], q1, r =>
    obtain ⟨v, w, rfl, r1, r2⟩ := r.two
    exact ⟨v, w, rfl, l.nx _ _ _ _ q1 m1 (((s.mono m1.mono).set r1).set r2) s1⟩
  | [], q1, _ => exact q1.elim
  | [_], q1, _ => exact q1.elim
  | _ :: _ :: _ :: _, q1, _ => exact q1.elim
end
end N3

namespace N3
open PySem PySem.Spec PyProof.Rows L2

/-! ### while -/
/-- I: what holds ahead of each turn, by a number that falls -/
def mWhile (t : MT) (b : MS) : MS := fun D τ h => ∃ I : Nat → PSt → PH → Prop, (∃ n, I n τ h) ∧ ∀ n τ h, I n τ h →
  t τ h fun c h1 => if c = true then b { D with nx := fun τ' h' => ∃ m, m < n ∧ I m τ' h', ct := fun τ' h' => ∃ m, m < n ∧ I m τ' h', bk := D.nx } τ h1 else D.nx τ h1
section
variable {X : Cx} {pos : Pos} {e : Expr}
theorem ls_while {c : Expr} {body : List Stmt} {t : MT} {b : MS} (hp : PassesOwn (model X.prog X.w) X.A X.env X.xe) (hc : LT X c t) (hb : LSs X body b) : LS X (.While c body [] pos) (mWhile t b) := by
  refine PS.weak (ps_while hp hc hb) fun D σ0 H0 ⟨τ0, h0, D', s0, sh0, ⟨I, ⟨n0, i0⟩, turn⟩, l⟩ => ?_
  refine ⟨fun n σ H => ∃ τ h, Go H0 h0 H h ∧ SimS X.K H σ τ ∧ Sim X.K H h ∧ I n τ h, ⟨n0, τ0, h0, .refl, s0, sh0, i0⟩, ?_⟩
  rintro n σ H ⟨τ, h, g, s, sh, i⟩
  refine ⟨τ, h, _, s, sh, turn n τ h i, fun c h1 H1 q1 g1 s1 => ?_⟩
  cases c with
  | true =>
    rw [if_pos rfl] at q1 ⊢
    refine ⟨fun σ' H' => ∃ m, m < n ∧ ∃ τ h, Go H0 h0 H' h ∧ SimS X.K H' σ' τ ∧ Sim X.K H' h ∧ I m τ h, fun σ' H' z => z, ?_⟩
    refine ⟨τ, h1, _, s.mono g1.mono, s1, q1, ?_⟩
    have l' := l.mono (g.trans g1)
    have again : LN X.K H1 h1 (fun τ' h' => ∃ m, m < n ∧ I m τ' h') (fun σ' H' => ∃ m, m < n ∧ ∃ τ h, Go H0 h0 H' h ∧ SimS X.K H' σ' τ ∧ Sim X.K H' h ∧ I m τ h) := fun τ2 h2 σ2 H2 ⟨m, hm, i2⟩ g2 s2 sh2 =>
      ⟨m, hm, τ2, h2, (g.trans g1).trans g2, s2, sh2, i2⟩
    exact ⟨again, l'.rt, l'.nx, again⟩
  | false =>
    rw [if_neg Bool.false_ne_true] at q1 ⊢
    exact l.nx τ h1 σ H1 q1 (g.trans g1) (s.mono g1.mono) s1

/-! ### what is gone along -/
/-- the items, and what must stand at each turn -/
abbrev MI := PSt → PH → (List PV → (PH → Prop) → PH → Prop) → Prop
structure Wk (K : PySem.W.Frag) (J : It) (ps : List PV) (gd : PH → Prop) (H1 : Hp) : Prop where
  few : ps.length ≤ sizeLine
  goes : ∀ i H h, i < ps.length → Mono H1 H → Sim K H h → gd h → J.go i H
  stops : ∀ H h, Mono H1 H → Sim K H h → gd h → J.stop ps.length H
  yields : ∀ (i : Nat) H h x H' p, ps[i]? = some p → Mono H1 H → Sim K H h → gd h → J.yld i H x H' → Go H h H' h ∧ Sim K H' h ∧ Rel K H' p x
def upI (K : PySem.W.Frag) (mi : MI) : TI := fun σ H R => ∃ τ h Q', SimS K H σ τ ∧ Sim K H h ∧ mi τ h Q' ∧
  ∀ ps gd h1 H1 J, Q' ps gd h1 → Go H h H1 h1 → Sim K H1 h1 → Wk K J ps gd H1 → R J H1
abbrev LI (X : Cx) (tg iter : Expr) (mi : MI) : Prop := PI X tg iter (upI X.K mi)
theorem PI.weak {tg iter : Expr} {t u : TI} (h : PI X tg iter t) (w : ∀ σ H R, u σ H R → t σ H R) : PI X tg iter u := ⟨fun pins s σ H R I q => h.run pins s σ H R I (w σ H R q)⟩

def forL (gd : PH → Prop) (g : MG) (b : MS) (D : PEnds) : List PV → PSt → PH → Prop
  | [], τ, h => gd h ∧ D.nx τ h
  | p :: ps, τ, h => gd h ∧ g p τ h fun τ1 h1 => b { D with nx := forL gd g b D ps, ct := forL gd g b D ps, bk := D.nx } τ1 h1
def mFor (mi : MI) (g : MG) (b : MS) : MS := fun D τ h => mi τ h fun ps gd h1 => forL gd g b D ps τ h1
theorem ls_for {tg iter : Expr} {body : List Stmt} {mi : MI} {vs : List Nat} {g : MG} {b : MS} (hp : PassesOwn (model X.prog X.w) X.A X.env X.xe) (hc : X.calm = true) (hi : LI X tg iter mi) (hg : LG X tg vs g) (hb : LSs X body b)
    (hs : ∀ x, foldedSetIterable iter X.env x = pure x := by intro _; rfl) : LS X (.For tg iter body [] pos) (mFor mi g b) := by
  refine PS.weak (ps_for hp hc hi hg hb hs) fun D σ0 H0 ⟨τ0, h0, D', s0, sh0, q0, l⟩ => ?_
  refine ⟨τ0, h0, _, s0, sh0, q0, fun ps gd h1 H1 J q1 g1 s1 wk => ?_⟩
  have l1 := l.mono g1
  refine ⟨fun i m σ H => ∃ τ h, i ≤ ps.length ∧ m = ps.length - i ∧ Go H1 h1 H h ∧ SimS X.K H σ τ ∧ Sim X.K H h ∧ forL gd g b D' (ps.drop i) τ h,
    ⟨ps.length, τ0, h1, Nat.zero_le _, rfl, .refl, s0.mono g1.mono, s1, q1⟩, ?_⟩
  rintro i m σ H ⟨τ, h, hi, rfl, gg, s, sh, q⟩
  by_cases hlt : i < ps.length
  · have e : ps.drop i = ps[i] :: ps.drop (i + 1) := List.drop_eq_getElem_cons hlt
    rw [e] at q
    obtain ⟨hgd, q⟩ := q
    refine .inr ⟨wk.goes i H h hlt gg.mono sh hgd, fun σ' H' => ∃ τ h, Go H1 h1 H' h ∧ SimS X.K H' σ' τ ∧ Sim X.K H' h ∧ forL gd g b D' (ps.drop (i + 1)) τ h, fun σ' H' ⟨τ, h, a, b', c, d⟩ => ⟨ps.length - (i + 1), by omega, τ, h, hlt, rfl, a, b', c, d⟩, fun x H' y => ?_⟩
    obtain ⟨g2, sh2, rx⟩ := wk.yields i H h x H' ps[i] (List.getElem?_eq_getElem hlt) gg.mono sh hgd y
    refine ⟨ps[i], τ, h, _, rx, s.mono g2.mono, sh2, q, fun τ3 h3 σ3 H3 q3 g3 s3 sh3 _ => ?_⟩
    refine ⟨τ3, h3, _, s3, sh3, q3, ?_⟩
    have g13 := (gg.trans g2).trans g3
    have l3 := l1.mono g13
    have again : LN X.K H3 h3 (forL gd g b D' (ps.drop (i + 1))) (fun σ' H' => ∃ τ h, Go H1 h1 H' h ∧ SimS X.K H' σ' τ ∧ Sim X.K H' h ∧ forL gd g b D' (ps.drop (i + 1)) τ h) := fun τ4 h4 σ4 H4 q4 g4 s4 sh4 =>
      ⟨τ4, h4, g13.trans g4, s4, sh4, q4⟩
    exact ⟨again, l3.rt, l3.nx, again⟩
  · have e : i = ps.length := by omega
    subst e
    rw [List.drop_length] at q
    exact .inl ⟨wk.stops H h gg.mono sh q.1, l1.nx τ h σ H q.2 gg s sh⟩

/-! ### [e for t in it if ..] -/
def mTs : List MT → MT
  | [] => fun _ h Q => Q true h
  | [t] => t
  | _ => fun _ _ _ => False
def mYes : MT := fun _ h Q => Q true h
abbrev LTs (X : Cx) (ifs : List Expr) (t : MT) : Prop := PTs X ifs (upT X.K t)
theorem lts_nil : LTs X [] mYes := ⟨fun pins s σ H Q I ⟨τ, h, Q', ss, sh, q, l⟩ => pts_nil.run pins s σ H Q I (l _ _ _ q .refl sh)⟩
theorem lts_one {c : Expr} {t : MT} (h : LT X c t) : LTs X [c] t := pts_one h
def lcL (gd : PH → Prop) (τ : PSt) (g : MG) (t : MT) (m : ME) : List PV → List PV → PH → (List PV → PH → Prop) → Prop
  | [], acc, h, Q => gd h ∧ Q acc h
  | p :: ps, acc, h, Q => gd h ∧ g p τ h fun τ1 h1 => t τ1 h1 fun b h2 => if b = true then m τ1 h2 fun v h3 => lcL gd τ g t m ps (acc ++ [v]) h3 Q else lcL gd τ g t m ps acc h2 Q
def wp (τ : PSt) : List Nat → PSt
  | [] => τ
  | v :: vs => st (wp τ vs) v none
theorem SimS.wipe {K : PySem.W.Frag} {H : Hp} {σ : L2.St} {τ : PSt} (s : SimS K H σ τ) : ∀ vs : List Nat, SimS K H (wipe σ vs) (wp τ vs)
  | [] => s
  | v :: vs => by
    have ih := SimS.wipe s vs
    unfold L2.wipe wp
    refine ⟨by rw [List.length_set, st_eq, List.length_set]; exact ih.1, fun i p e => ?_⟩
    rw [st_eq, gt_eq] at e
    by_cases hv : v = i
    · subst hv
      by_cases hl : v < (wp τ vs).length
      · rw [List.getElem?_set_self hl] at e; simp at e
      · rw [List.getElem?_eq_none (by simpa using hl)] at e; simp at e
    · rw [List.getElem?_set_ne hv] at e ⊢
      exact ih.2 i p (by rw [gt_eq]; exact e)
/-- the list kept; one that may change -/
def mLc (mi : MI) (vs : List Nat) (g : MG) (t : MT) (m : ME) : ME := fun τ h Q => mi τ h fun ps gd h1 => lcL gd (wp τ vs) g t m ps [] h1 fun zs h2 => Q (.lst zs) h2
def mLcM (mi : MI) (vs : List Nat) (g : MG) (t : MT) (m : ME) : ME := fun τ h Q => mi τ h fun ps gd h1 => lcL gd (wp τ vs) g t m ps [] h1 fun zs h2 => ∀ a, h2 a = none → Q (.ref a) (up h2 a (.lst zs))
theorem wipe_wipe {σ : L2.St} {vs : List Nat} : wipe (wipe σ vs) vs = wipe σ vs := by
  have key : ∀ us : List Nat, (∀ u ∈ us, u ∈ vs) → wipe (wipe σ us) vs = wipe σ vs := by
    intro us
    induction us with
    | nil => intro _; rfl
    | cons u us ih =>
      intro hs
      show wipe ((wipe σ us).set u none) vs = wipe σ vs
      rw [wipe_set (hs u List.mem_cons_self)]
      exact ih fun w hw => hs w (List.mem_cons_of_mem _ hw)
  exact key vs fun _ h => h
/-- the reading of a comprehension, whatever is done with the list -/
theorem lc_up {K : PySem.W.Frag} {mi : MI} {vs : List Nat} {g : MG} {t : MT} {m : ME} {Y : List PV → PH → Prop} {σ : L2.St} {H0 : Hp} {τ : PSt} {h0 : PH} {Q : VK} (s0 : SimS K H0 σ τ) (sh0 : Sim K H0 h0)
    (q : mi τ h0 fun ps gd h1 => lcL gd (wp τ vs) g t m ps [] h1 Y)
    (fin : ∀ zs h2 xs D H2, Y zs h2 → H0 D = none → H2 D = some (.lst xs) → h2 D = none → Sim K H2 h2 → Rels K H2 zs xs → Go H0 h0 H2 h2 → Q (.ref D) H2) :
    tLc (upI K mi) (upG K vs g) (upT K t) (upE K m) vs σ H0 Q := by
  refine ⟨τ, h0, _, s0, sh0, q, fun ps gd h1 H1 J q1 g1 s1 wk D hD => ?_⟩
  have hD1 : h1 D = none := s1.fresh hD
  have gD : Go H1 h1 (upd H1 D (.lst [])) h1 := .new hD
  refine ⟨fun i n H => ∃ h acc xs, i ≤ ps.length ∧ n = ps.length - i ∧ Go H1 h1 H h ∧ H D = some (.lst xs) ∧ h D = none ∧ Rels K H acc xs ∧ xs.length ≤ i ∧ Sim K H h ∧ lcL gd (wp τ vs) g t m (ps.drop i) acc h Y,
    ⟨ps.length, h1, [], [], Nat.zero_le _, rfl, gD, upd_same, hD1, .nil, Nat.le_refl _, s1.new hD, q1⟩, ?_⟩
  rintro i n H ⟨h, acc, xs, hi, rfl, gg, hx, hd, ra, hl, sh, q⟩
  by_cases hlt : i < ps.length
  · have e : ps.drop i = ps[i] :: ps.drop (i + 1) := List.drop_eq_getElem_cons hlt
    rw [e] at q
    obtain ⟨hgd, q⟩ := q
    refine .inr ⟨wk.goes i H h hlt gg.mono sh hgd, fun H' => ∃ h acc xs, Go H1 h1 H' h ∧ H' D = some (.lst xs) ∧ h D = none ∧ Rels K H' acc xs ∧ xs.length ≤ i + 1 ∧ Sim K H' h ∧ lcL gd (wp τ vs) g t m (ps.drop (i + 1)) acc h Y,
      fun H' ⟨h, acc, xs, a1, a2, a3, a4, a5, a6, a7⟩ => ⟨ps.length - (i + 1), by omega, h, acc, xs, hlt, rfl, a1, a2, a3, a4, a5, a6, a7⟩, fun x H' y => ?_⟩
    obtain ⟨g2, sh2, rx⟩ := wk.yields i H h x H' ps[i] (List.getElem?_eq_getElem hlt) gg.mono sh hgd y
    have gw : Mono H0 H' := (g1.trans (gg.trans g2)).mono
    refine ⟨ps[i], wp τ vs, h, _, rx, (s0.mono gw).wipe vs, sh2, q, fun τ3 h3 σ3 H3 q3 g3 s3 sh3 w3 => ⟨by rw [w3, wipe_wipe], ?_⟩⟩
    refine ⟨τ3, h3, _, s3, sh3, q3, fun b h4 H4 q4 g4 s4 => ?_⟩
    have g24 := (g2.trans g3).trans g4
    have x4 : H4 D = some (.lst xs) := g24.frame D _ hx hd
    have d4 : h4 D = none := g24.dom D _ hx hd
    cases b with
    | true =>
      simp only [if_true] at q4 ⊢
      refine ⟨τ3, h4, _, s3.mono g4.mono, s4, q4, fun v h5 y5 H5 q5 g5 r5 s5 => ?_⟩
      have x5 : H5 D = some (.lst xs) := g5.frame D _ x4 d4
      have d5 : h5 D = none := g5.dom D _ x4 d4
      have few := wk.few
      refine ⟨xs, x5, by omega, h5, acc ++ [v], xs ++ [y5], ?_, upd_same, d5, ?_, by rw [List.length_append]; simp; omega, s5.drop (Mono.lst x5) d5, q5⟩
      · have gA := ((gg.trans g24).trans g5)
        exact gA.renew hD (Mono.lst x5)
      · exact ((ra.mono (g24.trans g5).mono).append (.cons r5 .nil)).mono (Mono.lst x5)
    | false =>
      simp only [Bool.false_eq_true, if_false] at q4 ⊢
      exact ⟨h4, acc, xs, gg.trans g24, x4, d4, ra.mono g24.mono, by omega, s4, q4⟩
  · have e : i = ps.length := by omega
    subst e
    rw [List.drop_length] at q
    have g0 := g1.trans gg
    exact .inl ⟨wk.stops H h gg.mono sh q.1, fin acc h xs D H q.2 (g1.live D hD) hx hd sh ra g0⟩
theorem le_lc {elt tg iter : Expr} {ifs : List Expr} {scope : Scope} {mi : MI} {g : MG} {t : MT} {m : ME} (own : List (Str × Nat)) (hc : X.calm = true) (hN : X.N.Nodup) (hi : LI X tg iter mi) (ok : BlkOk X.N X.env.scope scope own)
    (hg : ∀ (s : Shared) (H : Hp) (C : Addr) (cl : List (Str × Addr)) (fp : List Addr), LG (X.blk s H scope (compEnvC scope cl C X.env) fp) tg (own.map (·.2)) g) (ht : ∀ (s : Shared) (H : Hp) (C : Addr) (cl : List (Str × Addr)) (fp : List Addr), LTs (X.blk s H scope (compEnvC scope cl C X.env) fp) ifs t)
    (he : ∀ (s : Shared) (H : Hp) (C : Addr) (cl : List (Str × Addr)) (fp : List Addr), LE (X.blk s H scope (compEnvC scope cl C X.env) fp) elt m) (hs : ∀ x, foldedSetIterable iter X.env x = pure x := by intro _; rfl) :
    LE X (.ListComp elt [⟨tg, iter, ifs, 0⟩] scope pos) (mLc mi (own.map (·.2)) g t m) :=
  PE.weak (PE.kp (pe_lc hc hN hi ok hg ht he hs)) fun σ H Q ⟨τ, h, Q', s, sh, q, l⟩ => lc_up s sh q fun zs h2 xs D H2 q2 h0 hD hd s2 r2 g2 => .inr ⟨D, _, rfl, hD, trivial, fun o => by
    have mm : Mono H2 (upd H2 D (.frz o (.lst xs))) := Mono.lst hD
    refine l (.lst zs) h2 (.ref D) _ q2 (g2.renew h0 mm) ?_ (s2.drop mm hd)
    simp only [Rel]
    exact ⟨D, xs, rfl, .inl ⟨o, upd_same⟩, r2.mono mm⟩⟩
theorem le_lcM {elt tg iter : Expr} {ifs : List Expr} {scope : Scope} {mi : MI} {g : MG} {t : MT} {m : ME} (own : List (Str × Nat)) (hc : X.calm = true) (hN : X.N.Nodup) (hi : LI X tg iter mi) (ok : BlkOk X.N X.env.scope scope own)
    (hg : ∀ (s : Shared) (H : Hp) (C : Addr) (cl : List (Str × Addr)) (fp : List Addr), LG (X.blk s H scope (compEnvC scope cl C X.env) fp) tg (own.map (·.2)) g) (ht : ∀ (s : Shared) (H : Hp) (C : Addr) (cl : List (Str × Addr)) (fp : List Addr), LTs (X.blk s H scope (compEnvC scope cl C X.env) fp) ifs t)
    (he : ∀ (s : Shared) (H : Hp) (C : Addr) (cl : List (Str × Addr)) (fp : List Addr), LE (X.blk s H scope (compEnvC scope cl C X.env) fp) elt m) (hs : ∀ x, foldedSetIterable iter X.env x = pure x := by intro _; rfl) :
    LE X (.ListComp elt [⟨tg, iter, ifs, 0⟩] scope pos) (mLcM mi (own.map (·.2)) g t m) :=
  PE.weak (pe_lc hc hN hi ok hg ht he hs) fun σ H Q ⟨τ, h, Q', s, sh, q, l⟩ => lc_up s sh q fun zs h2 xs D H2 q2 h0 hD hd s2 r2 g2 => by
    refine l (.ref D) _ (.ref D) H2 (q2 D hd) (g2.own h0) (by simp only [Rel]) fun b p e => ?_
    by_cases hb : b = D
    · subst hb
      rw [up_same] at e; cases e
      exact ⟨_, hD, xs, rfl, r2⟩
    · rw [up_ne hb] at e
      exact s2 b p e
/-- name = [..]: the list may change behind it -/
theorem ls_setLcM {i : Nat} {y : Str} {py : Pos} {elt tg iter : Expr} {ifs : List Expr} {scope : Scope} {spos : Pos} {mi : MI} {g : MG} {t : MT} {m : ME} (own : List (Str × Nat)) (hc : X.calm = true) (hN : X.N.Nodup) (hi : LI X tg iter mi) (ok : BlkOk X.N X.env.scope scope own)
    (hg : ∀ (s : Shared) (H : Hp) (C : Addr) (cl : List (Str × Addr)) (fp : List Addr), LG (X.blk s H scope (compEnvC scope cl C X.env) fp) tg (own.map (·.2)) g) (ht : ∀ (s : Shared) (H : Hp) (C : Addr) (cl : List (Str × Addr)) (fp : List Addr), LTs (X.blk s H scope (compEnvC scope cl C X.env) fp) ifs t)
    (he : ∀ (s : Shared) (H : Hp) (C : Addr) (cl : List (Str × Addr)) (fp : List Addr), LE (X.blk s H scope (compEnvC scope cl C X.env) fp) elt m)
    (hy : X.N[i]? = some y := by rfl) (hyl : X.env.scope.names.lookup y = some .local := by rfl)
    (hsw : swapsWith (.ListComp elt [⟨tg, iter, ifs, 0⟩] scope pos) (some (.Name y py)) spos.line X.env = pure true := by exact sw_true rfl rfl rfl (by decide +kernel)) (hs : ∀ x, foldedSetIterable iter X.env x = pure x := by intro _; rfl) :
    LS X (.Assign [.Name y py] (.ListComp elt [⟨tg, iter, ifs, 0⟩] scope pos) spos) (mAsg (mLcM mi (own.map (·.2)) g t m) (gN i)) :=
  PS.weak (ps_setLc hc hN hy hyl hsw hi ok hg ht he hs) fun D0 σ H ⟨τ, h, D', s, sh, q, l⟩ => lc_up s sh q fun zs h2 xs D H2 q2 h0 hD hd s2 r2 g2 => by
    refine l.nx _ _ _ H2 (q2 D hd) (g2.own h0) ((s.mono g2.mono).set (by simp only [Rel])) fun b p e => ?_
    by_cases hb : b = D
    · subst hb
      rw [up_same] at e; cases e
      exact ⟨_, hD, xs, rfl, r2⟩
    · rw [up_ne hb] at e
      exact s2 b p e
end
end N3

namespace N3
open PySem PySem.Spec PyProof.Rows L2

/-! ### keeping behind a statement -/
def kN (N : L2.St → Hp → Prop) : L2.St → Hp → Prop := fun σ H => N σ H ∨ ∃ a u, H a = some u ∧ Keepable u ∧ ∀ o, N σ (upd H a (.frz o u))
section
variable {X : Cx} {pos : Pos} {s : Stmt}
theorem PS.kp {t : TS} (h : PS X s t) : PS X s (fun D σ H => t { D with nx := kN D.nx } σ H) := by
  refine ⟨fun pins s σ H D I q => ?_⟩
  refine thn (h.run pins s σ H _ I q) fun f s1 q1 => ?_
  cases f with
  | next =>
    obtain ⟨σ1, H1, I1, q2⟩ := q1
    rcases q2 with q2 | ⟨a, u, e, k, q2⟩
    · exact ⟨σ1, H1, I1, q2⟩
    · obtain ⟨o, I2⟩ := Inv.keep I1 e k
      exact ⟨σ1, _, I2, q2 o⟩
  | ret v => exact q1
  | brk => exact q1
  | cont => exact q1
/-- name = [..]: the list is kept -/
theorem ls_setLc {i : Nat} {y : Str} {py : Pos} {elt tg iter : Expr} {ifs : List Expr} {scope : Scope} {spos : Pos} {mi : MI} {g : MG} {t : MT} {m : ME} (own : List (Str × Nat)) (hc : X.calm = true) (hN : X.N.Nodup) (hi : LI X tg iter mi) (ok : BlkOk X.N X.env.scope scope own)
    (hg : ∀ (s : Shared) (H : Hp) (C : Addr) (cl : List (Str × Addr)) (fp : List Addr), LG (X.blk s H scope (compEnvC scope cl C X.env) fp) tg (own.map (·.2)) g) (ht : ∀ (s : Shared) (H : Hp) (C : Addr) (cl : List (Str × Addr)) (fp : List Addr), LTs (X.blk s H scope (compEnvC scope cl C X.env) fp) ifs t)
    (he : ∀ (s : Shared) (H : Hp) (C : Addr) (cl : List (Str × Addr)) (fp : List Addr), LE (X.blk s H scope (compEnvC scope cl C X.env) fp) elt m)
    (hy : X.N[i]? = some y := by rfl) (hyl : X.env.scope.names.lookup y = some .local := by rfl)
    (hsw : swapsWith (.ListComp elt [⟨tg, iter, ifs, 0⟩] scope pos) (some (.Name y py)) spos.line X.env = pure true := by exact sw_true rfl rfl rfl (by decide +kernel)) (hs : ∀ x, foldedSetIterable iter X.env x = pure x := by intro _; rfl) :
    LS X (.Assign [.Name y py] (.ListComp elt [⟨tg, iter, ifs, 0⟩] scope pos) spos) (mAsg (mLc mi (own.map (·.2)) g t m) (gN i)) :=
  PS.weak (PS.kp (ps_setLc hc hN hy hyl hsw hi ok hg ht he hs)) fun D0 σ H ⟨τ, h, D', s, sh, q, l⟩ => lc_up s sh q fun zs h2 xs D H2 q2 h0 hD hd s2 r2 g2 => .inr ⟨D, _, hD, trivial, fun o => by
    have mm : Mono H2 (upd H2 D (.frz o (.lst xs))) := Mono.lst hD
    refine l.nx _ h2 _ _ q2 (g2.renew h0 mm) ((s.mono (g2.mono.trans mm)).set ?_) (s2.drop mm hd)
    simp only [Rel]
    exact ⟨D, xs, rfl, .inl ⟨o, upd_same⟩, r2.mono mm⟩⟩
end

/-! ### a def from its body -/
def sp0 : Nat → List PV → PSt
  | 0, _ => []
  | n + 1, [] => none :: sp0 n []
  | n + 1, p :: ps => some p :: sp0 n ps
theorem sp0_eq : ∀ (n : Nat) (ps : List PV), ps.length ≤ n → sp0 n ps = ps.map some ++ List.replicate (n - ps.length) none
  | 0, [], _ => rfl
  | 0, _ :: _, h => by simp at h
  | n + 1, [], _ => by
    have ih := sp0_eq n [] (Nat.zero_le _)
    simp only [sp0, ih, List.map_nil, List.nil_append, List.length_nil, Nat.sub_zero, List.replicate_succ]
  | n + 1, p :: ps, h => by
    have ih := sp0_eq n ps (by simpa using h)
    simp only [sp0, ih, List.map_cons, List.cons_append, List.length_cons, Nat.add_sub_add_right]
theorem simS_start {K : PySem.W.Frag} {H : Hp} {N : List Str} {vs : List V} {ps : List PV} (r : Rels K H ps vs) (hl : ps.length ≤ N.length) : SimS K H (L2.start N vs) (sp0 N.length ps) := by
  have e := r.length
  rw [sp0_eq _ _ hl]
  unfold L2.start
  refine ⟨by simp [e], fun i p hp => ?_⟩
  rw [gt_eq] at hp
  by_cases hi : i < ps.length
  · rw [List.getElem?_append_left (by simpa using hi)] at hp
    rw [List.getElem?_append_left (by simp; omega)]
    rw [List.getElem?_map, List.getElem?_eq_getElem hi] at hp
    simp at hp
    subst hp
    obtain ⟨v, e1, r1⟩ := r.get (List.getElem?_eq_getElem hi)
    exact ⟨v, by rw [List.getElem?_map, e1]; rfl, r1⟩
  · rw [List.getElem?_append_right (by simp; omega)] at hp
    rw [List.getElem?_replicate] at hp
    split at hp <;> simp at hp
def ends (Q : PK) : PEnds := ⟨fun _ h => Q .non h, Q, fun _ _ => False, fun _ _ => False⟩
section
variable {P : Program} {w : World} {K : PySem.W.Frag} {mg : Str → Option Value} {base : Heap}
/-- THE RULE: from what the body does (m) to what the def does (sp) -/
theorem fn_ok {x qual : Str} {st : Stmt} {f : Addr} {fd : FuncData} {N ps : List Str} {k : Nat} {sp : SpP} {m : MS} (F : Fun K x qual st f fd) (S : FnScope N ps (defScope st))
    (hb : ∀ (cdv : Value) (A : Around) (outer : List Env) (s : Shared) (H : Hp) (E : XK), Room k (A.deeper (envOfC qual (defScope st) s.heap.objs.size f cdv)) → A.guards = some [] →
      LSs (cxOf CX0 P w K mg base N qual (defScope st) f cdv A outer s H E).nox (defBody st) m)
    (hm : ∀ qs h Q, qs.length = ps.length → sp qs h Q → m (ends Q) (sp0 N.length qs) h) : FnG P w K mg base (k + 1) f fd ps sp := by
  obtain ⟨oc, od, kV, doc, pm, an, cdv, ct, osl, rfl, lk, hcd⟩ := F.ex
  have hN : ps.length ≤ N.length := by
    have e := congrArg List.length S.pre
    rw [List.length_take] at e; omega
  refine ⟨fun A outer s H args us vs Q hr hG e0 hbi r ⟨qs, h, Q', hl, rr, sh, q, l⟩ => ?_⟩
  have lv : vs.length = ps.length := by rw [← rr.length, hl]
  have KX : K.In s.heap := e0.mod.kin.keeps fun b o e => (e0.bs b o e).1
  have hkind : ∀ y ∈ ps.zip us, (defScope st).names.lookup y.1 = some .local ∨ ((defScope st).names.lookup y.1 = some .cell ∧ ((cellsFrom (s.heap.objs.size + 1) (defScope st).names []).lookup y.1).isSome = true) := fun ⟨n, v⟩ hy =>
    (S.par n (List.of_mem_zip hy).1).imp id fun z => ⟨z, PySem.W.cellsFrom_some _ _ _ (.inl z)⟩
  refine codeAny_call_function hr.depth (KX _ _ lk) rfl S.co S.gen rfl (PySem.W.codeRec_of KX hcd) (hbi _ _ _ _ (wpAny_newFunctionEnv_cells S.kind hkind fun env he s1 x => ?_))
  subst he
  refine ⟨(e0.mod.nolimit.keeps fun b o e => (e0.bs b o e).1).keeps x.toInCall.keep, codeAny_func ?_⟩
  have I : Inv (cxOf CX0 P w K mg base N qual (defScope st) f cdv A outer s H E0) [] (L2.start N vs) H s1 := inv_start S hr.hd e0 lv r x
  have hrun := (hb cdv A outer s H E0 (hr.deeper _) hG).nox.run [] s1 (L2.start N vs) H { nx := fun _ H' => Q .non H', rt := Q } I
    ⟨sp0 N.length qs, h, ends Q', simS_start rr (by omega), sh, hm qs h Q' hl q, fun τ h1 σ H1 q1 g1 s1 sh1 => l _ _ _ _ q1 g1 (by simp only [Rel]) sh1, l, fun _ _ _ _ z => z.elim, fun _ _ _ _ z => z.elim⟩
  refine wpAny_mono hrun (fun fl s' hs => ?_) fun e s' hs => hs
  have fin : ∀ {σ' : L2.St} {H' : Hp} {v : V} {u : Value}, Inv (cxOf CX0 P w K mg base N qual (defScope st) f cdv A outer s H E0) [] σ' H' s' → RelV v u → Q v H' → CE outer P w H s Q u s' :=
    fun {σ' H' v u} J rv z => ⟨v, H', J.os, J.bare, J.base, J.hok, rv, z⟩
  cases fl with
  | ret u => obtain ⟨v, σ', H', J, rv, z⟩ := hs; exact fin J rv z
  | next => obtain ⟨σ', H', J, z⟩ := hs; exact fin (v := V.non) (u := Value.none) J rfl z
  | brk => obtain ⟨_, _, _, z⟩ := hs; exact False.elim z
  | cont => obtain ⟨_, _, _, z⟩ := hs; exact False.elim z
end

/-! ### numbers -/
abbrev SZ : Nat := 16777216
theorem sz_eq : (sizeLine : Nat) = 16777216 := sizeLine_eq
theorem sz_le {n : Nat} (h : n ≤ SZ) : n ≤ sizeLine := by rw [sz_eq]; exact h
theorem sz_lt {n : Nat} (h : n < SZ) : n < sizeLine := by rw [sz_eq]; exact h
section
variable {K : PySem.W.Frag} {H : Hp} {h : PH} {v : V} {i : Int} {x : Str} {b : Bool} {a : Addr}
theorem rel_int : Rel K H (.int i) v ↔ v = .int i := by simp only [Rel]
theorem rel_str : Rel K H (.str x) v ↔ v = .str x := by simp only [Rel]
theorem rel_bl : Rel K H (.bl b) v ↔ v = .bl b := by simp only [Rel]
theorem rel_non : Rel K H .non v ↔ v = .non := by simp only [Rel]
theorem rel_ref : Rel K H (.ref a) v ↔ v = .ref a := by simp only [Rel]
theorem rel_tup {ps : List PV} : Rel K H (.tup ps) v ↔ ∃ a xs, v = .ref a ∧ SqT K H a xs ∧ Rels K H ps xs := by simp only [Rel]
theorem rel_lst {ps : List PV} : Rel K H (.lst ps) v ↔ ∃ a xs, v = .ref a ∧ FrL K H a xs ∧ Rels K H ps xs := by simp only [Rel]
theorem rel_dct {ks : List Key} {vs : List PV} : Rel K H (.dct ks vs) v ↔ ∃ a kvs, v = .ref a ∧ FrD H a kvs ∧ ks = kvs.map (·.1) ∧ Rels K H vs (kvs.map (·.2)) := by simp only [Rel]
end
/-- the items of a list, kept or not -/
def seqL (h : PH) : PV → Option (List PV)
  | .lst xs => some xs
  | .ref a => match h a with | some (.lst xs) => some xs | _ => none
  | _ => none
theorem seqL_sq {K : PySem.W.Frag} {H : Hp} {h : PH} {p : PV} {v : V} {ps : List PV} (r : Rel K H p v) (s : Sim K H h) (e : seqL h p = some ps) : ∃ a xs, v = .ref a ∧ SqL K H a xs ∧ Rels K H ps xs := by
  cases p with
  | lst qs =>
    simp only [seqL, Option.some.injEq] at e
    subst e
    obtain ⟨a, xs, e1, f, rr⟩ := rel_lst.mp r
    exact ⟨a, xs, e1, f.sq, rr⟩
  | ref a =>
    have ev := rel_ref.mp r
    simp only [seqL] at e
    cases q : h a with
    | none => rw [q] at e; cases e
    | some o =>
      rw [q] at e
      cases o with
      | lst qs =>
        simp only [Option.some.injEq] at e
        subst e
        obtain ⟨u, e2, xs, rfl, rr⟩ := s a _ q
        exact ⟨a, xs, ev, .of e2, rr⟩
      | dct _ _ => cases e
      | ins _ _ _ => cases e
      | lck _ _ => cases e
      | xd _ _ => cases e
      | tab _ => cases e
      | dn _ _ _ _ => cases e
  | _ => simp [seqL] at e
/-- list + list, whatever lists -/
def rCatL (K : PySem.W.Frag) : R2 := fun x y H Q => ∃ l b xs zs, x = .ref l ∧ y = .ref b ∧ SqL K H l xs ∧ SqL K H b zs ∧ xs.length + zs.length ≤ sizeLine ∧ ∀ p, H p = none → Q (.ref p) (upd H p (.lst (xs ++ zs)))
theorem op_catL {X : Cx} : OpR X (binaryOp .Add) (rCatL X.K) := by
  intro pins s σ H x y v u Q I rx ry h
  obtain ⟨l, b, xs, zs, rfl, rfl, hH, hB, hz, q⟩ := h
  cases rx
  cases ry
  obtain ⟨its, r, ⟨⟨cls, dd, data, sl⟩, n, ho, hc, hd0, hd⟩, _⟩ := I.list hH
  obtain ⟨its2, r2, ⟨⟨cls2, dd2, data2, sl2⟩, n2, ho2, hc2, hd02, hd2⟩, _⟩ := I.list hB
  simp only at hc hd hc2 hd2
  subst hc hd hc2 hd2
  have e : its.toArray ++ its2.toArray = (its ++ its2).toArray := by simp
  have hl := r.length
  have hl2 := r2.length
  refine concat_meets ⟨_, ho, rfl⟩ ⟨_, ho2, rfl⟩ noFill_list_add seq_list_add PySem.F.slot_list_add PySem.F.entry_list_add (PySem.F.args_list_add_2 _ _) (list_addW l b its.toArray its2.toArray n n2 dd dd2 sl sl2 (by simp; omega)) ⟨ho, ho2, ?_⟩
  rw [e]
  exact ⟨.ref _, _, I.lnew (t' := s.toks) (r.append r2) (by rw [List.length_append]; omega), rfl, q _ I.fresh⟩
end N3

namespace N3
open PySem PySem.Spec PyProof.Rows L2

/-! ### texts as lists of signs -/
def cl (x : Str) : List Nat := x.cps.toList
def S (l : List Nat) : Str := ⟨l.toArray⟩
theorem S_cl (x : Str) : S (cl x) = x := by cases x; rfl
theorem cl_S (l : List Nat) : cl (S l) = l := rfl
theorem cl_inj {x y : Str} (h : cl x = cl y) : x = y := by rw [← S_cl x, ← S_cl y, h]
theorem cl_length (x : Str) : x.length = (cl x).length := by show x.cps.size = _; simp [cl]
theorem cl_append (x y : Str) : cl (x ++ y) = cl x ++ cl y := by show (x.cps ++ y.cps).toList = _; simp [cl]
theorem S_length (l : List Nat) : (S l).length = l.length := by rw [cl_length, cl_S]
theorem S_append (l m : List Nat) : S l ++ S m = S (l ++ m) := cl_inj (by rw [cl_append, cl_S, cl_S, cl_S])

/-! ### + - * // % ** -/
def rAdd : PR2 := fun p q h Q => match p, q with
  | .int i, .int j => Q (.int (i + j)) h
  | .str x, .str y => x.length + y.length ≤ SZ ∧ Q (.str (x ++ y)) h
  | .tup xs, .tup ys => xs.length + ys.length ≤ SZ ∧ Q (.tup (xs ++ ys)) h
  | p, q => match seqL h p, seqL h q with
    | some xs, some ys => xs.length + ys.length ≤ SZ ∧ Q (.lst (xs ++ ys)) h
    | _, _ => False
def oAdd (K : PySem.W.Frag) : R2 := fun x y H Q => (((∃ i j, x = .int i ∧ y = .int j ∧ Q (.int (i + j)) H) ∨ (∃ i j, x = .str i ∧ y = .str j ∧ i.length + j.length ≤ sizeLine ∧ Q (.str (i ++ j)) H)) ∨ rCatA K x y H Q) ∨ rCatL K x y H Q
theorem op_addA {X : Cx} : OpR X (binaryOp .Add) (oAdd X.K) := ((op_add.or op_add_str).or op_catA).or op_catL
theorem kf_add {K : PySem.W.Frag} : Kf2 K (oAdd K) rAdd := by
  intro x y H p q h Q' Q rp rq s r l
  have lists : ∀ {xs ys : List PV}, seqL h p = some xs → seqL h q = some ys → xs.length + ys.length ≤ SZ → Q' (.lst (xs ++ ys)) h → oAdd K x y H (kQ Q) := fun {xs ys} e1 e2 hz z => by
    obtain ⟨a, us, ea, ha, ra⟩ := seqL_sq rp s e1
    obtain ⟨b, ws, eb, hb, rb⟩ := seqL_sq rq s e2
    refine .inr ⟨a, b, us, ws, ea, eb, ha, hb, ?_, fun c hc => keep_l l s (ra.append rb) z hc⟩
    rw [← ra.length, ← rb.length]; exact sz_le hz
  unfold rAdd at r
  split at r
  · have e1 := rel_int.mp rp
    have e2 := rel_int.mp rq
    exact .inl (.inl (.inl ⟨_, _, e1, e2, .inl (l _ _ _ _ r .refl (rel_int.mpr rfl) s)⟩))
  · have e1 := rel_str.mp rp
    have e2 := rel_str.mp rq
    exact .inl (.inl (.inr ⟨_, _, e1, e2, sz_le r.1, .inl (l _ _ _ _ r.2 .refl (rel_str.mpr rfl) s)⟩))
  · rename_i ps qs
    obtain ⟨a, xs, e1, h1, r1⟩ := rel_tup.mp rp
    obtain ⟨b, ys, e2, h2, r2⟩ := rel_tup.mp rq
    obtain ⟨hz, r⟩ := r
    refine .inl (.inr ⟨a, b, xs, ys, e1, e2, h1, h2, by rw [← r1.length, ← r2.length]; exact sz_le hz, fun e => .inl ?_, fun e e' => .inl ?_, fun e e' c hc => .inl (make_t l s (r1.append r2) r hc)⟩)
    · subst e
      have e0 := r1.length
      have e3 : ps = [] := List.length_eq_zero_iff.mp (by rw [e0]; rfl)
      rw [e3, List.nil_append] at r
      exact l _ _ _ _ r .refl (rel_tup.mpr ⟨b, ys, rfl, h2, r2⟩) s
    · subst e'
      have e0 := r2.length
      have e3 : qs = [] := List.length_eq_zero_iff.mp (by rw [e0]; rfl)
      rw [e3, List.append_nil] at r
      exact l _ _ _ _ r .refl (rel_tup.mpr ⟨a, xs, rfl, h1, r1⟩) s
  · split at r
    · rename_i e1 e2
      exact lists e1 e2 r.1 r.2
    · exact r.elim
/-- two ints -/
def rII (C : Int → Int → Prop) (g : Int → Int → Int) : PR2 := fun p q h Q => match p, q with
  | .int i, .int j => C i j ∧ Q (.int (g i j)) h
  | _, _ => False
def rII0 (g : Int → Int → Int) : PR2 := fun p q h Q => match p, q with
  | .int i, .int j => Q (.int (g i j)) h
  | _, _ => False
def rIB (g : Int → Int → Bool) : PR2 := fun p q h Q => match p, q with
  | .int i, .int j => Q (.bl (g i j)) h
  | _, _ => False
theorem kf_ii {K : PySem.W.Frag} {C : Int → Int → Prop} {g : Int → Int → Int} : Kf2 K (rI C fun i j => .int (g i j)) (rII C g) := by
  intro x y H p q h Q' Q rp rq s r l
  unfold rII at r
  split at r
  · exact ⟨_, _, rel_int.mp rp, rel_int.mp rq, r.1, .inl (l _ _ _ _ r.2 .refl (rel_int.mpr rfl) s)⟩
  · exact r.elim
theorem kf_ii0 {K : PySem.W.Frag} {g : Int → Int → Int} : Kf2 K (rI0 fun i j => .int (g i j)) (rII0 g) := by
  intro x y H p q h Q' Q rp rq s r l
  unfold rII0 at r
  split at r
  · exact ⟨_, _, rel_int.mp rp, rel_int.mp rq, .inl (l _ _ _ _ r .refl (rel_int.mpr rfl) s)⟩
  · exact r.elim
theorem lf_ib {K : PySem.W.Frag} {g : Int → Int → Bool} : Lf2 K (rI0 fun i j => .bl (g i j)) (rIB g) := by
  intro x y H p q h Q' Q rp rq s r l
  unfold rIB at r
  split at r
  · exact ⟨_, _, rel_int.mp rp, rel_int.mp rq, l _ _ _ _ r .refl (rel_bl.mpr rfl) s⟩
  · exact r.elim
abbrev rSub : PR2 := rII0 fun i j => i - j
/-- a divisor from 1 to 2^30 - 1 -/
abbrev rDiv : PR2 := rII CDiv fun i j => i / j
abbrev rMod : PR2 := rII (fun _ j => 0 < j) fun i j => i % j
abbrev rPow : PR2 := rII CPow fun i j => i ^ j.toNat
/-- * of ints, of a text and an int -/
def rMul : PR2 := fun p q h Q => match p, q with
  | .int i, .int j => CMul i j ∧ Q (.int (i * j)) h
  | .str x, .int n => n < 16777216 ∧ x.length * n.toNat ≤ SZ ∧ -16777216 ≤ n ∧ Q (.str (S (List.replicate n.toNat (cl x)).flatten)) h
  | .tup xs, .int n => 0 ≤ n ∧ n ≤ 1 ∧ Q (.tup (if n = 1 then xs else [])) h
  | _, _ => False
theorem mul_text (x : Str) (n : Int) : Txt.mul x n = S (List.replicate n.toNat (cl x)).flatten := by
  have key : ∀ (m : Nat) (acc : Array Nat), (List.replicate m x.cps).foldl (· ++ ·) acc = (acc.toList ++ (List.replicate m (cl x)).flatten).toArray := by
    intro m
    induction m with
    | zero => intro acc; simp
    | succ m ih => intro acc; rw [List.replicate_succ, List.foldl_cons, ih, List.replicate_succ, List.flatten_cons]; simp [cl]
  unfold Txt.mul
  by_cases h1 : n < 1
  · rw [if_pos h1, show n.toNat = 0 by omega]; rfl
  · rw [if_neg h1]
    by_cases h2 : (n == 1 || x.length == 0) = true
    · rw [if_pos h2]
      rcases (Bool.or_eq_true _ _).mp h2 with h | h
      · have e : n = 1 := by simpa using h
        subst e
        refine cl_inj ?_
        show cl x = (List.replicate 1 (cl x)).flatten
        simp
      · have e : cl x = [] := by
          have z : x.length = 0 := by simpa using h
          rw [cl_length] at z
          exact List.length_eq_zero_iff.mp z
        refine cl_inj ?_
        show cl x = (List.replicate n.toNat (cl x)).flatten
        rw [e]; simp
    · rw [if_neg h2, key]
      refine cl_inj ?_
      show _ = (List.replicate n.toNat (cl x)).flatten
      simp [cl]
def rMulS : R2 := fun x y H Q => ∃ a n, x = .str a ∧ y = .int n ∧ n < 16777216 ∧ a.length * n.toNat ≤ sizeLine ∧ -16777216 ≤ n ∧ Q (.str (S (List.replicate n.toNat (cl a)).flatten)) H
theorem op_mulS {X : Cx} : OpR X (binaryOp .Mult) rMulS := by
  intro pins s σ H x y v u Q I rx ry h
  obtain ⟨a, n, rfl, rfl, h1, h2, h3, q⟩ := h
  obtain ⟨t, rfl⟩ := rx
  obtain ⟨t', rfl⟩ := ry
  refine SB.mul ⟨?_, fun g1 g2 g3 => ?_, fun g1 g2 => ?_⟩ fun tt k => ?_
  · simp; omega
  · have hn : 1 ≤ n := by omega
    have hs := sz_eq
    have ha : a.length * n.toNat ≤ 16777216 := by rw [← hs]; exact h2
    have hb : a.length ≤ 16777216 := Nat.le_trans (Nat.le_mul_of_pos_right _ (by omega)) ha
    have g4 : (a.length : Int) * n ≤ 16777216 := by
      have e : ((a.length * n.toNat : Nat) : Int) = (a.length : Int) * n := by rw [Int.natCast_mul, Int.toNat_of_nonneg (by omega)]
      rw [← e]; omega
    have g5 : (a.length : Int) ≤ (2 ^ 63 - 1) / n := by
      refine (Int.le_ediv_iff_mul_le (by omega)).mpr ?_
      omega
    omega
  · unfold Builtin.Str.tooLong
    first
      | (have hs := sz_eq; simp; omega)
      | (simp [Builtin.Str.tooLong]; omega)
  · rw [mul_text]
    exact ⟨.str _, H, I.tok _, ⟨_, rfl⟩, q⟩
end N3

namespace N3
open PySem PySem.Spec PyProof.Rows L2

/-! ### == and != -/
/-- what is seen of a value: a list that may change is seen as it stands -/
def vw (h : PH) : PV → PV
  | .ref a => match h a with | some (.lst xs) => .lst xs | some (.dct ks vs) => .dct ks vs | _ => .ref a
  | p => p
def keyD : Key → PyData
  | .inl i => .int i
  | .inr x => .str x
mutual
def toD : PV → PyData
  | .bl b => .bool b
  | .int i => .int i
  | .str x => .str x
  | .tup ps => .tuple (toDs ps)
  | .lst ps => .list (toDs ps)
  | .dct ks vs => .dict ((ks.map keyD).zip (toDs vs))
  | _ => .none
def toDs : List PV → List PyData
  | [] => []
  | p :: ps => toD p :: toDs ps
end
mutual
/-- data without dicts and objects -/
def flat : PV → Bool
  | .non => true
  | .bl _ => true
  | .int _ => true
  | .str _ => true
  | .tup ps => flats ps
  | .lst ps => flats ps
  | _ => false
def flats : List PV → Bool
  | [] => true
  | p :: ps => flat p && flats ps
end
section
variable {K : PySem.W.Frag} {H : Hp}
mutual
theorem Rel.dp : ∀ (p : PV) (v : V), flat p = true → Rel K H p v → Dp K H v (toD p)
  | .non, v, _, r => by rw [rel_non.mp r]; exact .non
  | .bl b, v, _, r => by rw [rel_bl.mp r]; exact .bl b
  | .int i, v, _, r => by rw [rel_int.mp r]; exact .int i
  | .str x, v, _, r => by rw [rel_str.mp r]; exact .str x
  | .tup ps, v, f, r => by
    obtain ⟨a, xs, rfl, h, rr⟩ := rel_tup.mp r
    simp only [flat] at f
    simp only [toD]
    exact .tup h (Rels.dp ps xs f rr)
  | .lst ps, v, f, r => by
    obtain ⟨a, xs, rfl, h, rr⟩ := rel_lst.mp r
    simp only [flat] at f
    simp only [toD]
    exact .lst h.sq (Rels.dp ps xs f rr)
  | .dct _ _, _, f, _ => by simp [flat] at f
  | .ref _, _, f, _ => by simp [flat] at f
  | .ty _, _, f, _ => by simp [flat] at f
theorem Rels.dp : ∀ (ps : List PV) (xs : List V), flats ps = true → Rels K H ps xs → DpAll K H xs (toDs ps)
  | [], _, _, r => by rw [r.len0]; simp only [toDs]; exact .nil
  | p :: ps, _, f, r => by
    obtain ⟨v, vs, rfl, r1, r2⟩ := r.uncons
    simp only [flats, Bool.and_eq_true] at f
    simp only [toDs]
    exact .cons (Rel.dp p v f.1 r1) (Rels.dp ps vs f.2 r2)
end
/-- a list, kept or not, as data -/
theorem vw_dp {h : PH} {p : PV} {v : V} (f : flat (vw h p) = true) (r : Rel K H p v) (s : Sim K H h) : Dp K H v (toD (vw h p)) := by
  cases p with
  | ref a =>
    have ev := rel_ref.mp r
    subst ev
    simp only [vw] at f ⊢
    cases e : h a with
    | none => rw [e] at f; simp [flat] at f
    | some o =>
      simp only [e] at f ⊢
      cases o with
      | lst xs =>
        obtain ⟨u, e1, ys, rfl, rr⟩ := s a _ e
        simp only [flat] at f
        simp only [toD]
        exact .lst (SqL.of e1) (Rels.dp xs ys f rr)
      | dct _ _ => simp [flat] at f
      | ins _ _ _ => simp [flat] at f
      | lck _ _ => simp [flat] at f
      | xd _ _ => simp [flat] at f
      | tab _ => simp [flat] at f
      | dn _ _ _ _ => simp [flat] at f
  | _ => exact Rel.dp _ _ f r
end
mutual
theorem noDict : ∀ p : PV, flat p = true → (toD p).hasDict = false
  | .non, _ => by simp only [toD, PyData.hasDict]
  | .bl _, _ => by simp only [toD, PyData.hasDict]
  | .int _, _ => by simp only [toD, PyData.hasDict]
  | .str _, _ => by simp only [toD, PyData.hasDict]
  | .tup ps, f => by simp only [toD, PyData.hasDict]; exact noDicts ps (by simpa only [flat] using f)
  | .lst ps, f => by simp only [toD, PyData.hasDict]; exact noDicts ps (by simpa only [flat] using f)
  | .dct _ _, f => by simp [flat] at f
  | .ref _, f => by simp [flat] at f
  | .ty _, f => by simp [flat] at f
theorem noDicts : ∀ ps : List PV, flats ps = true → PyData.hasDictAll (toDs ps) = false
  | [], _ => by simp only [toDs, PyData.hasDictAll]
  | p :: ps, f => by
    simp only [flats, Bool.and_eq_true] at f
    simp only [toDs, PyData.hasDictAll, noDict p f.1, noDicts ps f.2, Bool.or_false]
end
mutual
theorem one_reading {h : Heap} : ∀ (d e : PyData) (v : Value) (as bs : List Addr), d.hasDict = false → e.hasDict = false → Reads h v d as → Reads h v e bs → d = e
  | .none, _, _, _, _, _, _, r, q => by cases r; cases q; rfl
  | .bool _, _, _, _, _, _, _, r, q => by cases r; cases q; rfl
  | .int _, _, _, _, _, _, _, r, q => by cases r; cases q; rfl
  | .str _, _, _, _, _, _, _, r, q => by cases r; cases q; rfl
  | .list xs, _, _, _, _, hd, he, r, q => by
    cases r with
    | list h1 h2 h3 h4 =>
      cases q with
      | list k1 k2 k3 k4 =>
        rw [h1] at k1; cases k1
        rw [h3] at k3; cases k3
        rw [one_readings xs _ _ _ _ (by simpa only [PyData.hasDict] using hd) (by simpa only [PyData.hasDict] using he) h4 k4]
      | tuple k1 k2 k3 k4 => rw [h1] at k1; cases k1; rw [h2] at k2; exact absurd (Value.type.inj k2) (by decide)
      | dict k1 k2 k3 k4 k5 => rw [h1] at k1; cases k1; rw [h2] at k2; exact absurd (Value.type.inj k2) (by decide)
  | .tuple xs, _, _, _, _, hd, he, r, q => by
    cases r with
    | tuple h1 h2 h3 h4 =>
      cases q with
      | tuple k1 k2 k3 k4 =>
        rw [h1] at k1; cases k1
        rw [h3] at k3; cases k3
        rw [one_readings xs _ _ _ _ (by simpa only [PyData.hasDict] using hd) (by simpa only [PyData.hasDict] using he) h4 k4]
      | list k1 k2 k3 k4 => rw [h1] at k1; cases k1; rw [h2] at k2; exact absurd (Value.type.inj k2) (by decide)
      | dict k1 k2 k3 k4 k5 => rw [h1] at k1; cases k1; rw [h2] at k2; exact absurd (Value.type.inj k2) (by decide)
  | .dict _, _, _, _, _, hd, _, _, _ => by simp [PyData.hasDict] at hd
theorem one_readings {h : Heap} : ∀ (ds es : List PyData) (vs : List Value) (as bs : List Addr), PyData.hasDictAll ds = false → PyData.hasDictAll es = false → ReadsAll h vs ds as → ReadsAll h vs es bs → ds = es
  | [], _, _, _, _, _, _, r, q => by cases r; cases q; rfl
  | d :: ds, _, _, _, _, hd, he, r, q => by
    cases r with
    | cons r1 r2 =>
      cases q with
      | cons q1 q2 =>
        simp only [PyData.hasDictAll, Bool.or_eq_false_iff] at hd he
        rw [one_reading d _ _ _ _ hd.1 he.1 r1 q1, one_readings ds _ _ _ _ hd.2 he.2 r2 q2]
end
mutual
theorem eqv_self : ∀ d : PyData, d.hasDict = false → PyData.eqv d d = true
  | .none, _ => rfl
  | .bool b, _ => by simp [PyData.eqv]
  | .int i, _ => by simp [PyData.eqv]
  | .str x, _ => by simp [PyData.eqv]
  | .list xs, h => by rw [PyData.eqv]; exact eqvs_self xs (by simpa only [PyData.hasDict] using h)
  | .tuple xs, h => by rw [PyData.eqv]; exact eqvs_self xs (by simpa only [PyData.hasDict] using h)
  | .dict _, h => by simp [PyData.hasDict] at h
theorem eqvs_self : ∀ xs : List PyData, PyData.hasDictAll xs = false → PyData.eqvAll xs xs = true
  | [], _ => rfl
  | x :: xs, h => by
    simp only [PyData.hasDictAll, Bool.or_eq_false_iff] at h
    rw [PyData.eqvAll, eqv_self x h.1, eqvs_self xs h.2]; rfl
end
section
open SeqAt
mutual
theorem eqR : ∀ (d e : PyData) (A : Around) (s : Shared) (v u : Value) (as bs : List Addr), A.units + d.depth < cLine → Reads s.heap v d as → d.hasDict = false → Reads s.heap u e bs → e.hasDict = false → EqAt A s v u (PyData.eqv d e)
  | .none, _, A, s, _, _, _, _, hu, ra, _, rb, hb => by
    cases ra
    cases rb with
    | list k1 k2 k3 k4 => exact EqAt.none_list ⟨_, k1, k2, _, k3⟩ (by omega)
    | tuple k1 k2 k3 k4 => exact EqAt.none_tuple ⟨_, k1, k2, _, k3⟩ (by omega)
    | dict k1 k2 k3 k4 k5 => simp [PyData.hasDict] at hb
    | none => exact EqAt.same Value.none
    | bool y => exact EqAt.none_bool y
    | int y w => exact EqAt.none_int y w
    | str y w => exact EqAt.none_str y w
  | .bool x, _, A, s, _, _, _, _, hu, ra, _, rb, hb => by
    cases ra
    cases rb with
    | list k1 k2 k3 k4 => exact EqAt.bool_list x ⟨_, k1, k2, _, k3⟩ (by omega)
    | tuple k1 k2 k3 k4 => exact EqAt.bool_tuple x ⟨_, k1, k2, _, k3⟩ (by omega)
    | dict k1 k2 k3 k4 k5 => simp [PyData.hasDict] at hb
    | none => exact EqAt.bool_none x
    | bool y => exact EqAt.bool_bool x y
    | int y w => exact EqAt.bool_int x y w
    | str y w => exact EqAt.bool_str x y w
  | .int x, _, A, s, _, _, _, _, hu, ra, _, rb, hb => by
    cases ra
    cases rb with
    | list k1 k2 k3 k4 => exact EqAt.int_list x _ ⟨_, k1, k2, _, k3⟩ (by omega)
    | tuple k1 k2 k3 k4 => exact EqAt.int_tuple x _ ⟨_, k1, k2, _, k3⟩ (by omega)
    | dict k1 k2 k3 k4 k5 => simp [PyData.hasDict] at hb
    | none => exact EqAt.int_none x _
    | bool y => exact EqAt.int_bool x _ y
    | int y w => exact EqAt.int_int x _ y w
    | str y w => exact EqAt.int_str x _ y w
  | .str x, _, A, s, _, _, _, _, hu, ra, _, rb, hb => by
    cases ra
    cases rb with
    | list k1 k2 k3 k4 => exact EqAt.str_list x _ ⟨_, k1, k2, _, k3⟩ (by omega)
    | tuple k1 k2 k3 k4 => exact EqAt.str_tuple x _ ⟨_, k1, k2, _, k3⟩ (by omega)
    | dict k1 k2 k3 k4 k5 => simp [PyData.hasDict] at hb
    | none => exact EqAt.str_none x _
    | bool y => exact EqAt.str_bool x _ y
    | int y w => exact EqAt.str_int x _ y w
    | str y w => exact EqAt.str_str x _ y w
  | .list xs, _, A, s, _, _, _, _, hu, ra, ha, rb, hb => by
    cases ra with
    | @list l o vs n _ a1 h1 h2 h3 h4 =>
      have hl : s.heap.IsList l vs := ⟨_, h1, h2, _, h3⟩
      simp only [PyData.depth] at hu
      simp only [PyData.hasDict] at ha
      cases rb with
      | @list l' o' vs' n' ys b1 k1 k2 k3 k4 =>
        have hl' : s.heap.IsList l' vs' := ⟨_, k1, k2, _, k3⟩
        simp only [PyData.hasDict] at hb
        have n1 : vs.size = xs.length := by simpa using ReadsAll.length _ _ _ h4
        have n2 : vs'.size = ys.length := by simpa using ReadsAll.length _ _ _ k4
        show EqAt A s (.ref l) (.ref l') (PyData.eqvAll xs ys)
        by_cases hll : l = l'
        · subst hll
          rw [h1] at k1; cases k1
          rw [h3] at k3; cases k3
          rw [← one_readings xs ys _ _ _ ha hb h4 k4, eqvs_self xs ha]
          exact EqAt.same _
        · by_cases hsz : vs.size = vs'.size
          · rw [← eqvAll_same_length (by omega : xs.length = ys.length), ← n1]
            refine EqAt.of_refs hll (RcAt.lists hl hl' hsz (by omega) fun j j1 j2 => ?_)
            have := eqRs xs ys A.in1 s vs.toList vs'.toList _ _ (by show A.units + 1 + _ < _; omega) h4 ha k4 hb j (by simpa using j1) (by simpa using j2)
            simpa using this
          · rw [eqvAll_other_length (by omega : xs.length ≠ ys.length)]
            exact EqAt.of_refs hll (RcAt.lists_lengths hl hl' (by simpa using hsz) (by omega))
      | tuple k1 k2 k3 k4 => exact EqAt.list_tuple hl ⟨_, k1, k2, _, k3⟩ (by omega)
      | dict k1 k2 k3 k4 k5 => simp [PyData.hasDict] at hb
      | none => exact EqAt.list_none hl (by omega)
      | bool y => exact EqAt.list_bool y hl (by omega)
      | int y w => exact EqAt.list_int y w hl (by omega)
      | str y w => exact EqAt.list_str y w hl (by omega)
  | .tuple xs, _, A, s, _, _, _, _, hu, ra, ha, rb, hb => by
    cases ra with
    | @tuple l o vs n _ a1 h1 h2 h3 h4 =>
      have hl : s.heap.IsTuple l vs := ⟨_, h1, h2, _, h3⟩
      simp only [PyData.depth] at hu
      simp only [PyData.hasDict] at ha
      cases rb with
      | @tuple l' o' vs' n' ys b1 k1 k2 k3 k4 =>
        have hl' : s.heap.IsTuple l' vs' := ⟨_, k1, k2, _, k3⟩
        simp only [PyData.hasDict] at hb
        have n1 : vs.size = xs.length := by simpa using ReadsAll.length _ _ _ h4
        have n2 : vs'.size = ys.length := by simpa using ReadsAll.length _ _ _ k4
        show EqAt A s (.ref l) (.ref l') (PyData.eqvAll xs ys)
        by_cases hll : l = l'
        · subst hll
          rw [h1] at k1; cases k1
          rw [h3] at k3; cases k3
          rw [← one_readings xs ys _ _ _ ha hb h4 k4, eqvs_self xs ha]
          exact EqAt.same _
        · rw [← eqvAll_eq xs ys, ← n1, ← n2]
          refine EqAt.of_refs hll (RcAt.tuples hl hl' (by omega) fun j j1 j2 => ?_)
          have := eqRs xs ys A.in1 s vs.toList vs'.toList _ _ (by show A.units + 1 + _ < _; omega) h4 ha k4 hb j (by simpa using j1) (by simpa using j2)
          simpa using this
      | list k1 k2 k3 k4 => exact EqAt.tuple_list hl ⟨_, k1, k2, _, k3⟩ (by omega)
      | dict k1 k2 k3 k4 k5 => simp [PyData.hasDict] at hb
      | none => exact EqAt.tuple_none hl (by omega)
      | bool y => exact EqAt.tuple_bool y hl (by omega)
      | int y w => exact EqAt.tuple_int y w hl (by omega)
      | str y w => exact EqAt.tuple_str y w hl (by omega)
  | .dict _, _, _, _, _, _, _, _, _, _, ha, _, _ => by simp [PyData.hasDict] at ha
theorem eqRs : ∀ (xs ys : List PyData) (A : Around) (s : Shared) (vs ws : List Value) (as bs : List Addr), A.units + PyData.depthAll xs < cLine → ReadsAll s.heap vs xs as → PyData.hasDictAll xs = false → ReadsAll s.heap ws ys bs → PyData.hasDictAll ys = false →
    ∀ j (h1 : j < vs.length) (h2 : j < ws.length), EqAt A s vs[j] ws[j] (pairEq xs ys j)
  | [], _, _, _, _, _, _, _, _, ra, _, _, _, j, h1, _ => by cases ra; exact absurd h1 (Nat.not_lt_zero _)
  | _ :: _, [], _, _, _, _, _, _, _, _, _, rb, _, j, _, h2 => by cases rb; exact absurd h2 (Nat.not_lt_zero _)
  | x :: xs, y :: ys, A, s, _, _, _, _, hu, ra, ha, rb, hb, j, h1, h2 => by
    simp only [PyData.hasDictAll, Bool.or_eq_false_iff] at ha hb
    simp only [PyData.depthAll] at hu
    have u1 : A.units + x.depth < cLine := Nat.lt_of_le_of_lt (Nat.add_le_add_left (Nat.le_max_left _ _) _) hu
    have u2 : A.units + PyData.depthAll xs < cLine := Nat.lt_of_le_of_lt (Nat.add_le_add_left (Nat.le_max_right _ _) _) hu
    cases ra with
    | cons r rs =>
      cases rb with
      | cons r' rs' =>
        cases j with
        | zero => exact eqR x y A s _ _ _ _ u1 r ha.1 r' hb.1
        | succ j => exact eqRs xs ys A s _ _ _ _ u2 rs ha.2 rs' hb.2 j (by simpa using h1) (by simpa using h2)
end
end
section
open SeqAt
theorem rcR (d e : PyData) (A : Around) (s : Shared) (v u : Value) (as bs : List Addr) (hu : A.units + d.depth < cLine) (ra : Reads s.heap v d as) (ha : d.hasDict = false) (rb : Reads s.heap u e bs) (hb : e.hasDict = false) : RcAt A s v u (PyData.eqv d e) := by
  cases ra with
  | none =>
    cases rb with
    | none => exact RcAt.none_none
    | bool y => exact RcAt.none_bool y
    | int y w => exact RcAt.none_int y w
    | str y w => exact RcAt.none_str y w
    | list k1 k2 k3 k4 => exact RcAt.none_list ⟨_, k1, k2, _, k3⟩ (by omega)
    | tuple k1 k2 k3 k4 => exact RcAt.none_tuple ⟨_, k1, k2, _, k3⟩ (by omega)
    | dict k1 k2 k3 k4 k5 => simp [PyData.hasDict] at hb
  | bool x =>
    cases rb with
    | none => exact RcAt.bool_none x
    | bool y => exact RcAt.bool_bool x y
    | int y w => exact RcAt.bool_int x y w
    | str y w => exact RcAt.bool_str x y w
    | list k1 k2 k3 k4 => exact RcAt.bool_list x ⟨_, k1, k2, _, k3⟩ (by omega)
    | tuple k1 k2 k3 k4 => exact RcAt.bool_tuple x ⟨_, k1, k2, _, k3⟩ (by omega)
    | dict k1 k2 k3 k4 k5 => simp [PyData.hasDict] at hb
  | int x t =>
    cases rb with
    | none => exact RcAt.int_none x t
    | bool y => exact RcAt.int_bool x t y
    | int y w => exact RcAt.int_int x t y w
    | str y w => exact RcAt.int_str x t y w
    | list k1 k2 k3 k4 => exact RcAt.int_list x t ⟨_, k1, k2, _, k3⟩ (by omega)
    | tuple k1 k2 k3 k4 => exact RcAt.int_tuple x t ⟨_, k1, k2, _, k3⟩ (by omega)
    | dict k1 k2 k3 k4 k5 => simp [PyData.hasDict] at hb
  | str x t =>
    cases rb with
    | none => exact RcAt.str_none x t
    | bool y => exact RcAt.str_bool x t y
    | int y w => exact RcAt.str_int x t y w
    | str y w => exact RcAt.str_str x t y w
    | list k1 k2 k3 k4 => exact RcAt.str_list x t ⟨_, k1, k2, _, k3⟩ (by omega)
    | tuple k1 k2 k3 k4 => exact RcAt.str_tuple x t ⟨_, k1, k2, _, k3⟩ (by omega)
    | dict k1 k2 k3 k4 k5 => simp [PyData.hasDict] at hb
  | @list l o vs n xs a1 h1 h2 h3 h4 =>
    have hl : s.heap.IsList l vs := ⟨_, h1, h2, _, h3⟩
    simp only [PyData.depth] at hu
    simp only [PyData.hasDict] at ha
    cases rb with
    | none => exact RcAt.list_none hl (by omega)
    | bool y => exact RcAt.list_bool y hl (by omega)
    | int y w => exact RcAt.list_int y w hl (by omega)
    | str y w => exact RcAt.list_str y w hl (by omega)
    | tuple k1 k2 k3 k4 => exact RcAt.list_tuple hl ⟨_, k1, k2, _, k3⟩ (by omega)
    | dict k1 k2 k3 k4 k5 => simp [PyData.hasDict] at hb
    | @list l' o' vs' n' ys b1 k1 k2 k3 k4 =>
      have hl' : s.heap.IsList l' vs' := ⟨_, k1, k2, _, k3⟩
      simp only [PyData.hasDict] at hb
      have n1 : vs.size = xs.length := by simpa using ReadsAll.length _ _ _ h4
      have n2 : vs'.size = ys.length := by simpa using ReadsAll.length _ _ _ k4
      have he : ∀ j (j1 : j < vs.size) (j2 : j < vs'.size), EqAt A.in1 s vs[j] vs'[j] (pairEq xs ys j) := fun j j1 j2 => by
        have z := eqRs xs ys A.in1 s vs.toList vs'.toList _ _ (by show A.units + 1 + _ < _; omega) h4 ha k4 hb j (by simpa using j1) (by simpa using j2)
        simpa using z
      show RcAt A s (.ref l) (.ref l') (PyData.eqvAll xs ys)
      by_cases hsz : vs.size = vs'.size
      · rw [← eqvAll_same_length (by omega : xs.length = ys.length), ← n1]
        exact RcAt.lists hl hl' hsz (by omega) he
      · rw [eqvAll_other_length (by omega : xs.length ≠ ys.length)]
        exact RcAt.lists_lengths hl hl' (by simpa using hsz) (by omega)
  | @tuple l o vs n xs a1 h1 h2 h3 h4 =>
    have hl : s.heap.IsTuple l vs := ⟨_, h1, h2, _, h3⟩
    simp only [PyData.depth] at hu
    simp only [PyData.hasDict] at ha
    cases rb with
    | none => exact RcAt.tuple_none hl (by omega)
    | bool y => exact RcAt.tuple_bool y hl (by omega)
    | int y w => exact RcAt.tuple_int y w hl (by omega)
    | str y w => exact RcAt.tuple_str y w hl (by omega)
    | list k1 k2 k3 k4 => exact RcAt.tuple_list hl ⟨_, k1, k2, _, k3⟩ (by omega)
    | dict k1 k2 k3 k4 k5 => simp [PyData.hasDict] at hb
    | @tuple l' o' vs' n' ys b1 k1 k2 k3 k4 =>
      have hl' : s.heap.IsTuple l' vs' := ⟨_, k1, k2, _, k3⟩
      simp only [PyData.hasDict] at hb
      have n1 : vs.size = xs.length := by simpa using ReadsAll.length _ _ _ h4
      have n2 : vs'.size = ys.length := by simpa using ReadsAll.length _ _ _ k4
      have he : ∀ j (j1 : j < vs.size) (j2 : j < vs'.size), EqAt A.in1 s vs[j] vs'[j] (pairEq xs ys j) := fun j j1 j2 => by
        have z := eqRs xs ys A.in1 s vs.toList vs'.toList _ _ (by show A.units + 1 + _ < _; omega) h4 ha k4 hb j (by simpa using j1) (by simpa using j2)
        simpa using z
      show RcAt A s (.ref l) (.ref l') (PyData.eqvAll xs ys)
      rw [← eqvAll_eq xs ys, ← n1, ← n2]
      exact RcAt.tuples hl hl' (by omega) he
  | dict k1 k2 k3 k4 k5 => simp [PyData.hasDict] at ha
theorem neR (d e : PyData) (A : Around) (s : Shared) (v u : Value) (as bs : List Addr) (hu : A.units + d.depth < cLine) (ra : Reads s.heap v d as) (ha : d.hasDict = false) (rb : Reads s.heap u e bs) (hb : e.hasDict = false) : RcNeAt A s v u (!PyData.eqv d e) := by
  cases ra with
  | none =>
    cases rb with
    | none => exact RcNeAt.none_none
    | bool y => exact RcNeAt.none_bool y
    | int y w => exact RcNeAt.none_int y w
    | str y w => exact RcNeAt.none_str y w
    | list k1 k2 k3 k4 => exact RcNeAt.none_list ⟨_, k1, k2, _, k3⟩ (by omega)
    | tuple k1 k2 k3 k4 => exact RcNeAt.none_tuple ⟨_, k1, k2, _, k3⟩ (by omega)
    | dict k1 k2 k3 k4 k5 => simp [PyData.hasDict] at hb
  | bool x =>
    cases rb with
    | none => exact RcNeAt.bool_none x
    | bool y => exact RcNeAt.bool_bool x y
    | int y w => exact RcNeAt.bool_int x y w
    | str y w => exact RcNeAt.bool_str x y w
    | list k1 k2 k3 k4 => exact RcNeAt.bool_list x ⟨_, k1, k2, _, k3⟩ (by omega)
    | tuple k1 k2 k3 k4 => exact RcNeAt.bool_tuple x ⟨_, k1, k2, _, k3⟩ (by omega)
    | dict k1 k2 k3 k4 k5 => simp [PyData.hasDict] at hb
  | int x t =>
    cases rb with
    | none => exact RcNeAt.int_none x t
    | bool y => exact RcNeAt.int_bool x t y
    | int y w => exact RcNeAt.int_int x t y w
    | str y w => exact RcNeAt.int_str x t y w
    | list k1 k2 k3 k4 => exact RcNeAt.int_list x t ⟨_, k1, k2, _, k3⟩ (by omega)
    | tuple k1 k2 k3 k4 => exact RcNeAt.int_tuple x t ⟨_, k1, k2, _, k3⟩ (by omega)
    | dict k1 k2 k3 k4 k5 => simp [PyData.hasDict] at hb
  | str x t =>
    cases rb with
    | none => exact RcNeAt.str_none x t
    | bool y => exact RcNeAt.str_bool x t y
    | int y w => exact RcNeAt.str_int x t y w
    | str y w => exact RcNeAt.str_str x t y w
    | list k1 k2 k3 k4 => exact RcNeAt.str_list x t ⟨_, k1, k2, _, k3⟩ (by omega)
    | tuple k1 k2 k3 k4 => exact RcNeAt.str_tuple x t ⟨_, k1, k2, _, k3⟩ (by omega)
    | dict k1 k2 k3 k4 k5 => simp [PyData.hasDict] at hb
  | @list l o vs n xs a1 h1 h2 h3 h4 =>
    have hl : s.heap.IsList l vs := ⟨_, h1, h2, _, h3⟩
    simp only [PyData.depth] at hu
    simp only [PyData.hasDict] at ha
    cases rb with
    | none => exact RcNeAt.list_none hl (by omega)
    | bool y => exact RcNeAt.list_bool y hl (by omega)
    | int y w => exact RcNeAt.list_int y w hl (by omega)
    | str y w => exact RcNeAt.list_str y w hl (by omega)
    | tuple k1 k2 k3 k4 => exact RcNeAt.list_tuple hl ⟨_, k1, k2, _, k3⟩ (by omega)
    | dict k1 k2 k3 k4 k5 => simp [PyData.hasDict] at hb
    | @list l' o' vs' n' ys b1 k1 k2 k3 k4 =>
      have hl' : s.heap.IsList l' vs' := ⟨_, k1, k2, _, k3⟩
      simp only [PyData.hasDict] at hb
      have n1 : vs.size = xs.length := by simpa using ReadsAll.length _ _ _ h4
      have n2 : vs'.size = ys.length := by simpa using ReadsAll.length _ _ _ k4
      have he : ∀ j (j1 : j < vs.size) (j2 : j < vs'.size), EqAt A.in1 s vs[j] vs'[j] (pairEq xs ys j) := fun j j1 j2 => by
        have z := eqRs xs ys A.in1 s vs.toList vs'.toList _ _ (by show A.units + 1 + _ < _; omega) h4 ha k4 hb j (by simpa using j1) (by simpa using j2)
        simpa using z
      show RcNeAt A s (.ref l) (.ref l') (!PyData.eqvAll xs ys)
      by_cases hsz : vs.size = vs'.size
      · rw [← eqvAll_same_length (by omega : xs.length = ys.length), ← n1]
        exact RcNeAt.lists hl hl' hsz (by omega) he
      · rw [eqvAll_other_length (by omega : xs.length ≠ ys.length)]
        exact RcNeAt.lists_lengths hl hl' (by simpa using hsz) (by omega)
  | @tuple l o vs n xs a1 h1 h2 h3 h4 =>
    have hl : s.heap.IsTuple l vs := ⟨_, h1, h2, _, h3⟩
    simp only [PyData.depth] at hu
    simp only [PyData.hasDict] at ha
    cases rb with
    | none => exact RcNeAt.tuple_none hl (by omega)
    | bool y => exact RcNeAt.tuple_bool y hl (by omega)
    | int y w => exact RcNeAt.tuple_int y w hl (by omega)
    | str y w => exact RcNeAt.tuple_str y w hl (by omega)
    | list k1 k2 k3 k4 => exact RcNeAt.tuple_list hl ⟨_, k1, k2, _, k3⟩ (by omega)
    | dict k1 k2 k3 k4 k5 => simp [PyData.hasDict] at hb
    | @tuple l' o' vs' n' ys b1 k1 k2 k3 k4 =>
      have hl' : s.heap.IsTuple l' vs' := ⟨_, k1, k2, _, k3⟩
      simp only [PyData.hasDict] at hb
      have n1 : vs.size = xs.length := by simpa using ReadsAll.length _ _ _ h4
      have n2 : vs'.size = ys.length := by simpa using ReadsAll.length _ _ _ k4
      have he : ∀ j (j1 : j < vs.size) (j2 : j < vs'.size), EqAt A.in1 s vs[j] vs'[j] (pairEq xs ys j) := fun j j1 j2 => by
        have z := eqRs xs ys A.in1 s vs.toList vs'.toList _ _ (by show A.units + 1 + _ < _; omega) h4 ha k4 hb j (by simpa using j1) (by simpa using j2)
        simpa using z
      show RcNeAt A s (.ref l) (.ref l') (!PyData.eqvAll xs ys)
      rw [← eqvAll_eq xs ys, ← n1, ← n2]
      exact RcNeAt.tuples hl hl' (by omega) he
  | dict k1 k2 k3 k4 k5 => simp [PyData.hasDict] at ha
end

/-- == and != of data -/
def rEq : PR2 := fun p q h Q => flat (vw h p) = true ∧ flat (vw h q) = true ∧ (toD (vw h p)).depth ≤ 64 ∧ Q (.bl (PyData.eqv (toD (vw h p)) (toD (vw h q)))) h
def rNe : PR2 := fun p q h Q => flat (vw h p) = true ∧ flat (vw h q) = true ∧ (toD (vw h p)).depth ≤ 64 ∧ Q (.bl (!PyData.eqv (toD (vw h p)) (toD (vw h q)))) h
def oEq (K : PySem.W.Frag) : R2 := fun x y H Q => ∃ d e, Dp K H x d ∧ Dp K H y e ∧ d.hasDict = false ∧ e.hasDict = false ∧ d.depth ≤ 64 ∧ Q (.bl (PyData.eqv d e)) H
def oNe (K : PySem.W.Frag) : R2 := fun x y H Q => ∃ d e, Dp K H x d ∧ Dp K H y e ∧ d.hasDict = false ∧ e.hasDict = false ∧ d.depth ≤ 64 ∧ Q (.bl (!PyData.eqv d e)) H
theorem op_eqA {X : Cx} (hu : X.A.units + 64 < cLine) : OpR X (compareOp .Eq) (oEq X.K) := by
  intro pins s σ H x y v u Q I rx ry h
  obtain ⟨d, e, hd, he, fd, fe, hz, q⟩ := h
  obtain ⟨as, r1⟩ := Dp.reads I d x v hd rx
  obtain ⟨bs, r2⟩ := Dp.reads I e y u he ry
  exact rcR d e X.A s v u as bs (by omega) r1 fd r2 fe X.prog X.w X.xe _ ⟨.bl _, H, I, rfl, q⟩
theorem op_neA {X : Cx} (hu : X.A.units + 64 < cLine) : OpR X (compareOp .NotEq) (oNe X.K) := by
  intro pins s σ H x y v u Q I rx ry h
  obtain ⟨d, e, hd, he, fd, fe, hz, q⟩ := h
  obtain ⟨as, r1⟩ := Dp.reads I d x v hd rx
  obtain ⟨bs, r2⟩ := Dp.reads I e y u he ry
  exact neR d e X.A s v u as bs (by omega) r1 fd r2 fe X.prog X.w X.xe _ ⟨.bl _, H, I, rfl, q⟩
theorem lf_eq {K : PySem.W.Frag} : Lf2 K (oEq K) rEq := by
  intro x y H p q h Q' Q rp rq s r l
  obtain ⟨f1, f2, hz, r⟩ := r
  exact ⟨_, _, vw_dp f1 rp s, vw_dp f2 rq s, noDict _ f1, noDict _ f2, hz, l _ _ _ _ r .refl (rel_bl.mpr rfl) s⟩
theorem lf_ne {K : PySem.W.Frag} : Lf2 K (oNe K) rNe := by
  intro x y H p q h Q' Q rp rq s r l
  obtain ⟨f1, f2, hz, r⟩ := r
  exact ⟨_, _, vw_dp f1 rp s, vw_dp f2 rq s, noDict _ f1, noDict _ f2, hz, l _ _ _ _ r .refl (rel_bl.mpr rfl) s⟩
end N3

namespace N3
open PySem PySem.Spec PyProof.Rows L2

/-! ### dicts by their keys -/
def lk : List Key → List PV → Key → Option PV
  | k' :: ks, v :: vs, k => if k' = k then some v else lk ks vs k
  | _, _, _ => none
def hasK (ks : List Key) (k : Key) : Bool := ks.any fun k' => decide (k' = k)
def pk (ks : List Key) (k : Key) : List Key := if hasK ks k = true then ks else ks ++ [k]
def pvs (ks : List Key) (vs : List PV) (k : Key) (v : PV) : List PV := if hasK ks k = true then List.zipWith (fun k' x => if k' = k then v else x) ks vs else vs ++ [v]
def kOf : PV → Option Key
  | .int i => some (.inl i)
  | .str x => some (.inr x)
  | _ => none
theorem kOf_rel {K : PySem.W.Frag} {H : Hp} {p : PV} {v : V} {k : Key} (r : Rel K H p v) (e : kOf p = some k) : v = kV k := by
  cases p with
  | int i => simp only [kOf, Option.some.injEq] at e; subst e; exact rel_int.mp r
  | str i => simp only [kOf, Option.some.injEq] at e; subst e; exact rel_str.mp r
  | _ => simp [kOf] at e
theorem lk_val {K : PySem.W.Frag} {H : Hp} : ∀ {kvs : List (Key × V)} {vs : List PV} (k : Key), Rels K H vs (kvs.map (·.2)) →
    (match lk (kvs.map (·.1)) vs k with | some p => ∃ v, valV kvs k = some v ∧ Rel K H p v | none => valV kvs k = none)
  | [], vs, k, r => by cases vs <;> simp [lk, valV]
  | (k', x) :: kvs, [], k, r => by
    have := r.length
    simp at this
  | (k', x) :: kvs, v :: vs, k, r => by
    obtain ⟨w, ws, e, r1, r2⟩ := r.uncons
    simp only [List.map_cons, List.cons.injEq] at e
    obtain ⟨rfl, rfl⟩ := e
    simp only [List.map_cons, lk]
    by_cases h : k' = k
    · rw [if_pos h]; exact ⟨x, valV_pos h, r1⟩
    · rw [if_neg h, valV_neg (p := (k', x)) h]; exact lk_val k r2
theorem put_rel {K : PySem.W.Frag} {H : Hp} {kvs : List (Key × V)} {vs : List PV} {k : Key} {p : PV} {v : V} (r : Rels K H vs (kvs.map (·.2))) (rp : Rel K H p v) :
    pk (kvs.map (·.1)) k = (putK kvs k v).map (·.1) ∧ Rels K H (pvs (kvs.map (·.1)) vs k p) ((putK kvs k v).map (·.2)) := by
  have hm : (kvs.any fun kv => decide (kv.1 = k)) = hasK (kvs.map (·.1)) k := by
    unfold hasK; rw [List.any_map]; rfl
  unfold putK pk pvs
  rw [hm]
  by_cases h : hasK (kvs.map (·.1)) k = true
  · rw [if_pos h, if_pos h, if_pos h]
    refine ⟨?_, ?_⟩
    · rw [List.map_map]
      refine List.map_congr_left fun x _ => ?_
      show x.1 = (if x.1 = k then (x.1, v) else x).1
      split <;> rfl
    · clear h hm
      induction kvs generalizing vs with
      | nil => cases vs with
        | nil => exact .nil
        | cons _ _ => have := r.length; simp at this
      | cons kv kvs ih =>
        cases vs with
        | nil => have := r.length; simp at this
        | cons q vs =>
          obtain ⟨w, ws, e, r1, r2⟩ := r.uncons
          simp only [List.map_cons, List.cons.injEq] at e
          obtain ⟨rfl, rfl⟩ := e
          simp only [List.map_cons, List.zipWith_cons_cons]
          refine .cons ?_ (ih r2)
          by_cases hk : kv.1 = k
          · rw [if_pos hk, if_pos hk]; exact rp
          · rw [if_neg hk, if_neg hk]; exact r1
  · rw [if_neg h, if_neg h, if_neg h]
    refine ⟨by simp, ?_⟩
    rw [List.map_append]
    exact r.append (.cons rp .nil)

/-! ### is None, len, places -/
def isNon : PV → Bool
  | .non => true
  | _ => false
theorem isNon_rel {K : PySem.W.Frag} {H : Hp} {p : PV} {v : V} (r : Rel K H p v) : decide (v = .non) = isNon p := by
  cases p with
  | non => rw [rel_non.mp r]; rfl
  | bl b => rw [rel_bl.mp r]; rfl
  | int b => rw [rel_int.mp r]; rfl
  | str b => rw [rel_str.mp r]; rfl
  | tup ps => obtain ⟨a, xs, rfl, _⟩ := rel_tup.mp r; rfl
  | lst ps => obtain ⟨a, xs, rfl, _⟩ := rel_lst.mp r; rfl
  | dct ks vs => obtain ⟨a, xs, rfl, _⟩ := rel_dct.mp r; rfl
  | ref a => rw [rel_ref.mp r]; rfl
  | ty n => have e : v = .ty n := by simpa only [Rel] using r
            rw [e]; rfl
def rIsN : PR2 := fun p q h Q => match q with | .non => Q (.bl (isNon p)) h | _ => False
def rNotN : PR2 := fun p q h Q => match q with | .non => Q (.bl (!isNon p)) h | _ => False
theorem lf_isN {K : PySem.W.Frag} : Lf2 K (fun x y H Q => y = .non ∧ Q (.bl (decide (x = .non))) H) rIsN := by
  intro x y H p q h Q' Q rp rq s r l
  unfold rIsN at r
  split at r
  · exact ⟨rel_non.mp rq, by rw [isNon_rel rp]; exact l _ _ _ _ r .refl (rel_bl.mpr rfl) s⟩
  · exact r.elim
theorem lf_notN {K : PySem.W.Frag} : Lf2 K (fun x y H Q => y = .non ∧ Q (.bl (!decide (x = .non))) H) rNotN := by
  intro x y H p q h Q' Q rp rq s r l
  unfold rNotN at r
  split at r
  · exact ⟨rel_non.mp rq, by rw [isNon_rel rp]; exact l _ _ _ _ r .refl (rel_bl.mpr rfl) s⟩
  · exact r.elim
def rLen : PRA := fun ps h Q => match ps with
  | [.str x] => x.length ≤ SZ ∧ Q (.int (x.length : Nat)) h
  | [.tup xs] => Q (.int (xs.length : Nat)) h
  | [p] => (match seqL h p with | some xs => Q (.int (xs.length : Nat)) h | none => False)
  | _ => False
theorem lf_len {K : PySem.W.Frag} : LfA K (fun xs H Q => ∃ x n, xs = [x] ∧ LenV K x H n ∧ Q (.int n) H) rLen := by
  intro xs H ps h Q' Q rp s r l
  unfold rLen at r
  split at r
  · obtain ⟨v, rfl, r1⟩ := rp.one
    have e := rel_str.mp r1
    subst e
    exact ⟨_, _, rfl, ⟨sz_le r.1, rfl⟩, l _ _ _ _ r.2 .refl (rel_int.mpr rfl) s⟩
  · obtain ⟨v, rfl, r1⟩ := rp.one
    obtain ⟨a, ys, rfl, hq, rr⟩ := rel_tup.mp r1
    exact ⟨_, _, rfl, .inr ⟨ys, hq, rfl⟩, by rw [← rr.length]; exact l _ _ _ _ r .refl (rel_int.mpr rfl) s⟩
  · obtain ⟨v, rfl, r1⟩ := rp.one
    split at r
    · rename_i e
      obtain ⟨a, ys, rfl, hq, rr⟩ := seqL_sq r1 s e
      exact ⟨_, _, rfl, .inl ⟨ys, hq, rfl⟩, by rw [← rr.length]; exact l _ _ _ _ r .refl (rel_int.mpr rfl) s⟩
    · exact r.elim
  · exact r.elim
theorem atI_rel {K : PySem.W.Frag} {H : Hp} {ps : List PV} {xs : List V} {i : Int} {p : PV} (r : Rels K H ps xs) (e : atI ps i = some p) : ∃ v, atI xs i = some v ∧ Rel K H p v := by
  unfold atI at e ⊢
  rw [← r.length]
  cases h : ixN ps.length i with
  | none => rw [h] at e; cases e
  | some j =>
    rw [h] at e
    exact r.get e
/-- a dict's item -/
def ixD (K : PySem.W.Frag) : R2 := fun x y H Q => ∃ a v, x = .ref a ∧ DGet H a y (some v) ∧ Q v H
theorem ix_dict {X : Cx} (hu : X.A.units + 1 < cLine) : IxR X (ixD X.K) := by
  intro value slice pins s σ H x y v u Q I rx ry h hs
  obtain ⟨a, w, rfl, g, q⟩ := h
  obtain rfl : v = Value.ref a := rx
  exact tail_any (dict_typeIs I g) PySem.F.slot_dict_getitem.lookup (d_getItem hu I g ry fun w' s3 I3 rw' => ⟨w, H, I3, rw', q⟩) hs
/-- the items of a dict, kept or not -/
def dctL (h : PH) : PV → Option (List Key × List PV)
  | .dct ks vs => some (ks, vs)
  | .ref a => match h a with | some (.dct ks vs) => some (ks, vs) | some (.lck ks vs) => some (ks, vs) | _ => none
  | _ => none
theorem dctL_rd {K : PySem.W.Frag} {H : Hp} {h : PH} {p : PV} {v : V} {ks : List Key} {vs : List PV} (r : Rel K H p v) (s : Sim K H h) (e : dctL h p = some (ks, vs)) : ∃ a kvs, v = .ref a ∧ Rd H a (.dK kvs) ∧ ks = kvs.map (·.1) ∧ Rels K H vs (kvs.map (·.2)) := by
  cases p with
  | dct ks' vs' =>
    simp only [dctL, Option.some.injEq, Prod.mk.injEq] at e
    obtain ⟨rfl, rfl⟩ := e
    obtain ⟨a, kvs, e1, ⟨o, f⟩, e2, rr⟩ := rel_dct.mp r
    exact ⟨a, kvs, e1, .inr ⟨o, f⟩, e2, rr⟩
  | ref a =>
    simp only [dctL] at e
    cases q : h a with
    | none => rw [q] at e; cases e
    | some o =>
      rw [q] at e
      cases o with
      | dct ks' vs' =>
        simp only [Option.some.injEq, Prod.mk.injEq] at e
        obtain ⟨rfl, rfl⟩ := e
        obtain ⟨u, e2, kvs, rfl, e3, rr⟩ := s a _ q
        exact ⟨a, kvs, rel_ref.mp r, .inl e2, e3, rr⟩
      | lck ks' vs' =>
        simp only [Option.some.injEq, Prod.mk.injEq] at e
        obtain ⟨rfl, rfl⟩ := e
        obtain ⟨u, e2, ob, kvs, rfl, e3, rr⟩ := s a _ q
        exact ⟨a, kvs, rel_ref.mp r, .inr ⟨ob, e2⟩, e3, rr⟩
      | lst _ => cases e
      | ins _ _ _ => cases e
      | xd _ _ => cases e
      | tab _ => cases e
      | dn _ _ _ _ => cases e
  | _ => simp [dctL] at e
def rIx : PR2 := fun p q h Q => match p, q with
  | .str x, .int i => x.length ≤ SZ ∧ (match atI (cl x) i with | some c => Q (.str (S [c])) h | none => False)
  | .tup xs, .int i => (match atI xs i with | some v => Q v h | none => False)
  | p, q => (match seqL h p with
    | some xs => (match q with | .int i => (match atI xs i with | some v => Q v h | none => False) | _ => False)
    | none => (match dctL h p with
      | some (ks, vs) => (match kOf q with
        | some k => (match lk ks vs k with | some v => Q v h | none => False)
        | none => False)
      | none => False))
def oIx (K : PySem.W.Frag) : R2 := fun x y H Q => ((rIxL K x y H Q ∨ rIxT K x y H Q) ∨ rIxS x y H Q) ∨ ixD K x y H Q
theorem ix_all {X : Cx} (hu : X.A.units + 1 < cLine) : IxR X (oIx X.K) := ((ix_list.or ix_tup).or ix_str).or (ix_dict hu)
theorem lf_ix {K : PySem.W.Frag} : Lf2 K (oIx K) rIx := by
  intro x y H p q h Q' Q rp rq s r l
  unfold rIx at r
  split at r
  · rename_i z i
    obtain ⟨hz, r⟩ := r
    split at r
    · rename_i c e
      exact .inl (.inr ⟨z, i, c, rel_str.mp rp, rel_int.mp rq, sz_le hz, e, l _ _ _ _ r .refl (rel_str.mpr rfl) s⟩)
    · exact r.elim
  · rename_i xs i
    split at r
    · rename_i v e
      obtain ⟨a, ys, e1, hq, rr⟩ := rel_tup.mp rp
      obtain ⟨w, e2, rw'⟩ := atI_rel rr e
      exact .inl (.inl (.inr ⟨a, ys, i, w, e1, rel_int.mp rq, hq, e2, l _ _ _ _ r .refl rw' s⟩))
    · exact r.elim
  · split at r
    · rename_i xs e
      obtain ⟨a, ys, e1, hq, rr⟩ := seqL_sq rp s e
      cases q with
      | int i =>
        simp only at r
        split at r
        · rename_i v e2
          obtain ⟨w, e3, rw'⟩ := atI_rel rr e2
          exact .inl (.inl (.inl ⟨a, ys, i, w, e1, rel_int.mp rq, hq, e3, l _ _ _ _ r .refl rw' s⟩))
        · exact r.elim
      | _ => exact r.elim
    · split at r
      · rename_i ks vs e
        obtain ⟨a, kvs, e1, rd, rfl, rr⟩ := dctL_rd rp s e
        split at r
        · rename_i k ek
          have hy := kOf_rel rq ek
          have hv := lk_val k rr
          split at r
          · rename_i v ev
            rw [ev] at hv
            obtain ⟨w, e3, rw'⟩ := hv
            subst hy
            exact .inr ⟨a, w, e1, .inl ⟨kvs, k, rd, rfl, e3.symm⟩, l _ _ _ _ r .refl rw' s⟩
          · exact r.elim
        · exact r.elim
      · exact r.elim
section
variable {X : Cx} {pos : Pos} {a b : Expr}
theorem le_ix {ma mb : ME} (hu : X.A.units + 1 < cLine) (ha : LE X a ma) (hb : LE X b mb) (hs : PlainIx b := by exact fun _ _ => rfl) : LE X (.Subscript a b pos) (mB rIx ma mb) :=
  PE.weak (pe_ix (ix_all hu) ha hb hs) fun _ _ _ h => two_up (Z := fun Q => Q) lf_ix h
/-- d[k] = e, xs[i] = e -/
def mDput (mv mo mk : ME) : MS := fun D τ h => mv τ h fun p h1 => mo τ h1 fun d h2 => mk τ h2 fun q h3 => match d with
  | .ref a => (match h3 a with
    | some (.dct ks vs) => (match kOf q with | some k => ks.length < SZ ∧ D.nx τ (up h3 a (.dct (pk ks k) (pvs ks vs k p))) | none => False)
    | some (.lst xs) => (match q with | .int i => (match ixN xs.length i with | some j => D.nx τ (up h3 a (.lst (xs.set j p))) | none => False) | _ => False)
    | _ => False)
  | _ => False
theorem PSet_or {X : Cx} {t u : TSet} (h : PSet X t) (k : PSet X u) : PSet X (fun o i v H Q => t o i v H Q ∨ u o i v H Q) := by
  intro pins s σ H o i v ov iv w Q I ro ri rv q
  rcases q with q | q
  · exact h pins s σ H o i v ov iv w Q I ro ri rv q
  · exact k pins s σ H o i v ov iv w Q I ro ri rv q
theorem ls_dput {o i value : Expr} {pos' : Pos} {mv mo mk : ME} (hu : X.A.units + 1 < cLine) (ho : LE X o mo) (hi : LE X i mk) (hv : LE X value mv) (hs : swapsWithSole [.Subscript o i pos'] value pos.line X.env = pure false := by rfl) (hw : swappedStores [.Subscript o i pos'] value X.env = pure none := by rfl)
    (h1 : (assignEach [.Subscript o i pos'] X.env).map (·.2) = [assign (.Subscript o i pos') X.env] := by rfl)
    (ha : ∀ u, assign (.Subscript o i pos') X.env u = (do let ov ← holding [u] (eval o X.env); let iv ← holding [u, ov] (eval i X.env); standAt pos'; holding [u, ov, iv] (setItem ov iv u); release [u, ov, iv] []) := by intro _; rfl) : LS X (.Assign [.Subscript o i pos'] value pos) (mDput mv mo mk) := by
  refine PS.weak (ps_asg hv (pg_sub ho hi (PSet_or (set_dict hu) set_list) ha) hs hw h1) fun D σ H ⟨τ, h, D', s, sh, q, l⟩ => ?_
  refine ⟨τ, h, _, s, sh, q, fun p h1 v H1 q1 g1 r1 s1 => ?_⟩
  refine ⟨τ, h1, _, s.mono g1.mono, s1, q1, fun d h2 x H2 q2 g2 r2 s2 => ?_⟩
  refine ⟨τ, h2, _, (s.mono g1.mono).mono g2.mono, s2, q2, fun q h3 y H3 q3 g3 r3 s3 => ?_⟩
  cases d with
  | ref a =>
    have hx := rel_ref.mp (r2.mono g3.mono)
    simp only at q3
    split at q3
    · rename_i ks vs e
      split at q3
      · rename_i k ek
        obtain ⟨u, e1, kvs, rfl, rfl, rr⟩ := s3 a _ e
        have hy := kOf_rel r3 ek
        have hl : kvs.length < sizeLine := by
          have z := q3.1
          rw [List.length_map] at z
          exact sz_lt z
        subst hy hx
        have mm : Mono H3 (upd H3 a (.dK (putK kvs k v))) := Mono.dK e1
        obtain ⟨z1, z2⟩ := put_rel (k := k) rr ((r1.mono g2.mono).mono g3.mono)
        refine .inl ⟨a, _, rfl, DPut.k e1 hl, l.nx _ _ _ _ q3.2 (((g1.trans g2).trans g3).trans (.wr e mm)) ((((s.mono g1.mono).mono g2.mono).mono g3.mono).mono mm) (s3.put mm ⟨_, rfl, z1, z2.mono mm⟩)⟩
      · exact q3.elim
    · rename_i xs e
      split at q3
      · rename_i i
        split at q3
        · rename_i j ej
          obtain ⟨u, e1, ys, rfl, rr⟩ := s3 a _ e
          have hy := rel_int.mp r3
          subst hy hx
          have mm : Mono H3 (upd H3 a (.lst (ys.set j v))) := Mono.lst e1
          refine .inr ⟨a, ys, i, j, rfl, rfl, e1, by rw [← rr.length]; exact ej, l.nx _ _ _ _ q3 (((g1.trans g2).trans g3).trans (.wr e mm)) ((((s.mono g1.mono).mono g2.mono).mono g3.mono).mono mm) (s3.put mm ⟨_, rfl, (rr.set ((r1.mono g2.mono).mono g3.mono) j).mono mm⟩)⟩
        · exact q3.elim
      · exact q3.elim
    · exact q3.elim
  | _ => exact q3.elim
end
end N3

namespace N3
open PySem PySem.Spec PyProof.Rows L2

/-! ### * -/
theorem tup_same (l : Addr) (xs : Array Value) (n : Nat) (dd : Option Addr) (sl : Array (Option Value)) (x : Int) (u : Tok) (h0 : (decide (x < -(2 ^ 63)) || decide (x ≥ 2 ^ 63)) = false) (h1 : (xs.isEmpty || x == 1) = true) :
    Meets (Builtin.«tuple.__mul__» ⟨[.ref l, .int x u], []⟩) (fun _ R s => s.heap.get? l = some { cls := .type "tuple", dict := dd, data := .seq xs n, slots := sl } ∧ R (.ok (.ret (Value.ref l))) s) :=
  .of_wp fun prog w A R s h => by
    obtain ⟨hp, g, d, tk, os⟩ := s; obtain ⟨hl, h⟩ := h; have k1 := AutoSeq1.idx_int
    wp_walk using AutoSeq1.wpAny_loadPart' hl
    repeat (first | (refine wpAny_ite_false (decide_eq_false (by rw [h0]; simp)) ?_; wp_walk using AutoSeq1.wpAny_loadPart' hl) | (refine wpAny_ite_true (decide_eq_true h1) ?_; wp_walk using AutoSeq1.wpAny_loadPart' hl))
    exact ⟨_, rfl, h⟩
theorem tup_zero (l : Addr) (xs : Array Value) (n : Nat) (dd : Option Addr) (sl : Array (Option Value)) (x : Int) (u : Tok) (h0 : (decide (x < -(2 ^ 63)) || decide (x ≥ 2 ^ 63)) = false) (h1 : (xs.isEmpty || x == 1) = false) (h2 : (decide (x ≤ 0) || xs.isEmpty) = true) :
    Meets (Builtin.«tuple.__mul__» ⟨[.ref l, .int x u], []⟩) (fun _ R s => s.heap.get? l = some { cls := .type "tuple", dict := dd, data := .seq xs n, slots := sl } ∧
      R (.ok (.ret (Value.ref s.heap.objs.size))) { s with heap := s.heap.push { cls := Value.type "tuple", data := Data.seq #[] }, toks := s.toks }) :=
  .of_wp fun prog w A R s h => by
    obtain ⟨hp, g, d, tk, os⟩ := s; obtain ⟨hl, h⟩ := h; have k1 := AutoSeq1.idx_int
    wp_walk using AutoSeq1.wpAny_loadPart' hl
    repeat (first | (refine wpAny_ite_false (decide_eq_false (by rw [h0]; simp)) ?_; wp_walk using AutoSeq1.wpAny_loadPart' hl) | (refine wpAny_ite_false (decide_eq_false (by rw [h1]; simp)) ?_; wp_walk using AutoSeq1.wpAny_loadPart' hl) | (refine wpAny_ite_true (decide_eq_true h2) ?_; wp_walk using AutoSeq1.wpAny_loadPart' hl))
    exact ⟨_, rfl, h⟩
/-- a tuple once, or not at all -/
def rRep01 (K : PySem.W.Frag) : R2 := fun x y H Q => ∃ l k xs, x = .ref l ∧ y = .int k ∧ SqT K H l xs ∧ 0 ≤ k ∧ k ≤ 1 ∧ ((xs = [] ∨ k = 1) → Q (.ref l) H) ∧ (xs ≠ [] → k = 0 → ∀ p, H p = none → Q (.ref p) (upd H p (.tup [])))
theorem op_rep01 {X : Cx} : OpR X (binaryOp .Mult) (rRep01 X.K) := by
  intro pins s σ H x y v u Q I rx ry h
  obtain ⟨l, k, xs, rfl, rfl, hT, h1, h2, q1, q2⟩ := h
  cases rx
  obtain ⟨t, rfl⟩ := ry
  obtain ⟨its, r, ⟨⟨cls, dd, data, sl⟩, ho, hc, n, hd⟩, hs⟩ := I.tuple hT
  simp only at hc hd
  subst hc; subst hd
  have c0 : (decide (k < -(2 ^ 63)) || decide (k ≥ 2 ^ 63)) = false := by rw [decide_eq_false (by omega), decide_eq_false (by omega)]; rfl
  have go : ∀ {S : PySem.Spec}, Meets (Builtin.«tuple.__mul__» ⟨[.ref l, .int k t], []⟩) S → S X.A (wants (EP X pins σ Q) X.xe) s → wpAny (model X.prog X.w) X.A (binaryOp .Mult (.ref l) (.int k t)) (EP X pins σ Q) X.xe s := fun {S} g z =>
    wpAny_binaryOp_repeat_ref (T := "tuple") (U := "int") (by decide) ⟨_, ho, rfl⟩ (fun s' => typeIs_int s' k t) noFill_tuple_mul PySem.F.fills_int_mul PySem.F.slot_int_rmul repeat_tuple PySem.F.slot_int_index.lookup
      (call_meets PySem.F.slot_int_rmul (typeIs_int s k t) PySem.F.entry_int_rmul (PySem.F.args_int_rmul_2 _ _) (int_rmul_tuple k t l its.toArray n dd sl) ⟨ho, rfl, ⟨_, ho, rfl⟩, call_meets PySem.F.slot_tuple_mul ⟨_, ho, rfl⟩ PySem.F.entry_tuple_mul (PySem.F.args_tuple_mul_2 _ _) g z⟩)
  by_cases hx : xs = [] ∨ k = 1
  · refine go (tup_same l its.toArray n dd sl k t c0 ?_) ⟨ho, ⟨.ref l, H, I, rfl, q1 hx⟩⟩
    rcases hx with hx | hx
    · have : its = [] := r.nil_iff.mpr hx
      subst this; rfl
    · subst hx; rw [show ((1 : Int) == 1) = true from rfl, Bool.or_true]
  · have hx1 : xs ≠ [] := fun e => hx (.inl e)
    have hk : k = 0 := by
      have : k ≠ 1 := fun e => hx (.inr e)
      omega
    have hi : its.toArray.isEmpty = false := by
      cases its with
      | nil => exact absurd (r.nil_iff.mp rfl) hx1
      | cons a b => rfl
    subst hk
    refine go (tup_zero l its.toArray n dd sl 0 t c0 (by rw [hi]; rfl) (by rw [hi]; rfl)) ⟨ho, ?_⟩
    have I2 := I.laid (t' := s.toks) (o := .tup []) (fun c o q => Heap.get?_push_of_some { cls := .type "tuple", data := .seq #[] } q) (Nat.le_refl _) ⟨Nat.zero_le _, [], .nil, IsTup.new s.heap ([] : List Value).toArray⟩
    exact ⟨.ref s.heap.objs.size, _, I2, rfl, q2 hx1 rfl _ (I.hok.fresh (Nat.le_refl _))⟩
def oMul (K : PySem.W.Frag) : R2 := fun x y H Q => (rI CMul (fun i j => .int (i * j)) x y H Q ∨ rMulS x y H Q) ∨ rRep01 K x y H Q
theorem op_mulA {X : Cx} : OpR X (binaryOp .Mult) (oMul X.K) := (op_mul.or op_mulS).or op_rep01
theorem kf_mul {K : PySem.W.Frag} : Kf2 K (oMul K) rMul := by
  intro x y H p q h Q' Q rp rq s r l
  unfold rMul at r
  split at r
  · exact .inl (.inl ⟨_, _, rel_int.mp rp, rel_int.mp rq, r.1, .inl (l _ _ _ _ r.2 .refl (rel_int.mpr rfl) s)⟩)
  · exact .inl (.inr ⟨_, _, rel_str.mp rp, rel_int.mp rq, r.1, sz_le r.2.1, r.2.2.1, .inl (l _ _ _ _ r.2.2.2 .refl (rel_str.mpr rfl) s)⟩)
  · rename_i ps n
    obtain ⟨a, xs, e1, h1, r1⟩ := rel_tup.mp rp
    obtain ⟨n0, n1, r⟩ := r
    refine .inr ⟨a, n, xs, e1, rel_int.mp rq, h1, n0, n1, fun hx => .inl ?_, fun hx hn c hc => .inl ?_⟩
    · by_cases hn : n = 1
      · rw [if_pos hn] at r
        exact l _ _ _ _ r .refl (rel_tup.mpr ⟨a, xs, rfl, h1, r1⟩) s
      · rw [if_neg hn] at r
        have hx' : xs = [] := hx.resolve_right hn
        subst hx'
        exact l _ _ _ _ r .refl (rel_tup.mpr ⟨a, [], rfl, h1, .nil⟩) s
    · rw [if_neg (by omega)] at r
      exact make_t l s .nil r hc
  · exact r.elim
theorem Rels.rep {K : PySem.W.Frag} {H : Hp} {ps : List PV} {xs : List V} (r : Rels K H ps xs) : ∀ k : Nat, Rels K H (List.replicate k ps).flatten (List.replicate k xs).flatten
  | 0 => .nil
  | k + 1 => by rw [List.replicate_succ, List.replicate_succ, List.flatten_cons, List.flatten_cons]; exact r.append (Rels.rep r k)
/-- [..] * e -/
def mRep (m : MA) (mb : ME) : ME := fun τ h Q => m τ h fun ps h1 => mb τ h1 fun q h2 => match q with
  | .int k => (-16777216 ≤ k ∧ k ≤ 16777216 ∧ ps.length * k.toNat ≤ SZ) ∧ Q (.lst (List.replicate k.toNat ps).flatten) h2
  | _ => False
section
variable {X : Cx} {pos p2 : Pos} {es : List Expr} {b : Expr} {n : Nat}
theorem le_rep {m : MA} {mb : ME} (h : LAn X es n m) (hb : LE X b mb) (hn : n ≤ 1000 := by decide) : LE X (.BinOp (.List es p2) .Mult b pos) (mRep m mb) := by
  refine PE.weak (PE.kp (pe_op op_rep (pe_lst h) hb)) fun σ H Q ⟨τ, h, Q', s, sh, q, l⟩ => ?_
  refine ⟨τ, h, _, s, sh, q, fun ps h1 vs H1 q1 hl g1 r1 s1 => ⟨by rw [← r1.length, hl]; exact few hn, fun p hp => ?_⟩⟩
  have hp1 : h1 p = none := s1.fresh hp
  have gD : Go H1 h1 (upd H1 p (.lst vs)) h1 := .new hp
  refine ⟨τ, h1, _, s.mono (g1.trans gD).mono, s1.new hp, q1, fun q h2 y H2 q2 g2 r2 s2 => ?_⟩
  cases q with
  | int k =>
    obtain ⟨⟨k1, k2, hz⟩, q2⟩ := q2
    have ey := rel_int.mp r2
    have hH : H2 p = some (.lst vs) := g2.frame p _ upd_same hp1
    refine ⟨p, k, vs, rfl, ey, hH, by omega, by omega, by rw [← r1.length]; exact sz_le hz, fun c hc => ?_⟩
    have g := (g1.trans gD).trans g2
    exact keep_l (l.mono g) s2 ((r1.mono (gD.trans g2).mono).rep k.toNat) q2 hc
  | _ => exact q2.elim
end

/-! ### slices -/
abbrev MO := PSt → PH → (Option Int → PH → Prop) → Prop
def upO (K : PySem.W.Frag) (m : MO) : TO := fun σ H Q => ∃ τ h Q', SimS K H σ τ ∧ Sim K H h ∧ m τ h Q' ∧ ∀ o h1 H1, Q' o h1 → Go H h H1 h1 → Sim K H1 h1 → Q o H1
abbrev LO (X : Cx) (e : Option Expr) (m : MO) : Prop := L2.PO X e (upO X.K m)
def mNoPart : MO := fun _ h Q => Q none h
def mPart (m : ME) : MO := fun τ h Q => m τ h fun p h1 => match p with | .int i => Q (some i) h1 | _ => False
section
variable {X : Cx} {pos p2 : Pos} {e : Expr}
theorem PO.weak {e : Option Expr} {t u : TO} (h : L2.PO X e t) (w : ∀ σ H Q, u σ H Q → t σ H Q) : L2.PO X e u := ⟨fun pins s σ H Q I q => h.run pins s σ H Q I (w σ H Q q)⟩
theorem lo_none : LO X none mNoPart := PO.weak po_none fun σ H Q ⟨τ, h, Q', s, sh, q, l⟩ => l _ _ _ q .refl sh
theorem lo_some {m : ME} (he : LE X e m) : LO X (some e) (mPart m) := by
  refine PO.weak (po_some he) fun σ H Q ⟨τ, h, Q', s, sh, q, l⟩ => ?_
  refine ⟨τ, h, _, s, sh, q, fun p h1 v H1 q1 g1 r1 s1 => ?_⟩
  cases p with
  | int i => exact ⟨i, rel_int.mp r1, l _ _ _ q1 g1 s1⟩
  | _ => exact q1.elim
end
def cut {α : Type} (xs : List α) (lo hi : Option Int) : List α := (xs.drop (HT.sIx xs.length 0 lo)).take (HT.sIx xs.length xs.length hi - HT.sIx xs.length 0 lo)
theorem cut_length {α : Type} (xs : List α) (lo hi : Option Int) : (cut xs lo hi).length ≤ xs.length := by
  unfold cut; rw [List.length_take, List.length_drop]; omega
theorem Rels.cut {K : PySem.W.Frag} {H : Hp} {ps : List PV} {xs : List V} (r : Rels K H ps xs) (lo hi : Option Int) : Rels K H (cut ps lo hi) (cutV xs lo hi) := by
  unfold N3.cut cutV
  rw [r.length]
  exact (r.drop _).take _
theorem cut_all {α : Type} {xs : List α} {lo hi : Option Int} (h : HT.sIx xs.length 0 lo = 0 ∧ HT.sIx xs.length xs.length hi = xs.length) : cut xs lo hi = xs := by
  unfold cut; rw [h.1, h.2]; simp
theorem cutS_cl (z : Str) (lo hi : Option Int) : cutS z lo hi = S (cut (cl z) lo hi) := by
  unfold cutS cut; rw [cl_length]; rfl
def oSl (K : PySem.W.Frag) : V → Option Int → Option Int → Hp → VK → Prop := fun x lo hi H Q => (rSlL K x lo hi H Q ∨ rSlA K x lo hi H Q) ∨ rSlS x lo hi H Q
theorem sl_all {X : Cx} : SlR X (oSl X.K) := (sl_list.or sl_tupA).or sl_str
def rSl (p : PV) (lo hi : Option Int) (h : PH) (Q : PK) : Prop := match p with
  | .str x => x.length ≤ SZ ∧ Q (.str (S (cut (cl x) lo hi))) h
  | .tup xs => Q (.tup (cut xs lo hi)) h
  | p => match seqL h p with
    | some xs => Q (.lst (cut xs lo hi)) h
    | none => False
theorem kf_sl {K : PySem.W.Frag} {x : V} {H : Hp} {p : PV} {lo hi : Option Int} {h : PH} {Q' : PK} {Q : VK} (rp : Rel K H p x) (s : Sim K H h) (r : rSl p lo hi h Q') (l : LQ K H h Q' Q) : oSl K x lo hi H (kQ Q) := by
  unfold rSl at r
  split at r
  · rename_i z
    refine .inr ⟨z, rel_str.mp rp, sz_le r.1, .inl ?_⟩
    rw [cutS_cl]
    exact l _ _ _ _ r.2 .refl (rel_str.mpr rfl) s
  · obtain ⟨a, ys, rfl, hq, rr⟩ := rel_tup.mp rp
    refine .inl (.inr ⟨a, ys, rfl, hq, fun hw => .inl ?_, fun hw c hc => .inl (make_t l s (rr.cut lo hi) r hc)⟩)
    rw [← rr.length] at hw
    rw [cut_all hw] at r
    exact l _ _ _ _ r .refl (rel_tup.mpr ⟨a, ys, rfl, hq, rr⟩) s
  · split at r
    · rename_i e
      obtain ⟨a, ys, rfl, hq, rr⟩ := seqL_sq rp s e
      exact .inl (.inl ⟨a, ys, rfl, hq, fun c hc => keep_l l s (rr.cut lo hi) r hc⟩)
    · exact r.elim
def mSl (m : ME) (ml mh : MO) : ME := fun τ h Q => m τ h fun p h1 => ml τ h1 fun lo h2 => mh τ h2 fun hi h3 => rSl p lo hi h3 Q
/-- x[::-1] of a text or a list -/
def rRev (p : PV) (h : PH) (Q : PK) : Prop := match p with
  | .str x => x.length ≤ SZ ∧ Q (.str (S (cl x).reverse)) h
  | p => match seqL h p with
    | some xs => Q (.lst xs.reverse) h
    | none => False
def mRev (m : ME) : ME := fun τ h Q => m τ h fun p h1 => rRev p h1 Q
section
variable {X : Cx} {pos p1 p2 p3 : Pos} {e : Expr} {lo hi : Option Expr}
theorem le_sl {m : ME} {ml mh : MO} (he : LE X e m) (hl : LO X lo ml) (hh : LO X hi mh) : LE X (.Subscript e (.Slice lo hi none p2) pos) (mSl m ml mh) := by
  refine PE.weak (PE.kp (pe_slice sl_all he hl hh)) fun σ H Q ⟨τ, h, Q', s, sh, q, l⟩ => ?_
  refine ⟨τ, h, _, s, sh, q, fun p h1 v H1 q1 g1 r1 s1 => ?_⟩
  refine ⟨τ, h1, _, s.mono g1.mono, s1, q1, fun lo h2 H2 q2 g2 s2 => ?_⟩
  refine ⟨τ, h2, _, (s.mono g1.mono).mono g2.mono, s2, q2, fun hi h3 H3 q3 g3 s3 => ?_⟩
  exact kf_sl (r1.mono (g2.trans g3).mono) s3 q3 (l.mono ((g1.trans g2).trans g3))
theorem rev_text (x : Str) : (⟨((Builtin.Str.strSliceIndices none none (-1) x.length).filterMap (x.cps[·]?)).toArray⟩ : Str) = S (cl x).reverse := by
  refine cl_inj ?_
  show (Builtin.Str.strSliceIndices none none (-1) x.length).filterMap (x.cps[·]?) = (cl x).reverse
  rw [picked_rev, PySem.W.krv_range, List.filterMap_reverse]
  have := PySem.W.krv_all x.cps
  rw [show x.length = x.cps.size from rfl, this]; rfl
def tRevA (K : PySem.W.Frag) (te : TE) : TE := fun σ H Q => te σ H fun x H1 => (∃ a xs, x = .ref a ∧ SqL K H1 a xs ∧ ∀ p, H1 p = none → Q (.ref p) (upd H1 p (.lst xs.reverse))) ∨ ∃ z, x = .str z ∧ z.length ≤ sizeLine ∧ Q (.str (S (cl z).reverse)) H1
theorem pe_revA {te : TE} {k : Nat} (he : PE X e te) : PE X (.Subscript e (.Slice none none (some (.UnaryOp .USub (.Constant (.int 1) k p1) p2)) p3) pos) (tRevA X.K te) := by
  refine ⟨fun pins s σ H Q I h => ?_⟩
  refine Subscript_ (thn (he.run pins s σ H _ I h) fun v s1 ⟨x, H1, I1, r1, q1⟩ => ?_)
  have hst : L2.PO X (some (.UnaryOp .USub (.Constant (.int 1) k p1) p2)) (tPart (tUn (rU fun i => .int (-i)) (tC (.int 1)))) := po_some (pe_un un_neg pe_int)
  refine wpAny_Slice (thn (po_none.run pins s1 σ H1 (fun o H2 => o = none ∧ H2 = H1) I1 ⟨rfl, rfl⟩) fun vl s2 ⟨l, H2, I2, pl, el, e2⟩ => ?_)
  subst el e2
  refine thn (po_none.run pins s2 σ H2 (fun o H3 => o = none ∧ H3 = H2) I2 ⟨rfl, rfl⟩) fun vu s3 ⟨u, H3, I3, pu, eu, e3⟩ => ?_
  subst eu e3
  refine thn (hst.run pins s3 σ H3 (fun o H4 => o = some (-1) ∧ H4 = H3) I3 ⟨1, rfl, -1, rfl, rfl, rfl⟩) fun vs s4 ⟨o, H4, I4, ps, eo, e4⟩ => ?_
  subst eo e4
  have I5 : Inv X pins σ H4 { s4 with heap := s4.heap.push { cls := .type "slice", data := .fields #[vl, vu, vs] } } := I4.kept (t' := s4.toks) fun b ob q => Heap.get?_push_of_some _ q
  show wpAny (model X.prog X.w) X.A (subscriptTail e (.Slice none none (some (.UnaryOp .USub (.Constant (.int 1) k p1) p2)) p3) v (.ref s4.heap.objs.size)) (EP X pins σ Q) X.xe { s4 with heap := s4.heap.push { cls := .type "slice", data := .fields #[vl, vu, vs] } }
  rcases q1 with ⟨a, xs, ex, hx, q⟩ | ⟨z, ex, hz, q⟩
  · subst ex
    cases r1
    obtain ⟨its, r, ht, hz⟩ := I5.list hx
    have hlen := r.length
    refine tail_any (ops := [.ref a, .ref s4.heap.objs.size]) ht.isList.typeIs (PySem.slot_list_getitem.lookup) ?_ (by with_unfolding_all rfl)
    refine wpAny_getItem_list_slice ht.isList (Heap.IsSliceOf.new _ vl vu vs) pl pu ps (by decide) ?_ (by rw [List.size_toArray]; omega)
    rw [PySem.W.krv_pick]
    refine ⟨.ref _, _, I5.laid (t' := s4.toks) (o := .lst xs.reverse) (fun b ob q => Heap.get?_push_of_some _ q) (Nat.le_refl _) ?_, rfl, q _ (I5.hok.fresh (Nat.le_refl _))⟩
    exact ⟨by rw [List.length_reverse]; exact hz, _, 0, r.reverse, Heap.get?_push_size _ rfl⟩
  · subst ex
    obtain ⟨t, rfl⟩ := r1
    obtain ⟨l, rfl, el⟩ := IsPart.raw pl
    obtain ⟨u, rfl, eu⟩ := IsPart.raw pu
    obtain ⟨st, rfl, es⟩ := IsPart.raw ps
    refine tail_any (ops := [.str z t, .ref s4.heap.objs.size]) (typeIs_str _ _ _) PySem.F.slot_str_getitem.lookup ?_ (by with_unfolding_all rfl)
    refine wpAny_getItem_str_slice (l := l) (u := u) (st := st) (Heap.IsSliceOf.new _ _ _ _) (by rw [es]; rfl) ?_
    unfold sliceMade slicePicked
    rw [es, el, eu]
    rw [if_neg (by simp)]
    show Made.post (Made.str ⟨((Builtin.Str.strSliceIndices none none (-1) z.length).filterMap (z.cps[·]?)).toArray⟩) _ _
    rw [rev_text]
    refine ⟨?_, .str _, H4, I5.tok _, ⟨_, rfl⟩, q⟩
    rw [S_length, List.length_reverse, ← cl_length]; exact hz
theorem le_rev {m : ME} {k : Nat} (he : LE X e m) : LE X (.Subscript e (.Slice none none (some (.UnaryOp .USub (.Constant (.int 1) k p1) p2)) p3) pos) (mRev m) := by
  refine PE.weak (PE.kp (pe_revA he)) fun σ H Q ⟨τ, h, Q', s, sh, q, l⟩ => ?_
  refine ⟨τ, h, _, s, sh, q, fun p h1 v H1 q1 g1 r1 s1 => ?_⟩
  unfold rRev at q1
  split at q1
  · exact .inr ⟨_, rel_str.mp r1, sz_le q1.1, .inl (l _ _ _ _ q1.2 g1 (rel_str.mpr rfl) s1)⟩
  · split at q1
    · rename_i e
      obtain ⟨a, ys, rfl, hq, rr⟩ := seqL_sq r1 s1 e
      exact .inl ⟨a, ys, rfl, hq, fun c hc => keep_l (l.mono g1) s1 rr.reverse q1 hc⟩
    · exact q1.elim
end
end N3

namespace N3
open PySem PySem.Spec PyProof.Rows L2

/-! ### lists that may change: append, pop -/
def listAt (h : PH) (p : PV) : Prop := ∃ a xs, p = .ref a ∧ h a = some (.lst xs)
theorem ty_list {K : PySem.W.Frag} {H : Hp} {h : PH} {p : PV} {v : V} (r : Rel K H p v) (s : Sim K H h) (e : listAt h p) : tyV K "list" v H := by
  obtain ⟨a, xs, rfl, e⟩ := e
  obtain ⟨u, e1, ys, rfl, rr⟩ := s a _ e
  rw [rel_ref.mp r]
  exact .inl ⟨rfl, ys, .of e1⟩
/-- o.append(e) -/
def mAppend (mo : ME) (m : MA) : ME := fun τ h Q => mo τ h fun p h1 => listAt h1 p ∧ m τ h1 fun ps h2 => match p, ps with
  | .ref a, [q] => (match h2 a with | some (.lst xs) => xs.length < SZ ∧ Q .non (up h2 a (.lst (xs ++ [q]))) | _ => False)
  | _, _ => False
/-- o.pop() -/
def mPop (mo : ME) : ME := fun τ h Q => mo τ h fun p h1 => match p with
  | .ref a => (match h1 a with | some (.lst xs) => (match xs.getLast? with | some y => Q y (up h1 a (.lst xs.dropLast)) | none => False) | _ => False)
  | _ => False
theorem Rels.dropLast {K : PySem.W.Frag} {H : Hp} {ps : List PV} {xs : List V} (r : Rels K H ps xs) : Rels K H ps.dropLast xs.dropLast := by
  rw [List.dropLast_eq_take, List.dropLast_eq_take, r.length]; exact r.take _
section
variable {X : Cx} {o e : Expr} {es : List Expr} {n : Nat} {mo me : ME} {m : MA} {apos cpos pos : Pos}
theorem le_append (ho : LE X o mo) (he : LAn X [e] 1 m) (hbase : attributeBase o "append" X.env (eval o X.env) = eval o X.env := by rfl)
    (hfew : ((backTo cpos (starEach [e] X.env)).all (fun x => !x.1) && (backToKw cpos (keywordEach [] X.env)).all (fun x => x.1.isSome)
      && decide (([e] : List Expr).length + ([] : List Keyword).length + (if ([] : List Keyword).isEmpty then 0 else 1) < 30)) = true := by rfl)
    (hline : (apos.endLine == cpos.line) = true := by rfl) (hs : starEach [e] X.env = (false, eval e X.env) :: starEach [] X.env := by rfl) :
    LE X (.Call (.Attribute o "append" apos) [e] [] cpos) (mAppend mo m) := by
  refine PE.weak (pe_bm PySem.F.plainAttrs_list PySem.F.slot_list_append PySem.F.type_list_append mt_append ho he hbase hfew hline hs rfl) fun σ H Q ⟨τ, h, Q', s, sh, q, l⟩ => ?_
  refine ⟨τ, h, _, s, sh, q, fun p h1 v H1 q1 g1 r1 s1 => ⟨ty_list r1 s1 q1.1, ?_⟩⟩
  refine ⟨τ, h1, _, s.mono g1.mono, s1, q1.2, ?_⟩
  rintro ps h2 vs H2 q2 _ g2 rr s2
  split at q2
  · rename_i a q _
    obtain ⟨y, rfl, ry⟩ := rr.one
    split at q2
    · rename_i xs e2
      obtain ⟨u, e3, ys, rfl, rx⟩ := s2 _ _ e2
      have ea := rel_ref.mp r1
      have mm : Mono H2 (upd H2 a (.lst (ys ++ [y]))) := Mono.lst e3
      refine ⟨a, ys, y, ea, rfl, e3, by rw [← rx.length]; exact sz_lt q2.1, l _ _ _ _ q2.2 ((g1.trans g2).trans (.wr e2 mm)) (rel_non.mpr rfl) (s2.put mm ⟨_, rfl, (rx.append (.cons ry .nil)).mono mm⟩)⟩
    · exact q2.elim
  · exact q2.elim
theorem le_pop (ho : LE X o mo) (hbase : attributeBase o "pop" X.env (eval o X.env) = eval o X.env := by rfl) (hline : (apos.endLine == cpos.line) = true := by rfl) :
    LE X (.Call (.Attribute o "pop" apos) [] [] cpos) (mPop mo) := by
  refine PE.weak (pe_bm0 PySem.F.plainAttrs_list PySem.F.slot_list_pop PySem.F.type_list_pop mt_pop ho hbase hline) fun σ H Q ⟨τ, h, Q', s, sh, q, l⟩ => ?_
  refine ⟨τ, h, _, s, sh, q, fun p h1 v H1 q1 g1 r1 s1 => ?_⟩
  cases p with
  | ref a =>
    simp only at q1
    split at q1
    · rename_i xs e2
      split at q1
      · rename_i y ey
        obtain ⟨u, e3, ys, rfl, rx⟩ := s1 _ _ e2
        have ea := rel_ref.mp r1
        rw [List.getLast?_eq_getElem?] at ey
        obtain ⟨w, ew, rw'⟩ := rx.get ey
        rw [rx.length] at ew
        have mm : Mono H1 (upd H1 a (.lst ys.dropLast)) := Mono.lst e3
        refine ⟨ty_list r1 s1 ⟨a, xs, rfl, e2⟩, a, ys, w, ea, rfl, e3, ew, l _ _ _ _ q1 (g1.trans (.wr e2 mm)) (rw'.mono mm) (s1.put mm ⟨_, rfl, rx.dropLast.mono mm⟩)⟩
      · exact q1.elim
    · exact q1.elim
  | _ => exact q1.elim

/-! ### texts: join, find, count, startswith, endswith, index -/
def mM1 (r : PV → List PV → PH → PK → Prop) (mo : ME) (m : MA) : ME := fun τ h Q => mo τ h fun p h1 => (∃ x, p = .str x) ∧ m τ h1 fun ps h2 => r p ps h2 Q
theorem le_m1 {id : String} {name : Str} {r : V → List V → Hp → VK → Prop} {r' : PV → List PV → PH → PK → Prop} (slot : Slot "str" name id) (hty : typeOf (.builtin id) = pure (.type "method_descriptor")) (rule : MtR X id r)
    (hr : ∀ x xs H p ps h Q' Q, Rel X.K H p x → Rels X.K H ps xs → Sim X.K H h → r' p ps h Q' → LQ X.K H h Q' Q → r x xs H Q) (ho : LE X o mo) (ha : LAn X (e :: es) n m) (hbase : attributeBase o name X.env (eval o X.env) = eval o X.env := by rfl)
    (hfew : ((backTo cpos (starEach (e :: es) X.env)).all (fun x => !x.1) && (backToKw cpos (keywordEach [] X.env)).all (fun x => x.1.isSome)
      && decide ((e :: es).length + ([] : List Keyword).length + (if ([] : List Keyword).isEmpty then 0 else 1) < 30)) = true := by rfl)
    (hline : (apos.endLine == cpos.line) = true := by rfl) (hs : starEach (e :: es) X.env = (false, eval e X.env) :: starEach es X.env := by rfl) (hplain : (backTo cpos (starEach es X.env)).any (·.1) = false := by rfl) :
    LE X (.Call (.Attribute o name apos) (e :: es) [] cpos) (mM1 r' mo m) := by
  refine PE.weak (pe_bm PySem.F.plainAttrs_str slot hty rule ho ha hbase hfew hline hs hplain) fun σ H Q ⟨τ, h, Q', s, sh, q, l⟩ => ?_
  refine ⟨τ, h, _, s, sh, q, fun p h1 v H1 ⟨⟨x, ex⟩, q1⟩ g1 r1 s1 => ⟨by subst ex; rw [rel_str.mp r1]; rfl, ?_⟩⟩
  refine ⟨τ, h1, _, s.mono g1.mono, s1, q1, ?_⟩
  rintro ps h2 vs H2 q2 _ g2 rr s2
  exact hr _ _ _ _ _ _ _ _ (r1.mono g2.mono) rr s2 q2 (l.mono (g1.trans g2))
/-- what a method of a text and a text says -/
def rSS (g : Str → Str → PV) : PV → List PV → PH → PK → Prop := fun p ps h Q => match p, ps with
  | .str x, [.str y] => Q (g x y) h
  | _, _ => False
theorem rSS_up {K : PySem.W.Frag} {g : Str → Str → V} {g' : Str → Str → PV} (hg : ∀ a b H, Rel K H (g' a b) (g a b)) : ∀ x xs H p ps h Q' Q, Rel K H p x → Rels K H ps xs → Sim K H h → rSS g' p ps h Q' → LQ K H h Q' Q →
    ∃ a b, x = .str a ∧ xs = [.str b] ∧ Q (g a b) H := by
  intro x xs H p ps h Q' Q rp rs s r l
  unfold rSS at r
  split at r
  · obtain ⟨v, rfl, r1⟩ := rs.one
    have e1 := rel_str.mp rp
    have e2 := rel_str.mp r1
    subst e1 e2
    exact ⟨_, _, rfl, rfl, l _ _ _ _ r .refl (hg _ _ _) s⟩
  · exact r.elim
theorem le_find (ho : LE X o mo) (ha : LAn X [e] 1 m) (hbase : attributeBase o "find" X.env (eval o X.env) = eval o X.env := by rfl)
    (hfew : ((backTo cpos (starEach [e] X.env)).all (fun x => !x.1) && (backToKw cpos (keywordEach [] X.env)).all (fun x => x.1.isSome)
      && decide (([e] : List Expr).length + ([] : List Keyword).length + (if ([] : List Keyword).isEmpty then 0 else 1) < 30)) = true := by rfl)
    (hline : (apos.endLine == cpos.line) = true := by rfl) (hs : starEach [e] X.env = (false, eval e X.env) :: starEach [] X.env := by rfl) :
    LE X (.Call (.Attribute o "find" apos) [e] [] cpos) (mM1 (rSS fun a b => .int (Txt.find a b)) mo m) :=
  le_m1 PySem.F.slot_str_find PySem.F.type_str_find mt_find (rSS_up fun _ _ _ => rel_int.mpr rfl) ho ha hbase hfew hline hs
theorem le_count (ho : LE X o mo) (ha : LAn X [e] 1 m) (hbase : attributeBase o "count" X.env (eval o X.env) = eval o X.env := by rfl)
    (hfew : ((backTo cpos (starEach [e] X.env)).all (fun x => !x.1) && (backToKw cpos (keywordEach [] X.env)).all (fun x => x.1.isSome)
      && decide (([e] : List Expr).length + ([] : List Keyword).length + (if ([] : List Keyword).isEmpty then 0 else 1) < 30)) = true := by rfl)
    (hline : (apos.endLine == cpos.line) = true := by rfl) (hs : starEach [e] X.env = (false, eval e X.env) :: starEach [] X.env := by rfl) :
    LE X (.Call (.Attribute o "count" apos) [e] [] cpos) (mM1 (rSS fun a b => .int (Txt.count a b)) mo m) :=
  le_m1 PySem.F.slot_str_count PySem.F.type_str_count mt_count (rSS_up fun _ _ _ => rel_int.mpr rfl) ho ha hbase hfew hline hs
/-- sep.join(texts) -/
def rJoin : PV → List PV → PH → PK → Prop := fun p ps h Q => match p, ps with
  | .str x, [.tup ys] => ∃ zs : List (List Nat), ys = zs.map (fun z => .str (S z)) ∧ (zs.map (·.length)).sum + zs.length * x.length ≤ SZ ∧ Q (.str (S (TL.joinL (cl x) zs))) h
  | .str x, [q] => (match seqL h q with
    | some ys => ∃ zs : List (List Nat), ys = zs.map (fun z => .str (S z)) ∧ (zs.map (·.length)).sum + zs.length * x.length ≤ SZ ∧ Q (.str (S (TL.joinL (cl x) zs))) h
    | none => False)
  | _, _ => False
theorem rels_strs {K : PySem.W.Frag} {H : Hp} : ∀ {zs : List (List Nat)} {xs : List V}, Rels K H (zs.map fun z => .str (S z)) xs → xs = (zs.map S).map V.str
  | [], _, r => r.len0
  | z :: zs, _, r => by
    obtain ⟨v, vs, rfl, r1, r2⟩ := r.uncons
    rw [rel_str.mp r1, rels_strs r2]; rfl
theorem rels_ints {K : PySem.W.Frag} {H : Hp} : ∀ {ns : List Int} {xs : List V}, Rels K H (ns.map PV.int) xs → xs = ns.map V.int
  | [], _, r => r.len0
  | z :: zs, _, r => by
    obtain ⟨v, vs, rfl, r1, r2⟩ := r.uncons
    rw [rel_int.mp r1, rels_ints r2]; rfl
theorem rJoin_up {K : PySem.W.Frag} : ∀ x xs H p ps h Q' Q, Rel K H p x → Rels K H ps xs → Sim K H h → rJoin p ps h Q' → LQ K H h Q' Q →
    ∃ a p, ∃ ys : List Str, x = .str a ∧ xs = [.ref p] ∧ (SqL K H p (ys.map V.str) ∨ SqT K H p (ys.map V.str)) ∧ (ys.map (·.length)).sum + ys.length * a.length ≤ 16777216 ∧ Q (.str (Txt.join a ys)) H := by
  intro x xs H p ps h Q' Q rp rs s r l
  have fin : ∀ {a : Str} {zs : List (List Nat)}, (zs.map (·.length)).sum + zs.length * a.length ≤ SZ → Q' (.str (S (TL.joinL (cl a) zs))) h → ((zs.map S).map (·.length)).sum + (zs.map S).length * a.length ≤ 16777216 ∧ Q (.str (Txt.join a (zs.map S))) H := fun {a zs} h1 h2 => by
    refine ⟨?_, ?_⟩
    · rw [List.map_map, List.length_map]
      have e : ((fun x : Str => x.length) ∘ S) = fun z : List Nat => z.length := funext fun z => S_length z
      rw [e]; exact h1
    · have e : Txt.join a (zs.map S) = S (TL.joinL (cl a) zs) := by
        have := SX.join_S (cl a) zs
        rw [show (SX.S (cl a)) = a from S_cl a] at this
        exact this
      rw [e]
      exact l _ _ _ _ h2 .refl (rel_str.mpr rfl) s
  unfold rJoin at r
  split at r
  · rename_i a ys
    obtain ⟨zs, rfl, h1, h2⟩ := r
    obtain ⟨v, rfl, r1⟩ := rs.one
    obtain ⟨b, us, rfl, hq, rr⟩ := rel_tup.mp r1
    rw [rels_strs rr] at hq
    exact ⟨a, b, zs.map S, rel_str.mp rp, rfl, .inr hq, (fin h1 h2).1, (fin h1 h2).2⟩
  · rename_i a q _
    split at r
    · rename_i ys e
      obtain ⟨zs, rfl, h1, h2⟩ := r
      obtain ⟨v, rfl, r1⟩ := rs.one
      obtain ⟨b, us, rfl, hq, rr⟩ := seqL_sq r1 s e
      rw [rels_strs rr] at hq
      exact ⟨a, b, zs.map S, rel_str.mp rp, rfl, .inl hq, (fin h1 h2).1, (fin h1 h2).2⟩
    · exact r.elim
  · exact r.elim
theorem le_join (ho : LE X o mo) (ha : LAn X [e] 1 m) (hbase : attributeBase o "join" X.env (eval o X.env) = eval o X.env := by rfl)
    (hfew : ((backTo cpos (starEach [e] X.env)).all (fun x => !x.1) && (backToKw cpos (keywordEach [] X.env)).all (fun x => x.1.isSome)
      && decide (([e] : List Expr).length + ([] : List Keyword).length + (if ([] : List Keyword).isEmpty then 0 else 1) < 30)) = true := by rfl)
    (hline : (apos.endLine == cpos.line) = true := by rfl) (hs : starEach [e] X.env = (false, eval e X.env) :: starEach [] X.env := by rfl) :
    LE X (.Call (.Attribute o "join" apos) [e] [] cpos) (mM1 rJoin mo m) :=
  le_m1 PySem.F.slot_str_join PySem.F.type_str_join mt_join rJoin_up ho ha hbase hfew hline hs
/-- x.index(y) where y is in x -/
def rIdxS : PV → List PV → PH → PK → Prop := fun p ps h Q => match p, ps with
  | .str x, [.str y] => (match Txt.index0 x y with | some k => Q (.int (k : Nat)) h | none => False)
  | _, _ => False
theorem le_indexS (hc : X.calm = true) (ho : LE X o mo) (ha : LAn X [e] 1 m) (hbase : attributeBase o "index" X.env (eval o X.env) = eval o X.env := by rfl)
    (hfew : ((backTo cpos (starEach [e] X.env)).all (fun x => !x.1) && (backToKw cpos (keywordEach [] X.env)).all (fun x => x.1.isSome)
      && decide (([e] : List Expr).length + ([] : List Keyword).length + (if ([] : List Keyword).isEmpty then 0 else 1) < 30)) = true := by rfl)
    (hline : (apos.endLine == cpos.line) = true := by rfl) (hs : starEach [e] X.env = (false, eval e X.env) :: starEach [] X.env := by rfl) :
    LE X (.Call (.Attribute o "index" apos) [e] [] cpos) (mM1 rIdxS mo m) := by
  refine PE.weak (pe_bmS PySem.F.plainAttrs_str PySem.F.slot_str_index PySem.F.type_str_index (mt_indexX (W := fun _ _ _ _ => False) hc fun u s' ⟨a, B, sI, pins, σ, H, cls, d, e, I, nb, up, sky, na, os, ag, w⟩ => False.elim w) ho ha hbase hfew hline hs rfl) fun σ H Q ⟨τ, h, Q', s, sh, q, l⟩ => ?_
  refine ⟨τ, h, _, s, sh, q, fun p h1 v H1 ⟨⟨x, ex⟩, q1⟩ g1 r1 s1 => ⟨by subst ex; rw [rel_str.mp r1]; rfl, ?_⟩⟩
  refine ⟨τ, h1, _, s.mono g1.mono, s1, q1, ?_⟩
  rintro ps h2 vs H2 q2 _ g2 rr s2
  unfold rIdxS at q2
  split at q2
  · split at q2
    · rename_i k ek
      obtain ⟨v, rfl, r2⟩ := rr.one
      refine ⟨_, _, rel_str.mp r1, by rw [rel_str.mp r2], fun k' e' => ?_, fun e' => ?_⟩
      · rw [ek] at e'; cases e'
        exact l _ _ _ _ q2 (g1.trans g2) (rel_int.mpr rfl) s2
      · rw [ek] at e'; cases e'
    · exact q2.elim
  · exact q2.elim
end
end N3

namespace N3
open PySem PySem.Spec PyProof.Rows L2

/-! ### what is gone along: a list, a tuple, a text -/
def ones (x : Str) : List PV := (cl x).map fun c => .str (S [c])
def gdS (p : PV) (xs : List PV) : PH → Prop := match p with
  | .ref a => fun h => h a = some (.lst xs)
  | _ => fun _ => True
theorem seqL_walk {K : PySem.W.Frag} {H1 : Hp} {h1 : PH} {p : PV} {v : V} {ps : List PV} (r : Rel K H1 p v) (s : Sim K H1 h1) (e : seqL h1 p = some ps) :
    ∃ a xs, v = .ref a ∧ SqL K H1 a xs ∧ Rels K H1 ps xs ∧ ∀ H h, Mono H1 H → Sim K H h → gdS p ps h → ∃ ys, SqL K H a ys ∧ Rels K H ps ys := by
  cases p with
  | lst qs =>
    simp only [seqL, Option.some.injEq] at e
    subst e
    obtain ⟨a, xs, e1, f, rr⟩ := rel_lst.mp r
    exact ⟨a, xs, e1, f.sq, rr, fun H h m _ _ => ⟨xs, (m.frL f).sq, rr.mono m⟩⟩
  | ref a =>
    obtain ⟨b, xs, e1, f, rr⟩ := seqL_sq r s e
    have ev := rel_ref.mp r
    rw [ev] at e1; cases e1
    refine ⟨a, xs, ev, f, rr, fun H h m s' g => ?_⟩
    obtain ⟨u, e2, ys, rfl, rr'⟩ := s' a _ g
    exact ⟨ys, .of e2, rr'⟩
  | _ => simp [seqL] at e
def tSeqs (K : PySem.W.Frag) (tl : TE) : TI := fun σ H R => tl σ H fun x H1 => ((∃ a xs, x = .ref a ∧ SqL K H1 a xs ∧ (xs.length ≤ sizeLine → R (Itl K a) H1)) ∨ ∃ a xs, x = .ref a ∧ SqT K H1 a xs ∧ (xs.length ≤ sizeLine → R (Itt K a) H1)) ∨ ∃ z, x = .str z ∧ R (Its z) H1
theorem pi_seqs {X : Cx} {tg l : Expr} {tl : TE} (hl : PE X l tl) : PI X tg l (tSeqs X.K tl) := by
  refine ⟨fun pins s σ H R I h => ?_⟩
  refine thn (hl.run pins s σ H _ I h) fun v s1 ⟨x, H1, I1, r1, q1⟩ => ?_
  rcases q1 with (⟨a, xs, rfl, hq, q⟩ | ⟨a, xs, rfl, hq, q⟩) | ⟨z, rfl, q⟩
  · cases r1
    obtain ⟨its, rv, p, hz⟩ := I1.list hq
    exact wpAny_pyIter_list p.isList (pi_one (tk := s1.toks) I1 _ (turn_list a _) ⟨_, Heap.get?_push_size _ rfl, rfl, rfl⟩ (q hz))
  · cases r1
    obtain ⟨its, rv, p, hz⟩ := I1.tuple hq
    exact wpAny_pyIter_tuple (show s1.heap.IsTuple a its.toArray from p) (pi_one (tk := s1.toks) I1 _ (turn_tuple a _) ⟨_, Heap.get?_push_size _ rfl, rfl, rfl⟩ (q hz))
  · obtain ⟨t, rfl⟩ := r1
    cases ha : z.cps.all (· < 128)
    · exact wpAny_pyIter_wide ha (pi_one (tk := s1.toks) I1 _ (turn_str _ z t "str_iterator" (.inr rfl)) ⟨_, Heap.get?_push_size _ rfl, rfl, rfl⟩ q)
    · exact wpAny_pyIter_ascii ha (pi_one (tk := s1.toks) I1 _ (turn_str _ z t "str_ascii_iterator" (.inl rfl)) ⟨_, Heap.get?_push_size _ rfl, rfl, rfl⟩ q)
def mSeqs (m : ME) : MI := fun τ h Q => m τ h fun p h1 => match p with
  | .str x => x.length ≤ SZ ∧ Q (ones x) (fun _ => True) h1
  | .tup xs => Q xs (fun _ => True) h1
  | p => match seqL h1 p with
    | some xs => Q xs (gdS p xs) h1
    | none => False
section
variable {X : Cx} {tg e e2 : Expr} {pos p : Pos} {m : ME}
theorem li_seqs (he : LE X e m) : LI X tg e (mSeqs m) := by
  refine PI.weak (pi_seqs he) fun σ H R ⟨τ, h, Q', s, sh, q, l⟩ => ?_
  refine ⟨τ, h, _, s, sh, q, fun p h1 v H1 q1 g1 r1 s1 => ?_⟩
  split at q1
  · rename_i x
    refine .inr ⟨x, rel_str.mp r1, l _ _ _ _ _ q1.2 g1 s1 ⟨?_, fun i H h hi _ _ _ => ?_, fun H h _ _ _ => ?_, fun i H h y H' p hp _ sh' _ hy => ?_⟩⟩
    · unfold ones; rw [List.length_map, ← cl_length]; exact sz_le q1.1
    · unfold ones at hi; rw [List.length_map, ← cl_length] at hi; exact hi
    · show x.cps.size ≤ _
      unfold ones; rw [List.length_map, ← cl_length]; exact Nat.le_refl _
    · obtain ⟨rfl, c, hc, rfl⟩ := hy
      unfold ones at hp
      rw [List.getElem?_map] at hp
      have : (cl x)[i]? = some c := by unfold cl; rw [Array.getElem?_toList]; exact hc
      rw [this] at hp
      simp only [Option.map_some, Option.some.injEq] at hp
      subst hp
      exact ⟨.refl, sh', rel_str.mpr rfl⟩
  · rename_i xs
    obtain ⟨a, ys, rfl, hq, rr⟩ := rel_tup.mp r1
    refine .inl (.inr ⟨a, ys, rfl, hq, fun hz => l _ _ _ _ _ q1 g1 s1 ⟨by rw [rr.length]; exact hz, fun i H h hi m _ _ => ?_, fun H h m _ _ => ⟨ys, m.sqT hq, by rw [rr.length]; exact Nat.le_refl _⟩, fun i H h y H' p hp m sh' _ hy => ?_⟩⟩)
    · rw [rr.length] at hi
      exact ⟨ys, ys[i], m.sqT hq, List.getElem?_eq_getElem hi⟩
    · obtain ⟨rfl, hy⟩ := hy
      have e := hy ys (m.sqT hq)
      obtain ⟨w, e1, r2⟩ := (rr.mono m).get hp
      rw [e] at e1; cases e1
      exact ⟨.refl, sh', r2⟩
  · split at q1
    · rename_i e
      obtain ⟨a, ys, rfl, hq, rr, later⟩ := seqL_walk r1 s1 e
      refine .inl (.inl ⟨a, ys, rfl, hq, fun hz => l _ _ _ _ _ q1 g1 s1 ⟨by rw [rr.length]; exact hz, fun i H h hi m sm g => ?_, fun H h m sm g => ?_, fun i H h y H' p hp m sm g hy => ?_⟩⟩)
      · obtain ⟨us, hu, ru⟩ := later H h m sm g
        rw [ru.length] at hi
        exact ⟨us, us[i], hu, List.getElem?_eq_getElem hi⟩
      · obtain ⟨us, hu, ru⟩ := later H h m sm g
        exact ⟨us, hu, by rw [ru.length]; exact Nat.le_refl _⟩
      · obtain ⟨us, hu, ru⟩ := later H h m sm g
        obtain ⟨rfl, hy⟩ := hy
        have e := hy us hu
        obtain ⟨w, e1, r2⟩ := ru.get hp
        rw [e] at e1; cases e1
        exact ⟨.refl, sm, r2⟩
    · exact q1.elim
/-- range -/
def rng (lo : Int) (n : Nat) : List PV := (List.range n).map fun i => .int (lo + (i : Nat))
theorem rng_wk {K : PySem.W.Frag} {lo : Int} {n : Nat} {H1 : Hp} (hn : n ≤ SZ) : Wk K (Itr lo n) (rng lo n) (fun _ => True) H1 := by
  refine ⟨by unfold rng; rw [List.length_map, List.length_range]; exact sz_le hn, fun i H h hi _ _ _ => ?_, fun H h _ _ _ => ?_, fun i H h y H' p hp _ sh' _ hy => ?_⟩
  · unfold rng at hi; rw [List.length_map, List.length_range] at hi; exact hi
  · show n ≤ _; unfold rng; rw [List.length_map, List.length_range]; exact Nat.le_refl _
  · obtain ⟨rfl, rfl⟩ := hy
    unfold rng at hp
    rw [List.getElem?_map] at hp
    cases e : (List.range n)[i]? with
    | none => rw [e] at hp; cases hp
    | some j =>
      rw [e] at hp
      obtain ⟨hj, ej⟩ := List.getElem?_eq_some_iff.mp e
      rw [List.getElem_range] at ej
      subst ej
      simp only [Option.map_some, Option.some.injEq] at hp
      subst hp
      exact ⟨.refl, sh', rel_int.mpr rfl⟩
def mRng1 (m : MA) : MI := fun τ h Q => m τ h fun ps h1 => match ps with
  | [.int j] => (-16777216 ≤ j ∧ j ≤ 16777216) ∧ Q (rng 0 j.toNat) (fun _ => True) h1
  | _ => False
def mRng2 (m : MA) : MI := fun τ h Q => m τ h fun ps h1 => match ps with
  | [.int i, .int j] => (-16777216 ≤ i ∧ i ≤ 16777216 ∧ -16777216 ≤ j ∧ j ≤ 16777216 ∧ j - i ≤ 16777216) ∧ Q (rng i (j - i).toNat) (fun _ => True) h1
  | _ => False
theorem li_rng1 {m : MA} (hm : X.mg "range" = none) (ha : LAn X [e] 1 m) (hg : Gl X "range" := by rfl) (hs : starEach [e] X.env = [(false, eval e X.env)] := by rfl) : LI X tg (.Call (.Name "range" p) [e] [] pos) (mRng1 m) := by
  refine PI.weak (pi_range1 hg hm ha hs) fun σ H R ⟨τ, h, Q', s, sh, q, l⟩ => ?_
  refine ⟨τ, h, _, s, sh, q, fun ps h1 vs H1 q1 hl g1 r1 s1 => ?_⟩
  split at q1
  · rename_i j
    obtain ⟨v, rfl, r2⟩ := r1.one
    have ev := rel_int.mp r2
    subst ev
    exact ⟨j, rfl, by omega, by omega, l _ _ _ _ _ q1.2 g1 s1 (rng_wk (by show _ ≤ 16777216; omega))⟩
  · exact q1.elim
theorem li_rng2 {m : MA} (hm : X.mg "range" = none) (ha : LAn X [e, e2] 2 m) (hg : Gl X "range" := by rfl) (hs : starEach [e, e2] X.env = [(false, eval e X.env), (false, eval e2 X.env)] := by rfl) (hs2 : starEach [e2] X.env = [(false, eval e2 X.env)] := by rfl) :
    LI X tg (.Call (.Name "range" p) [e, e2] [] pos) (mRng2 m) := by
  refine PI.weak (pi_range2 hg hm ha hs hs2) fun σ H R ⟨τ, h, Q', s, sh, q, l⟩ => ?_
  refine ⟨τ, h, _, s, sh, q, fun ps h1 vs H1 q1 hl g1 r1 s1 => ?_⟩
  split at q1
  · rename_i i j
    obtain ⟨v, w, rfl, r2, r3⟩ := r1.two
    have ev := rel_int.mp r2
    have ew := rel_int.mp r3
    subst ev ew
    exact ⟨i, j, rfl, ⟨by omega, by omega, by omega, by omega⟩, l _ _ _ _ _ q1.2 g1 s1 (rng_wk (by show _ ≤ 16777216; omega))⟩
  · exact q1.elim
/-- enumerate of a list -/
def enm (xs : List PV) : List PV := xs.zipIdx.map fun x => .tup [.int (x.2 : Nat), x.1]
def mEnum (m : MA) : MI := fun τ h Q => m τ h fun ps h1 => match ps with
  | [p] => (match seqL h1 p with | some xs => xs.length ≤ SZ ∧ Q (enm xs) (gdS p xs) h1 | none => False)
  | _ => False
theorem li_enum {m : MA} {elts : List Expr} {kk : Nat} {tpos : Pos} (hm : X.mg "enumerate" = none) (ha : LAn X [e] 1 m) (hg : Gl X "enumerate" := by rfl) (hs : starEach [e] X.env = [(false, eval e X.env)] := by rfl) :
    LI X (.Tuple elts kk tpos) (.Call (.Name "enumerate" p) [e] [] pos) (mEnum m) := by
  refine PI.weak (pi_enum hg hm ha hs) fun σ H R ⟨τ, h, Q', s, sh, q, l⟩ => ?_
  refine ⟨τ, h, _, s, sh, q, fun ps h1 vs H1 q1 hl g1 r1 s1 => ?_⟩
  split at q1
  · rename_i p
    obtain ⟨v, rfl, r2⟩ := r1.one
    split at q1
    · rename_i xs e
      obtain ⟨a, ys, rfl, hq, rr, later⟩ := seqL_walk r2 s1 e
      have hlen : (enm xs).length = xs.length := by unfold enm; simp
      refine ⟨a, ys, rfl, hq, l _ _ _ _ _ q1.2 g1 s1 ⟨by rw [hlen]; exact sz_le q1.1, fun i H h hi m sm g => ?_, fun H h m sm g => ?_, fun i H h y H' p hp m sm g hy => ?_⟩⟩
      · obtain ⟨us, hu, ru⟩ := later H h m sm g
        rw [hlen, ru.length] at hi
        exact ⟨us, us[i], hu, List.getElem?_eq_getElem hi⟩
      · obtain ⟨us, hu, ru⟩ := later H h m sm g
        exact ⟨us, hu, by rw [hlen, ru.length]; exact Nat.le_refl _⟩
      · obtain ⟨us, hu, ru⟩ := later H h m sm g
        obtain ⟨T, x, rfl, hT, rfl, hy⟩ := hy
        have e := hy us hu
        unfold enm at hp
        rw [List.getElem?_map, List.getElem?_zipIdx] at hp
        cases ex : xs[i]? with
        | none => rw [ex] at hp; cases hp
        | some w =>
          rw [ex] at hp
          simp only [Option.map_some, Option.some.injEq, Nat.zero_add] at hp
          subst hp
          obtain ⟨w', e1, r3⟩ := ru.get ex
          rw [e] at e1; cases e1
          have mm : Mono H (upd H T (.tup [.int (i : Nat), x])) := Mono.new hT
          exact ⟨.new hT, sm.new hT, rel_tup.mpr ⟨T, _, rfl, .inl (.inl upd_same), .cons (rel_int.mpr rfl) (.cons (r3.mono mm) .nil)⟩⟩
    · exact q1.elim
  · exact q1.elim
/-- zip of two lists -/
def mZip (m : MA) : MI := fun τ h Q => m τ h fun ps h1 => match ps with
  | [p, q] => (match seqL h1 p, seqL h1 q with | some xs, some ys => xs.length ≤ SZ ∧ Q (List.zipWith (fun x y => .tup [x, y]) xs ys) (fun h => gdS p xs h ∧ gdS q ys h) h1 | _, _ => False)
  | _ => False
theorem li_zip {m : MA} {elts : List Expr} {kk : Nat} {tpos : Pos} (hm : X.mg "zip" = none) (ha : LAn X [e, e2] 2 m) (hg : Gl X "zip" := by rfl)
    (hs : starEach [e, e2] X.env = (false, eval e X.env) :: starEach [e2] X.env := by rfl) (hpl : (backTo pos (starEach [e2] X.env)).any (·.1) = false := by rfl) :
    LI X (.Tuple elts kk tpos) (.Call (.Name "zip" p) [e, e2] [] pos) (mZip m) := by
  refine PI.weak (pi_zip hg hm ha hs hpl) fun σ H R ⟨τ, h, Q', s, sh, q, l⟩ => ?_
  refine ⟨τ, h, _, s, sh, q, fun ps h1 vs H1 q1 hl g1 r1 s1 => ?_⟩
  split at q1
  · rename_i p p'
    obtain ⟨v, v', rfl, r2, r3⟩ := r1.two
    split at q1
    · rename_i xs ys e e'
      obtain ⟨a, us, rfl, hq, rr, later⟩ := seqL_walk r2 s1 e
      obtain ⟨b, ws, rfl, hq', rr', later'⟩ := seqL_walk r3 s1 e'
      have hlen : (List.zipWith (fun x y => PV.tup [x, y]) xs ys).length = min xs.length ys.length := List.length_zipWith
      refine ⟨a, b, us, ws, rfl, hq, hq', l _ _ _ _ _ q1.2 g1 s1 ⟨by rw [hlen]; exact sz_le (by omega), fun i H h hi m sm g => ?_, fun H h m sm g => ?_, fun i H h y H' p hp m sm g hy => ?_⟩⟩
      · obtain ⟨us1, hu, ru⟩ := later H h m sm g.1
        obtain ⟨ws1, hw, rw1⟩ := later' H h m sm g.2
        rw [hlen, ru.length, rw1.length] at hi
        exact ⟨us1, ws1, us1[i]'(by omega), ws1[i]'(by omega), hu, hw, List.getElem?_eq_getElem (by omega), List.getElem?_eq_getElem (by omega)⟩
      · obtain ⟨us1, hu, ru⟩ := later H h m sm g.1
        obtain ⟨ws1, hw, rw1⟩ := later' H h m sm g.2
        exact ⟨us1, ws1, hu, hw, by rw [hlen, ru.length, rw1.length]; omega⟩
      · obtain ⟨us1, hu, ru⟩ := later H h m sm g.1
        obtain ⟨ws1, hw, rw1⟩ := later' H h m sm g.2
        obtain ⟨T, x, y, rfl, hT, rfl, hx, hy⟩ := hy
        have ex := hx us1 hu
        have ey := hy ws1 hw
        rw [List.getElem?_zipWith] at hp
        obtain ⟨x', ex', rx⟩ := ru.get' ex
        obtain ⟨y', ey', ry⟩ := rw1.get' ey
        rw [ex', ey'] at hp
        simp only [Option.some.injEq] at hp
        subst hp
        have mm : Mono H (upd H T (.tup [x, y])) := Mono.new hT
        exact ⟨.new hT, sm.new hT, rel_tup.mpr ⟨T, _, rfl, .inl (.inl upd_same), .cons (rx.mono mm) (.cons (ry.mono mm) .nil)⟩⟩
    · exact q1.elim
  · exact q1.elim
end
end N3

namespace N3
open PySem PySem.Spec PyProof.Rows L2

/-! ### names of the module that hold an int or a text -/
section
variable {X : Cx} {pos : Pos}
theorem le_glI {x : Str} {i : Int} {t : Tok} (hm : X.mg x = some (.int i t)) (hg : Gl X x := by rfl) (hd : (x == ("__debug__" : Str)) = false := by decide) : LE X (.Name x pos) (mC (.int i)) :=
  le_c (pe_glob (v := .int i) hg hm ⟨t, rfl⟩ hd) fun _ => rel_int.mpr rfl
theorem le_glS {x : Str} {z : Str} {t : Tok} (hm : X.mg x = some (.str z t)) (hg : Gl X x := by rfl) (hd : (x == ("__debug__" : Str)) = false := by decide) : LE X (.Name x pos) (mC (.str z)) :=
  le_c (pe_glob (v := .str z) hg hm ⟨t, rfl⟩ hd) fun _ => rel_str.mpr rfl
end

/-! ### repr of data, dicts too -/
mutual
/-- data that can be read off the heap, no dict of it the modules' own -/
inductive RD (h : Heap) : Value → PyData → Prop
  | none : RD h .none .none
  | bool (b : Bool) : RD h (.bool b) (.bool b)
  | int (i : Int) (t : Tok) : RD h (.int i t) (.int i)
  | str (x : Str) (t : Tok) : RD h (.str x t) (.str x)
  | list {a : Addr} {o : Obj} {vs : Array Value} {n : Nat} {xs : List PyData} : h.get? a = some o → o.cls = .type "list" → o.data = .seq vs n → RDs h vs.toList xs → RD h (.ref a) (.list xs)
  | tuple {a : Addr} {o : Obj} {vs : Array Value} {n : Nat} {xs : List PyData} : h.get? a = some o → o.cls = .type "tuple" → o.data = .seq vs n → RDs h vs.toList xs → RD h (.ref a) (.tuple xs)
  | dict {a : Addr} {o : Obj} {es : Array DictEntry} {n : Nat} {kvs : List (PyData × PyData)} : (a == sysModules) = false → h.get? a = some o → o.cls = .type "dict" → o.data = .dict es n →
      RDs h (es.toList.map (·.key)) (kvs.map (·.1)) → RDs h (es.toList.map (·.val)) (kvs.map (·.2)) → RD h (.ref a) (.dict kvs)
inductive RDs (h : Heap) : List Value → List PyData → Prop
  | nil : RDs h [] []
  | cons {v : Value} {vs : List Value} {d : PyData} {ds : List PyData} : RD h v d → RDs h vs ds → RDs h (v :: vs) (d :: ds)
end
section
variable {prog : Program} {w : World} {h0 : Heap}
mutual
theorem RD.reads : ∀ {v : Value} {d : PyData}, RD h0 v d → ∃ as, Reads h0 v d as
  | _, _, .none => ⟨_, .none⟩
  | _, _, .bool b => ⟨_, .bool b⟩
  | _, _, .int i t => ⟨_, .int i t⟩
  | _, _, .str x t => ⟨_, .str x t⟩
  | _, _, .list h1 h2 h3 h4 => let ⟨_, r⟩ := RDs.reads h4; ⟨_, .list h1 h2 h3 r⟩
  | _, _, .tuple h1 h2 h3 h4 => let ⟨_, r⟩ := RDs.reads h4; ⟨_, .tuple h1 h2 h3 r⟩
  | _, _, .dict _ h1 h2 h3 h4 h5 => let ⟨_, r⟩ := RDs.reads h4; let ⟨_, q⟩ := RDs.reads h5; ⟨_, .dict h1 h2 h3 r q⟩
theorem RDs.reads : ∀ {vs : List Value} {ds : List PyData}, RDs h0 vs ds → ∃ as, ReadsAll h0 vs ds as
  | _, _, .nil => ⟨_, .nil⟩
  | _, _, .cons h1 h2 => let ⟨_, r⟩ := RD.reads h1; let ⟨_, q⟩ := RDs.reads h2; ⟨_, .cons r q⟩
end
mutual
theorem RD.shows : ∀ {v : Value} {d : PyData}, RD h0 v d → d.showable = true → d.shown.length ≤ sizeLine → ∃ bs, ReadAtMost h0 d.depth bs ∧ ReprK prog w bs h0 d.depth v d.shown
  | _, _, .none, _, _ => ⟨[], (fun _ z => nomatch z), by simp only [PyData.shown]; exact .of_is ReprIs.none _ _ _⟩
  | _, _, .bool b, _, _ => ⟨[], (fun _ z => nomatch z), by simp only [PyData.shown]; exact .of_is (ReprIs.bool b) _ _ _⟩
  | _, _, .int i t, hs, _ => ⟨[], (fun _ z => nomatch z), by simp only [PyData.shown]; exact .of_is (ReprIs.int t (by simpa [PyData.showable] using hs)) _ _ _⟩
  | _, _, .str x t, _, hz => ⟨[], (fun _ z => nomatch z), by simp only [PyData.shown]; exact .of_is (ReprIs.str x t (by simpa only [PyData.shown] using hz)) _ _ _⟩
  | _, _, .list (a := a) (vs := ws) (xs := ds) g1 g2 g3 g4, hs, hz => by
    have room : (listText (PyData.shownAll ds)).length ≤ sizeLine := by simpa only [PyData.shown] using hz
    obtain ⟨bs, hb, hk⟩ := RDs.shows g4 (by simpa [PyData.showable] using hs) fun t ht => Nat.le_trans (listText_mem_le ht) room
    obtain ⟨_, r⟩ := RD.reads (.list g1 g2 g3 g4)
    have out : a ∉ bs := not_mem_of_deeper r (by simp only [PyData.depth]; omega) hb
    refine ⟨a :: bs, ReadAtMost.cons r (by simp only [PyData.depth]; omega) hb, ?_⟩
    simp only [PyData.depth, PyData.shown]
    obtain ⟨l⟩ := ws
    cases l with
    | nil =>
      cases (show RDs h0 [] ds from g4)
      simp only [PyData.shownAll, listText_nil]
      exact ReprK.listEmpty g1 g2 g3
    | cons x l => exact ReprK.list g1 g2 g3 out (by simpa using hk.length_eq) fun i y e => hk.item i y (by simpa using e)
  | _, _, .tuple (a := a) (xs := ds) g1 g2 g3 g4, hs, hz => by
    have room : (tupleText (PyData.shownAll ds)).length ≤ sizeLine := by simpa only [PyData.shown] using hz
    obtain ⟨bs, hb, hk⟩ := RDs.shows g4 (by simpa [PyData.showable] using hs) fun t ht => Nat.le_trans (tupleText_mem_le ht) room
    obtain ⟨_, r⟩ := RD.reads (.tuple g1 g2 g3 g4)
    have out : a ∉ bs := not_mem_of_deeper r (by simp only [PyData.depth]; omega) hb
    refine ⟨a :: bs, ReadAtMost.cons r (by simp only [PyData.depth]; omega) hb, ?_⟩
    simp only [PyData.depth, PyData.shown]
    exact ReprK.tuple g1 g2 g3 out hk
  | _, _, .dict (a := a) (es := es) (kvs := kvs) g0 g1 g2 g3 g4 g5, hs, hz => by
    have room : (dictText (PyData.shownKv kvs)).length ≤ sizeLine := by simpa only [PyData.shown] using hz
    obtain ⟨s1, s2⟩ := PyData.showableKv_split kvs (by simpa [PyData.showable] using hs)
    obtain ⟨b1, hb1, k1⟩ := RDs.shows g4 s1 fun t ht => let ⟨p, hp, hl⟩ := PyData.shownKv_key_le kvs t ht; Nat.le_trans hl (Nat.le_trans (dictText_mem_le hp) room)
    obtain ⟨b2, hb2, k2⟩ := RDs.shows g5 s2 fun t ht => let ⟨p, hp, hl⟩ := PyData.shownKv_val_le kvs t ht; Nat.le_trans hl (Nat.le_trans (dictText_mem_le hp) room)
    obtain ⟨_, r⟩ := RD.reads (.dict g0 g1 g2 g3 g4 g5)
    have hb : ReadAtMost h0 (PyData.depthKv kvs) (b1 ++ b2) := (hb1.mono (PyData.depthAll_keys_le kvs)).append (hb2.mono (PyData.depthAll_vals_le kvs))
    have out : a ∉ b1 ++ b2 := not_mem_of_deeper r (by simp only [PyData.depth]; omega) hb
    refine ⟨a :: (b1 ++ b2), ReadAtMost.cons r (by simp only [PyData.depth]; omega) hb, ?_⟩
    simp only [PyData.depth, PyData.shown, PyData.shownKv_eq]
    exact ReprK.dict g1 g2 g3 g0 out (ReprEntriesK.of_two es.toList _ _ (k1.more_le (fun b z => List.mem_append_left _ z) (PyData.depthAll_keys_le kvs)) (k2.more_le (fun b z => List.mem_append_right _ z) (PyData.depthAll_vals_le kvs)))
theorem RDs.shows : ∀ {vs : List Value} {ds : List PyData}, RDs h0 vs ds → PyData.showableAll ds = true → (∀ t ∈ PyData.shownAll ds, t.length ≤ sizeLine) → ∃ bs, ReadAtMost h0 (PyData.depthAll ds) bs ∧ ReprAllK prog w bs h0 (PyData.depthAll ds) vs (PyData.shownAll ds)
  | _, _, .nil, _, _ => ⟨[], (fun _ z => nomatch z), by simp only [PyData.shownAll]; exact .nil⟩
  | _, _, .cons (d := d) (ds := ds) g1 g2, hs, hz => by
    have s12 : d.showable = true ∧ PyData.showableAll ds = true := by simpa [PyData.showableAll] using hs
    obtain ⟨b1, hb1, k1⟩ := RD.shows g1 s12.1 (hz _ (by simp only [PyData.shownAll]; exact List.mem_cons_self))
    obtain ⟨b2, hb2, k2⟩ := RDs.shows g2 s12.2 fun t ht => hz t (by simp only [PyData.shownAll]; exact List.mem_cons_of_mem _ ht)
    refine ⟨b1 ++ b2, ?_, ?_⟩
    · simp only [PyData.depthAll]
      exact (hb1.mono (Nat.le_max_left _ _)).append (hb2.mono (Nat.le_max_right _ _))
    · simp only [PyData.depthAll, PyData.shownAll]
      exact .cons ((k1.more fun b z => List.mem_append_left _ z).level_le (Nat.le_max_left _ _)) (k2.more_le (fun b z => List.mem_append_right _ z) (Nat.le_max_right _ _))
end
end
mutual
/-- data, dicts too -/
def okR : PV → Bool
  | .non => true
  | .bl _ => true
  | .int _ => true
  | .str _ => true
  | .tup ps => okRs ps
  | .lst ps => okRs ps
  | .dct ks vs => decide (ks.length = vs.length) && okRs vs
  | _ => false
def okRs : List PV → Bool
  | [] => true
  | p :: ps => okR p && okRs ps
end
section
variable {X : Cx} {pins : List (Addr × Obj)} {σ : L2.St} {H : Hp} {s : Shared}
/-- a dict's keys and values, read off -/
theorem dict_rd {P : Program} {w : World} {h : Heap} {es : List DictEntry} {ws : List (Key × Value)} (hp : Pairs (mixKind P w) es ws) : ∀ {kvs : List (Key × V)}, KV kvs ws →
    RDs h (es.map (·.key)) (kvs.map fun kv => keyD kv.1) ∧ Vals (kvs.map (·.2)) (es.map (·.val)) := by
  induction hp with
  | nil =>
    intro kvs r
    unfold KV at r
    cases r
    exact ⟨.nil, .nil⟩
  | @cons e w' es ws h1 h2 t ih =>
    intro kvs r
    unfold KV at r
    cases r with
    | @cons kv _ kvs _ r1 r2 =>
      obtain ⟨i1, i2⟩ := ih r2
      have q1 : RD h e.key (keyD kv.1) := by
        rw [r1.1]
        rcases keyIs_shape h1 with ⟨i, t', e1, e2⟩ | ⟨x, t', e1, e2⟩
        · rw [e1, e2]; exact .int i t'
        · rw [e1, e2]; exact .str x t'
      have q2 : L2.RelV kv.2 e.val := by rw [h2]; exact r1.2
      exact ⟨.cons q1 i1, .cons q2 i2⟩
theorem zip_fst {α β : Type} : ∀ {xs : List α} {ys : List β}, xs.length = ys.length → (xs.zip ys).map (·.1) = xs
  | [], [], _ => rfl
  | x :: xs, y :: ys, h => by simp only [List.zip_cons_cons, List.map_cons, zip_fst (xs := xs) (ys := ys) (by simpa using h)]
  | [], _ :: _, h => by simp at h
  | _ :: _, [], h => by simp at h
theorem zip_snd {α β : Type} : ∀ {xs : List α} {ys : List β}, xs.length = ys.length → (xs.zip ys).map (·.2) = ys
  | [], [], _ => rfl
  | x :: xs, y :: ys, h => by simp only [List.zip_cons_cons, List.map_cons, zip_snd (xs := xs) (ys := ys) (by simpa using h)]
  | [], _ :: _, h => by simp at h
  | _ :: _, [], h => by simp at h
theorem toDs_length : ∀ ps : List PV, (toDs ps).length = ps.length
  | [] => by simp only [toDs, List.length_nil]
  | p :: ps => by simp only [toDs, List.length_cons, toDs_length ps]
mutual
theorem Rel.rd (I : Inv X pins σ H s) : ∀ (p : PV) (v : V) (u : Value), okR p = true → Rel X.K H p v → RelV v u → RD s.heap u (toD p)
  | .non, _, _, _, r, rv => by rw [rel_non.mp r] at rv; cases rv; exact .none
  | .bl b, _, _, _, r, rv => by rw [rel_bl.mp r] at rv; cases rv; exact .bool b
  | .int i, _, _, _, r, rv => by rw [rel_int.mp r] at rv; obtain ⟨t, rfl⟩ := rv; exact .int i t
  | .str x, _, _, _, r, rv => by rw [rel_str.mp r] at rv; obtain ⟨t, rfl⟩ := rv; exact .str x t
  | .tup ps, _, _, f, r, rv => by
    obtain ⟨a, xs, rfl, hq, rr⟩ := rel_tup.mp r
    cases rv
    simp only [okR] at f
    simp only [toD]
    obtain ⟨its, rx, ⟨o, e, c, n, d⟩, _⟩ := I.tuple hq
    exact .tuple e c d (Rels.rd I ps xs its f rr rx)
  | .lst ps, _, _, f, r, rv => by
    obtain ⟨a, xs, rfl, hq, rr⟩ := rel_lst.mp r
    cases rv
    simp only [okR] at f
    simp only [toD]
    obtain ⟨its, rx, ⟨o, n, e, c, _, d⟩, _⟩ := I.list hq.sq
    exact .list e c d (Rels.rd I ps xs its f rr rx)
  | .dct ks vs, _, _, f, r, rv => by
    obtain ⟨a, kvs, rfl, ⟨o, hq⟩, ek, rr⟩ := rel_dct.mp r
    cases rv
    simp only [okR, Bool.and_eq_true, decide_eq_true_eq] at f
    simp only [toD]
    obtain ⟨hs, hgd, hx, es, ep, ws, hdt, hsz, kv, o', es', e', _, d', _, pr, _⟩ := I.frzK hq
    rw [hgd] at e'; cases e'
    rw [hdt] at d'; injection d' with d1 _; subst d1
    obtain ⟨q1, q2⟩ := dict_rd (h := s.heap) pr kv
    have len : (ks.map keyD).length = (toDs vs).length := by rw [List.length_map, toDs_length, f.1]
    refine .dict hs hgd hx.1 hdt ?_ ?_
    · rw [zip_fst len, ek, List.map_map]; exact q1
    · rw [zip_snd len]; exact Rels.rd I vs _ _ f.2 rr q2
  | .ref _, _, _, f, _, _ => by simp [okR] at f
  | .ty _, _, _, f, _, _ => by simp [okR] at f
theorem Rels.rd (I : Inv X pins σ H s) : ∀ (ps : List PV) (vs : List V) (us : List Value), okRs ps = true → Rels X.K H ps vs → Vals vs us → RDs s.heap us (toDs ps)
  | [], _, _, _, r, rv => by rw [r.len0] at rv; cases rv; simp only [toDs]; exact .nil
  | p :: ps, _, _, f, r, rv => by
    obtain ⟨v, vs, rfl, r1, r2⟩ := r.uncons
    cases rv with
    | cons q1 q2 =>
      simp only [okRs, Bool.and_eq_true] at f
      simp only [toDs]
      exact .cons (Rel.rd I p v _ f.1 r1 q1) (Rels.rd I ps vs _ f.2 r2 q2)
end
end
/-- what repr asks of a value that stands so in the heap -/
def oRepr (K : PySem.W.Frag) : List V → Hp → VK → Prop := fun xs H Q => ∃ (x : V) (d : PyData), xs = [x] ∧ d.showable = true ∧ d.depth ≤ 64 ∧ d.shown.length ≤ sizeLine ∧ Q (.str d.shown) H ∧
  ((∃ p, okR p = true ∧ Rel K H p x ∧ d = toD p) ∨ (∃ a ys ps, x = .ref a ∧ H a = some (.lst ys) ∧ okRs ps = true ∧ Rels K H ps ys ∧ d = .list (toDs ps)))
theorem repr_rd {prog : Program} {w : World} {A : Around} {E : Value → Shared → Prop} {s : Shared} {Q : Value → Shared → Prop} {u : Value} {d : PyData} (r : RD s.heap u d) (hs : d.showable = true) (hG : A.guards = some []) (hu : A.units + (d.depth + 1) < cLine) (hl : d.shown.length ≤ sizeLine)
    (hQ : ∀ h' t tk, (∀ b o, s.heap.get? b = some o → h'.get? b = some o) → Q (.str d.shown t) { s with heap := h', toks := tk }) : wpAny (model prog w) A (call (.builtin "repr") [u]) Q E s := by
  cases r with
  | none => exact P.repr_of_none (by have := hQ s.heap s.toks (s.toks + 1) fun _ _ e => e; simpa only [PyData.shown] using this)
  | bool b => exact P.repr_of_bool (by have := hQ s.heap s.toks (s.toks + 1) fun _ _ e => e; simpa only [PyData.shown] using this)
  | int i t => exact P.repr_of_int (by simpa [PyData.showable] using hs) (by have := hQ s.heap s.toks (s.toks + 1) fun _ _ e => e; simpa only [PyData.shown] using this)
  | str y t => exact P.repr_of_str (hsz := by simpa only [PyData.shown] using hl) (by have := hQ s.heap s.toks (s.toks + 1) fun _ _ e => e; simpa only [PyData.shown] using this)
  | @list a o ws n ds g1 g2 g3 g4 =>
    obtain ⟨_, r⟩ := RD.reads (.list g1 g2 g3 g4)
    have room : (listText (PyData.shownAll ds)).length ≤ sizeLine := by simpa only [PyData.shown] using hl
    obtain ⟨bs, hb, hk⟩ := RDs.shows (prog := prog) (w := w) g4 (by simpa [PyData.showable] using hs) fun t ht => Nat.le_trans (listText_mem_le ht) room
    have out : a ∉ bs := not_mem_of_deeper r (by simp only [PyData.depth]; omega) hb
    simp only [PyData.depth] at hu
    simp only [PyData.shown] at hQ
    refine call_repr_slot (by omega) ⟨o, g1, g2⟩ F.slot_list_repr.toG ?_
    obtain ⟨l⟩ := ws
    cases l with
    | nil =>
      cases (show RDs s.heap [] ds from g4)
      simp only [PyData.shownAll, listText_nil] at hQ
      exact call_list_repr_empty ⟨o, g1, g2⟩ g1 g3 ⟨_, _, rfl, hQ s.heap _ _ fun _ _ e => e⟩
    | cons x l =>
      exact call_list_reprK g1 g2 g3 out (by simpa using hk.length_eq) (fun i y e => hk.item i y (by simpa using e)) hG (fun b _ => Clear.nil b) (by show A.units + 1 + _ < cLine; omega) (fun _ _ e => e) (fun h' t tk hk' => ⟨_, _, rfl, hQ h' t tk hk'⟩) room
  | @tuple a o ws n ds g1 g2 g3 g4 =>
    obtain ⟨_, r⟩ := RD.reads (.tuple g1 g2 g3 g4)
    have room : (tupleText (PyData.shownAll ds)).length ≤ sizeLine := by simpa only [PyData.shown] using hl
    obtain ⟨bs, hb, hk⟩ := RDs.shows (prog := prog) (w := w) g4 (by simpa [PyData.showable] using hs) fun t ht => Nat.le_trans (tupleText_mem_le ht) room
    have out : a ∉ bs := not_mem_of_deeper r (by simp only [PyData.depth]; omega) hb
    simp only [PyData.depth] at hu
    simp only [PyData.shown] at hQ
    exact call_repr_slot (by omega) ⟨o, g1, g2⟩ F.slot_tuple_repr (call_tuple_reprK g1 g2 g3 out hk hG (fun b _ => Clear.nil b) (by show A.units + 1 + _ < cLine; omega) (fun _ _ e => e) (fun h' t tk hk' => ⟨_, _, rfl, hQ h' t tk hk'⟩) room)
  | @dict a o es n kvs g0 g1 g2 g3 g4 g5 =>
    obtain ⟨_, r⟩ := RD.reads (.dict g0 g1 g2 g3 g4 g5)
    have room : (dictText (PyData.shownKv kvs)).length ≤ sizeLine := by simpa only [PyData.shown] using hl
    obtain ⟨s1, s2⟩ := PyData.showableKv_split kvs (by simpa [PyData.showable] using hs)
    obtain ⟨b1, hb1, k1⟩ := RDs.shows (prog := prog) (w := w) g4 s1 fun t ht => let ⟨p, hp, hl⟩ := PyData.shownKv_key_le kvs t ht; Nat.le_trans hl (Nat.le_trans (dictText_mem_le hp) room)
    obtain ⟨b2, hb2, k2⟩ := RDs.shows (prog := prog) (w := w) g5 s2 fun t ht => let ⟨p, hp, hl⟩ := PyData.shownKv_val_le kvs t ht; Nat.le_trans hl (Nat.le_trans (dictText_mem_le hp) room)
    have hb : ReadAtMost s.heap (PyData.depthKv kvs) (b1 ++ b2) := (hb1.mono (PyData.depthAll_keys_le kvs)).append (hb2.mono (PyData.depthAll_vals_le kvs))
    have out : a ∉ b1 ++ b2 := not_mem_of_deeper r (by simp only [PyData.depth]; omega) hb
    simp only [PyData.depth] at hu
    simp only [PyData.shown, PyData.shownKv_eq] at hQ
    exact call_repr_slot (by omega) ⟨o, g1, g2⟩ F.slot_dict_repr (call_dict_reprK g1 g2 g3 g0 out (ReprEntriesK.of_two es.toList _ _ (k1.more_le (fun b z => List.mem_append_left _ z) (PyData.depthAll_keys_le kvs)) (k2.more_le (fun b z => List.mem_append_right _ z) (PyData.depthAll_vals_le kvs))) hG (fun b _ => Clear.nil b)
      (by show A.units + 1 + _ < cLine; omega) (fun _ _ e => e) (fun h' t tk hk' => ⟨_, _, rfl, hQ h' t tk hk'⟩) (by rw [← PyData.shownKv_eq]; exact room))
theorem call_reprA {X : Cx} (hG : X.A.guards = some []) (hu : X.A.units + 66 < cLine) : CallR X (.builtin "repr") (oRepr X.K) := by
  intro pins s σ H xs us Q I rx h
  obtain ⟨x, d, rfl, hs, hz, hl, q, h⟩ := h
  obtain ⟨u, rfl, ru⟩ := vals1 rx
  have rd : RD s.heap u d := by
    rcases h with ⟨p, ok, r, rfl⟩ | ⟨a, ys, ps, rfl, ha, ok, rr, rfl⟩
    · exact Rel.rd I p x u ok r ru
    · cases ru
      obtain ⟨its, rx, ⟨o, n, e, c, _, dd⟩, _⟩ := I.list (.of ha)
      exact .list e c dd (Rels.rd I ps ys its ok rr rx)
  exact repr_rd rd hs hG (by omega) hl fun h' t tk hk => ⟨.str _, H, I.kept hk, ⟨_, rfl⟩, q⟩
/-- a list that may change, as it stands -/
def vwL (h : PH) : PV → PV
  | .ref a => match h a with | some (.lst xs) => .lst xs | _ => .ref a
  | p => p
def rRepr : PRA := fun ps h Q => match ps with
  | [p] => (okR (vwL h p) = true ∧ (toD (vwL h p)).showable = true ∧ (toD (vwL h p)).depth ≤ 64 ∧ (toD (vwL h p)).shown.length ≤ SZ) ∧ Q (.str (toD (vwL h p)).shown) h
  | _ => False
theorem lf_repr {K : PySem.W.Frag} : LfA K (oRepr K) rRepr := by
  intro xs H ps h Q' Q rp s r l
  unfold rRepr at r
  split at r
  · rename_i p
    obtain ⟨v, rfl, r1⟩ := rp.one
    obtain ⟨⟨f, hs, hz, hl⟩, r⟩ := r
    refine ⟨v, _, rfl, hs, hz, sz_le hl, l _ _ _ _ r .refl (rel_str.mpr rfl) s, ?_⟩
    cases p with
    | ref a =>
      simp only [vwL] at f ⊢
      cases e : h a with
      | none => rw [e] at f; simp [okR] at f
      | some o =>
        cases o with
        | lst ys =>
          obtain ⟨u, e1, zs, rfl, rr⟩ := s a _ e
          simp only [e, okR] at f
          exact .inr ⟨a, zs, ys, rel_ref.mp r1, e1, f, rr, by simp only [toD]⟩
        | dct _ _ => simp [e, okR] at f
        | ins _ _ _ => simp [e, okR] at f
        | lck _ _ => simp [e, okR] at f
        | xd _ _ => simp [e, okR] at f
        | tab _ => simp [e, okR] at f
        | dn _ _ _ _ => simp [e, okR] at f
    | _ => exact .inl ⟨_, f, r1, rfl⟩
  · exact r.elim

/-! ### list(..), tuple(..), sum, int, str -/
def listed (h : PH) : PV → Option (List PV)
  | .tup xs => some xs
  | p => seqL h p
theorem listed_sq {K : PySem.W.Frag} {H : Hp} {h : PH} {p : PV} {v : V} {ps : List PV} (r : Rel K H p v) (s : Sim K H h) (e : listed h p = some ps) : ∃ a xs, v = .ref a ∧ (SqL K H a xs ∨ SqT K H a xs) ∧ Rels K H ps xs := by
  cases p with
  | tup qs =>
    simp only [listed, Option.some.injEq] at e
    subst e
    obtain ⟨a, xs, e1, f, rr⟩ := rel_tup.mp r
    exact ⟨a, xs, e1, .inr f, rr⟩
  | _ =>
    obtain ⟨a, xs, e1, f, rr⟩ := seqL_sq r s e
    exact ⟨a, xs, e1, .inl f, rr⟩
def rListOf : PRA := fun ps h Q => match ps with
  | [p] => (match listed h p with | some xs => Q (.lst xs) h | none => False)
  | _ => False
/-- .. one that may change -/
def rListOfM : PRA := fun ps h Q => match ps with
  | [p] => (match listed h p with | some xs => ∀ a, h a = none → Q (.ref a) (up h a (.lst xs)) | none => False)
  | _ => False
def oListOf (K : PySem.W.Frag) : List V → Hp → VK → Prop := fun xs H Q => ∃ p ys, xs = [.ref p] ∧ (SqL K H p ys ∨ SqT K H p ys) ∧ ∀ l, H l = none → Q (.ref l) (upd H l (.lst ys))
theorem kf_listOf {K : PySem.W.Frag} : KfA K (oListOf K) rListOf := by
  intro xs H ps h Q' Q rp s r l
  unfold rListOf at r
  split at r
  · split at r
    · rename_i e
      obtain ⟨v, rfl, r1⟩ := rp.one
      obtain ⟨a, ys, rfl, hq, rr⟩ := listed_sq r1 s e
      exact ⟨a, ys, rfl, hq, fun c hc => keep_l l s rr r hc⟩
    · exact r.elim
  · exact r.elim
theorem kf_listOfM {K : PySem.W.Frag} : KfA K (oListOf K) rListOfM := by
  intro xs H ps h Q' Q rp s r l
  unfold rListOfM at r
  split at r
  · split at r
    · rename_i e
      obtain ⟨v, rfl, r1⟩ := rp.one
      obtain ⟨a, ys, rfl, hq, rr⟩ := listed_sq r1 s e
      exact ⟨a, ys, rfl, hq, fun c hc => make_l l s rr r hc⟩
    · exact r.elim
  · exact r.elim
def rTupOf : PRA := fun ps h Q => match ps with
  | [p] => (match listed h p with | some xs => Q (.tup xs) h | none => False)
  | _ => False
def oTupOf (K : PySem.W.Frag) : List V → Hp → VK → Prop := fun xs H Q => ∃ p ys, xs = [.ref p] ∧ ((SqL K H p ys ∧ ∀ l, H l = none → Q (.ref l) (upd H l (.tup ys))) ∨ (SqT K H p ys ∧ Q (.ref p) H))
theorem lf_tupOf {K : PySem.W.Frag} : LfA K (oTupOf K) rTupOf := by
  intro xs H ps h Q' Q rp s r l
  unfold rTupOf at r
  split at r
  · rename_i p
    obtain ⟨v, rfl, r1⟩ := rp.one
    cases p with
    | tup qs =>
      obtain ⟨a, ys, rfl, hq, rr⟩ := rel_tup.mp r1
      exact ⟨a, ys, rfl, .inr ⟨hq, l _ _ _ _ r .refl (rel_tup.mpr ⟨a, ys, rfl, hq, rr⟩) s⟩⟩
    | _ =>
      simp only [listed] at r
      split at r
      · rename_i e
        obtain ⟨a, ys, rfl, hq, rr⟩ := seqL_sq r1 s e
        exact ⟨a, ys, rfl, .inl ⟨hq, fun c hc => make_t l s rr r hc⟩⟩
      · exact r.elim
  · exact r.elim
def rSumI : PRA := fun ps h Q => match ps with
  | [p] => (match seqL h p with | some xs => ∃ ns : List Int, xs = ns.map PV.int ∧ Q (.int ns.sum) h | none => False)
  | _ => False
theorem lf_sum {K : PySem.W.Frag} : LfA K (rSum K) rSumI := by
  intro xs H ps h Q' Q rp s r l
  unfold rSumI at r
  split at r
  · split at r
    · rename_i e
      obtain ⟨v, rfl, r1⟩ := rp.one
      obtain ⟨a, ys, rfl, hq, rr⟩ := seqL_sq r1 s e
      obtain ⟨ns, rfl, r⟩ := r
      rw [rels_ints rr] at hq
      exact ⟨a, ns, rfl, hq, l _ _ _ _ r .refl (rel_int.mpr rfl) s⟩
    · exact r.elim
  · exact r.elim
section
variable {X : Cx} {pos p : Pos} {e : Expr} {m : MA}
theorem le_len (hm : X.mg "len" = none) (ha : LAn X [e] 1 m) (hg : Gl X "len" := by rfl) (h1 : starEach [e] X.env = (false, eval e X.env) :: starEach [] X.env := by rfl) : LE X (.Call (.Name "len" p) [e] [] pos) (mBlt rLen m) :=
  le_blt call_len lf_len hm ha hg (h1 := h1) (h2 := rfl)
theorem le_repr (hG : X.A.guards = some []) (hu : X.A.units + 66 < cLine) (hm : X.mg "repr" = none) (ha : LAn X [e] 1 m) (hg : Gl X "repr" := by rfl) (h1 : starEach [e] X.env = (false, eval e X.env) :: starEach [] X.env := by rfl) :
    LE X (.Call (.Name "repr" p) [e] [] pos) (mBlt rRepr m) := le_blt (call_reprA hG hu) lf_repr hm ha hg (h1 := h1) (h2 := rfl)
theorem le_sum (hc : X.calm = true) (hm : X.mg "sum" = none) (ha : LAn X [e] 1 m) (hg : Gl X "sum" := by rfl) (h1 : starEach [e] X.env = (false, eval e X.env) :: starEach [] X.env := by rfl) :
    LE X (.Call (.Name "sum" p) [e] [] pos) (mBlt rSumI m) := le_blt (cr_sum hc) lf_sum hm ha hg (h1 := h1) (h2 := rfl)
theorem le_list (hm : X.mg "list" = none) (ha : LAn X [e] 1 m) (hg : Gl X "list" := by rfl) (h1 : starEach [e] X.env = (false, eval e X.env) :: starEach [] X.env := by rfl) :
    LE X (.Call (.Name "list" p) [e] [] pos) (mBlt rListOf m) := le_tyK call_list_of kf_listOf hm ha hg (h1 := h1) (h2 := rfl)
theorem le_listM (hm : X.mg "list" = none) (ha : LAn X [e] 1 m) (hg : Gl X "list" := by rfl) (h1 : starEach [e] X.env = (false, eval e X.env) :: starEach [] X.env := by rfl) :
    LE X (.Call (.Name "list" p) [e] [] pos) (mBlt rListOfM m) := le_tyK call_list_of kf_listOfM hm ha hg (h1 := h1) (h2 := rfl)
theorem le_tuple (hm : X.mg "tuple" = none) (ha : LAn X [e] 1 m) (hg : Gl X "tuple" := by rfl) (h1 : starEach [e] X.env = (false, eval e X.env) :: starEach [] X.env := by rfl) :
    LE X (.Call (.Name "tuple" p) [e] [] pos) (mBlt rTupOf m) := le_ty call_tuple_of lf_tupOf hm ha hg (h1 := h1) (h2 := rfl)
end

/-! ### x[::-1], a list that may change -/
def mRevM (m : ME) : ME := fun τ h Q => m τ h fun p h1 => match seqL h1 p with
    | some xs => ∀ a, h1 a = none → Q (.ref a) (up h1 a (.lst xs.reverse))
    | none => False
section
variable {X : Cx} {pos p1 p2 p3 : Pos} {e : Expr}
theorem le_revM {m : ME} {k : Nat} (he : LE X e m) : LE X (.Subscript e (.Slice none none (some (.UnaryOp .USub (.Constant (.int 1) k p1) p2)) p3) pos) (mRevM m) := by
  refine PE.weak (PE.kp (pe_revA he)) fun σ H Q ⟨τ, h, Q', s, sh, q, l⟩ => ?_
  refine ⟨τ, h, _, s, sh, q, fun p h1 v H1 q1 g1 r1 s1 => ?_⟩
  split at q1
  · rename_i e
    obtain ⟨a, ys, rfl, hq, rr⟩ := seqL_sq r1 s1 e
    exact .inl ⟨a, ys, rfl, hq, fun c hc => make_l (l.mono g1) s1 rr.reverse q1 hc⟩
  · exact q1.elim
end

/-! ### {k: v, ..}, keys ints and texts, one dict that may change -/
abbrev MPs := PSt → PH → (List (Key × PV) → PH → Prop) → Prop
def mPs : List (ME × ME) → MPs
  | [], _, h, Q => Q [] h
  | (mk, mv) :: r, τ, h, Q => mk τ h fun q h1 => mv τ h1 fun p h2 => match kOf q with | some k => mPs r τ h2 fun kvs h3 => Q ((k, p) :: kvs) h3 | none => False
def mDispM (l : List (ME × ME)) : ME := fun τ h Q => mPs l τ h fun kvs h1 => (kvs.map (·.1)).Nodup ∧ ∀ a, h1 a = none → Q (.ref a) (up h1 a (.dct (kvs.map (·.1)) (kvs.map (·.2))))
theorem merge_nd : ∀ (more acc : List (Key × V)), ((acc ++ more).map (·.1)).Nodup → mergeK acc more = acc ++ more
  | [], acc, _ => by show acc = acc ++ []; rw [List.append_nil]
  | p :: r, acc, h => by
    have e : putK acc p.1 p.2 = acc ++ [p] := by
      refine putK_new _ ?_
      have hn : p.1 ∉ acc.map (·.1) := by
        rw [List.map_append, List.map_cons] at h
        exact fun z => (List.nodup_append.mp h).2.2 _ z _ List.mem_cons_self rfl
      clear h
      induction acc with
      | nil => rfl
      | cons q acc ih =>
        rw [List.map_cons, List.mem_cons, not_or] at hn
        rw [valV_neg (fun z => hn.1 z.symm)]
        exact ih hn.2
    show mergeK (putK acc p.1 p.2) r = _
    rw [e, merge_nd r (acc ++ [p]) (by rw [List.append_assoc]; exact h), List.append_assoc]; rfl
def RelP (K : PySem.W.Frag) (H : Hp) : List (Key × PV) → List (V × V) → Prop
  | [], ps => ps = []
  | x :: xs, ps => ∃ v vs, ps = (kV x.1, v) :: vs ∧ Rel K H x.2 v ∧ RelP K H xs vs
theorem RelP.mono {K : PySem.W.Frag} {H H' : Hp} (m : Mono H H') : ∀ {xs : List (Key × PV)} {ps : List (V × V)}, RelP K H xs ps → RelP K H' xs ps
  | [], _, h => h
  | x :: xs, _, ⟨v, vs, e, h1, h2⟩ => ⟨v, vs, e, h1.mono m, RelP.mono m h2⟩
theorem RelP.pairs {K : PySem.W.Frag} {H : Hp} : ∀ {xs : List (Key × PV)} {ps : List (V × V)}, RelP K H xs ps → ∃ kvs : List (Key × V), ps = kvs.map (fun kv => (kV kv.1, kv.2)) ∧ xs.map (·.1) = kvs.map (·.1) ∧ Rels K H (xs.map (·.2)) (kvs.map (·.2))
  | [], _, h => ⟨[], h, rfl, .nil⟩
  | x :: xs, _, ⟨v, vs, e, h1, h2⟩ => by
    obtain ⟨kvs, e1, e2, r⟩ := RelP.pairs h2
    refine ⟨(x.1, v) :: kvs, by rw [e, e1]; rfl, by rw [List.map_cons, List.map_cons, e2], ?_⟩
    rw [List.map_cons, List.map_cons]
    exact .cons h1 r
def PsUp (K : PySem.W.Frag) (n : Nat) (trs : List (TE × TE)) (l : List (ME × ME)) : Prop := ∀ (σ : L2.St) (H : Hp) (τ : PSt) (h : PH) (Q' : List (Key × PV) → PH → Prop) (Q : List (V × V) → Hp → Prop), SimS K H σ τ → Sim K H h → mPs l τ h Q' →
  (∀ xs h1 ps H1, Q' xs h1 → xs.length = n → Go H h H1 h1 → RelP K H1 xs ps → Sim K H1 h1 → Q ps H1) → tPairs trs σ H Q
/-- the pairs of a display -/
structure LPs (X : Cx) (pos : Pos) (keys : List (Option Expr)) (values : List Expr) (n : Nat) (l : List (ME × ME)) : Prop where
  ex : ∃ trs, PPs X pos keys values trs ∧ PsUp X.K n trs l
section
variable {X : Cx} {pos : Pos} {k v : Expr} {ks : List (Option Expr)} {vs : List Expr} {n : Nat} {l : List (ME × ME)} {mk mv : ME}
theorem lps_nil : LPs X pos [] [] 0 [] := ⟨[], pps_nil, fun σ H τ h Q' Q s sh q l => l [] h [] H q rfl .refl rfl sh⟩
theorem lps_cons (hk : LE X k mk) (hv : LE X v mv) (hr : LPs X pos ks vs n l) : LPs X pos (some k :: ks) (v :: vs) (n + 1) ((mk, mv) :: l) := by
  obtain ⟨trs, h1, h2⟩ := hr.ex
  refine ⟨_, pps_cons hk hv h1, fun σ H τ h Q' Q s sh q l => ?_⟩
  refine ⟨τ, h, _, s, sh, q, fun q1 ha x H1 qa g1 r1 s1 => ?_⟩
  refine ⟨τ, ha, _, s.mono g1.mono, s1, qa, fun p hb y H2 qb g2 r2 s2 => ?_⟩
  split at qb
  · rename_i k ek
    refine h2 σ H2 τ hb _ _ ((s.mono g1.mono).mono g2.mono) s2 qb fun xs hc ps H3 qc hn g3 rp s3 => ?_
    have ex := kOf_rel r1 ek
    subst ex
    exact l _ _ _ _ qc (by rw [List.length_cons, hn]) ((g1.trans g2).trans g3) ⟨y, ps, rfl, r2.mono g3.mono, rp⟩ s3
  · exact qb.elim
theorem le_dispM (h : LPs X pos ks vs n l) (hn : n ≤ 15 := by decide) (hall : ks.all (·.isSome) = true := by rfl) (hl : ks.length = vs.length := by rfl) (h0 : ks ≠ [] := by simp) (h15 : ks.length ≤ 15 := by decide) : LE X (.Dict ks vs pos) (mDispM l) := by
  obtain ⟨trs, h1, h2⟩ := h.ex
  refine PE.weak (pe_disp h1 hall hl h0 h15) fun σ H Q ⟨τ, h, Q', s, sh, q, lq⟩ => ?_
  intro p hp
  have hp0 : h p = none := sh.fresh hp
  have g0 : Go H h (upd H p (.dK [])) h := .new hp
  refine h2 σ _ τ h _ _ (s.mono g0.mono) (sh.new hp) q fun xs h1 ps H1 q1 hl1 g1 rp s1 => ?_
  obtain ⟨nd, q1⟩ := q1
  have hH : H1 p = some (.dK []) := g1.frame p _ upd_same hp0
  have hd : h1 p = none := g1.dom p _ upd_same hp0
  obtain ⟨kvs, e1, e2, rr⟩ := rp.pairs
  have el : kvs.length = xs.length := by
    have := congrArg List.length e2
    rw [List.length_map, List.length_map] at this
    exact this.symm
  refine ⟨hH, kvs, e1, by rw [el, hl1]; exact hn, ?_⟩
  have em : mergeK [] kvs = kvs := by
    have := merge_nd kvs [] (by rw [List.nil_append, ← e2]; exact nd)
    rwa [List.nil_append] at this
  rw [em]
  have mm : Mono H1 (upd H1 p (.dK kvs)) := Mono.dK hH
  refine lq _ _ _ _ (q1 p hd) ?_ (rel_ref.mpr rfl) (s1.put mm ⟨kvs, rfl, e2, rr.mono mm⟩)
  have gr : Go H h (upd H1 p (.dK kvs)) h1 := (g0.trans g1).renew hp mm
  have : upd H1 p (.dK kvs) p = some (.dK kvs) := upd_same
  exact gr.own hp
end
end N3

namespace N3
open PySem PySem.Spec PyProof.Rows L2

/-! ### the law's own call -/
/-- what a law is handed: a list of at most n whole numbers; what it must say -/
def spLaw (n : Nat) : SpP := fun ps h Q => ∃ ns : List Int, ps = [.lst (ns.map PV.int)] ∧ ns.length ≤ n ∧ (∀ z ∈ ns, Builtin.Int.intBits z ≤ 1048576) ∧ h = (fun _ => none) ∧ ∀ h', Q (.bl true) h'
theorem rels_of_ints {K : PySem.W.Frag} {H : Hp} : ∀ ns : List Int, Rels K H (ns.map PV.int) (ns.map V.int)
  | [] => .nil
  | n :: ns => .cons (rel_int.mpr rfl) (rels_of_ints ns)
theorem call_of_law {P : Program} {w : World} {K : PySem.W.Frag} {mg mb : Str → Option Value} {k n : Nat} {fa a : Addr} {fd : FuncData} {x : Str} {s1 : Shared} {vs : List Value} {ns : List Int}
    (KX : K.In s1.heap) (hns : s1.heap.Ns mainGlobals mg) (hb : s1.heap.Ns builtinsNs mb) (hbb : ∀ x : Str, x ≠ "__name__" → mb x = bootBuiltins x) (hlim : s1.heap.NoLimit) (hg : s1.gens = #[])
    (ha : s1.heap.get? a = some { cls := .type "list", data := .seq vs.toArray }) (hi : IntsAre vs ns) (hl : ns.length ≤ n) (hn : n ≤ sizeLine) (hbits : ∀ z ∈ ns, Builtin.Int.intBits z ≤ 1048576) (hr : Room k callerA)
    (F : ∀ base : Heap, K.In base → base.Ns mainGlobals mg → FnG P w K mg base k fa fd [x] (spLaw n)) (hbind : ∀ (s : Shared) (u : Value), BindsTo s fd ⟨[u], []⟩ [(x, u)]) :
    codeAny (model P w) callerA (.call (.ref fa) ⟨[.ref a], []⟩) (fun r s' => r = .ok (.ret (.bool true)) ∧ OldK s1.heap s'.heap ∧ s'.os = s1.os ∧ AllBare s'.gens) s1 := by
  have rv := vals_ints hi
  have lenV := hi.length
  have lz : ns.length ≤ sizeLine := Nat.le_trans hl hn
  have main : ∀ H : Hp, (∀ b u, H b = some u → b = a ∧ ∃ o xs, u = .frz o (.lst xs)) → FrL K H a (ns.map V.int) → HOk P w H s1.heap → (H a ≠ none → K.lookup a = none) →
      codeAny (model P w) callerA (.call (.ref fa) ⟨[.ref a], []⟩) (fun r s' => r = .ok (.ret (.bool true)) ∧ OldK s1.heap s'.heap ∧ s'.os = s1.os ∧ AllBare s'.gens) s1 := by
    intro H only fr hok hK
    have off : ∀ {b : Addr}, b ≠ a → H b = none := fun {b} hb => by
      cases q : H b with
      | none => rfl
      | some u => exact absurd (only b u q).1 hb
    have ne_dict : ∀ {b : Addr} {o : Obj} {es : Array DictEntry} {ep : Nat}, s1.heap.get? b = some o → o.data = .dict es ep → b ≠ a := fun {b o es ep} e d z => by
      subst z
      rw [ha] at e; cases e
      cases (show Data.seq vs.toArray _ = Data.dict es ep from d)
    have nsB : ∀ {b : Addr} {m : Str → Option Value}, s1.heap.Ns b m → (hidT s1.heap H).Ns b m := fun {b m} ⟨o, es, ep, e, d, r⟩ => ⟨o, es, ep, hidT_get e (off (ne_dict e d)), d, r⟩
    have kB : K.In (hidT s1.heap H) := fun b o e => by
      refine hidT_get (KX b o e) ?_
      by_cases hb : b = a
      · subst hb
        cases q : H b with
        | none => rfl
        | some u => rw [hK (by rw [q]; exact fun z => nomatch z)] at e; cases e
      · exact off hb
    obtain ⟨mc, lim1, lim2⟩ := hlim
    have e0 : Env0 P w K mg (hidT s1.heap H) callerA [] s1 H :=
      ⟨rfl, ⟨kB, nsB hns, ⟨mb, nsB hb, hbb⟩, ⟨mc, nsB lim1, lim2⟩⟩, fun b o e => of_hidT e, Nat.le_of_eq (hidT_size _ _), trivial, fun b z => (List.not_mem_nil (show b ∈ ([] : List Addr) from z)).elim, hok, .of_eq hg⟩
    have up0 : upF K 1 (spLaw n) [.ref a] H (fun v _ => v = .bl true) E0 := by
      refine ⟨[.lst (ns.map PV.int)], fun _ => none, fun p _ => p = .bl true, rfl, .cons (rel_lst.mpr ⟨a, _, rfl, fr, rels_of_ints ns⟩) .nil, ?_, ⟨ns, rfl, hl, hbits, rfl, fun _ => rfl⟩, ?_⟩
      · intro b o z
        cases z
      · intro p h1 v H1 q _ r _
        have q' : p = .bl true := q
        subst q'
        exact rel_bl.mp r
    have go := (F _ kB (nsB hns)).run callerA [] s1 H ⟨[.ref a], []⟩ [.ref a] [.ref a] (fun v _ => v = .bl true) hr rfl e0 (hbind s1 (.ref a)) (.cons rfl .nil) up0
    refine codeAny_mono go fun r s' h => ?_
    cases r with
    | error e => exact False.elim h
    | ok fl =>
      cases fl with
      | next => exact False.elim h
      | brk => exact False.elim h
      | cont => exact False.elim h
      | ret u =>
        obtain ⟨v, H', os, bare, un, hok', r', q⟩ := h
        have q' : v = .bl true := q
        subst q'
        have eu : u = Value.bool true := r'
        subst eu
        refine ⟨rfl, OldK.of_keep fun b o e => ?_, os, bare⟩
        cases q : H b with
        | none => exact un.keep b o e q (fun z => List.not_mem_nil (show b ∈ ([] : List Addr) from z)) List.not_mem_nil
        | some u =>
          obtain ⟨_, ob, xs, rfl⟩ := only b u q
          have e1 := (hok b _ q).1
          have e2 := (hok' b _ (un.frzs b ob _ q)).1
          rw [e] at e1; cases e1
          exact e2
  cases hk : K.lookup a with
  | some o =>
    have e := KX a o hk
    rw [ha] at e; cases e
    exact main (fun _ => none) (fun b u z => nomatch z) (.inr ⟨_, vs.toArray, _, hk, rfl, rfl, rfl, by rw [List.size_toArray, lenV]; exact lz, by simpa using rv⟩) (fun b u z => nomatch z) fun z => absurd rfl z
  | none =>
    refine main (fun b => if b = a then some (.frz { cls := .type "list", data := .seq vs.toArray } (.lst (ns.map V.int))) else none) (fun b u z => ?_) (.inl ⟨_, if_pos rfl⟩) (fun b u z => ?_) fun _ => hk
    · by_cases hb : b = a
      · exact ⟨hb, _, _, (Option.some.inj ((if_pos hb).symm.trans z)).symm⟩
      · cases (if_neg hb).symm.trans z
    · by_cases hb : b = a
      · subst hb
        cases (if_pos rfl).symm.trans z
        exact ⟨ha, by rw [List.length_map]; exact lz, vs, _, rv, ha⟩
      · cases (if_neg hb).symm.trans z
theorem walk_g {l : PySem.W.OpenLaw} {n k : Nat} {q : Program} {loose : List Str} {XP : (Str → Option Value) → Heap → Prop} {YP : World → Heap → Prop} {d : DefRec} {K : Params → PySem.W.Frag} {x : Str}
    (hn : l.most = some n) (hn2 : n ≤ sizeLine) (hdf : d.params.defaults = []) (hr : Room k callerA) (hY : ∀ (w : World) (h : Heap), YP w h → (K w.params).In h)
    (F : ∀ (w : World) (mg : Str → Option Value) (fa : Addr) (h : Heap), (K w.params).In h → h.Ns mainGlobals mg → mg d.name = some (.ref fa) →
      ∃ fd : FuncData, (∀ (s : Shared) (u : Value), BindsTo s fd ⟨[u], []⟩ [(x, u)]) ∧ ∀ base : Heap, (K w.params).In base → base.Ns mainGlobals mg → FnG l.prog w (K w.params) mg base k fa fd [x] (spLaw n)) :
    PySem.W.WalkO q loose XP YP l.row.toRowW d [] (fun f vs => PySem.call f vs) := by
  refine Att.attach_callB hn hdf fun w s0 s1 mg mb fa o pm cd doc a vs ns G Y ho hd hcd hmg hobj hints hlen hbits hg => ?_
  have KX := hY w _ Y
  obtain ⟨fd, hb, hF⟩ := F w mg fa _ KX G.T.g hmg
  exact call_of_law KX G.T.g G.T.b G.T.builtins G.T.nolimit hg hobj hints hlen hn2 hbits hr hF hb
end N3
namespace N3
open PySem PySem.Spec PyProof.Rows L2

/-! ### a def of the text by its name: its object, how it takes what it is given, what it does -/
structure Fn (P : Program) (w : World) (K : PySem.W.Frag) (mg : Str → Option Value) (base : Heap) (k : Nat) (x : Str) (st : Stmt) (ps : List Str) (sp : SpP) : Prop where
  ex : ∃ (f : Addr) (fd : FuncData), mg x = some (.ref f) ∧ Fun K x x st f fd ∧ Binds K fd ps [] ∧ FnG P w K mg base k f fd ps sp
/-- an int's negative -/
def rNeg : PR1 := fun p h Q => match p with | .int i => Q (.int (-i)) h | _ => False
theorem lf_neg {K : PySem.W.Frag} : Lf1 K (rU fun i => .int (-i)) rNeg := by
  intro x H p h Q' Q rp s r l
  cases p with
  | int i => exact ⟨i, rel_int.mp rp, l _ _ _ _ r .refl (rel_int.mpr rfl) s⟩
  | _ => exact r.elim
section
variable {X : Cx} {pos p : Pos} {e : Expr} {es : List Expr} {n j k : Nat} {x : Str} {st : Stmt} {ps : List Str} {sp : SpP}
theorem le_fn {m : MA} (c : Fn X.prog X.w X.K X.mg X.base j x st ps sp) (hr : Room k X.A) (hj : j ≤ k) (hG : X.A.guards = some []) (ha : LAn X (e :: es) n m) (hp : n = ps.length := by rfl) (hg : Gl X x := by rfl) (hdb : (x == ("__debug__" : Str)) = false := by decide)
    (he : starEach (e :: es) X.env = (false, eval e X.env) :: starEach es X.env := by rfl) (hpl : (backTo pos (starEach es X.env)).any (·.1) = false := by rfl) : LE X (.Call (.Name x p) (e :: es) [] pos) (mBlt sp m) := by
  obtain ⟨f, fd, hm, F, hb, G⟩ := c.ex
  exact le_call G (hr.mono hj) hG hm F.kp hb ha hp hg hdb he hpl
theorem le_fn0 (c : Fn X.prog X.w X.K X.mg X.base j x st [] sp) (hr : Room k X.A) (hj : j ≤ k) (hG : X.A.guards = some []) (hg : Gl X x := by rfl) (hdb : (x == ("__debug__" : Str)) = false := by decide) : LE X (.Call (.Name x p) [] [] pos) (mBlt sp mNil) := by
  obtain ⟨f, fd, hm, F, hb, G⟩ := c.ex
  exact le_call0 G (hr.mono hj) hG hm F.kp hb hg hdb
/-- the keywords stand behind the arguments by place, in the parameters' order -/
def cat2 {α : Type} (xs ys : List α) : List α := xs ++ ys
theorem vals_cat {vs zs : List V} {us ws : List Value} (h1 : Vals vs us) (h2 : Vals zs ws) : Vals (cat2 vs zs) (cat2 us ws) := h1.append h2
theorem kwb_of {K : PySem.W.Frag} {f : Addr} {fd : FuncData} {ks : List Str} {i m : Nat} (F : Fun K x x st f fd) (hl : i + m = ps.length)
    (h : ∀ (kV doc pm : Value) (an : Option Addr) (cdv ct : Value) (us ws : List Value), us.length = i → ws.length = m → bindArgs (PySem.W.fnOf x x (defArgs st) (defBody st) (defScope st) .none kV doc pm an cdv ct) ⟨us, ks.zip ws⟩ = pure (ps.zip (cat2 us ws))) :
    KwB fd ps ks cat2 cat2 cat2 i m := by
  obtain ⟨oc, od, kV, doc, pm, an, cdv, ct, osl, rfl, lk, hcd⟩ := F.ex
  exact ⟨fun s us ws h1 h2 => .of_eq (h kV doc pm an cdv ct us ws h1 h2), fun _ _ r1 r2 => vals_cat r1 r2, fun _ _ r1 r2 => r1.append r2, fun {qs zs} h1 h2 => by unfold cat2; rw [List.length_append, h1, h2, hl]⟩
theorem le_fnK {i m' : Nat} {ks : List Str} {kws : List Keyword} {m mk : MA} (c : Fn X.prog X.w X.K X.mg X.base j x st ps sp) (hr : Room k X.A) (hj : j ≤ k) (hG : X.A.guards = some []) (hl : i + m' = ps.length)
    (h : ∀ (kV doc pm : Value) (an : Option Addr) (cdv ct : Value) (us ws : List Value), us.length = i → ws.length = m' → bindArgs (PySem.W.fnOf x x (defArgs st) (defBody st) (defScope st) .none kV doc pm an cdv ct) ⟨us, ks.zip ws⟩ = pure (ps.zip (cat2 us ws)))
    (ha : LAn X (e :: es) i m) (hkw : LKn X kws m' mk) (hg : Gl X x := by rfl) (hall : (backToKw pos (keywordEach kws X.env)).all (·.1.isSome) = true := by rfl) (hks : (backToKw pos (keywordEach kws X.env)).filterMap (·.1) = ks := by rfl)
    (hdb : (x == ("__debug__" : Str)) = false := by decide) (he : starEach (e :: es) X.env = (false, eval e X.env) :: starEach es X.env := by rfl)
    (hpl : ((backTo pos (starEach (e :: es) X.env)).any (·.1) || (backToKw pos (keywordEach kws X.env)).any (·.1.isNone)) = false := by rfl) : LE X (.Call (.Name x p) (e :: es) kws pos) (mKw sp cat2 m mk) := by
  obtain ⟨f, fd, hm, F, hb, G⟩ := c.ex
  exact le_callK G (hr.mono hj) hG hm F.kp (kwb_of F hl h) ha hkw hg hall hks hdb he hpl
theorem le_fnK0 {m' : Nat} {ks : List Str} {kws : List Keyword} {mk : MA} (c : Fn X.prog X.w X.K X.mg X.base j x st ps sp) (hr : Room k X.A) (hj : j ≤ k) (hG : X.A.guards = some []) (hl : 0 + m' = ps.length)
    (h : ∀ (kV doc pm : Value) (an : Option Addr) (cdv ct : Value) (us ws : List Value), us.length = 0 → ws.length = m' → bindArgs (PySem.W.fnOf x x (defArgs st) (defBody st) (defScope st) .none kV doc pm an cdv ct) ⟨us, ks.zip ws⟩ = pure (ps.zip (cat2 us ws)))
    (hkw : LKn X kws m' mk) (hg : Gl X x := by rfl) (hall : (backToKw pos (keywordEach kws X.env)).all (·.1.isSome) = true := by rfl) (hks : (backToKw pos (keywordEach kws X.env)).filterMap (·.1) = ks := by rfl)
    (hdb : (x == ("__debug__" : Str)) = false := by decide) (hpl : ((backTo pos (starEach [] X.env)).any (·.1) || (backToKw pos (keywordEach kws X.env)).any (·.1.isNone)) = false := by rfl) : LE X (.Call (.Name x p) [] kws pos) (mKw sp cat2 mNil mk) := by
  obtain ⟨f, fd, hm, F, hb, G⟩ := c.ex
  exact le_callK0 G (hr.mono hj) hG hm F.kp (kwb_of F hl h) hkw hg hall hks hdb hpl
theorem hu66 (hr : Room k X.A) : X.A.units + 66 < cLine := by have := hr.un; omega
theorem hu65 (hr : Room k X.A) : X.A.units + 65 < cLine := by have := hr.un; omega
theorem hu64 (hr : Room k X.A) : X.A.units + 64 < cLine := by have := hr.un; omega
theorem hu1 (hr : Room k X.A) : X.A.units + 1 < cLine := by have := hr.un; omega
end
end N3

namespace N3
open PySem PySem.Spec PyProof.Rows L2

/-! ### isinstance of the built-in types -/
inductive Tn where
  | non | bl | int | str | tup | lst | dct
def Tn.name : Tn → String
  | .non => "NoneType" | .bl => "bool" | .int => "int" | .str => "str" | .tup => "tuple" | .lst => "list" | .dct => "dict"
def isI : Tn → Tn → Bool
  | .non, .non => true | .bl, .bl => true | .bl, .int => true | .int, .int => true | .str, .str => true | .tup, .tup => true | .lst, .lst => true | .dct, .dct => true
  | _, _ => false
theorem isI_kit : ∀ a b : Tn, kitB a.name b.name = some (isI a b)
  | .non, b => by cases b <;> decide +kernel
  | .bl, b => by cases b <;> decide +kernel
  | .int, b => by cases b <;> decide +kernel
  | .str, b => by cases b <;> decide +kernel
  | .tup, b => by cases b <;> decide +kernel
  | .lst, b => by cases b <;> decide +kernel
  | .dct, b => by cases b <;> decide +kernel
def tn (h : PH) : PV → Option Tn
  | .non => some .non
  | .bl _ => some .bl
  | .int _ => some .int
  | .str _ => some .str
  | .tup _ => some .tup
  | .lst _ => some .lst
  | .dct _ _ => some .dct
  | .ref a => match h a with | some (.lst _) => some .lst | some (.dct _ _) => some .dct | _ => none
  | .ty _ => none
theorem tn_ty {K : PySem.W.Frag} {H : Hp} {h : PH} {p : PV} {v : V} {t : Tn} (r : Rel K H p v) (s : Sim K H h) (e : tn h p = some t) : TyX K H v (.type t.name) := by
  cases p with
  | non => cases e; rw [rel_non.mp r]; exact .base .non
  | bl b => cases e; rw [rel_bl.mp r]; exact .base (.bl b)
  | int b => cases e; rw [rel_int.mp r]; exact .base (.int b)
  | str b => cases e; rw [rel_str.mp r]; exact .base (.str b)
  | tup ps =>
    cases e
    obtain ⟨a, xs, rfl, hq, _⟩ := rel_tup.mp r
    rcases hq with (hq | ⟨o, hq⟩) | ⟨o, its, n, hk, hc, _⟩
    · exact .base (.tup hq)
    · exact .fTuple hq
    · exact .kTuple hk hc
  | lst ps =>
    cases e
    obtain ⟨a, xs, rfl, hq, _⟩ := rel_lst.mp r
    rcases hq with ⟨o, hq⟩ | ⟨o, its, n, hk, hc, _⟩
    · exact .base (.frz hq)
    · exact .kList hk hc
  | dct ks vs =>
    cases e
    obtain ⟨a, kvs, rfl, ⟨o, hq⟩, _⟩ := rel_dct.mp r
    exact .fDict hq
  | ref a =>
    simp only [tn] at e
    have ev := rel_ref.mp r
    subst ev
    split at e
    · rename_i xs eh
      cases e
      obtain ⟨u, e1, ys, rfl, _⟩ := s a _ eh
      exact .base (.lst e1)
    · rename_i ks vs eh
      cases e
      obtain ⟨u, e1, kvs, rfl, _⟩ := s a _ eh
      exact .base (.dK e1)
    · cases e
  | ty n => cases e
def rIsT (n : Tn) : PRA := fun ps h Q => match ps with
  | [p, .ty m] => m = n.name ∧ (match tn h p with | some t => Q (.bl (isI t n)) h | none => False)
  | _ => False
def mIsI (n : Tn) (m : ME) : ME := fun τ h Q => m τ h fun p h1 => match tn h1 p with | some t => Q (.bl (isI t n)) h1 | none => False
section
variable {X : Cx} {pos p p2 : Pos} {e : Expr} {m : ME}
theorem le_isi (n : Tn) {x : Str} (hm : X.mg "isinstance" = none) (hx : X.mg x = none) (he : LE X e m) (hb : bootBuiltins x = some (.type n.name) := by decide +kernel) (hg : Gl X "isinstance" := by rfl) (hgx : Gl X x := by rfl) (hn : x ≠ "__name__" := by decide) (hd : (x == ("__debug__" : Str)) = false := by decide)
    (h1 : starEach [e, .Name x p2] X.env = (false, eval e X.env) :: starEach [.Name x p2] X.env := by rfl) (h2 : starEach [.Name x p2] X.env = (false, eval (.Name x p2) X.env) :: starEach [] X.env := by rfl)
    (h3 : (backTo pos (starEach [.Name x p2] X.env)).any (·.1) = false := by rfl) : LE X (.Call (.Name "isinstance" p) [e, .Name x p2] [] pos) (mIsI n m) := by
  have ht : LE X (.Name x p2) (mC (.ty n.name)) := le_c (pe_bltn (v := .ty n.name) hgx hx hb rfl hn hd) fun _ => by simp only [Rel]
  have key := le_blt (r' := rIsT n) (pos := pos) (p := p) (call_isi (X := X)) (by
    intro xs H ps h Q' Q rp s r l
    unfold rIsT at r
    split at r
    · rename_i q m
      obtain ⟨rfl, r⟩ := r
      obtain ⟨v, w, rfl, r1, r2⟩ := rp.two
      have ew : w = .ty n.name := by simpa only [Rel] using r2
      subst ew
      split at r
      · rename_i t et
        exact ⟨v, _, _, _, isI t n, rfl, .ty _, tn_ty r1 s et, kit_ty (isI_kit t n), l _ _ _ _ r .refl (rel_bl.mpr rfl) s⟩
      · exact r.elim
    · exact r.elim) hm (la_cons he (la_cons ht la_nil h2) h1) hg (h1 := h1) (h2 := h3)
  have same : mBlt (rIsT n) (mCons m (mCons (mC (.ty n.name)) mNil)) = mIsI n m := by
    funext τ h Q
    show (m τ h fun p h1 => rIsT n [p, .ty n.name] h1 Q) = m τ h fun p h1 => _
    congr 1
    funext p h1
    show (n.name = n.name ∧ _) = _
    simp
  rwa [same] at key
end

/-! ### all, any of truths; str of an int -/
def rAllB : PRA := fun ps h Q => match ps with
  | [p] => (match seqL h p with | some xs => ∃ bs : List Bool, xs = bs.map PV.bl ∧ Q (.bl (bs.all id)) h | none => False)
  | _ => False
def rAnyB : PRA := fun ps h Q => match ps with
  | [p] => (match seqL h p with | some xs => ∃ bs : List Bool, xs = bs.map PV.bl ∧ Q (.bl (bs.any id)) h | none => False)
  | _ => False
theorem rels_bls {K : PySem.W.Frag} {H : Hp} : ∀ {ns : List Bool} {xs : List V}, Rels K H (ns.map PV.bl) xs → xs = ns.map V.bl
  | [], _, r => r.len0
  | z :: zs, _, r => by
    obtain ⟨v, vs, rfl, r1, r2⟩ := r.uncons
    rw [rel_bl.mp r1, rels_bls r2]; rfl
theorem lf_all {K : PySem.W.Frag} : LfA K (rAll K) rAllB := by
  intro xs H ps h Q' Q rp s r l
  unfold rAllB at r
  split at r
  · split at r
    · rename_i e
      obtain ⟨v, rfl, r1⟩ := rp.one
      obtain ⟨a, ys, rfl, hq, rr⟩ := seqL_sq r1 s e
      obtain ⟨bs, rfl, r⟩ := r
      rw [rels_bls rr] at hq
      exact ⟨a, bs, rfl, hq, l _ _ _ _ r .refl (rel_bl.mpr rfl) s⟩
    · exact r.elim
  · exact r.elim
theorem lf_any {K : PySem.W.Frag} : LfA K (rAny K) rAnyB := by
  intro xs H ps h Q' Q rp s r l
  unfold rAnyB at r
  split at r
  · split at r
    · rename_i e
      obtain ⟨v, rfl, r1⟩ := rp.one
      obtain ⟨a, ys, rfl, hq, rr⟩ := seqL_sq r1 s e
      obtain ⟨bs, rfl, r⟩ := r
      rw [rels_bls rr] at hq
      exact ⟨a, bs, rfl, hq, l _ _ _ _ r .refl (rel_bl.mpr rfl) s⟩
    · exact r.elim
  · exact r.elim
def rStrI : PRA := fun ps h Q => match ps with
  | [.int i] => i.natAbs.log2 < 1920 ∧ Q (.str (toString i)) h
  | _ => False
theorem lf_strI {K : PySem.W.Frag} : LfA K (fun xs H Q => ∃ i, xs = [.int i] ∧ i.natAbs.log2 < 1920 ∧ Q (.str (toString i)) H) rStrI := by
  intro xs H ps h Q' Q rp s r l
  unfold rStrI at r
  split at r
  · obtain ⟨v, rfl, r1⟩ := rp.one
    have e := rel_int.mp r1
    subst e
    exact ⟨_, rfl, r.1, l _ _ _ _ r.2 .refl (rel_str.mpr rfl) s⟩
  · exact r.elim
def rIntO : PRA := fun ps h Q => match ps with
  | [.int i] => Q (.int i) h
  | [.bl b] => Q (.int (if b = true then 1 else 0)) h
  | _ => False
theorem lf_intO {K : PySem.W.Frag} : LfA K (fun xs H Q => (∃ i, xs = [.int i] ∧ Q (.int i) H) ∨ ∃ k, xs = [.bl k] ∧ Q (.int (if k then 1 else 0)) H) rIntO := by
  intro xs H ps h Q' Q rp s r l
  unfold rIntO at r
  split at r
  · obtain ⟨v, rfl, r1⟩ := rp.one
    rw [rel_int.mp r1]
    exact .inl ⟨_, rfl, l _ _ _ _ r .refl (rel_int.mpr rfl) s⟩
  · obtain ⟨v, rfl, r1⟩ := rp.one
    rw [rel_bl.mp r1]
    exact .inr ⟨_, rfl, l _ _ _ _ r .refl (rel_int.mpr rfl) s⟩
  · exact r.elim
section
variable {X : Cx} {pos p : Pos} {e : Expr} {m : MA}
theorem le_all (hc : X.calm = true) (hm : X.mg "all" = none) (ha : LAn X [e] 1 m) (hg : Gl X "all" := by rfl) (h1 : starEach [e] X.env = (false, eval e X.env) :: starEach [] X.env := by rfl) :
    LE X (.Call (.Name "all" p) [e] [] pos) (mBlt rAllB m) := le_blt (cr_all hc) lf_all hm ha hg (h1 := h1) (h2 := rfl)
theorem le_any (hc : X.calm = true) (hm : X.mg "any" = none) (ha : LAn X [e] 1 m) (hg : Gl X "any" := by rfl) (h1 : starEach [e] X.env = (false, eval e X.env) :: starEach [] X.env := by rfl) :
    LE X (.Call (.Name "any" p) [e] [] pos) (mBlt rAnyB m) := le_blt (cr_any hc) lf_any hm ha hg (h1 := h1) (h2 := rfl)
theorem le_strI (hm : X.mg "str" = none) (ha : LAn X [e] 1 m) (hg : Gl X "str" := by rfl) (h1 : starEach [e] X.env = (false, eval e X.env) :: starEach [] X.env := by rfl) :
    LE X (.Call (.Name "str" p) [e] [] pos) (mBlt rStrI m) := le_ty call_str_int lf_strI hm ha hg (h1 := h1) (h2 := rfl)
theorem le_intO (hm : X.mg "int" = none) (ha : LAn X [e] 1 m) (hg : Gl X "int" := by rfl) (h1 : starEach [e] X.env = (false, eval e X.env) :: starEach [] X.env := by rfl) :
    LE X (.Call (.Name "int" p) [e] [] pos) (mBlt rIntO m) := le_ty call_int1 lf_intO hm ha hg (h1 := h1) (h2 := rfl)
end

/-! ### < and its kin of ints and texts -/
def rCmp (f : Int → Int → Bool) (g : List Nat → List Nat → Bool) : PR2 := fun p q h Q => match p, q with
  | .int i, .int j => Q (.bl (f i j)) h
  | .str x, .str y => Q (.bl (g (cl x) (cl y))) h
  | _, _ => False
abbrev rLt : PR2 := rCmp (fun i j => decide (i < j)) fun x y => decide (x < y)
abbrev rLe : PR2 := rCmp (fun i j => decide (i ≤ j)) fun x y => !decide (y < x)
abbrev rGt : PR2 := rCmp (fun i j => decide (j < i)) fun x y => decide (y < x)
abbrev rGe : PR2 := rCmp (fun i j => decide (j ≤ i)) fun x y => !decide (x < y)
def oCmp (f : Int → Int → Bool) (g : Str → Str → Bool) : R2 := fun x y H Q => rI0 (fun i j => .bl (f i j)) x y H Q ∨ ∃ i j, x = .str i ∧ y = .str j ∧ Q (.bl (g i j)) H
theorem lf_cmp {K : PySem.W.Frag} {f : Int → Int → Bool} {g : List Nat → List Nat → Bool} : Lf2 K (oCmp f fun i j => g i.cps.toList j.cps.toList) (rCmp f g) := by
  intro x y H p q h Q' Q rp rq s r l
  unfold rCmp at r
  split at r
  · exact .inl ⟨_, _, rel_int.mp rp, rel_int.mp rq, l _ _ _ _ r .refl (rel_bl.mpr rfl) s⟩
  · exact .inr ⟨_, _, rel_str.mp rp, rel_str.mp rq, l _ _ _ _ r .refl (rel_bl.mpr rfl) s⟩
  · exact r.elim
theorem op_ltA {X : Cx} : OpR X (compareOp .Lt) (oCmp (fun i j => decide (i < j)) fun i j => decide (i.cps.toList < j.cps.toList)) := op_lt.or op_lt_str
theorem op_leA {X : Cx} : OpR X (compareOp .LtE) (oCmp (fun i j => decide (i ≤ j)) fun i j => !decide (j.cps.toList < i.cps.toList)) := op_le.or op_le_str
theorem op_gtA {X : Cx} : OpR X (compareOp .Gt) (oCmp (fun i j => decide (j < i)) fun i j => decide (j.cps.toList < i.cps.toList)) := op_gt.or op_gt_str
theorem op_geA {X : Cx} : OpR X (compareOp .GtE) (oCmp (fun i j => decide (j ≤ i)) fun i j => !decide (i.cps.toList < j.cps.toList)) := op_ge.or op_ge_str

/-! ### in, not in: a sign in a text, data in a list or tuple -/
def rInP (neg : Bool) : PR2 := fun p q h Q => match p, q with
  | .str x, .str y => ∃ c, x = S [c] ∧ Q (.bl (decide (c ∈ cl y) != neg)) h
  | p, q => (match listed h q with
    | some xs => flat (vw h p) = true ∧ flats xs = true ∧ PyData.depthAll (toDs xs) ≤ 64 ∧ Q (.bl ((toDs xs).any (fun d => PyData.eqv d (toD (vw h p))) != neg)) h
    | none => False)
theorem eq_fun (h : Heap) (e : PyData) : ∃ f : Value → Bool, ∀ (u : Value) (d : PyData) (as : List Addr), d.hasDict = false → Reads h u d as → f u = PyData.eqv d e := by
  classical
  refine ⟨fun u => if z : ∃ d as, PyData.hasDict d = false ∧ Reads h u d as then PyData.eqv (Classical.choose z) e else false, fun u d as hd r => ?_⟩
  have hex : ∃ d as, PyData.hasDict d = false ∧ Reads h u d as := ⟨d, as, hd, r⟩
  show (if z : _ then _ else _) = _
  rw [dif_pos hex]
  obtain ⟨as', q1, q2⟩ := Classical.choose_spec hex
  rw [one_reading _ _ _ _ _ q1 hd q2 r]
theorem all_eqv {A : Around} {s : Shared} {v : Value} {e : PyData} {bs : List Addr} (re : Reads s.heap v e bs) (he : e.hasDict = false) (hu : A.units + 64 < cLine) {f : Value → Bool} (hf : ∀ (u : Value) (d : PyData) (as : List Addr), d.hasDict = false → Reads s.heap u d as → f u = PyData.eqv d e) :
    ∀ (ds : List PyData) (us : List Value) (as : List Addr), ReadsAll s.heap us ds as → PyData.hasDictAll ds = false → PyData.depthAll ds ≤ 64 → (∀ u ∈ us, SeqAt.EqAt A s u v (f u)) ∧ us.any f = ds.any fun d => PyData.eqv d e
  | [], _, _, r, _, _ => by cases r; exact ⟨fun _ h => (List.not_mem_nil h).elim, rfl⟩
  | d :: ds, _, _, r, hd, hz => by
    cases r with
    | @cons u us _ _ as1 as2 r1 r2 =>
      simp only [PyData.hasDictAll, Bool.or_eq_false_iff] at hd
      simp only [PyData.depthAll] at hz
      have z1 := Nat.le_max_left d.depth (PyData.depthAll ds)
      have z2 := Nat.le_max_right d.depth (PyData.depthAll ds)
      obtain ⟨i1, i2⟩ := all_eqv re he hu hf ds us as2 r2 hd.2 (by omega)
      refine ⟨fun w hw => ?_, by rw [List.any_cons, List.any_cons, hf u d _ hd.1 r1, i2]⟩
      rcases List.mem_cons.mp hw with e1 | hw
      · subst e1
        rw [hf w d _ hd.1 r1]
        exact eqR d e A s w v _ _ (by omega) r1 hd.1 re he
      · exact i1 w hw
theorem any_eqv {A : Around} {s : Shared} {v : Value} {e : PyData} {bs : List Addr} (re : Reads s.heap v e bs) (he : e.hasDict = false) (hu : A.units + 64 < cLine) (ds : List PyData) (us : List Value) (as : List Addr) (r : ReadsAll s.heap us ds as) (hd : PyData.hasDictAll ds = false) (hz : PyData.depthAll ds ≤ 64) :
    ∃ f : Value → Bool, (∀ u ∈ us, SeqAt.EqAt A s u v (f u)) ∧ us.any f = ds.any fun d => PyData.eqv d e := by
  obtain ⟨f, hf⟩ := eq_fun s.heap e
  exact ⟨f, all_eqv re he hu hf ds us as r hd hz⟩
def oIn (K : PySem.W.Frag) (neg : Bool) : R2 := fun x y H Q => (∃ c z, x = .str (S [c]) ∧ y = .str z ∧ Q (.bl (decide (c ∈ cl z) != neg)) H) ∨
  ∃ a ys d ds, y = .ref a ∧ (SqL K H a ys ∨ SqT K H a ys) ∧ Dp K H x d ∧ DpAll K H ys ds ∧ d.hasDict = false ∧ PyData.hasDictAll ds = false ∧ PyData.depthAll ds ≤ 64 ∧ Q (.bl (ds.any (fun e => PyData.eqv e d) != neg)) H
theorem op_inA {X : Cx} (hu : X.A.units + 65 < cLine) : OpR X (compareOp .In) (oIn X.K false) := by
  intro pins s σ H x y v u Q I rx ry h
  rcases h with ⟨c, z, rfl, rfl, q⟩ | ⟨a, ys, d, ds, rfl, hq, hd, hds, nd, nds, hz, q⟩
  · exact op_in_sign pins s σ H _ _ v u Q I rx ry ⟨c, z, rfl, rfl, by simpa [cl] using q⟩
  · cases ry
    obtain ⟨as, r1⟩ := Dp.reads I d x v hd rx
    rcases hq with hq | hq
    · obtain ⟨its, rv, pl, _⟩ := I.list hq
      obtain ⟨bs, r2⟩ := Dp.readsAll I ds ys its hds rv
      obtain ⟨f, f1, f2⟩ := any_eqv (A := X.A.in1) r1 nd (by show X.A.units + 1 + 64 < cLine; omega) ds its bs r2 nds hz
      refine SeqAt.in_listAt f pl.isList (fun w hw => f1 w (by simpa using hw)) ⟨.bl _, H, I, rfl, ?_⟩
      rw [show its.toArray.any f = its.any f by simp, f2]; simpa using q
    · obtain ⟨its, rv, pl, _⟩ := I.tuple hq
      obtain ⟨bs, r2⟩ := Dp.readsAll I ds ys its hds rv
      obtain ⟨f, f1, f2⟩ := any_eqv (A := X.A.in1) r1 nd (by show X.A.units + 1 + 64 < cLine; omega) ds its bs r2 nds hz
      refine SeqAt.in_tupleAt f pl (fun w hw => f1 w (by simpa using hw)) ⟨.bl _, H, I, rfl, ?_⟩
      rw [show its.toArray.any f = its.any f by simp, f2]; simpa using q
theorem op_notInA {X : Cx} (hu : X.A.units + 65 < cLine) : OpR X (compareOp .NotIn) (oIn X.K true) := by
  intro pins s σ H x y v u Q I rx ry h
  rcases h with ⟨c, z, rfl, rfl, q⟩ | ⟨a, ys, d, ds, rfl, hq, hd, hds, nd, nds, hz, q⟩
  · exact op_notIn_sign pins s σ H _ _ v u Q I rx ry ⟨c, z, rfl, rfl, by simpa [cl] using q⟩
  · cases ry
    obtain ⟨as, r1⟩ := Dp.reads I d x v hd rx
    rcases hq with hq | hq
    · obtain ⟨its, rv, pl, _⟩ := I.list hq
      obtain ⟨bs, r2⟩ := Dp.readsAll I ds ys its hds rv
      obtain ⟨f, f1, f2⟩ := any_eqv (A := X.A.in1) r1 nd (by show X.A.units + 1 + 64 < cLine; omega) ds its bs r2 nds hz
      refine SeqAt.notIn_listAt f pl.isList (fun w hw => f1 w (by simpa using hw)) ⟨.bl _, H, I, rfl, ?_⟩
      rw [show its.toArray.any f = its.any f by simp, f2]; simpa using q
    · obtain ⟨its, rv, pl, _⟩ := I.tuple hq
      obtain ⟨bs, r2⟩ := Dp.readsAll I ds ys its hds rv
      obtain ⟨f, f1, f2⟩ := any_eqv (A := X.A.in1) r1 nd (by show X.A.units + 1 + 64 < cLine; omega) ds its bs r2 nds hz
      refine SeqAt.notIn_tupleAt f pl (fun w hw => f1 w (by simpa using hw)) ⟨.bl _, H, I, rfl, ?_⟩
      rw [show its.toArray.any f = its.any f by simp, f2]; simpa using q
theorem lf_in {K : PySem.W.Frag} {neg : Bool} : Lf2 K (oIn K neg) (rInP neg) := by
  intro x y H p q h Q' Q rp rq s r l
  unfold rInP at r
  split at r
  · obtain ⟨c, rfl, r⟩ := r
    exact .inl ⟨c, _, rel_str.mp rp, rel_str.mp rq, l _ _ _ _ r .refl (rel_bl.mpr rfl) s⟩
  · split at r
    · rename_i xs e
      obtain ⟨f1, f2, hz, r⟩ := r
      obtain ⟨a, ys, ey, hq, rr⟩ := listed_sq rq s e
      exact .inr ⟨a, ys, _, _, ey, hq, vw_dp f1 rp s, Rels.dp xs ys f2 rr, noDict _ f1, noDicts xs f2, hz, l _ _ _ _ r .refl (rel_bl.mpr rfl) s⟩
    · exact r.elim

/-! ### dict displays, kept; the empty one -/
def mDisp (l : List (ME × ME)) : ME := fun τ h Q => mPs l τ h fun kvs h1 => (kvs.map (·.1)).Nodup ∧ Q (.dct (kvs.map (·.1)) (kvs.map (·.2))) h1
def mDct0 : ME := fun _ h Q => Q (.dct [] []) h
def mDct0M : ME := fun _ h Q => ∀ a, h a = none → Q (.ref a) (up h a (.dct [] []))
section
variable {X : Cx} {pos : Pos} {ks : List (Option Expr)} {vs : List Expr} {n : Nat} {l : List (ME × ME)}
theorem le_disp (h : LPs X pos ks vs n l) (hn : n ≤ 15 := by decide) (hall : ks.all (·.isSome) = true := by rfl) (hl : ks.length = vs.length := by rfl) (h0 : ks ≠ [] := by simp) (h15 : ks.length ≤ 15 := by decide) : LE X (.Dict ks vs pos) (mDisp l) := by
  obtain ⟨trs, h1, h2⟩ := h.ex
  refine PE.weak (PE.kp (pe_disp h1 hall hl h0 h15)) fun σ H Q ⟨τ, h, Q', s, sh, q, lq⟩ => ?_
  intro p hp
  have hp0 : h p = none := sh.fresh hp
  have g0 : Go H h (upd H p (.dK [])) h := .new hp
  refine h2 σ _ τ h _ _ (s.mono g0.mono) (sh.new hp) q fun xs h1 ps H1 q1 hl1 g1 rp s1 => ?_
  obtain ⟨nd, q1⟩ := q1
  have hH : H1 p = some (.dK []) := g1.frame p _ upd_same hp0
  have hd : h1 p = none := g1.dom p _ upd_same hp0
  obtain ⟨kvs, e1, e2, rr⟩ := rp.pairs
  have el : kvs.length = xs.length := by
    have := congrArg List.length e2
    rw [List.length_map, List.length_map] at this
    exact this.symm
  refine ⟨hH, kvs, e1, by rw [el, hl1]; exact hn, ?_⟩
  have em : mergeK [] kvs = kvs := by
    have := merge_nd kvs [] (by rw [List.nil_append, ← e2]; exact nd)
    rwa [List.nil_append] at this
  rw [em]
  refine .inr ⟨p, _, rfl, upd_same, trivial, fun o => ?_⟩
  rw [upd_upd]
  have mm : Mono H1 (upd H1 p (.frz o (.dK kvs))) := Mono.dK hH
  exact lq _ _ _ _ q1 ((g0.trans g1).renew hp mm) (rel_dct.mpr ⟨p, kvs, rfl, ⟨o, upd_same⟩, e2, rr.mono mm⟩) (s1.drop mm hd)
theorem le_dct0 : LE X (.Dict [] [] pos) mDct0 :=
  PE.weak (PE.kp pe_dnewK) fun σ H Q ⟨τ, h, Q', s, sh, q, l⟩ => fun p hp => keep_d (kvs := []) l sh rfl .nil q hp
theorem le_dct0M : LE X (.Dict [] [] pos) mDct0M :=
  PE.weak (PE.kp pe_dnewK) fun σ H Q ⟨τ, h, Q', s, sh, q, l⟩ => fun p hp => make_d (kvs := []) l sh rfl .nil q hp
/-- a, b, c = x, y, z with plain local names -/
def mPar3 (i j k : Nat) (m : MA) : MS := fun D τ h => m τ h fun ps h1 => match ps with | [p, q, r] => D.nx (st (st (st τ i (some p)) j (some q)) k (some r)) h1 | _ => False
theorem ls_par3 {i j k : Nat} {x y z : Str} {a b c : Expr} {ta : MA} {px py pz pt : Pos} {kt k2 pt2} (hc : X.calm = true) (hN : X.N.Nodup) (ha : LAn X [a, b, c] 3 ta) (hi : X.N[i]? = some x := by rfl) (hj : X.N[j]? = some y := by rfl) (hk : X.N[k]? = some z := by rfl)
    (hij : i ≠ j := by decide) (hik : i ≠ k := by decide) (hjk : j ≠ k := by decide)
    (hx : X.env.scope.names.lookup x = some .local := by rfl) (hy : X.env.scope.names.lookup y = some .local := by rfl) (hz : X.env.scope.names.lookup z = some .local := by rfl)
    (hw : swappedStores [.Tuple [.Name x px, .Name y py, .Name z pz] kt pt] (.Tuple [a, b, c] k2 pt2) X.env = pure (some [x, y, z]) := by rfl)
    (hs : swapsWithSole [.Tuple [.Name x px, .Name y py, .Name z pz] kt pt] (.Tuple [a, b, c] k2 pt2) pos.line X.env = pure false := by rfl) :
    LS X (.Assign [.Tuple [.Name x px, .Name y py, .Name z pz] kt pt] (.Tuple [a, b, c] k2 pt2) pos) (mPar3 i j k ta) := by
  refine PS.weak (ps_par3 hc hN hi hj hk hij hik hjk hx hy hz ha hw hs) fun D σ H ⟨τ, h, D', s, sh, q, l⟩ => ?_
  refine ⟨τ, h, _, s, sh, q, fun ps h1 vs H1 q1 hl m1 r s1 => ?_⟩
  match ps, hl, q1, r with
  | [p, q, r'], _, q1, r =>
    obtain ⟨v, ws, rfl, r1, r2⟩ := r.uncons
    obtain ⟨w1, w2, rfl, r3, r4⟩ := r2.two
    exact ⟨v, w1, w2, rfl, l.nx _ _ _ _ q1 m1 ((((s.mono m1.mono).set r1).set r3).set r4) s1⟩
end
end N3

/-! op= on names; list.extend, insert, pop of a place; sorted -/
namespace N3
open PySem PySem.Spec PyProof.Rows L2

/-! ### name += e -/
theorem no_tuple_iadd : typeLookup (.type "tuple") (dunderI "add") = pure none := by rw [typeLookup_type, builtinLookup_eq_fast]; kernel_rfl
theorem icat_any {prog : Program} {w : World} {A : Around} {E : Value → Shared → Prop} {s : Shared} {t b : Addr} {vs ws : List Value} {Q : Value → Shared → Prop} (ht : IsTup s.heap t vs.toArray) (hb : IsTup s.heap b ws.toArray)
    (h0 : vs = [] → Q (.ref b) s) (h1 : vs ≠ [] → ws = [] → Q (.ref t) s) (h2 : vs ≠ [] → ws ≠ [] → Q (.ref s.heap.objs.size) { s with heap := s.heap.push { cls := .type "tuple", data := .seq (vs ++ ws).toArray } }) (hz : vs.length + ws.length ≤ sizeLine) :
    wpAny (model prog w) A (inplaceOp .Add (.ref t) (.ref b)) Q E s := by
  obtain ⟨⟨c1, d1, x1, sl1⟩, ho, hc, n1, hd⟩ := id ht
  obtain ⟨⟨c2, d2, x2, sl2⟩, ho2, hc2, n2, hd2⟩ := id hb
  simp only at hc hd hc2 hd2
  subst hc; subst hd; subst hc2; subst hd2
  have go : ∀ {S : PySem.Spec}, Meets (Builtin.«tuple.__add__» ⟨[.ref t, .ref b], []⟩) S → S A (wants Q E) s → wpAny (model prog w) A (inplaceOp .Add (.ref t) (.ref b)) Q E s := fun {S} g k =>
    wpAny_inplaceOp_concat ⟨_, ho, rfl⟩ ⟨_, ho2, rfl⟩ no_tuple_iadd noFill_tuple_add seq_tuple_add (call_meets PySem.F.slot_tuple_add ⟨_, ho, rfl⟩ PySem.F.entry_tuple_add (PySem.F.args_tuple_add_2 _ _) g k)
  by_cases hv : vs = []
  · subst hv
    exact go (tuple_addW0 t b ([] : List Value).toArray ws.toArray n1 n2 d1 d2 sl1 sl2 (by simp)) ⟨ho, ho2, h0 rfl⟩
  by_cases hw : ws = []
  · subst hw
    exact go (tuple_addW1 t b vs.toArray ([] : List Value).toArray n1 n2 d1 d2 sl1 sl2 (by simpa using hv) (by simp)) ⟨ho, ho2, h1 hv rfl⟩
  · refine go (tuple_addW2 t b vs.toArray ws.toArray n1 n2 d1 d2 sl1 sl2 (by simpa using hv) (by simpa using hw) (by rw [List.size_toArray, List.size_toArray]; exact hz)) ⟨ho, ho2, ?_⟩
    have e : vs.toArray ++ ws.toArray = (vs ++ ws).toArray := by simp
    rw [e]; exact h2 hv hw
theorem iop_catA {X : Cx} : OpR X (inplaceOp .Add) (rCatA X.K) := by
  intro pins s σ H x y v u Q I rx ry h
  obtain ⟨a, b, xs, ys, rfl, rfl, ha, hb, hz, q0, q1, q2⟩ := h
  cases rx; cases ry
  obtain ⟨its, r1, p1, _⟩ := I.tuple ha
  obtain ⟨its2, r2, p2, _⟩ := I.tuple hb
  refine icat_any p1 p2 (fun z => ⟨.ref b, H, I, rfl, q0 (r1.nil_iff.mp z)⟩) (fun z z' => ⟨.ref a, H, I, rfl, q1 (fun k => z (r1.nil_iff.mpr k)) (r2.nil_iff.mp z')⟩) (fun z z' => ?_) (by rw [← r1.length, ← r2.length]; exact hz)
  have I2 := I.laid (t' := s.toks) (o := .tup (xs ++ ys)) (fun c o q => Heap.get?_push_of_some { cls := .type "tuple", data := .seq (its ++ its2).toArray } q) (Nat.le_refl _) ⟨by rw [List.length_append]; exact hz, _, r1.append r2, IsTup.new _ _⟩
  exact ⟨.ref s.heap.objs.size, _, I2, rfl, q2 (fun k => z (r1.nil_iff.mpr k)) (fun k => z' (r2.nil_iff.mpr k)) _ (I.hok.fresh (Nat.le_refl _))⟩
def rIAdd : PR2 := fun p q h Q => match p, q with
  | .int i, .int j => Q (.int (i + j)) h
  | .str x, .str y => x.length + y.length ≤ SZ ∧ Q (.str (x ++ y)) h
  | .tup xs, .tup ys => xs.length + ys.length ≤ SZ ∧ Q (.tup (xs ++ ys)) h
  | _, _ => False
def oIAdd (K : PySem.W.Frag) : R2 := fun x y H Q => ((∃ i j, x = .int i ∧ y = .int j ∧ Q (.int (i + j)) H) ∨ (∃ i j, x = .str i ∧ y = .str j ∧ i.length + j.length ≤ sizeLine ∧ Q (.str (i ++ j)) H)) ∨ rCatA K x y H Q
theorem iop_addA {X : Cx} : OpR X (inplaceOp .Add) (oIAdd X.K) := (iop_add.or iop_add_str).or iop_catA
theorem lf_iadd {K : PySem.W.Frag} : Lf2 K (oIAdd K) rIAdd := by
  intro x y H p q h Q' Q rp rq s r l
  unfold rIAdd at r
  split at r
  · exact .inl (.inl ⟨_, _, rel_int.mp rp, rel_int.mp rq, l _ _ _ _ r .refl (rel_int.mpr rfl) s⟩)
  · exact .inl (.inr ⟨_, _, rel_str.mp rp, rel_str.mp rq, sz_le r.1, l _ _ _ _ r.2 .refl (rel_str.mpr rfl) s⟩)
  · rename_i ps qs
    obtain ⟨a, xs, e1, h1, r1⟩ := rel_tup.mp rp
    obtain ⟨b, ys, e2, h2, r2⟩ := rel_tup.mp rq
    obtain ⟨hz, r⟩ := r
    refine .inr ⟨a, b, xs, ys, e1, e2, h1, h2, by rw [← r1.length, ← r2.length]; exact sz_le hz, fun e => ?_, fun e e' => ?_, fun e e' c hc => make_t l s (r1.append r2) r hc⟩
    · have e3 : ps = [] := List.length_eq_zero_iff.mp (by rw [r1.length, e]; rfl)
      rw [e3, List.nil_append] at r
      exact l _ _ _ _ r .refl (rel_tup.mpr ⟨b, ys, rfl, h2, r2⟩) s
    · have e3 : qs = [] := List.length_eq_zero_iff.mp (by rw [r2.length, e']; rfl)
      rw [e3, List.append_nil] at r
      exact l _ _ _ _ r .refl (rel_tup.mpr ⟨a, xs, rfl, h1, r1⟩) s
  · exact r.elim
def mAug (i : Nat) (m : ME) : MS := fun D τ h => match gt τ i with
  | some p => m τ h fun q h1 => rIAdd p q h1 fun z h2 => D.nx (st τ i (some z)) h2
  | none => False
theorem ls_aug {X : Cx} {pos : Pos} {i : Nat} {x : Str} {e : Expr} {m : ME} {pos' : Pos} (hN : X.N.Nodup) (he : LE X e m) (hi : X.N[i]? = some x := by rfl) (hx : Loc X.env.scope x := by first | exact Or.inl rfl | exact Or.inr rfl)
    (hf : X.fn x = true ∨ X.env.scope.names.lookup x = some .local := by first | exact .inl rfl | exact .inr rfl | assumption) : LS X (.AugAssign (.Name x pos') .Add e pos) (mAug i m) := by
  refine PS.weak (ps_aug hN hi hx he iop_addA hf) fun D σ H ⟨τ, h, D', s, sh, q, l⟩ => ?_
  unfold mAug at q
  split at q
  · rename_i p ep
    obtain ⟨v, ev, rv⟩ := s.get ep
    refine ⟨v, ev, τ, h, _, s, sh, q, fun q1 h1 y H1 q2 g1 r1 s1 => ?_⟩
    refine lf_iadd v y H1 p q1 h1 _ _ (rv.mono g1.mono) r1 s1 q2 fun z h2 zv H2 q3 g2 r2 s2 => ?_
    exact l.nx _ _ _ _ q3 (g1.trans g2) (((s.mono g1.mono).mono g2.mono).set r2) s2
  · exact q.elim

/-! ### sorted -/
open PySem.W in
/-- what is sorted: data, all alike -/
structure Srtb (bs : List PyData) : Prop where
  al : AllAlike bs
  so : Sortable bs
  nd : ∀ b ∈ bs, b.hasDict = false
  dp : ∀ b ∈ bs, b.depth ≤ 60
theorem dp_each {K : PySem.W.Frag} {H : Hp} {X : Cx} {pins : List (Addr × Obj)} {σ : L2.St} {s : Shared} (I : Inv X pins σ H s) (hK : K = X.K) : ∀ {bs : List (V × PyData)} {its : List Value}, (∀ b ∈ bs, Dp K H b.1 b.2) → Vals (bs.map Prod.fst) its →
    PySem.W.EachIs (fun u b => RelV b.1 u) its bs ∧ PySem.W.EachIs (fun u (b : V × PyData) => ∃ as, Reads s.heap u b.2 as) its bs
  | [], its, _, r => by
    have : its = [] := by cases r; rfl
    subst this
    exact ⟨.nil, .nil⟩
  | b :: bs, its, h, r => by
    cases r with
    | cons r1 r2 =>
      obtain ⟨e1, e2⟩ := dp_each I hK (fun c hc => h c (List.mem_cons_of_mem _ hc)) r2
      refine ⟨.cons r1 e1, .cons ?_ e2⟩
      have := h b List.mem_cons_self
      subst hK
      exact Dp.reads I b.2 b.1 _ this r1
theorem vals_each : ∀ {bs : List (V × PyData)} {its : List Value}, PySem.W.EachIs (fun u b => RelV b.1 u) its bs → Vals (bs.map Prod.fst) its
  | _, _, .nil => .nil
  | _, _, .cons h t => .cons h (vals_each t)
def oSort (K : PySem.W.Frag) : List V → Hp → VK → Prop := fun vs H Q => ∃ (a : Addr) (bs : List (V × PyData)), vs = [.ref a] ∧ SqL K H a (bs.map Prod.fst) ∧ (∀ b ∈ bs, Dp K H b.1 b.2) ∧ Srtb (bs.map Prod.snd) ∧
  ∀ l, H l = none → Q (.ref l) (upd H l (.lst ((bs.mergeSort (PySem.W.dataLe false Prod.snd)).map Prod.fst)))
theorem cr_sort {X : Cx} (hu : X.A.units + 66 < cLine) : CallR X (.builtin "sorted") (oSort X.K) := by
  intro pins s σ H vs us Q I r h
  obtain ⟨a, bs, rfl, ha, hd, st, q⟩ := h
  obtain ⟨u, rfl, ru⟩ := vals1 r
  cases ru
  obtain ⟨its, rv, pl, hz⟩ := I.list ha
  obtain ⟨e1, e2⟩ := dp_each I rfl hd rv
  rw [List.length_map] at hz
  refine PySem.W.sorted_data (bs := bs) (enc := Prod.snd) pl.isList e1 e2 st.al st.so hz (fun b hb => ?_) fun out hl eo => ?_
  · have := st.dp b.2 (List.mem_map_of_mem hb)
    omega
  · obtain ⟨c, hc⟩ := sortedAll_at s.heap its out.toArray
    have I2 := I.laid (t' := s.toks) (h' := sortedAll s.heap its out.toArray) (a := s.heap.objs.size + 1) (o := .lst ((bs.mergeSort (PySem.W.dataLe false Prod.snd)).map Prod.fst)) (fun _ _ => sortedAll_old) (Nat.le_succ _)
      ⟨by rw [List.length_map, List.length_mergeSort]; exact hz, out, c, vals_each eo, hc⟩
    exact ⟨.ref (s.heap.objs.size + 1), _, I2, rfl, q _ (I.hok.fresh (Nat.le_succ _))⟩
/-- sorted(xs): data, all alike, rising -/
def rSort : PRA := fun ps h Q => match ps with
  | [p] => (match seqL h p with | some xs => flats xs = true ∧ Srtb (xs.map toD) ∧ Q (.lst (xs.mergeSort (PySem.W.dataLe false toD))) h | none => False)
  | _ => False
theorem dps_zip {K : PySem.W.Frag} {H : Hp} : ∀ {ps : List PV} {xs : List V}, flats ps = true → Rels K H ps xs → ∀ b ∈ xs.zip (ps.map toD), Dp K H b.1 b.2
  | [], xs, _, r, b, hb => by rw [Rels.nil_iff] at r; subst r; exact (List.not_mem_nil hb).elim
  | p :: ps, xs, f, r, b, hb => by
    obtain ⟨v, vs, rfl, r1, r2⟩ := r.uncons
    have f' : (flat p && flats ps) = true := f
    rw [Bool.and_eq_true] at f'
    rw [List.map_cons, List.zip_cons_cons] at hb
    rcases List.mem_cons.mp hb with rfl | hb
    · exact Rel.dp p v f'.1 r1
    · exact dps_zip f'.2 r2 b hb
theorem rels_zip {K : PySem.W.Frag} {H : Hp} : ∀ {l : List (PV × V)}, (∀ x ∈ l, Rel K H x.1 x.2) → Rels K H (l.map Prod.fst) (l.map Prod.snd)
  | [], _ => .nil
  | x :: l, h => .cons (h x List.mem_cons_self) (rels_zip fun y hy => h y (List.mem_cons_of_mem _ hy))
theorem rels_pairs {K : PySem.W.Frag} {H : Hp} : ∀ {ps : List PV} {xs : List V}, Rels K H ps xs → ∀ x ∈ ps.zip xs, Rel K H x.1 x.2
  | [], _, _, x, hx => by simp at hx
  | p :: ps, xs, r, x, hx => by
    obtain ⟨v, vs, rfl, r1, r2⟩ := r.uncons
    rw [List.zip_cons_cons] at hx
    rcases List.mem_cons.mp hx with rfl | hx
    · exact r1
    · exact rels_pairs r2 x hx
theorem rels_sort {K : PySem.W.Frag} {H : Hp} {ps : List PV} {xs : List V} (r : Rels K H ps xs) : Rels K H (ps.mergeSort (PySem.W.dataLe false toD)) (((xs.zip (ps.map toD)).mergeSort (PySem.W.dataLe false Prod.snd)).map Prod.fst) := by
  have hl := r.length
  -- both are pictures of the sorted pairs
  let l := ps.zip xs
  have e1 : (l.mergeSort (PySem.W.dataLe false fun x => toD x.1)).map Prod.fst = ps.mergeSort (PySem.W.dataLe false toD) := by
    have z := PySem.W.sort_maps (r := PySem.W.dataLe false fun x : PV × V => toD x.1) (s := PySem.W.dataLe false toD) Prod.fst (l := l) (fun _ _ _ _ => rfl)
    rw [z, List.map_fst_zip (by omega)]
  have e2 : (l.mergeSort (PySem.W.dataLe false fun x => toD x.1)).map (fun x => (x.2, toD x.1)) = (xs.zip (ps.map toD)).mergeSort (PySem.W.dataLe false Prod.snd) := by
    have z := PySem.W.sort_maps (r := PySem.W.dataLe false fun x : PV × V => toD x.1) (s := PySem.W.dataLe false (Prod.snd : V × PyData → PyData)) (fun x : PV × V => (x.2, toD x.1)) (l := l) (fun _ _ _ _ => rfl)
    rw [z]
    congr 1
    show (ps.zip xs).map _ = _
    clear e1 z l
    induction ps generalizing xs with
    | nil => rw [Rels.nil_iff] at r; subst r; rfl
    | cons p ps ih =>
      obtain ⟨v, vs, rfl, r1, r2⟩ := r.uncons
      rw [List.zip_cons_cons, List.map_cons, List.map_cons, List.zip_cons_cons, ih r2 r2.length]
  rw [← e1, ← e2, List.map_map]
  exact rels_zip fun x hx => rels_pairs r x (List.mem_mergeSort.mp hx)
theorem kf_sort {K : PySem.W.Frag} : KfA K (oSort K) rSort := by
  intro xs H ps h Q' Q rp s r l
  unfold rSort at r
  split at r
  · split at r
    · rename_i p _ qs e
      obtain ⟨v, rfl, r1⟩ := rp.one
      obtain ⟨a, ys, rfl, hq, rr⟩ := seqL_sq r1 s e
      obtain ⟨f, st, r⟩ := r
      have hl := rr.length
      refine ⟨a, ys.zip (qs.map toD), rfl, by rw [List.map_fst_zip (by rw [List.length_map]; omega)]; exact hq, dps_zip f rr, by rw [List.map_snd_zip (by rw [List.length_map]; omega)]; exact st, fun c hc => keep_l l s (rels_sort rr) r hc⟩
    · exact r.elim
  · exact r.elim
theorem le_sort {X : Cx} {pos p : Pos} {e : Expr} {m : MA} (hu : X.A.units + 66 < cLine) (hm : X.mg "sorted" = none) (ha : LAn X [e] 1 m) (hg : Gl X "sorted" := by rfl) (h1 : starEach [e] X.env = (false, eval e X.env) :: starEach [] X.env := by rfl) :
    LE X (.Call (.Name "sorted" p) [e] [] pos) (mBlt rSort m) := le_bltK (cr_sort hu) kf_sort hm ha hg (h1 := h1) (h2 := rfl)
end N3

/-! list.extend, insert, pop of a place; min, max of two ints; dict of pairs; int of a text; f-strings; split -/
namespace N3
open PySem PySem.Spec PyProof.Rows L2

theorem extend_any (l : Addr) (xs : Array Value) (n : Nat) (b : Addr) (ys : Array Value) (n2 : Nat) (sl : Array (Option Value)) (hl : ¬(!xs.isEmpty && Builtin.List.listTooLong (xs.size + ys.size)) = true) (h1 : xs.size ≤ sizeLine) (h2 : xs.size + ys.size ≤ sizeLine + 1) :
    Meets (Builtin.«list.extend» ⟨[.ref l, .ref b], []⟩) (fun _ R s => s.heap.get? l = some { cls := .type "list", dict := none, data := .seq xs n, slots := #[] } ∧ s.heap.get? b = some { cls := .type "list", dict := none, data := .seq ys n2, slots := sl } ∧ R (.ok (.ret Value.none)) { s with heap := s.heap.update l (Obj.mapSeq fun x => x ++ ys), toks := s.toks }) :=
  .of_wp fun prog w A R s h => by
    obtain ⟨hp, g, d, tk, os⟩ := s; obtain ⟨ha, hb, h⟩ := h; have f1 := AutoSeq1.idx_int; have f2 := AutoSeq1.sub_tuple_tuple; have f3 := AutoSeq1.sub_list_list; have f4 := AutoSeq1.sub_tuple_list; have f5 := AutoSeq1.sub_list_tuple
    have hz : (xs ++ ys).size ≤ sizeLine + 1 := by rw [Array.size_append]; exact h2
    wp_walk using (wpAny_updateSeq ha rfl (hz := h1) (_hz' := hz)), AutoSeq1.wpAny_loadPart' ha, AutoSeq1.wpAny_loadPart' hb; exact ⟨_, rfl, h⟩
def oExtend (K : PySem.W.Frag) : V → List V → Hp → VK → Prop := fun x vs H Q => ∃ l b xs zs, x = .ref l ∧ vs = [.ref b] ∧ H l = some (.lst xs) ∧ SqL K H b zs ∧ xs.length + zs.length ≤ sizeLine ∧ Q .non (upd H l (.lst (xs ++ zs)))
theorem mt_extendA {X : Cx} : MtR X "list.extend" (oExtend X.K) := by
  intro pins s σ H x vs v us Q I rx rv h
  obtain ⟨l, b, xs, zs, rfl, rfl, hH, hB, hz, q⟩ := h
  cases rx
  obtain ⟨u, rfl, ru⟩ := rv.one
  cases ru
  obtain ⟨z, its, n, r, hl, e⟩ := I.lstM hH
  obtain ⟨its2, r2, ⟨⟨c2, d2, x2, sl2⟩, n2, e2, k1, k2, k3⟩, hz2⟩ := I.list hB
  simp only at k1 k2 k3
  subst k1; subst k2; subst k3
  have hl2 := r2.length
  have hsz : its.toArray.size + its2.toArray.size ≤ sizeLine := by rw [List.size_toArray, List.size_toArray]; omega
  have hlong : ¬ (!its.toArray.isEmpty && Builtin.List.listTooLong (its.toArray.size + its2.toArray.size)) = true := by
    rw [notLongL hsz, Bool.and_false]; simp
  refine call_meets PySem.F.slot_list_extend ⟨_, e, rfl⟩ PySem.F.entry_list_extend (PySem.F.args_list_extend_2 _ _) (extend_any l its.toArray n b its2.toArray n2 sl2 hlong (by rw [List.size_toArray]; omega) (by omega)) ⟨e, e2, ?_⟩
  exact ⟨.non, _, I.lset (its' := its ++ its2) hH e (by simp) (r.append r2) (by rw [List.length_append]; omega), rfl, q⟩
section
variable {X : Cx} {o e f : Expr} {es : List Expr} {n : Nat} {mo me : ME} {m : MA} {apos cpos pos p : Pos}
/-- xs.extend(ys): ys a list -/
def mExtend (mo : ME) (m : MA) : ME := fun τ h Q => mo τ h fun p h1 => listAt h1 p ∧ m τ h1 fun ps h2 => match p, ps with
  | .ref a, [q] => (match h2 a, seqL h2 q with | some (.lst xs), some ys => xs.length + ys.length ≤ SZ ∧ Q .non (up h2 a (.lst (xs ++ ys))) | _, _ => False)
  | _, _ => False
theorem le_extend (ho : LE X o mo) (he : LAn X [e] 1 m) (hbase : attributeBase o "extend" X.env (eval o X.env) = eval o X.env := by rfl)
    (hfew : ((backTo cpos (starEach [e] X.env)).all (fun x => !x.1) && (backToKw cpos (keywordEach [] X.env)).all (fun x => x.1.isSome) && decide (([e] : List Expr).length + ([] : List Keyword).length + (if ([] : List Keyword).isEmpty then 0 else 1) < 30)) = true := by rfl)
    (hline : (apos.endLine == cpos.line) = true := by rfl) (hs : starEach [e] X.env = (false, eval e X.env) :: starEach [] X.env := by rfl) :
    LE X (.Call (.Attribute o "extend" apos) [e] [] cpos) (mExtend mo m) := by
  refine PE.weak (pe_bm PySem.F.plainAttrs_list PySem.F.slot_list_extend PySem.F.type_list_extend mt_extendA ho he hbase hfew hline hs rfl) fun σ H Q ⟨τ, h, Q', s, sh, q, l⟩ => ?_
  refine ⟨τ, h, _, s, sh, q, fun p h1 v H1 q1 g1 r1 s1 => ⟨ty_list r1 s1 q1.1, ?_⟩⟩
  refine ⟨τ, h1, _, s.mono g1.mono, s1, q1.2, ?_⟩
  rintro ps h2 vs H2 q2 _ g2 rr s2
  split at q2
  · rename_i a q _
    obtain ⟨y, rfl, ry⟩ := rr.one
    split at q2
    · rename_i xs ys e2 e4
      obtain ⟨u, e3, us, rfl, rx⟩ := s2 _ _ e2
      obtain ⟨b, ws, rfl, hq, rw'⟩ := seqL_sq ry s2 e4
      have mm : Mono H2 (upd H2 a (.lst (us ++ ws))) := Mono.lst e3
      refine ⟨a, b, us, ws, rel_ref.mp r1, rfl, e3, hq, by rw [← rx.length, ← rw'.length]; exact sz_le q2.1, l _ _ _ _ q2.2 ((g1.trans g2).trans (.wr e2 mm)) (rel_non.mpr rfl) (s2.put mm ⟨_, rfl, (rx.append rw').mono mm⟩)⟩
    · exact q2.elim
  · exact q2.elim
/-- xs.insert(i, y), 0 ≤ i -/
def mInsert (mo : ME) (m : MA) : ME := fun τ h Q => mo τ h fun p h1 => listAt h1 p ∧ m τ h1 fun ps h2 => match p, ps with
  | .ref a, [.int i, q] => (match h2 a with | some (.lst xs) => xs.length < SZ ∧ 0 ≤ i ∧ i < 1000000 ∧ Q .non (up h2 a (.lst (xs.take i.toNat ++ [q] ++ xs.drop i.toNat))) | _ => False)
  | _, _ => False
theorem le_insert (ho : LE X o mo) (he : LAn X [e, f] 2 m) (hbase : attributeBase o "insert" X.env (eval o X.env) = eval o X.env := by rfl)
    (hfew : ((backTo cpos (starEach [e, f] X.env)).all (fun x => !x.1) && (backToKw cpos (keywordEach [] X.env)).all (fun x => x.1.isSome) && decide (([e, f] : List Expr).length + ([] : List Keyword).length + (if ([] : List Keyword).isEmpty then 0 else 1) < 30)) = true := by rfl)
    (hline : (apos.endLine == cpos.line) = true := by rfl) (hs : starEach [e, f] X.env = (false, eval e X.env) :: starEach [f] X.env := by rfl) (hp : (backTo cpos (starEach [f] X.env)).any (·.1) = false := by rfl) :
    LE X (.Call (.Attribute o "insert" apos) [e, f] [] cpos) (mInsert mo m) := by
  refine PE.weak (pe_bm PySem.F.plainAttrs_list PySem.F.slot_list_insert PySem.F.type_list_insert mt_insert ho he hbase hfew hline hs hp) fun σ H Q ⟨τ, h, Q', s, sh, q, l⟩ => ?_
  refine ⟨τ, h, _, s, sh, q, fun p h1 v H1 q1 g1 r1 s1 => ⟨ty_list r1 s1 q1.1, ?_⟩⟩
  refine ⟨τ, h1, _, s.mono g1.mono, s1, q1.2, ?_⟩
  rintro ps h2 vs H2 q2 _ g2 rr s2
  split at q2
  · rename_i a i q _
    obtain ⟨y, w, rfl, ry, rw'⟩ := rr.two
    split at q2
    · rename_i xs e2
      obtain ⟨u, e3, us, rfl, rx⟩ := s2 _ _ e2
      obtain ⟨z1, z2, z3, q2⟩ := q2
      have mm : Mono H2 (upd H2 a (.lst (us.take i.toNat ++ [w] ++ us.drop i.toNat))) := Mono.lst e3
      refine ⟨a, us, i, w, rel_ref.mp r1, by rw [rel_int.mp ry], e3, by rw [← rx.length]; exact sz_lt z1, z2, by omega, l _ _ _ _ q2 ((g1.trans g2).trans (.wr e2 mm)) (rel_non.mpr rfl) (s2.put mm ⟨_, rfl, (((rx.take _).append (.cons rw' .nil)).append (rx.drop _)).mono mm⟩)⟩
    · exact q2.elim
  · exact q2.elim
/-- xs.pop(i) -/
def mPopAt (mo : ME) (m : MA) : ME := fun τ h Q => mo τ h fun p h1 => listAt h1 p ∧ m τ h1 fun ps h2 => match p, ps with
  | .ref a, [.int i] => (match h2 a with
    | some (.lst xs) => xs.length ≤ SZ ∧ (match ixN xs.length i with | some k => (match xs[k]? with | some y => Q y (up h2 a (.lst (xs.eraseIdx k))) | none => False) | none => False)
    | _ => False)
  | _, _ => False
theorem Rels.eraseIdx {K : PySem.W.Frag} {H : Hp} {ps : List PV} {xs : List V} (r : Rels K H ps xs) (k : Nat) : Rels K H (ps.eraseIdx k) (xs.eraseIdx k) := by
  rw [List.eraseIdx_eq_take_drop_succ, List.eraseIdx_eq_take_drop_succ]
  exact (r.take _).append (r.drop _)
theorem le_popAt (ho : LE X o mo) (he : LAn X [e] 1 m) (hbase : attributeBase o "pop" X.env (eval o X.env) = eval o X.env := by rfl)
    (hfew : ((backTo cpos (starEach [e] X.env)).all (fun x => !x.1) && (backToKw cpos (keywordEach [] X.env)).all (fun x => x.1.isSome) && decide (([e] : List Expr).length + ([] : List Keyword).length + (if ([] : List Keyword).isEmpty then 0 else 1) < 30)) = true := by rfl)
    (hline : (apos.endLine == cpos.line) = true := by rfl) (hs : starEach [e] X.env = (false, eval e X.env) :: starEach [] X.env := by rfl) :
    LE X (.Call (.Attribute o "pop" apos) [e] [] cpos) (mPopAt mo m) := by
  refine PE.weak (pe_bm PySem.F.plainAttrs_list PySem.F.slot_list_pop PySem.F.type_list_pop mt_popAt ho he hbase hfew hline hs rfl) fun σ H Q ⟨τ, h, Q', s, sh, q, l⟩ => ?_
  refine ⟨τ, h, _, s, sh, q, fun p h1 v H1 q1 g1 r1 s1 => ⟨ty_list r1 s1 q1.1, ?_⟩⟩
  refine ⟨τ, h1, _, s.mono g1.mono, s1, q1.2, ?_⟩
  rintro ps h2 vs H2 q2 _ g2 rr s2
  split at q2
  · rename_i a i _
    obtain ⟨y, rfl, ry⟩ := rr.one
    split at q2
    · rename_i xs e2
      obtain ⟨u, e3, us, rfl, rx⟩ := s2 _ _ e2
      obtain ⟨z1, q2⟩ := q2
      split at q2
      · rename_i k ek
        split at q2
        · rename_i y2 ey
          obtain ⟨w, ew, rw'⟩ := rx.get ey
          obtain ⟨k1, k2, k3, k4⟩ := ixN_seq ek
          have hl := rx.length
          have hz : xs.length ≤ 16777216 := z1
          have mm : Mono H2 (upd H2 a (.lst (us.eraseIdx k))) := Mono.lst e3
          refine ⟨a, us, i, k, w, rel_ref.mp r1, by rw [rel_int.mp ry], e3, by omega, by omega, by rw [← hl]; exact k1, ew, l _ _ _ _ q2 ((g1.trans g2).trans (.wr e2 mm)) (rw'.mono mm) (s2.put mm ⟨_, rfl, (rx.eraseIdx k).mono mm⟩)⟩
        · exact q2.elim
      · exact q2.elim
    · exact q2.elim
  · exact q2.elim
/-- min, max of two ints -/
def rMin2 : PRA := fun ps h Q => match ps with | [.int i, .int j] => Q (.int (if j < i then j else i)) h | _ => False
def rMax2 : PRA := fun ps h Q => match ps with | [.int i, .int j] => Q (.int (if j > i then j else i)) h | _ => False
theorem lf_min2 {K : PySem.W.Frag} : LfA K (fun xs H Q => ∃ i j, xs = [.int i, .int j] ∧ Q (.int (if j < i then j else i)) H) rMin2 := by
  intro xs H ps h Q' Q rp s r l
  unfold rMin2 at r
  split at r
  · obtain ⟨v, w, rfl, r1, r2⟩ := rp.two
    rw [rel_int.mp r1, rel_int.mp r2]
    exact ⟨_, _, rfl, l _ _ _ _ r .refl (rel_int.mpr rfl) s⟩
  · exact r.elim
theorem lf_max2 {K : PySem.W.Frag} : LfA K (fun xs H Q => ∃ i j, xs = [.int i, .int j] ∧ Q (.int (if j > i then j else i)) H) rMax2 := by
  intro xs H ps h Q' Q rp s r l
  unfold rMax2 at r
  split at r
  · obtain ⟨v, w, rfl, r1, r2⟩ := rp.two
    rw [rel_int.mp r1, rel_int.mp r2]
    exact ⟨_, _, rfl, l _ _ _ _ r .refl (rel_int.mpr rfl) s⟩
  · exact r.elim
theorem le_min2 (hc : X.calm = true) (hm : X.mg "min" = none) (ha : LAn X [e, f] 2 m) (hg : Gl X "min" := by rfl) (h1 : starEach [e, f] X.env = (false, eval e X.env) :: starEach [f] X.env := by rfl) (h2 : (backTo pos (starEach [f] X.env)).any (·.1) = false := by rfl) :
    LE X (.Call (.Name "min" p) [e, f] [] pos) (mBlt rMin2 m) := le_blt (call_min2 hc) lf_min2 hm ha hg (h1 := h1) (h2 := h2)
theorem le_max2 (hc : X.calm = true) (hm : X.mg "max" = none) (ha : LAn X [e, f] 2 m) (hg : Gl X "max" := by rfl) (h1 : starEach [e, f] X.env = (false, eval e X.env) :: starEach [f] X.env := by rfl) (h2 : (backTo pos (starEach [f] X.env)).any (·.1) = false := by rfl) :
    LE X (.Call (.Name "max" p) [e, f] [] pos) (mBlt rMax2 m) := le_blt (call_max2 hc) lf_max2 hm ha hg (h1 := h1) (h2 := h2)
/-- int(text) -/
def rIntT : PRA := fun ps h Q => match ps with
  | [.str x] => x.length ≤ 640 ∧ (match PySem.intText? x with | some n => Q (.int n) h | none => False)
  | [.int i] => Q (.int i) h
  | [.bl b] => Q (.int (if b = true then 1 else 0)) h
  | _ => False
theorem le_intT (hm : X.mg "int" = none) (ha : LAn X [e] 1 m) (hg : Gl X "int" := by rfl) (h1 : starEach [e] X.env = (false, eval e X.env) :: starEach [] X.env := by rfl) :
    LE X (.Call (.Name "int" p) [e] [] pos) (mBlt rIntT m) := le_ty (call_int1.or call_int_str) (fun xs H ps h Q' Q rp s r l => by
  unfold rIntT at r
  split at r
  · obtain ⟨v, rfl, r1⟩ := rp.one
    obtain ⟨hl, r⟩ := r
    split at r
    · rename_i n en
      rw [rel_str.mp r1]
      exact .inr ⟨_, _, rfl, en, hl, l _ _ _ _ r .refl (rel_int.mpr rfl) s⟩
    · exact r.elim
  · obtain ⟨v, rfl, r1⟩ := rp.one
    rw [rel_int.mp r1]
    exact .inl (.inl ⟨_, rfl, l _ _ _ _ r .refl (rel_int.mpr rfl) s⟩)
  · obtain ⟨v, rfl, r1⟩ := rp.one
    rw [rel_bl.mp r1]
    exact .inl (.inr ⟨_, rfl, l _ _ _ _ r .refl (rel_int.mpr rfl) s⟩)
  · exact r.elim) hm ha hg (h1 := h1) (h2 := rfl)
/-- x.split(y): a list of texts, kept -/
def rSplit : PV → List PV → PH → PK → Prop := fun p ps h Q => match p, ps with
  | .str x, [.str y] => (y.length == 0) = false ∧ x.length + 2 ≤ SZ ∧ Q (.lst ((Txt.split x y).map PV.str)) h
  | _, _ => False
theorem rels_of_strs {K : PySem.W.Frag} {H : Hp} : ∀ ys : List Str, Rels K H (ys.map PV.str) (ys.map V.str)
  | [] => .nil
  | y :: ys => .cons (rel_str.mpr rfl) (rels_of_strs ys)
theorem le_split (ho : LE X o mo) (ha : LAn X [e] 1 m) (hbase : attributeBase o "split" X.env (eval o X.env) = eval o X.env := by rfl)
    (hfew : ((backTo cpos (starEach [e] X.env)).all (fun x => !x.1) && (backToKw cpos (keywordEach [] X.env)).all (fun x => x.1.isSome) && decide (([e] : List Expr).length + ([] : List Keyword).length + (if ([] : List Keyword).isEmpty then 0 else 1) < 30)) = true := by rfl)
    (hline : (apos.endLine == cpos.line) = true := by rfl) (hs : starEach [e] X.env = (false, eval e X.env) :: starEach [] X.env := by rfl) (hs1 : starEach [e] X.env = [(false, eval e X.env)] := by rfl) :
    LE X (.Call (.Attribute o "split" apos) [e] [] cpos) (mM1 rSplit mo m) := by
  refine PE.weak (PE.kp (pe_bm PySem.F.plainAttrs_str PySem.F.slot_str_split PySem.F.type_str_split mt_split ho ha hbase hfew hline hs rfl)) fun σ H Q ⟨τ, h, Q', s, sh, q, l⟩ => ?_
  refine ⟨τ, h, _, s, sh, q, fun p h1 v H1 ⟨⟨x, ex⟩, q1⟩ g1 r1 s1 => ⟨by subst ex; rw [rel_str.mp r1]; rfl, ?_⟩⟩
  refine ⟨τ, h1, _, s.mono g1.mono, s1, q1, ?_⟩
  rintro ps h2 vs H2 q2 _ g2 rr s2
  subst ex
  unfold rSplit at q2
  split at q2
  · rename_i x' y ex _
    cases ex
    obtain ⟨w, rfl, rw'⟩ := rr.one
    obtain ⟨z1, z2, q2⟩ := q2
    exact ⟨_, _, rel_str.mp r1, by rw [rel_str.mp rw'], z1, sz_le z2, fun a ha => keep_l (l.mono (g1.trans g2)) s2 (rels_of_strs _) q2 ha⟩
  · exact q2.elim
/-! ### f'..' -/
/-- a part: a text or an int, as a text -/
def mFmt (m : ME) : ME := fun τ h Q => m τ h fun p h1 => match p with
  | .str x => x.length ≤ SZ ∧ Q (.str x) h1
  | .int i => i.natAbs.log2 < 1920 ∧ Q (.str (toString i)) h1
  | _ => False
theorem le_fmt (he : LE X e me) : LE X (.FormattedValue e (-1) none pos) (mFmt me) := by
  refine PE.weak (pe_fmt he) fun σ H Q ⟨τ, h, Q', s, sh, q, l⟩ => ?_
  refine ⟨τ, h, _, s, sh, q, fun p h1 v H1 q1 g1 r1 s1 => ?_⟩
  cases p with
  | str x => exact .inl ⟨x, rel_str.mp r1, sz_le q1.1, l _ _ _ _ q1.2 g1 (rel_str.mpr rfl) s1⟩
  | int i => exact .inr ⟨i, rel_int.mp r1, q1.1, l _ _ _ _ q1.2 g1 (rel_str.mpr rfl) s1⟩
  | _ => exact q1.elim
/-- the parts, one behind the other -/
def mJs : List ME → List Nat → PSt → PH → (List Nat → PH → Prop) → Prop
  | [], acc, _, h, Q => Q acc h
  | m :: ms, acc, τ, h, Q => m τ h fun p h1 => match p with
    | .str y => acc.length + (cl y).length ≤ SZ ∧ mJs ms (acc ++ cl y) τ h1 Q
    | _ => False
def mJoin (ms : List ME) : ME := fun τ h Q => mJs ms [] τ h fun l h1 => Q (.str (S l)) h1
inductive LJ (X : Cx) : List Expr → List ME → Prop where
  | nil : LJ X [] []
  | cons {e : Expr} {m : ME} {es : List Expr} {ms : List ME} (h : LE X e m) (r : LJ X es ms) : LJ X (e :: es) (m :: ms)
theorem LJ.pj {es : List Expr} {ms : List ME} (h : LJ X es ms) : PJ X es (ms.map (upE X.K)) := by
  induction h with
  | nil => exact .nil
  | cons h _ ih => exact .cons h ih
theorem js_up {K : PySem.W.Frag} {σ : L2.St} {τ : PSt} : ∀ (ms : List ME) (acc : List Nat) (H : Hp) (h : PH) (Q' : List Nat → PH → Prop) (Q : Str → Hp → Prop), SimS K H σ τ → Sim K H h → mJs ms acc τ h Q' →
    (∀ l h1 H1, Q' l h1 → Go H h H1 h1 → SimS K H1 σ τ → Sim K H1 h1 → Q (S l) H1) → tJs (ms.map (upE K)) (S acc) σ H Q
  | [], acc, H, h, Q', Q, s, sh, q, k => k acc h H q .refl s sh
  | m :: ms, acc, H, h, Q', Q, s, sh, q, k => by
    show upE K m σ H _
    refine ⟨τ, h, _, s, sh, q, fun p h1 v H1 q1 g1 r1 s1 => ?_⟩
    cases p with
    | str y =>
      obtain ⟨hz, q1⟩ := q1
      have e : S acc ++ y = S (acc ++ cl y) := by rw [← S_cl y, S_append, cl_S]
      refine ⟨y, rel_str.mp r1, by rw [e, S_length, List.length_append]; exact sz_le hz, ?_⟩
      rw [e]
      exact js_up ms _ H1 h1 Q' Q (s.mono g1.mono) s1 q1 fun l h2 H2 q2 g2 => k l h2 H2 q2 (g1.trans g2)
    | _ => exact q1.elim
theorem le_fs {e1 e2 : Expr} {rest : List Expr} {ms : List ME} (h : LJ X (e1 :: e2 :: rest) ms) : LE X (.JoinedStr (e1 :: e2 :: rest) pos) (mJoin ms) := by
  refine PE.weak (pe_joined h.pj) fun σ H Q ⟨τ, h0, Q', s, sh, q, l⟩ => ?_
  exact js_up ms [] H h0 _ _ s sh q fun x h1 H1 q1 g1 _ s1 => l _ _ _ _ q1 g1 (rel_str.mpr rfl) s1
/-! ### dict(pairs), each key once -/
def prs : List PV → Option (List Key × List PV)
  | [] => some ([], [])
  | .tup [k, v] :: r => (match kOf k, prs r with | some k', some (ks, vs) => some (k' :: ks, v :: vs) | _, _ => none)
  | _ => none
theorem prs_rel {K : PySem.W.Frag} {H : Hp} : ∀ {xs : List PV} {us : List V} {ks : List Key} {vs : List PV}, Rels K H xs us → prs xs = some (ks, vs) →
    ∃ (as : List Addr) (kvs : List (Key × V)), us = as.map V.ref ∧ Paired (fun p kv => SqT K H p [kV kv.1, kv.2]) as kvs ∧ ks = kvs.map (·.1) ∧ Rels K H vs (kvs.map (·.2))
  | [], us, ks, vs, r, e => by
    rw [Rels.nil_iff] at r
    simp only [prs, Option.some.injEq, Prod.mk.injEq] at e
    obtain ⟨rfl, rfl⟩ := e
    exact ⟨[], [], r, .nil, rfl, .nil⟩
  | x :: xs, us, ks, vs, r, e => by
    obtain ⟨u, us', rfl, r1, r2⟩ := r.uncons
    unfold prs at e
    split at e
    · cases ‹_ :: _ = []›
    · rename_i k v rest e0
      cases e0
      split at e
      · rename_i k' ks' vs' ek er
        simp only [Option.some.injEq, Prod.mk.injEq] at e
        obtain ⟨rfl, rfl⟩ := e
        obtain ⟨as, kvs, e1, e2, e3, e4⟩ := prs_rel r2 er
        obtain ⟨a, ys, rfl, hq, ry⟩ := rel_tup.mp r1
        obtain ⟨w, z, rfl, rw', rz⟩ := ry.two
        have hk := kOf_rel rw' ek
        subst hk
        exact ⟨a :: as, (k', z) :: kvs, by rw [e1]; rfl, .cons hq e2, by rw [e3]; rfl, .cons rz e4⟩
      · cases e
    · cases e
def rDictP : PRA := fun ps h Q => match ps with
  | [p] => (match seqL h p with
    | some xs => (match prs xs with | some (ks, vs) => ks.Nodup ∧ Q (.dct ks vs) h | none => False)
    | none => False)
  | _ => False
theorem le_dictP (hc : X.calm = true) (hm : X.mg "dict" = none) (ha : LAn X [e] 1 m) (hg : Gl X "dict" := by rfl) (h1 : starEach [e] X.env = (false, eval e X.env) :: starEach [] X.env := by rfl) :
    LE X (.Call (.Name "dict" p) [e] [] pos) (mBlt rDictP m) := le_tyK (call_dictP hc) (fun xs H ps h Q' Q rp s r l => by
  unfold rDictP at r
  split at r
  · split at r
    · rename_i q _ ys e
      split at r
      · rename_i ks vs ek
        obtain ⟨v, rfl, r1⟩ := rp.one
        obtain ⟨a, us, rfl, hq, rr⟩ := seqL_sq r1 s e
        obtain ⟨as, kvs, rfl, e2, rfl, e4⟩ := prs_rel rr ek
        refine ⟨a, as, kvs, rfl, hq, e2, fun b hb => ?_⟩
        rw [merge_nd kvs [] (by simpa using r.1), List.nil_append]
        exact keep_d l s rfl e4 r.2 hb
      · exact r.elim
    · exact r.elim
  · exact r.elim) hm ha hg (h1 := h1) (h2 := rfl)
end
/-! ### [e, ..] * n, a list that may change -/
def mRepM (m : MA) (mb : ME) : ME := fun τ h Q => m τ h fun ps h1 => mb τ h1 fun q h2 => match q with
  | .int k => (-16777216 ≤ k ∧ k ≤ 16777216 ∧ ps.length * k.toNat ≤ SZ) ∧ ∀ a, h2 a = none → Q (.ref a) (up h2 a (.lst (List.replicate k.toNat ps).flatten))
  | _ => False
theorem le_repM {X : Cx} {pos p2 : Pos} {es : List Expr} {b : Expr} {n : Nat} {m : MA} {mb : ME} (h : LAn X es n m) (hb : LE X b mb) (hn : n ≤ 1000 := by decide) : LE X (.BinOp (.List es p2) .Mult b pos) (mRepM m mb) := by
  refine PE.weak (PE.kp (pe_op op_rep (pe_lst h) hb)) fun σ H Q ⟨τ, h, Q', s, sh, q, l⟩ => ?_
  refine ⟨τ, h, _, s, sh, q, fun ps h1 vs H1 q1 hl g1 r1 s1 => ⟨by rw [← r1.length, hl]; exact few hn, fun p hp => ?_⟩⟩
  have hp1 : h1 p = none := s1.fresh hp
  have gD : Go H1 h1 (upd H1 p (.lst vs)) h1 := .new hp
  refine ⟨τ, h1, _, s.mono (g1.trans gD).mono, s1.new hp, q1, fun q h2 y H2 q2 g2 r2 s2 => ?_⟩
  cases q with
  | int k =>
    obtain ⟨⟨k1, k2, hz⟩, q2⟩ := q2
    have hH : H2 p = some (.lst vs) := g2.frame p _ upd_same hp1
    refine ⟨p, k, vs, rfl, rel_int.mp r2, hH, by omega, by omega, by rw [← r1.length]; exact sz_le hz, fun c hc => ?_⟩
    have g := (g1.trans gD).trans g2
    exact make_l (l.mono g) s2 ((r1.mono (gD.trans g2).mono).rep k.toNat) q2 hc
  | _ => exact q2.elim
end N3

/-! what a def has made and no one needs any more may be forgotten at its end -/
namespace N3
open PySem PySem.Spec PyProof.Rows L2
def sub (h0 h1 : PH) : Prop := ∀ a o, h0 a = some o → h1 a = some o
theorem sub_refl (h : PH) : sub h h := fun _ _ e => e
theorem sub_up {h : PH} {a : Addr} {o : PO} (e : h a = none) : sub h (up h a o) := fun b u z => by
  unfold up
  by_cases hb : b = a
  · subst hb; rw [e] at z; cases z
  · rw [if_neg hb]; exact z
theorem sub_trans {h k l : PH} (a : sub h k) (b : sub k l) : sub h l := fun c o e => b c o (a c o e)
theorem sub_none {h0 h1 : PH} {b : Addr} (s : sub h0 h1) (e : h1 b = none) : h0 b = none := by
  cases z : h0 b with
  | none => rfl
  | some o => have := s b o z; rw [e] at this; cases this
def frg (Q : PK) : PK := fun p h1 => ∃ h0, sub h0 h1 ∧ Q p h0
theorem frg_of {Q : PK} {p : PV} {h : PH} (q : Q p h) : frg Q p h := ⟨h, sub_refl h, q⟩
theorem LQ.frg {K : PySem.W.Frag} {H : Hp} {h : PH} {Q' : PK} {Q : VK} (l : LQ K H h Q' Q) : LQ K H h (frg Q') Q := fun p h1 v H1 ⟨h0, s, q⟩ g r sm =>
  l p h0 v H1 q ⟨g.mono, g.frame, fun b u e n => sub_none s (g.dom b u e n), g.live⟩ r (sm.less s)
section
variable {P : Program} {w : World} {K : PySem.W.Frag} {mg : Str → Option Value} {base : Heap}
theorem FnG.frg {k : Nat} {f : Addr} {fd : FuncData} {ps : List Str} {sp : SpP} (F : FnG P w K mg base k f fd ps (fun qs h Q => ∃ Q', sp qs h Q' ∧ Q = N3.frg Q')) : FnG P w K mg base k f fd ps sp :=
  ⟨fun A outer s H args us vs Q hr hg he hb r ⟨qs, h1, Q', hl, rr, ss, z, l⟩ => F.run A outer s H args us vs Q hr hg he hb r ⟨qs, h1, N3.frg Q', hl, rr, ss, ⟨Q', z, rfl⟩, l.frg⟩⟩
theorem fn_okF {x qual : Str} {st : Stmt} {f : Addr} {fd : FuncData} {N ps : List Str} {k : Nat} {sp : SpP} {m : MS} (F : Fun K x qual st f fd) (S : FnScope N ps (defScope st))
    (hb : ∀ (cdv : Value) (A : Around) (outer : List Env) (s : Shared) (H : Hp) (E : XK), Room k (A.deeper (envOfC qual (defScope st) s.heap.objs.size f cdv)) → A.guards = some [] → LSs (cxOf CX0 P w K mg base N qual (defScope st) f cdv A outer s H E).nox (defBody st) m)
    (hm : ∀ qs h Q, qs.length = ps.length → sp qs h Q → m (ends (frg Q)) (sp0 N.length qs) h) : FnG P w K mg base (k + 1) f fd ps sp :=
  FnG.frg (fn_ok F S hb fun qs h Q hl ⟨Q', z, e⟩ => by subst e; exact hm qs h Q' hl z)
end
end N3

/-! comprehensions of two fors; sorted of a tuple -/
namespace N3
open PySem PySem.Spec PyProof.Rows L2
def lcI (gd : PH → Prop) (τ : PSt) (g : MG) (t : MT) (m : ME) : List PV → List PV → PH → (List PV → PH → Prop) → Prop
  | [], acc, h, Q => gd h ∧ Q acc h
  | p :: ps, acc, h, Q => gd h ∧ g p τ h fun τ1 h1 => t τ1 h1 fun b h2 => if b = true then m τ1 h2 fun v h3 => acc.length < SZ ∧ lcI gd τ g t m ps (acc ++ [v]) h3 Q else lcI gd τ g t m ps acc h2 Q
def lcO (gd : PH → Prop) (τ : PSt) (g : MG) (t : MT) (mi1 : MI) (vs1 : List Nat) (g1 : MG) (t1 : MT) (m : ME) : List PV → List PV → PH → (List PV → PH → Prop) → Prop
  | [], acc, h, Q => gd h ∧ Q acc h
  | p :: ps, acc, h, Q => gd h ∧ g p τ h fun τ1 h1 => t τ1 h1 fun b h2 => if b = true then mi1 τ1 h2 fun qs gd1 h3 => lcI gd1 (wp τ1 vs1) g1 t1 m qs acc h3 fun acc' h4 => lcO gd τ g t mi1 vs1 g1 t1 m ps acc' h4 Q else lcO gd τ g t mi1 vs1 g1 t1 m ps acc h2 Q
def mLc2 (mi : MI) (vs : List Nat) (g : MG) (t : MT) (mi1 : MI) (vs1 : List Nat) (g1 : MG) (t1 : MT) (m : ME) : ME := fun τ h Q => mi τ h fun ps gd h1 => lcO gd (wp τ vs) g t mi1 vs1 g1 t1 m ps [] h1 fun zs h2 => Q (.lst zs) h2
theorem lc_up2 {K : PySem.W.Frag} {mi mi1 : MI} {vs vs1 : List Nat} {g g1 : MG} {t t1 : MT} {m : ME} {Y : List PV → PH → Prop} {σ : L2.St} {H0 : Hp} {τ : PSt} {h0 : PH} {Q : VK} (s0 : SimS K H0 σ τ) (sh0 : Sim K H0 h0)
    (q : mi τ h0 fun ps gd h1 => lcO gd (wp τ vs) g t mi1 vs1 g1 t1 m ps [] h1 Y)
    (fin : ∀ zs h2 xs D H2, Y zs h2 → H0 D = none → H2 D = some (.lst xs) → h2 D = none → Sim K H2 h2 → Rels K H2 zs xs → Go H0 h0 H2 h2 → Q (.ref D) H2) :
    tLc2 (upI K mi) (upG K vs g) (upT K t) (upI K mi1) (upG K vs1 g1) (upT K t1) (upE K m) vs vs1 σ H0 Q := by
  refine ⟨τ, h0, _, s0, sh0, q, fun ps gd h1 H1 J q1 gA s1 wk D hD => ?_⟩
  have hD1 : h1 D = none := s1.fresh hD
  have gD : Go H1 h1 (upd H1 D (.lst [])) h1 := .new hD
  refine ⟨fun i n H => ∃ h acc xs, i ≤ ps.length ∧ n = ps.length - i ∧ Go H1 h1 H h ∧ H D = some (.lst xs) ∧ h D = none ∧ Rels K H acc xs ∧ Sim K H h ∧ lcO gd (wp τ vs) g t mi1 vs1 g1 t1 m (ps.drop i) acc h Y,
    ⟨ps.length, h1, [], [], Nat.zero_le _, rfl, gD, upd_same, hD1, .nil, s1.new hD, q1⟩, ?_⟩
  rintro i n H ⟨h, acc, xs, hi, rfl, gg, hx, hd, ra, sh, q⟩
  by_cases hlt : i < ps.length
  · have e : ps.drop i = ps[i] :: ps.drop (i + 1) := List.drop_eq_getElem_cons hlt
    rw [e] at q
    obtain ⟨hgd, q⟩ := q
    refine .inr ⟨wk.goes i H h hlt gg.mono sh hgd, fun H' => ∃ h acc xs, Go H1 h1 H' h ∧ H' D = some (.lst xs) ∧ h D = none ∧ Rels K H' acc xs ∧ Sim K H' h ∧ lcO gd (wp τ vs) g t mi1 vs1 g1 t1 m (ps.drop (i + 1)) acc h Y,
      fun H' ⟨h, acc, xs, a1, a2, a3, a4, a5, a7⟩ => ⟨ps.length - (i + 1), by omega, h, acc, xs, hlt, rfl, a1, a2, a3, a4, a5, a7⟩, fun x H' y => ?_⟩
    obtain ⟨g2, sh2, rx⟩ := wk.yields i H h x H' ps[i] (List.getElem?_eq_getElem hlt) gg.mono sh hgd y
    have gw : Mono H0 H' := (gA.trans (gg.trans g2)).mono
    refine ⟨ps[i], wp τ vs, h, _, rx, (s0.mono gw).wipe vs, sh2, q, fun τ3 h3 σ3 H3 q3 g3 s3 sh3 w3 => ⟨by rw [w3, wipe_wipe], ?_⟩⟩
    refine ⟨τ3, h3, _, s3, sh3, q3, fun b h4 H4 q4 g4 s4 => ?_⟩
    have g24 := (g2.trans g3).trans g4
    have x4 : H4 D = some (.lst xs) := g24.frame D _ hx hd
    have d4 : h4 D = none := g24.dom D _ hx hd
    cases b with
    | false =>
      simp only [Bool.false_eq_true, if_false] at q4 ⊢
      exact ⟨h4, acc, xs, gg.trans g24, x4, d4, ra.mono g24.mono, s4, q4⟩
    | true =>
      simp only [if_true] at q4 ⊢
      refine ⟨τ3, h4, _, s3.mono g4.mono, s4, q4, fun qs gd1 h5 H5 J1 q5 g5 s5 wk1 => ?_⟩
      have x5 : H5 D = some (.lst xs) := g5.frame D _ x4 d4
      have d5 : h5 D = none := g5.dom D _ x4 d4
      refine ⟨fun j k H => ∃ h acc xs, j ≤ qs.length ∧ k = qs.length - j ∧ Mono H5 H ∧ Go H1 h1 H h ∧ H D = some (.lst xs) ∧ h D = none ∧ Rels K H acc xs ∧ Sim K H h ∧ lcI gd1 (wp τ3 vs1) g1 t1 m (qs.drop j) acc h fun acc' h4 => lcO gd (wp τ vs) g t mi1 vs1 g1 t1 m (ps.drop (i + 1)) acc' h4 Y,
        ⟨qs.length, h5, acc, xs, Nat.zero_le _, rfl, Mono.refl _, (gg.trans g24).trans g5, x5, d5, ra.mono (g24.trans g5).mono, s5, q5⟩, ?_⟩
      rintro j k H6 ⟨h6, acc6, xs6, hj, rfl, m6, gg6, hx6, hd6, ra6, sh6, q6⟩
      by_cases hlt6 : j < qs.length
      · have e6 : qs.drop j = qs[j] :: qs.drop (j + 1) := List.drop_eq_getElem_cons hlt6
        rw [e6] at q6
        obtain ⟨hgd6, q6⟩ := q6
        refine .inr ⟨wk1.goes j H6 h6 hlt6 m6 sh6 hgd6, fun H' => ∃ h acc xs, Mono H5 H' ∧ Go H1 h1 H' h ∧ H' D = some (.lst xs) ∧ h D = none ∧ Rels K H' acc xs ∧ Sim K H' h ∧ lcI gd1 (wp τ3 vs1) g1 t1 m (qs.drop (j + 1)) acc h fun acc' h4 => lcO gd (wp τ vs) g t mi1 vs1 g1 t1 m (ps.drop (i + 1)) acc' h4 Y,
          fun H' ⟨h, acc, xs, a0, a1, a2, a3, a4, a5, a7⟩ => ⟨qs.length - (j + 1), by omega, h, acc, xs, hlt6, rfl, a0, a1, a2, a3, a4, a5, a7⟩, fun x H' y => ?_⟩
        obtain ⟨g7, sh7, rx7⟩ := wk1.yields j H6 h6 x H' qs[j] (List.getElem?_eq_getElem hlt6) m6 sh6 hgd6 y
        refine ⟨qs[j], wp τ3 vs1, h6, _, rx7, (s3.mono ((g4.trans g5).mono.trans (m6.trans g7.mono))).wipe vs1, sh7, q6, fun τ8 h8 σ8 H8 q8 g8 s8 sh8 w8 => ⟨by rw [w8, wipe_wipe], ?_⟩⟩
        refine ⟨τ8, h8, _, s8, sh8, q8, fun b h9 H9 q9 g9 s9 => ?_⟩
        have g79 := (g7.trans g8).trans g9
        have x9 : H9 D = some (.lst xs6) := g79.frame D _ hx6 hd6
        have d9 : h9 D = none := g79.dom D _ hx6 hd6
        cases b with
        | true =>
          simp only [if_true] at q9 ⊢
          refine ⟨τ8, h9, _, s8.mono g9.mono, s9, q9, fun v hA yA HA ⟨qz, qA⟩ g_A rA sA => ?_⟩
          have xA : HA D = some (.lst xs6) := g_A.frame D _ x9 d9
          have dA : hA D = none := g_A.dom D _ x9 d9
          have mw : Mono HA (upd HA D (.lst (xs6 ++ [yA]))) := Mono.lst xA
          refine ⟨xs6, xA, by rw [← ra6.length]; exact sz_lt qz, hA, acc6 ++ [v], xs6 ++ [yA], (m6.trans (g79.trans g_A).mono).trans mw, ((gg6.trans g79).trans g_A).renew hD mw, upd_same, dA, ((ra6.mono (g79.trans g_A).mono).append (.cons rA .nil)).mono mw, sA.drop mw dA, qA⟩
        | false =>
          simp only [Bool.false_eq_true, if_false] at q9 ⊢
          exact ⟨h9, acc6, xs6, m6.trans g79.mono, gg6.trans g79, x9, d9, ra6.mono g79.mono, s9, q9⟩
      · have e6 : j = qs.length := by omega
        subst e6
        rw [List.drop_length] at q6
        exact .inl ⟨wk1.stops H6 h6 m6 sh6 q6.1, h6, acc6, xs6, gg6, hx6, hd6, ra6, sh6, q6.2⟩
  · have e : i = ps.length := by omega
    subst e
    rw [List.drop_length] at q
    exact .inl ⟨wk.stops H h gg.mono sh q.1, fin acc h xs D H q.2 (gA.live D hD) hx hd sh ra (gA.trans gg)⟩
section
variable {X : Cx} {pos : Pos}
theorem le_lc2 {elt tg iter tg1 iter1 : Expr} {ifs ifs1 : List Expr} {scope : Scope} {mi mi1 : MI} {g g1 : MG} {t t1 : MT} {m : ME} (own : List (Str × Nat)) (vs1 : List Nat) (hc : X.calm = true) (hN : X.N.Nodup) (hi : LI X tg iter mi) (ok : BlkOk X.N X.env.scope scope own) (hv : ∀ i ∈ vs1, i ∈ own.map (·.2))
    (hg : ∀ (s : Shared) (H : Hp) (C : Addr) (cl : List (Str × Addr)) (fp : List Addr), LG (X.blk s H scope (compEnvC scope cl C X.env) fp) tg (own.map (·.2)) g) (ht : ∀ (s : Shared) (H : Hp) (C : Addr) (cl : List (Str × Addr)) (fp : List Addr), LTs (X.blk s H scope (compEnvC scope cl C X.env) fp) ifs t)
    (hi1 : ∀ (s : Shared) (H : Hp) (C : Addr) (cl : List (Str × Addr)) (fp : List Addr), LI (X.blk s H scope (compEnvC scope cl C X.env) fp) tg1 iter1 mi1)
    (hg1 : ∀ (s : Shared) (H : Hp) (C : Addr) (cl : List (Str × Addr)) (fp : List Addr), LG (X.blk s H scope (compEnvC scope cl C X.env) fp) tg1 vs1 g1) (ht1 : ∀ (s : Shared) (H : Hp) (C : Addr) (cl : List (Str × Addr)) (fp : List Addr), LTs (X.blk s H scope (compEnvC scope cl C X.env) fp) ifs1 t1)
    (he : ∀ (s : Shared) (H : Hp) (C : Addr) (cl : List (Str × Addr)) (fp : List Addr), LE (X.blk s H scope (compEnvC scope cl C X.env) fp) elt m) (hs : ∀ x, foldedSetIterable iter X.env x = pure x := by intro _; rfl) (hs1 : ∀ env x, foldedSetIterable iter1 env x = pure x := by intro _ _; rfl) :
    LE X (.ListComp elt [⟨tg, iter, ifs, 0⟩, ⟨tg1, iter1, ifs1, 0⟩] scope pos) (mLc2 mi (own.map (·.2)) g t mi1 vs1 g1 t1 m) :=
  PE.weak (PE.kp (pe_lc2 hc hN hi ok hv hg ht hi1 hg1 ht1 he hs hs1)) fun σ H Q ⟨τ, h, Q', s, sh, q, l⟩ => lc_up2 s sh q fun zs h2 xs D H2 q2 h0 hD hd s2 r2 g2 => .inr ⟨D, _, rfl, hD, trivial, fun o => by
    have mm : Mono H2 (upd H2 D (.frz o (.lst xs))) := Mono.lst hD
    refine l (.lst zs) h2 (.ref D) _ q2 (g2.renew h0 mm) ?_ (s2.drop mm hd)
    simp only [Rel]
    exact ⟨D, xs, rfl, .inl ⟨o, upd_same⟩, r2.mono mm⟩⟩
end

/-! ### sorted of a tuple -/
theorem collect_any {prog : Program} {w : World} {A : Around} {E : Value → Shared → Prop} {s : Shared} {l : Addr} {vs : List Value} {Q : List Value → Shared → Prop} (hl : IsTup s.heap l vs.toArray)
    (h : Q vs { s with heap := (s.heap.push (seqObj "list" #[] 0)).update s.heap.objs.size (Obj.mapSeq (· ++ vs.toArray)) }) (hz : vs.length ≤ sizeLine) : wpAny (model prog w) A (collect (.ref l)) Q E s := by
  obtain ⟨o, ho, hc, n, hd⟩ := id hl
  have ho2 : (s.heap.push (seqObj "list" #[] 0)).get? l = some o := Heap.get?_push_of_some _ ho
  unfold collect; refine wpAny_bind (wpAny_runValue (codeAny_builtin entry_proto_collect' ?_))
  show wpAny (model prog w) _ (do again (.builtin "list.__iadd__" ⟨[← newList [], .ref l], []⟩)) _ _ s
  refine wpAny_bind (wpAny_newList (wpAny_pure ⟨Code.quiet_builtin _ (by decide +kernel), codeAny_builtin entry_list_iadd' (show wpAny (model prog w) _ (Builtin.List.listExtendWith (.ref s.heap.objs.size) (.ref l) (.ref s.heap.objs.size)) _ _ { s with heap := s.heap.push (seqObj "list" #[] 0) } from ?_)⟩))
  unfold Builtin.List.listExtendWith; refine wpAny_bind (wpAny_typeOf (T := "tuple") ⟨o, ho2, hc⟩ ?_)
  rw [if_pos (by rw [show (Value.type "tuple" == Value.type "tuple") = true from by rfl, Bool.or_true])]; refine wpAny_bind (listItems_at ho2 hd (wpAny_bind (listItems_at (xs := #[]) (n := 0) (Heap.get?_push_size _ rfl) rfl ?_)))
  rw [if_neg (by simp)]; refine wpAny_bind (listUpdate_at (xs := #[]) (n := 0) (Heap.get?_push_size _ rfl) rfl (wpAny_pure ?_) (Nat.zero_le _) (by show (#[] ++ vs.toArray).size ≤ sizeLine + 1; simp only [Array.size_append, List.size_toArray, List.length_nil]; omega))
  show wpAny (model prog w) A (do let o ← load s.heap.objs.size; match o.data with | .seq xs _ => pure xs.toList | _ => unsupported "internal:collect") Q E { s with heap := (s.heap.push (seqObj "list" #[] 0)).update s.heap.objs.size (Obj.mapSeq (· ++ vs.toArray)) }
  refine wpAny_bind (wpAny_load (get?_update_seq (Heap.get?_push_size _ rfl) _) (show wpAny (model prog w) A (pure ((#[] : Array Value) ++ vs.toArray).toList) Q E _ from ?_))
  rw [show ((#[] : Array Value) ++ vs.toArray).toList = vs by simp]; exact wpAny_pure h
open PySem.W in
theorem sorted_tup {prog : Program} {w : World} {A : Around} {E : Value → Shared → Prop} {s : Shared} {β : Type} {vs : List Value} {bs : List β} {enc : β → PyData} {R : Value → β → Prop} {l : Addr} {Q : Value → Shared → Prop} (hl : IsTup s.heap l vs.toArray) (e : EachIs R vs bs) (er : EachIs (fun v b => ∃ as, Reads s.heap v (enc b) as) vs bs)
    (hal : AllAlike (bs.map enc)) (hk : Sortable (bs.map enc)) (hL : bs.length ≤ sizeLine) (hu : ∀ b, b ∈ bs → A.units + 2 + (enc b).depth < cLine)
    (h : ∀ out, out.length = bs.length → EachIs R out (bs.mergeSort (dataLe false enc)) → Q (.ref (s.heap.objs.size + 1)) { s with heap := sortedAll s.heap vs (List.toArray out) }) : wpAny (model prog w) A (call (.builtin "sorted") [.ref l]) Q E s := by
  have hv : vs.length ≤ sizeLine := by rw [e.length]; exact hL
  have er2 : EachIs (fun v b => ∃ as, Reads (sortingHeap (copyHeap s.heap vs) (s.heap.objs.size + 1) vs) v (enc b) as) vs bs := er.mono fun _ _ ⟨as, r⟩ => ⟨as, PyProof.Rows.Reads.keeps (fun _ _ => sorting_copy_old) r⟩
  have body : ∀ E' : Value → Shared → Prop, wpAny (model prog w) A.in1.in1 (Builtin.«list.sort» ⟨[.ref (s.heap.objs.size + 1)], []⟩) (fun f s' => f = .done (.ret .none) ∧ Q (.ref (s.heap.objs.size + 1)) s') E' { s with heap := copyHeap s.heap vs } := fun E' =>
    list_sort_vals (s := { s with heap := copyHeap s.heap vs }) (copyHeap_at s.heap vs) (SortsAt.data (s := { s with heap := sortingHeap (copyHeap s.heap vs) (s.heap.objs.size + 1) vs }) (each_map (R := fun v d => ∃ as, Reads (sortingHeap (copyHeap s.heap vs) (s.heap.objs.size + 1) vs) v d as) enc er2) hal hk (bound_map hu)) hv
      ⟨rfl, h _ (by rw [sortVals_length false rfl]; exact e.length) (sortVals_data false e er2 hal)⟩
  have hsz2 : ((s.heap.push (seqObj "list" #[] 0)).update s.heap.objs.size (Obj.mapSeq (· ++ vs.toArray))).objs.size = s.heap.objs.size + 1 := by rw [Heap.size_update, size_push']
  refine call_function_entry_kw kind_sorted plain_sorted entry_sorted (args_sorted1 _) ?_
  unfold Builtin.«sorted»; refine wpAny_bind (m := checkCount "sorted" 1 1 _) (wpAny_pure (wpAny_bind (collect_any hl (wpAny_bind (wpAny_newList (show wpAny (model prog w) _ _ _ _ { s with heap := copyHeap s.heap vs } from ?_) hv)) hv)))
  rw [hsz2]; refine wpAny_bind (wpAny_holding (wpAny_call_entry_kw slot_list_sort ⟨_, copyHeap_at s.heap vs, rfl⟩ entry_list_sort (show wpAny (model prog w) A.in1.in1 (Builtin.«list.sort» ⟨[.ref (s.heap.objs.size + 1)], []⟩) _ _ _ from ?_) (args_list_sort _)))
  exact wpAny_mono (body _) (fun f s' ⟨hf, hq⟩ => by subst hf; exact ⟨_, rfl, wpAny_pure ⟨_, rfl, hq⟩⟩) fun _ _ e => e
def oSortT (K : PySem.W.Frag) : List V → Hp → VK → Prop := fun vs H Q => ∃ (a : Addr) (bs : List (V × PyData)), vs = [.ref a] ∧ SqT K H a (bs.map Prod.fst) ∧ (∀ b ∈ bs, Dp K H b.1 b.2) ∧ Srtb (bs.map Prod.snd) ∧
  ∀ l, H l = none → Q (.ref l) (upd H l (.lst ((bs.mergeSort (PySem.W.dataLe false Prod.snd)).map Prod.fst)))
theorem cr_sortTup {X : Cx} (hu : X.A.units + 66 < cLine) : CallR X (.builtin "sorted") (oSortT X.K) := by
  intro pins s σ H vs us Q I r h
  obtain ⟨a, bs, rfl, ha, hd, st, q⟩ := h
  obtain ⟨u, rfl, ru⟩ := vals1 r
  cases ru
  obtain ⟨its, rv, pl, hz⟩ := I.tuple ha
  obtain ⟨e1, e2⟩ := dp_each I rfl hd rv
  rw [List.length_map] at hz
  refine sorted_tup (bs := bs) (enc := Prod.snd) pl e1 e2 st.al st.so hz (fun b hb => ?_) fun out hl eo => ?_
  · have := st.dp b.2 (List.mem_map_of_mem hb)
    omega
  · obtain ⟨c, hc⟩ := sortedAll_at s.heap its out.toArray
    have I2 := I.laid (t' := s.toks) (h' := sortedAll s.heap its out.toArray) (a := s.heap.objs.size + 1) (o := .lst ((bs.mergeSort (PySem.W.dataLe false Prod.snd)).map Prod.fst)) (fun _ _ => sortedAll_old) (Nat.le_succ _)
      ⟨by rw [List.length_map, List.length_mergeSort]; exact hz, out, c, vals_each eo, hc⟩
    exact ⟨.ref (s.heap.objs.size + 1), _, I2, rfl, q _ (I.hok.fresh (Nat.le_succ _))⟩
/-- sorted(xs), xs a list or a tuple -/
def rSortA : PRA := fun ps h Q => match ps with
  | [p] => (match listed h p with | some xs => flats xs = true ∧ Srtb (xs.map toD) ∧ Q (.lst (xs.mergeSort (PySem.W.dataLe false toD))) h | none => False)
  | _ => False
theorem kf_sortA {K : PySem.W.Frag} : KfA K (fun vs H Q => oSort K vs H Q ∨ oSortT K vs H Q) rSortA := by
  intro xs H ps h Q' Q rp s r l
  unfold rSortA at r
  split at r
  · split at r
    · rename_i p _ qs e
      obtain ⟨v, rfl, r1⟩ := rp.one
      obtain ⟨a, ys, rfl, hq, rr⟩ := listed_sq r1 s e
      obtain ⟨f, st, r⟩ := r
      have hl := rr.length
      have e1 : (ys.zip (qs.map toD)).map Prod.fst = ys := List.map_fst_zip (by rw [List.length_map]; omega)
      have e2 : (ys.zip (qs.map toD)).map Prod.snd = qs.map toD := List.map_snd_zip (by rw [List.length_map]; omega)
      rcases hq with hq | hq
      · exact .inl ⟨a, ys.zip (qs.map toD), rfl, by rw [e1]; exact hq, dps_zip f rr, by rw [e2]; exact st, fun c hc => keep_l l s (rels_sort rr) r hc⟩
      · exact .inr ⟨a, ys.zip (qs.map toD), rfl, by rw [e1]; exact hq, dps_zip f rr, by rw [e2]; exact st, fun c hc => keep_l l s (rels_sort rr) r hc⟩
    · exact r.elim
  · exact r.elim
theorem le_sortA {X : Cx} {pos p : Pos} {e : Expr} {m : MA} (hu : X.A.units + 66 < cLine) (hm : X.mg "sorted" = none) (ha : LAn X [e] 1 m) (hg : Gl X "sorted" := by rfl) (h1 : starEach [e] X.env = (false, eval e X.env) :: starEach [] X.env := by rfl) :
    LE X (.Call (.Name "sorted" p) [e] [] pos) (mBlt rSortA m) := le_bltK ((cr_sort hu).or (cr_sortTup hu)) kf_sortA hm ha hg (h1 := h1) (h2 := rfl)
/-! ### list(text) -/
theorem vals_at : ∀ {ys : List V} {us : List Value}, ys.length = us.length → (∀ (j : Nat) (y : V) (u : Value), ys[j]? = some y → us[j]? = some u → RelV y u) → Vals ys us
  | [], [], _, _ => .nil
  | y :: ys, u :: us, hl, h => .cons (h 0 y u rfl rfl) (vals_at (by simpa using hl) fun j z w e1 e2 => h (j + 1) z w (by simpa using e1) (by simpa using e2))
  | [], _ :: _, hl, _ => by simp at hl
  | _ :: _, [], hl, _ => by simp at hl
def oListT : List V → Hp → VK → Prop := fun xs H Q => ∃ x : Str, xs = [.str x] ∧ x.length ≤ sizeLine ∧ ∀ l, H l = none → Q (.ref l) (upd H l (.lst ((cl x).map fun c => V.str (S [c]))))
theorem call_listT {X : Cx} (hc : X.calm = true) : CallR X (.type "list") oListT := by
  intro pins s σ H xs us Q I r h
  obtain ⟨x, rfl, hz, q⟩ := h
  obtain ⟨u, rfl, ru⟩ := vals1 r
  obtain ⟨t, rfl⟩ := ru
  refine call_list_str (I.ok.hd hc) x t (fun h' tk acc n kp e it => ?_) hz
  have hl : acc.size = (cl x).length := by rw [it.1]; simp [cl]
  have I2 := I.laid (t' := tk) (h' := h') (a := s.heap.objs.size) (o := .lst ((cl x).map fun c => V.str (S [c]))) kp (Nat.le_refl _) ⟨by rw [List.length_map, ← cl_length]; exact hz, acc.toList, n, ?_, by simpa using e⟩
  · exact ⟨.ref s.heap.objs.size, _, I2, rfl, q _ (I.hok.fresh (Nat.le_refl _))⟩
  · refine vals_at (by rw [List.length_map]; exact hl.symm) fun j y w e1 e2 => ?_
    obtain ⟨c, k, hc', rfl⟩ := it.2 j w (by simpa using e2)
    rw [List.getElem?_map] at e1
    have e3 : (cl x)[j]? = some c := by simpa [cl] using hc'
    rw [e3] at e1
    cases e1
    exact ⟨_, rfl⟩
/-- list(xs), xs a list, a tuple, a text -/
def rListA : PRA := fun ps h Q => match ps with
  | [.str x] => x.length ≤ SZ ∧ Q (.lst (ones x)) h
  | [p] => (match listed h p with | some xs => Q (.lst xs) h | none => False)
  | _ => False
theorem rels_ones {K : PySem.W.Frag} {H : Hp} (l : List Nat) : Rels K H (l.map fun c => PV.str (S [c])) (l.map fun c => V.str (S [c])) := by
  induction l with
  | nil => exact .nil
  | cons c l ih => exact .cons (rel_str.mpr rfl) ih
theorem kf_listA {K : PySem.W.Frag} : KfA K (fun xs H Q => oListOf K xs H Q ∨ oListT xs H Q) rListA := by
  intro xs H ps h Q' Q rp s r l
  unfold rListA at r
  split at r
  · rename_i x
    obtain ⟨v, rfl, r1⟩ := rp.one
    exact .inr ⟨x, by rw [rel_str.mp r1], sz_le r.1, fun c hc => keep_l l s (rels_ones (cl x)) r.2 hc⟩
  · split at r
    · rename_i e
      obtain ⟨v, rfl, r1⟩ := rp.one
      obtain ⟨a, ys, rfl, hq, rr⟩ := listed_sq r1 s e
      exact .inl ⟨a, ys, rfl, hq, fun c hc => keep_l l s rr r hc⟩
    · exact r.elim
  · exact r.elim
theorem le_listA {X : Cx} {pos p : Pos} {e : Expr} {m : MA} (hc : X.calm = true) (hm : X.mg "list" = none) (ha : LAn X [e] 1 m) (hg : Gl X "list" := by rfl) (h1 : starEach [e] X.env = (false, eval e X.env) :: starEach [] X.env := by rfl) :
    LE X (.Call (.Name "list" p) [e] [] pos) (mBlt rListA m) := le_tyK (call_list_of.or (call_listT hc)) kf_listA hm ha hg (h1 := h1) (h2 := rfl)
end N3

/-! targets with a star; targets of a list -/
namespace N3
open PySem PySem.Spec PyProof.Rows L2
/-- what the parts of `a, *b, c = list` are -/
theorem star_parts {prog : Program} {w : World} {A : Around} {E : Value → Shared → Prop} {s : Shared} {l : Addr} {its : Array Value} {n i : Nat} {Q : List Value → Shared → Prop} (hl : s.heap.IsList l its) (hh : A.handled = none) (hi : i < n) (hn : n ≤ its.size + 1) (hz : its.size ≤ sizeLine)
    (k : ∀ (g : Heap) (tk : Nat), (∀ b o, s.heap.get? b = some o → g.get? b = some o) → Q (its.toList.take i ++ [.ref g.objs.size] ++ (its.toList.drop i).drop (its.size + 1 - n)) { s with heap := g.push { cls := .type "list", data := .seq ((its.toList.drop i).take (its.size + 1 - n)).toArray }, toks := tk }) :
    wpAny (model prog w) A (unpackItems (.ref l) n (some i)) Q E s := by
  have far : l < s.heap.objs.size := let ⟨_, ho, _⟩ := hl; Heap.lt_size ho
  have ne : l ≠ s.heap.objs.size := Nat.ne_of_lt far
  unfold unpackItems notIterableAtAll
  refine wpAny_bind (wpAny_bind (wpAny_specialOf hl.typeIs slot_list_iter.lookup (wpAny_pure ?_)))
  simp only [Bool.false_eq_true, if_false]
  refine wpAny_bind (wpAny_holding (wpAny_pyIter_list hl (wpAny_bind (wpAny_holding (PySem.W.kun_draw ne i 0 _ _ ⟨_, Heap.get?_push_size _ rfl, rfl, rfl⟩ (hl.push _) (by omega) fun g1 at1 sm => ?_)))))
  have hl1 : g1.IsList l its := (hl.push _).extBut sm.extBut ne
  rw [Nat.zero_add] at at1
  have la : s.heap.objs.size < g1.objs.size := let ⟨_, ho, _⟩ := id at1; Heap.lt_size ho
  have lb : l < g1.objs.size := let ⟨_, ho, _⟩ := id hl1; Heap.lt_size ho
  rw [List.drop_zero]
  have f1 : (its.toList.take i).length = i := by rw [List.length_take, Array.length_toList]; omega
  have f2 : (its.toList.drop i).length = its.size - i := by rw [List.length_drop, Array.length_toList]
  have f3 : (its.toList.drop i).length - (n - 1 - i) = its.size + 1 - n := by rw [f2]; omega
  rw [if_neg (by rw [f1]; omega)]
  refine wpAny_bind (wpAny_holding (PySem.W.kun_collect (s := { s with heap := g1 }) (T := "list_iterator") (.inr (.inr (.inl rfl))) (Walks.list (A := A.in1) hh s.heap.objs.size l ne its) (fun _ _ st => st.1.typeIs) (k := i) (by omega) ⟨at1, hl1⟩ la lb (fun g2 tk kp => ?_) hz))
  dsimp only
  rw [if_neg (by rw [f2]; omega), f3]
  refine wpAny_bind (wpAny_newList (wpAny_pure ?_))
  have old : ∀ b o, s.heap.get? b = some o → g2.get? b = some o := fun b o e => kp b o (Nat.ne_of_lt (Heap.lt_size e)) (sm.extBut b o (Nat.ne_of_lt (Heap.lt_size e)) (Heap.get?_push_of_some _ e))
  exact k g2 tk old
def gStr (K : PySem.W.Frag) (n i : Nat) (t : TGs) : TG := fun v σ H Q => ∃ a xs, v = .ref a ∧ SqL K H a xs ∧ n ≤ xs.length + 1 ∧
  ∀ D o, H D = none → t (xs.take i ++ [.ref D] ++ (xs.drop i).drop (xs.length + 1 - n)) σ (upd H D (.frz o (.lst ((xs.drop i).take (xs.length + 1 - n))))) Q
section
variable {X : Cx} {pos : Pos} {es : List Expr} {vs : List Nat}
theorem pg_str {k : Nat} {t : TGs} {n i : Nat} (hc : X.calm = true) (h : PGs X es t) (hn : (assignEach es X.env).length = n := by rfl) (hst : (assignEach es X.env).findIdx? (·.1) = some i := by rfl) (hi : i < n := by decide) : PG X (.Tuple es k pos) (gStr X.K n i t) := by
  refine ⟨fun pins s σ H v u Q I r hw => ?_⟩
  obtain ⟨a, xs, rfl, hq, hl, hw⟩ := hw
  cases r
  obtain ⟨its, rv, pl, hz⟩ := I.list hq
  have ll := rv.length
  rw [PyProof.Rows.assign_Tuple]; refine wpAny_bind (wpAny_standAt ?_)
  unfold unpack; rw [hn, hst]
  refine wpAny_bind (wpAny_holding (star_parts pl.isList (I.ok.hd hc) hi (by simp; omega) (by simp; omega) fun g tk old => ?_))
  have I1 : Inv X pins σ H { s with heap := g } := I.kept (t' := s.toks) old
  have e : its.toArray.toList = its := rfl
  have ez : its.toArray.size = xs.length := by simp [ll]
  rw [e, ez]
  have I2 : Inv X pins σ (upd H g.objs.size (.lst ((xs.drop i).take (xs.length + 1 - n)))) { s with heap := g.push { cls := .type "list", data := .seq ((its.drop i).take (xs.length + 1 - n)).toArray }, toks := tk } :=
    I1.laid (a := g.objs.size) (t' := tk) (fun b o z => Heap.get?_push_of_some _ z) (Nat.le_refl _) ⟨by rw [List.length_take, List.length_drop]; omega, _, _, (rv.drop i).take _, Heap.get?_push_size _ rfl⟩
  obtain ⟨o, I3⟩ := Inv.keep I2 upd_same trivial
  rw [upd_upd] at I3
  have q := hw g.objs.size o (I1.hok.fresh (Nat.le_refl _))
  refine h.run pins _ σ _ _ _ Q I3 ?_ q
  exact ((rv.take i).append (Paired.cons (show RelV (.ref g.objs.size) (.ref g.objs.size) from rfl) .nil)).append ((rv.drop i).drop _)
/-- a, *b, c = list -/
def gS (n i : Nat) (g : MGs) : MG := fun p τ h Q => match seqL h p with
  | some ps => n ≤ ps.length + 1 ∧ g (ps.take i ++ [.lst ((ps.drop i).take (ps.length + 1 - n))] ++ (ps.drop i).drop (ps.length + 1 - n)) τ h Q
  | none => False
/-- a, b = list -/
def gL (n : Nat) (g : MGs) : MG := fun p τ h Q => match seqL h p with
  | some ps => ps.length = n ∧ g ps τ h Q
  | none => False
theorem lg_str {k : Nat} {g : MGs} {n i : Nat} (hc : X.calm = true) (h : LGs X es vs g) (hn : (assignEach es X.env).length = n := by rfl) (hst : (assignEach es X.env).findIdx? (·.1) = some i := by rfl) (hi : i < n := by decide) : LG X (.Tuple es k pos) vs (gS n i g) := by
  refine PG.weak (pg_str hc h hn hst hi) fun v σ H Q ⟨p, τ, h, Q', r, s, sh, q, l⟩ => ?_
  unfold gS at q
  cases e : seqL h p with
  | none => rw [e] at q; exact q.elim
  | some ps =>
    rw [e] at q
    obtain ⟨a, xs, rfl, sq, rr⟩ := seqL_sq r sh e
    have ll := rr.length
    have q2 := q.2
    rw [ll] at q2
    refine ⟨a, xs, rfl, sq, by rw [← ll]; exact q.1, fun D o hD => ?_⟩
    have m : Mono H (upd H D (.frz o (.lst ((xs.drop i).take (xs.length + 1 - n))))) := Mono.new hD
    refine ⟨_, τ, h, Q', ?_, s.mono m, sh.new hD, q2, fun τ1 h1 σ1 H1 q1 g1 s1 sh1 w1 => l τ1 h1 σ1 H1 q1 (Go.trans (.new hD) g1) s1 sh1 w1⟩
    refine Rels.append (Rels.append ((rr.take i).mono m) (.cons ?_ .nil)) (((rr.drop i).drop _).mono m)
    simp only [Rel]
    exact ⟨D, _, rfl, .inl ⟨o, upd_same⟩, ((rr.drop i).take _).mono m⟩
theorem lg_lst {k : Nat} {g : MGs} {n : Nat} (hc : X.calm = true) (h : LGs X es vs g) (hn : (assignEach es X.env).length = n := by rfl) (hst : (assignEach es X.env).findIdx? (·.1) = none := by rfl) : LG X (.Tuple es k pos) vs (gL n g) := by
  refine PG.weak (pg_unl hc h hn hst) fun v σ H Q ⟨p, τ, h, Q', r, s, sh, q, l⟩ => ?_
  unfold gL at q
  cases e : seqL h p with
  | none => rw [e] at q; exact q.elim
  | some ps =>
    rw [e] at q
    obtain ⟨a, xs, rfl, sq, rr⟩ := seqL_sq r sh e
    exact ⟨a, xs, rfl, sq, by rw [← rr.length, q.1], ps, τ, h, Q', rr, s, sh, q.2, l⟩
theorem lgs_star {e : Expr} {p : Pos} {g : MGs} (h : LGs X (e :: es) vs g) (hs : (assignEach (.Starred e p :: es) X.env).map (·.2) = (assignEach (e :: es) X.env).map (·.2) := by rfl) : LGs X (.Starred e p :: es) vs g :=
  ⟨fun pins s σ H ws us Q I r q => by rw [hs]; exact h.run pins s σ H ws us Q I r q⟩
end
/-! ### two keywords, exchanged -/
def cat2r {α : Type} (xs ys : List α) : List α := xs ++ ys.reverse
section
variable {X : Cx} {pos p : Pos} {j k : Nat} {x : Str} {st : Stmt} {ps : List Str} {sp : SpP}
theorem kwb_turned {K : PySem.W.Frag} {f : Addr} {fd : FuncData} {ks : List Str} {i m : Nat} (F : Fun K x x st f fd) (hl : i + m = ps.length)
    (h : ∀ (kV doc pm : Value) (an : Option Addr) (cdv ct : Value) (us ws : List Value), us.length = i → ws.length = m → bindArgs (PySem.W.fnOf x x (defArgs st) (defBody st) (defScope st) .none kV doc pm an cdv ct) ⟨us, ks.zip ws⟩ = pure (ps.zip (cat2r us ws))) :
    KwB fd ps ks cat2r cat2r cat2r i m := by
  obtain ⟨oc, od, kV, doc, pm, an, cdv, ct, osl, rfl, lk, hcd⟩ := F.ex
  exact ⟨fun s us ws h1 h2 => .of_eq (h kV doc pm an cdv ct us ws h1 h2), fun _ _ r1 r2 => r1.append r2.reverse, fun _ _ r1 r2 => r1.append r2.reverse, fun {qs zs} h1 h2 => by unfold cat2r; rw [List.length_append, List.length_reverse, h1, h2, hl]⟩
theorem le_fnKr {m' : Nat} {ks : List Str} {kws : List Keyword} {mk : MA} (c : Fn X.prog X.w X.K X.mg X.base j x st ps sp) (hr : Room k X.A) (hj : j ≤ k) (hG : X.A.guards = some []) (hl : 0 + m' = ps.length)
    (h : ∀ (kV doc pm : Value) (an : Option Addr) (cdv ct : Value) (us ws : List Value), us.length = 0 → ws.length = m' → bindArgs (PySem.W.fnOf x x (defArgs st) (defBody st) (defScope st) .none kV doc pm an cdv ct) ⟨us, ks.zip ws⟩ = pure (ps.zip (cat2r us ws)))
    (hkw : LKn X kws m' mk) (hg : Gl X x := by rfl) (hall : (backToKw pos (keywordEach kws X.env)).all (·.1.isSome) = true := by rfl) (hks : (backToKw pos (keywordEach kws X.env)).filterMap (·.1) = ks := by rfl)
    (hdb : (x == ("__debug__" : Str)) = false := by decide) (hpl : ((backTo pos (starEach [] X.env)).any (·.1) || (backToKw pos (keywordEach kws X.env)).any (·.1.isNone)) = false := by rfl) : LE X (.Call (.Name x p) [] kws pos) (mKw sp cat2r mNil mk) := by
  obtain ⟨f, fd, hm, F, hb, G⟩ := c.ex
  exact le_callK0 G (hr.mono hj) hG hm F.kp (kwb_turned F hl h) hkw hg hall hks hdb hpl
end
/-! ### a slice that may change -/
def rSlM (p : PV) (lo hi : Option Int) (h : PH) (Q : PK) : Prop := match seqL h p with
  | some xs => ∀ a, h a = none → Q (.ref a) (up h a (.lst (cut xs lo hi)))
  | none => False
theorem kf_slM {K : PySem.W.Frag} {x : V} {H : Hp} {p : PV} {lo hi : Option Int} {h : PH} {Q' : PK} {Q : VK} (rp : Rel K H p x) (s : Sim K H h) (r : rSlM p lo hi h Q') (l : LQ K H h Q' Q) : oSl K x lo hi H (kQ Q) := by
  unfold rSlM at r
  split at r
  · rename_i e
    obtain ⟨a, ys, rfl, hq, rr⟩ := seqL_sq rp s e
    exact .inl (.inl ⟨a, ys, rfl, hq, fun c hc => make_l l s (rr.cut lo hi) r hc⟩)
  · exact r.elim
def mSlM (m : ME) (ml mh : MO) : ME := fun τ h Q => m τ h fun p h1 => ml τ h1 fun lo h2 => mh τ h2 fun hi h3 => rSlM p lo hi h3 Q
section
variable {X : Cx} {pos p2 : Pos} {e : Expr} {lo hi : Option Expr}
theorem le_slM {m : ME} {ml mh : MO} (he : LE X e m) (hl : LO X lo ml) (hh : LO X hi mh) : LE X (.Subscript e (.Slice lo hi none p2) pos) (mSlM m ml mh) := by
  refine PE.weak (PE.kp (pe_slice sl_all he hl hh)) fun σ H Q ⟨τ, h, Q', s, sh, q, l⟩ => ?_
  refine ⟨τ, h, _, s, sh, q, fun p h1 v H1 q1 g1 r1 s1 => ⟨τ, h1, _, s.mono g1.mono, s1, q1, fun lo h2 H2 q2 g2 s2 => ?_⟩⟩
  refine ⟨τ, h2, _, (s.mono g1.mono).mono g2.mono, s2, q2, fun hi h3 H3 q3 g3 s3 => ?_⟩
  exact kf_slM (r1.mono (g2.trans g3).mono) s3 q3 (l.mono ((g1.trans g2).trans g3))
end
end N3

/-! enumerate of a tuple -/
namespace PySem
open PySem PySem.Spec PyProof.Rows L2
theorem enumT_made (l : Addr) (its : Array Value) :
    Meets (Builtin.«enumerate.__new__» ⟨[.type "enumerate", .ref l], []⟩) (fun _ R s => s.heap.IsTuple l its ∧
      R (.ok (.ret (.ref (s.heap.objs.size + 1)))) { s with heap := (s.heap.push { cls := .type "tuple_iterator", data := .fields #[.ref l, .int 0 0] }).push { cls := .type "enumerate", data := .fields #[.none, .bool false, .ref s.heap.objs.size, rawInt 0, .none, .none] } }) :=
  .of_wp fun prog w A R s h => by
    obtain ⟨hp, g, d, tk, os⟩ := s; obtain ⟨ht, h⟩ := h
    have hsub := sub_enumerate; have gone : ∀ {A' : Around} {E : Value → Shared → Prop} {Q : Value → Shared → Prop}, Q (.ref hp.objs.size) ⟨hp.push { cls := .type "tuple_iterator", data := .fields #[.ref l, .int 0 0] }, g, d, tk, os⟩ → wpAny (model prog w) A' (pyIter (.ref l)) Q E ⟨hp, g, d, tk, os⟩ := fun q => wpAny_pyIter_tuple ht q
    wp_walk using gone
    refine wpAny_stack_any fun st => wpAny_pure ?_
    rw [← Heap.size_push hp { cls := .type "tuple_iterator", data := .fields #[.ref l, .int 0 0] }] at h
    split
    · rename_i c _ _ _ _ _
      cases (c == Value.type "enumerate") <;> (wp_walk using gone; exact ⟨_, rfl, h⟩)
    · wp_walk using gone; exact ⟨_, rfl, h⟩
end PySem
namespace PySem
open PySem PySem.Spec PyProof.Rows L2
section
variable {prog : Program} {w : World} {A : Around} {E : Value → Shared → Prop} {s : Shared}
theorem enumT_call {l : Addr} {its : Array Value} {Q : Value → Shared → Prop} (ht : s.heap.IsTuple l its)
    (k : ∀ g, IsEnum g (s.heap.objs.size + 1) s.heap.objs.size 0 .none → g.IsTupleIter s.heap.objs.size l 0 → (∀ b o, s.heap.get? b = some o → g.get? b = some o) → Q (.ref (s.heap.objs.size + 1)) { s with heap := g }) :
    wpAny (model prog w) A (call (.type "enumerate") [.ref l]) Q E s := by
  refine callType_new F.called_enumerate (by decide) (F.typeCall_enumerate_1 _) (F.newCall_enumerate_1 _) (fun obj => F.args_object_init_2 obj _) F.entry_enumerate_new (enumT_made l its) ⟨ht, ?_⟩
  have z := Heap.size_push s.heap { cls := .type "tuple_iterator", data := .fields #[.ref l, .int 0 0] }
  have top := Heap.get?_push_size (s.heap.push { cls := .type "tuple_iterator", data := .fields #[.ref l, .int 0 0] }) (o := { cls := .type "enumerate", data := .fields #[.none, .bool false, .ref s.heap.objs.size, rawInt 0, .none, .none] }) rfl
  rw [z] at top
  exact ⟨⟨_, top, rfl⟩, k _ top ⟨_, Heap.get?_push_of_some _ (Heap.get?_push_size _ rfl), rfl, rfl⟩ fun b o x => Heap.get?_push_of_some _ (Heap.get?_push_of_some _ x)⟩
end
end PySem
namespace N3
open PySem PySem.Spec PyProof.Rows L2
/-- the tuple at a at each turn, each item in a new pair -/
def IteT (K : PySem.W.Frag) (a : Addr) : It :=
  ⟨fun i H => ∃ (xs : List V) (x : V), SqT K H a xs ∧ xs[i]? = some x, fun i H v H' => ∃ T x, v = .ref T ∧ H T = none ∧ H' = upd H T (.tup [.int (i : Nat), x]) ∧ ∀ xs, SqT K H a xs → xs[i]? = some x, fun i H => ∃ xs : List V, SqT K H a xs ∧ xs.length = i⟩
theorem turn_enumT {P : Program} {w : World} {K : PySem.W.Frag} {elts : List Expr} {kk : Nat} {tpos : Pos} (a e it : Addr) (hea : e ≠ a) (hia : a ≠ it) :
    Turn P w K (.Tuple elts kk tpos) (IteT K a) [e, it] e (fun i h => (∃ old, IsEnum h e it ((i : Nat) : Int) old) ∧ h.IsTupleIter it a i ∧ e ≠ it) where
  mem := by simp
  obj := fun i h st b hb => by
    obtain ⟨⟨old, he⟩, ⟨o, ho, hc, hd⟩, _⟩ := st
    rcases (show b = e ∨ b = it by simpa using hb) with rfl | rfl
    · exact ⟨_, he, fun v q => nomatch q⟩
    · exact ⟨o, ho, fun v q => by rw [hd] at q; cases q⟩
  keep := fun i h h' st k => ⟨let ⟨⟨old, he⟩, _⟩ := st; ⟨old, k e (by simp) _ he⟩, st.2.1.at fun o q => k it (by simp) o q, st.2.2⟩
  item := by
    intro X hP hw hK hc i pins s σ H E I hf st hg
    subst hP hw hK
    obtain ⟨⟨old, he⟩, hit, hne⟩ := st
    obtain ⟨xs, x, hq, hx⟩ := hg
    obtain ⟨its, rv, p, hz⟩ := I.tuple hq
    obtain ⟨u, hu, ru⟩ := rv.get hx
    have hel := Heap.lt_size he
    have hil : it < s.heap.objs.size := let ⟨_, q, _⟩ := hit; Heap.lt_size q
    refine wpAny_pyNext_enum_itemD (Draws.tuple (A := X.A.in1) (I.ok.hd hc) it a hia its.toArray) he ⟨hit, p⟩ (by rw [List.size_toArray]; exact (List.getElem?_eq_some_iff.mp hu).1) hne (by simp [hne, hea]) fun u' g tk pu out st' tup sz k => ?_
    obtain rfl : u' = u := by rw [List.getElem?_toArray] at pu; rw [hu] at pu; exact (Option.some.inj pu).symm
    refine ⟨_, rfl, wpAny_letOwnedTupleGo_enum (s := { s with heap := g, toks := tk + 1 }) out fun g2 he2 sb => ?_⟩
    have tup2 : g2.get? s.heap.objs.size = some { cls := .type "tuple", data := .seq #[.int i tk, u'] } := (sb.2 _ (Nat.ne_of_gt hel)).trans tup
    have fr := I.hok.fresh (Nat.le_refl s.heap.objs.size)
    have J : Inv X pins σ (upd H s.heap.objs.size (.tup [.int (i : Nat), x])) { s with heap := g2, toks := tk + 1 } :=
      I.turnedNew (ch := [e, it]) (fun b ob hb q => (sb.2 b fun z => hb (by simp [z])).trans (k b ob (fun z => hb (by simp [z])) (fun z => hb (by simp [z])) q)) hf (Nat.le_refl _)
        ⟨by show 2 ≤ sizeLine; decide, [.int i tk, u'], .cons ⟨_, rfl⟩ (.cons ru .nil), ⟨_, tup2, rfl, _, rfl⟩⟩
    refine ⟨.ref s.heap.objs.size, _, J, rfl, ⟨_, x, rfl, fr, rfl, fun ys hy => by rw [I.tuple_inj hy hq]; exact hx⟩, ⟨⟨u', by rw [show ((i + 1 : Nat) : Int) = (i : Int) + 1 by omega]; exact he2⟩, st'.1.at fun o q => (sb.2 it (Ne.symm hne)).trans q, hne⟩, fun b hb => ?_⟩
    have hb' : b < s.heap.objs.size := by
      rcases (show b = e ∨ b = it by simpa using hb) with rfl | rfl
      · exact hel
      · exact hil
    rw [upd_ne (Nat.ne_of_lt hb')]; exact (hf b hb).1
  done := by
    intro X hP hw hK hc i pins s σ H E I hf st hg
    subst hP hw hK
    obtain ⟨⟨old, he⟩, hit, hne⟩ := st
    obtain ⟨xs, hq, hx⟩ := hg
    obtain ⟨its, rv, p, hz⟩ := I.tuple hq
    obtain ⟨f0, f1, f2, f3, f4, f5⟩ := hf it (by simp)
    have ll := rv.length
    have ls : its.toArray.size = i := by rw [List.size_toArray]; omega
    exact wpAny_pyNext_enum_endD (Draws.tuple (A := X.A.in1) (I.ok.hd hc) it a hia its.toArray) he ⟨by rw [ls]; exact hit, p⟩ fun h' eb => ⟨rfl, I.turned (t' := s.toks) (fun b o hb q => eb b o hb q) f0 f1 f3 f4 f5⟩
  self := fun A i s Q E st h => let ⟨⟨_, he⟩, _⟩ := st; wpAny_pyIter_enum he h
/-- enumerate of a list or a tuple -/
def iEnumA (K : PySem.W.Frag) (ta : TA) : TI := fun σ H R => ta σ H fun vs H1 => (∃ a xs, vs = [.ref a] ∧ SqL K H1 a xs ∧ R (Ite K a) H1) ∨ ∃ a xs, vs = [.ref a] ∧ SqT K H1 a xs ∧ R (IteT K a) H1
theorem pi_enumA {X : Cx} {e : Expr} {ta : TA} {p pos tpos : Pos} {elts : List Expr} {kk : Nat} (hg : Gl X "enumerate") (hm : X.mg "enumerate" = none) (ha : PA X [e] ta) (hs : starEach [e] X.env = [(false, eval e X.env)] := by rfl) :
    PI X (.Tuple elts kk tpos) (.Call (.Name "enumerate" p) [e] [] pos) (iEnumA X.K ta) := by
  refine ⟨fun pins s σ H R I h => ?_⟩
  refine Call_ (ld_blt I hg hm boot_enumerate (PyProof.Rows.callWith_type1 (thn (ha.run pos pins s σ H _ I h) fun us s1 ⟨vs, H1, I1, r1, q1⟩ => ?_) hs rfl))
  have tl : ∀ b, b ∈ [s1.heap.objs.size + 1, s1.heap.objs.size] → s1.heap.objs.size ≤ b := fun b hb => by
    have e' : b = s1.heap.objs.size + 1 ∨ b = s1.heap.objs.size := by simpa using hb
    rcases e' with z | z
    · rw [z]; exact Nat.le_add_right _ _
    · rw [z]; exact Nat.le_refl _
  rcases q1 with ⟨a, xs, ex, hq, q⟩ | ⟨a, xs, ex, hq, q⟩
  · subst ex
    cases r1 with
    | cons r rr =>
      cases rr
      cases r
      obtain ⟨its, rv, p', hz⟩ := I1.list hq
      refine call_enumerate_list p'.isList fun h' he hit hsz hk => wpAny_pyIter_enum he ?_
      have I2 : Inv X pins σ H1 { s1 with heap := h' } := I1.kept (t' := s1.toks) hk
      exact ⟨s1.heap.objs.size + 1, [s1.heap.objs.size + 1, s1.heap.objs.size], _, _, H1, rfl, I2, turn_enum a (s1.heap.objs.size + 1) s1.heap.objs.size, ⟨⟨.none, he⟩, hit, Nat.succ_ne_self _⟩, fun b hb => I1.fpOk (tl b hb) (I1.hok.fresh (tl b hb)), q⟩
  · subst ex
    cases r1 with
    | cons r rr =>
      cases rr
      cases r
      obtain ⟨its, rv, p', hz⟩ := I1.tuple hq
      have ht : s1.heap.IsTuple a its.toArray := p'
      have hl : a < s1.heap.objs.size := by obtain ⟨o, q, _⟩ := ht; exact Heap.lt_size q
      refine enumT_call ht fun h' he hit hk => wpAny_pyIter_enum he ?_
      have I2 : Inv X pins σ H1 { s1 with heap := h' } := I1.kept (t' := s1.toks) hk
      exact ⟨s1.heap.objs.size + 1, [s1.heap.objs.size + 1, s1.heap.objs.size], _, _, H1, rfl, I2, turn_enumT a (s1.heap.objs.size + 1) s1.heap.objs.size (Nat.ne_of_gt (Nat.lt_succ_of_lt hl)) (Nat.ne_of_lt hl), ⟨⟨.none, he⟩, hit, Nat.succ_ne_self _⟩, fun b hb => I1.fpOk (tl b hb) (I1.hok.fresh (tl b hb)), q⟩
def mEnumA (m : MA) : MI := fun τ h Q => m τ h fun ps h1 => match ps with
  | [.tup xs] => xs.length ≤ SZ ∧ Q (enm xs) (fun _ => True) h1
  | [p] => (match seqL h1 p with | some xs => xs.length ≤ SZ ∧ Q (enm xs) (gdS p xs) h1 | none => False)
  | _ => False
section
variable {X : Cx} {tg e e2 : Expr} {pos p : Pos} {m : ME}
theorem enm_step {K : PySem.W.Frag} {H : Hp} {h : PH} {T : Addr} {i : Nat} {x : V} {p : PV} {xs : List PV} {us : List V} (sm : Sim K H h) (ru : Rels K H xs us) (hT : H T = none) (e : us[i]? = some x) (hp : (enm xs)[i]? = some p) :
    Go H h (upd H T (.tup [.int (i : Nat), x])) h ∧ Sim K (upd H T (.tup [.int (i : Nat), x])) h ∧ Rel K (upd H T (.tup [.int (i : Nat), x])) p (.ref T) := by
  unfold enm at hp
  rw [List.getElem?_map, List.getElem?_zipIdx] at hp
  cases ex : xs[i]? with
  | none => rw [ex] at hp; cases hp
  | some w =>
    rw [ex] at hp
    simp only [Option.map_some, Option.some.injEq, Nat.zero_add] at hp
    subst hp
    obtain ⟨w', e1, r3⟩ := ru.get ex
    rw [e] at e1; cases e1
    have mm : Mono H (upd H T (.tup [.int (i : Nat), x])) := Mono.new hT
    exact ⟨.new hT, sm.new hT, rel_tup.mpr ⟨T, _, rfl, .inl (.inl upd_same), .cons (rel_int.mpr rfl) (.cons (r3.mono mm) .nil)⟩⟩
theorem li_enumA {m : MA} {elts : List Expr} {kk : Nat} {tpos : Pos} (hm : X.mg "enumerate" = none) (ha : LAn X [e] 1 m) (hg : Gl X "enumerate" := by rfl) (hs : starEach [e] X.env = [(false, eval e X.env)] := by rfl) :
    LI X (.Tuple elts kk tpos) (.Call (.Name "enumerate" p) [e] [] pos) (mEnumA m) := by
  refine PI.weak (pi_enumA hg hm ha hs) fun σ H R ⟨τ, h, Q', s, sh, q, l⟩ => ?_
  refine ⟨τ, h, _, s, sh, q, fun ps h1 vs H1 q1 hl g1 r1 s1 => ?_⟩
  have hlen : ∀ xs, (enm xs).length = xs.length := fun xs => by unfold enm; simp
  split at q1
  · rename_i xs
    obtain ⟨v, rfl, r2⟩ := r1.one
    obtain ⟨a, ys, rfl, hq, rr⟩ := rel_tup.mp r2
    refine .inr ⟨a, ys, rfl, hq, l _ _ _ _ _ q1.2 g1 s1 ⟨by rw [hlen]; exact sz_le q1.1, fun i H h hi m sm g => ?_, fun H h m sm g => ?_, fun i H h y H' p hp m sm g hy => ?_⟩⟩
    · rw [hlen, rr.length] at hi
      exact ⟨ys, ys[i], m.sqT hq, List.getElem?_eq_getElem hi⟩
    · exact ⟨ys, m.sqT hq, by rw [hlen, rr.length]⟩
    · obtain ⟨T, x, rfl, hT, rfl, hy⟩ := hy
      exact enm_step sm (rr.mono m) hT (hy ys (m.sqT hq)) hp
  · rename_i p _
    obtain ⟨v, rfl, r2⟩ := r1.one
    split at q1
    · rename_i xs e
      obtain ⟨a, ys, rfl, hq, rr, later⟩ := seqL_walk r2 s1 e
      refine .inl ⟨a, ys, rfl, hq, l _ _ _ _ _ q1.2 g1 s1 ⟨by rw [hlen]; exact sz_le q1.1, fun i H h hi m sm g => ?_, fun H h m sm g => ?_, fun i H h y H' p hp m sm g hy => ?_⟩⟩
      · obtain ⟨us, hu, ru⟩ := later H h m sm g
        rw [hlen, ru.length] at hi
        exact ⟨us, us[i], hu, List.getElem?_eq_getElem hi⟩
      · obtain ⟨us, hu, ru⟩ := later H h m sm g
        exact ⟨us, hu, by rw [hlen, ru.length]; exact Nat.le_refl _⟩
      · obtain ⟨us, hu, ru⟩ := later H h m sm g
        obtain ⟨T, x, rfl, hT, rfl, hy⟩ := hy
        exact enm_step sm ru hT (hy us hu) hp
    · exact q1.elim
  · exact q1.elim
end
/-! ### a tuple, many times -/
def rMulT : PR2 := fun p q h Q => match p, q with
  | .tup xs, .int n => 0 ≤ n ∧ n ≤ 1000 ∧ xs ≠ [] ∧ xs.length ≤ 1000 ∧ Q (.tup (List.replicate n.toNat xs).flatten) h
  | p, q => rMul p q h Q
def oMulT (K : PySem.W.Frag) : R2 := fun x y H Q => oMul K x y H Q ∨ rRepT K x y H Q
theorem op_mulT {X : Cx} : OpR X (binaryOp .Mult) (oMulT X.K) := op_mulA.or op_repT
theorem kf_mulT {K : PySem.W.Frag} : Kf2 K (oMulT K) rMulT := by
  intro x y H p q h Q' Q rp rq s r l
  unfold rMulT at r
  split at r
  · rename_i ps n
    obtain ⟨n0, n1, hne, hl, r⟩ := r
    by_cases h2 : 2 ≤ n
    · obtain ⟨a, xs, e1, h1, r1⟩ := rel_tup.mp rp
      have ll := r1.length
      refine .inr ⟨a, n, xs, e1, rel_int.mp rq, h1, fun z => hne ?_, h2, n1, by omega, fun c hc => .inl (make_t l s (r1.rep n.toNat) r hc)⟩
      subst z
      exact List.eq_nil_of_length_eq_zero ll
    · refine .inl (kf_mul x y H _ _ h Q' Q rp rq s ⟨n0, by omega, ?_⟩ l)
      by_cases h1 : n = 1
      · subst h1
        rw [if_pos rfl]
        simpa using r
      · rw [if_neg h1]
        have : n = 0 := by omega
        subst this
        simpa using r
  · exact .inl (kf_mul x y H _ _ h Q' Q rp rq s r l)
end N3

/-! lists that may change: of a text cut, of two lists; a store as a target -/
namespace N3
open PySem PySem.Spec PyProof.Rows L2
def rSplitM : PV → List PV → PH → PK → Prop := fun p ps h Q => match p, ps with
  | .str x, [.str y] => (y.length == 0) = false ∧ x.length + 2 ≤ SZ ∧ ∀ a, h a = none → Q (.ref a) (up h a (.lst ((Txt.split x y).map PV.str)))
  | _, _ => False
section
variable {X : Cx} {pos apos cpos p2 : Pos} {o e i : Expr} {m : MA} {mo mk me : ME} {vs : List Nat}
theorem le_splitM (ho : LE X o mo) (ha : LAn X [e] 1 m) (hbase : attributeBase o "split" X.env (eval o X.env) = eval o X.env := by rfl)
    (hfew : ((backTo cpos (starEach [e] X.env)).all (fun x => !x.1) && (backToKw cpos (keywordEach [] X.env)).all (fun x => x.1.isSome) && decide (([e] : List Expr).length + ([] : List Keyword).length + (if ([] : List Keyword).isEmpty then 0 else 1) < 30)) = true := by rfl)
    (hline : (apos.endLine == cpos.line) = true := by rfl) (hs : starEach [e] X.env = (false, eval e X.env) :: starEach [] X.env := by rfl) (hs1 : starEach [e] X.env = [(false, eval e X.env)] := by rfl) :
    LE X (.Call (.Attribute o "split" apos) [e] [] cpos) (mM1 rSplitM mo m) := by
  refine PE.weak (PE.kp (pe_bm PySem.F.plainAttrs_str PySem.F.slot_str_split PySem.F.type_str_split mt_split ho ha hbase hfew hline hs rfl)) fun σ H Q ⟨τ, h, Q', s, sh, q, l⟩ => ?_
  refine ⟨τ, h, _, s, sh, q, fun p h1 v H1 ⟨⟨x, ex⟩, q1⟩ g1 r1 s1 => ⟨by subst ex; rw [rel_str.mp r1]; rfl, ?_⟩⟩
  refine ⟨τ, h1, _, s.mono g1.mono, s1, q1, ?_⟩
  rintro ps h2 vs H2 q2 _ g2 rr s2
  subst ex
  unfold rSplitM at q2
  split at q2
  · rename_i x' y ex _
    cases ex
    obtain ⟨w, rfl, rw'⟩ := rr.one
    obtain ⟨z1, z2, q2⟩ := q2
    exact ⟨_, _, rel_str.mp r1, by rw [rel_str.mp rw'], z1, sz_le z2, fun a ha => make_l (l.mono (g1.trans g2)) s2 (rels_of_strs _) q2 ha⟩
  · exact q2.elim
/-- a list and a list, that may change -/
def rAddM : PR2 := fun p q h Q => match seqL h p, seqL h q with
  | some xs, some ys => xs.length + ys.length ≤ SZ ∧ ∀ a, h a = none → Q (.ref a) (up h a (.lst (xs ++ ys)))
  | _, _ => False
theorem kf_addM {K : PySem.W.Frag} : Kf2 K (oAdd K) rAddM := by
  intro x y H p q h Q' Q rp rq s r l
  unfold rAddM at r
  split at r
  · rename_i xs ys e1 e2
    obtain ⟨a, us, ea, ha, ra⟩ := seqL_sq rp s e1
    obtain ⟨b, ws, eb, hb, rb⟩ := seqL_sq rq s e2
    refine .inr ⟨a, b, us, ws, ea, eb, ha, hb, ?_, fun c hc => make_l l s (ra.append rb) r.2 hc⟩
    rw [← ra.length, ← rb.length]; exact sz_le r.1
  · exact r.elim
/-- o[i] as a target -/
def gPut (mo mk : ME) : MG := fun p τ h Q => mo τ h fun d h2 => mk τ h2 fun q h3 => match d with
  | .ref a => (match h3 a with
    | some (.dct ks vs) => (match kOf q with | some k => ks.length < SZ ∧ Q τ (up h3 a (.dct (pk ks k) (pvs ks vs k p))) | none => False)
    | some (.lst xs) => (match q with | .int i => (match ixN xs.length i with | some j => Q τ (up h3 a (.lst (xs.set j p))) | none => False) | _ => False)
    | _ => False)
  | _ => False
theorem lg_put {o i : Expr} {pos' : Pos} (hu : X.A.units + 1 < cLine) (ho : LE X o mo) (hi : LE X i mk)
    (ha : ∀ u, assign (.Subscript o i pos') X.env u = (do let ov ← holding [u] (eval o X.env); let iv ← holding [u, ov] (eval i X.env); standAt pos'; holding [u, ov, iv] (setItem ov iv u); release [u, ov, iv] []) := by intro _; rfl) : LG X (.Subscript o i pos') vs (gPut mo mk) := by
  refine PG.weak (pg_sub ho hi (PSet_or (set_dict hu) set_list) ha) fun v σ H Q ⟨p, τ, h, Q', r, s, sh, q, l⟩ => ?_
  refine ⟨τ, h, _, s, sh, q, fun d h2 x H2 q2 g2 r2 s2 => ?_⟩
  refine ⟨τ, h2, _, s.mono g2.mono, s2, q2, fun q h3 y H3 q3 g3 r3 s3 => ?_⟩
  cases d with
  | ref a =>
    have hx := rel_ref.mp (r2.mono g3.mono)
    simp only at q3
    split at q3
    · rename_i ks us e
      split at q3
      · rename_i k ek
        obtain ⟨u, e1, kvs, rfl, rfl, rr⟩ := s3 a _ e
        have hy := kOf_rel r3 ek
        have hl : kvs.length < sizeLine := by
          have z := q3.1
          rw [List.length_map] at z
          exact sz_lt z
        subst hy hx
        have mm : Mono H3 (upd H3 a (.dK (putK kvs k v))) := Mono.dK e1
        obtain ⟨z1, z2⟩ := put_rel (k := k) rr ((r.mono g2.mono).mono g3.mono)
        refine .inl ⟨a, _, rfl, DPut.k e1 hl, l _ _ _ _ q3.2 ((g2.trans g3).trans (.wr e mm)) (((s.mono g2.mono).mono g3.mono).mono mm) (s3.put mm ⟨_, rfl, z1, z2.mono mm⟩) rfl⟩
      · exact q3.elim
    · rename_i xs e
      split at q3
      · rename_i i
        split at q3
        · rename_i j ej
          obtain ⟨u, e1, ys, rfl, rr⟩ := s3 a _ e
          have hy := rel_int.mp r3
          subst hy hx
          have mm : Mono H3 (upd H3 a (.lst (ys.set j v))) := Mono.lst e1
          refine .inr ⟨a, ys, i, j, rfl, rfl, e1, by rw [← rr.length]; exact ej, l _ _ _ _ q3 ((g2.trans g3).trans (.wr e mm)) (((s.mono g2.mono).mono g3.mono).mono mm) (s3.put mm ⟨_, rfl, (rr.set ((r.mono g2.mono).mono g3.mono) j).mono mm⟩) rfl⟩
        · exact q3.elim
      · exact q3.elim
    · exact q3.elim
  | _ => exact q3.elim
end
end N3

namespace N3
open PySem PySem.Spec PyProof.Rows L2
/-! ### xs[::e], e 1 or -1 -/
def mStep (m ms : ME) : ME := fun τ h Q => m τ h fun p h1 => ms τ h1 fun q h2 => match q with
  | .int i => (match seqL h2 p with
    | some xs => (i = 1 ∨ i = -1) ∧ Q (.lst (if i = 1 then xs else xs.reverse)) h2
    | none => False)
  | _ => False
def tStepA (K : PySem.W.Frag) (te ts : TE) : TE := fun σ H Q => te σ H fun x H1 => tPart ts σ H1 fun o H2 => ∃ i, o = some i ∧ (i = 1 ∨ i = -1) ∧ ∃ a xs, x = .ref a ∧ SqL K H2 a xs ∧ ∀ p, H2 p = none → Q (.ref p) (upd H2 p (.lst (if i = 1 then xs else xs.reverse)))
theorem pick_one (its : List Value) : slicePick its.toArray none none (some 1) = its.toArray := by
  have := slicePick_cut its none none
  rw [show slicePick its.toArray none none (some 1) = slicePick its.toArray none none none from rfl, this]
  unfold HT.sIx
  simp
section
variable {X : Cx} {pos p3 : Pos} {e es : Expr}
theorem pe_stepA {te ts : TE} (he : PE X e te) (hs : PE X es ts) : PE X (.Subscript e (.Slice none none (some es) p3) pos) (tStepA X.K te ts) := by
  refine ⟨fun pins s σ H Q I h => ?_⟩
  refine Subscript_ (thn (he.run pins s σ H _ I h) fun v s1 ⟨x, H1, I1, r1, q1⟩ => ?_)
  have hst : L2.PO X (some es) (tPart ts) := po_some hs
  refine wpAny_Slice (thn (po_none.run pins s1 σ H1 (fun o H2 => o = none ∧ H2 = H1) I1 ⟨rfl, rfl⟩) fun vl s2 ⟨l, H2, I2, pl, el, e2⟩ => ?_)
  subst el e2
  refine thn (po_none.run pins s2 σ H2 (fun o H3 => o = none ∧ H3 = H2) I2 ⟨rfl, rfl⟩) fun vu s3 ⟨u, H3, I3, pu, eu, e3⟩ => ?_
  subst eu e3
  refine thn (hst.run pins s3 σ H3 (fun o H4 => ∃ i, o = some i ∧ (i = 1 ∨ i = -1) ∧ ∃ a xs, x = .ref a ∧ SqL X.K H4 a xs ∧ ∀ p, H4 p = none → Q (.ref p) (upd H4 p (.lst (if i = 1 then xs else xs.reverse)))) I3 q1) fun vs s4 ⟨o, H4, I4, ps, i, eo, hi, a, xs, ex, hx, q⟩ => ?_
  subst eo
  subst ex
  cases r1
  have I5 : Inv X pins σ H4 { s4 with heap := s4.heap.push { cls := .type "slice", data := .fields #[vl, vu, vs] } } := I4.kept (t' := s4.toks) fun b ob q => Heap.get?_push_of_some _ q
  show wpAny (model X.prog X.w) X.A (subscriptTail e (.Slice none none (some es) p3) (.ref a) (.ref s4.heap.objs.size)) (EP X pins σ Q) X.xe { s4 with heap := s4.heap.push { cls := .type "slice", data := .fields #[vl, vu, vs] } }
  obtain ⟨its, r, ht, hz⟩ := I5.list hx
  have hlen := r.length
  refine tail_any (ops := [.ref a, .ref s4.heap.objs.size]) ht.isList.typeIs (PySem.slot_list_getitem.lookup) ?_ (by with_unfolding_all rfl)
  refine wpAny_getItem_list_slice ht.isList (Heap.IsSliceOf.new _ vl vu vs) pl pu ps (by rcases hi with rfl | rfl <;> decide) ?_ (by rw [List.size_toArray]; omega)
  rcases hi with rfl | rfl
  · rw [pick_one]
    rw [if_pos rfl] at q
    refine ⟨.ref _, _, I5.laid (t' := s4.toks) (o := .lst xs) (fun b ob q => Heap.get?_push_of_some _ q) (Nat.le_refl _) ?_, rfl, q _ (I5.hok.fresh (Nat.le_refl _))⟩
    exact ⟨hz, _, 0, r, Heap.get?_push_size _ rfl⟩
  · rw [PySem.W.krv_pick]
    rw [if_neg (by decide)] at q
    refine ⟨.ref _, _, I5.laid (t' := s4.toks) (o := .lst xs.reverse) (fun b ob q => Heap.get?_push_of_some _ q) (Nat.le_refl _) ?_, rfl, q _ (I5.hok.fresh (Nat.le_refl _))⟩
    exact ⟨by rw [List.length_reverse]; exact hz, _, 0, r.reverse, Heap.get?_push_size _ rfl⟩
theorem le_stp {m ms : ME} (he : LE X e m) (hs : LE X es ms) : LE X (.Subscript e (.Slice none none (some es) p3) pos) (mStep m ms) := by
  refine PE.weak (PE.kp (pe_stepA he hs)) fun σ H Q ⟨τ, h, Q', s, sh, q, l⟩ => ?_
  refine ⟨τ, h, _, s, sh, q, fun p h1 v H1 q1 g1 r1 s1 => ?_⟩
  refine ⟨τ, h1, _, s.mono g1.mono, s1, q1, fun q2 h2 y H2 q3 g2 r2 s2 => ?_⟩
  cases q2 with
  | int i =>
    have ey := rel_int.mp r2
    simp only at q3
    split at q3
    · rename_i xs e
      obtain ⟨a, ys, rfl, hq, rr⟩ := seqL_sq (r1.mono g2.mono) s2 e
      refine ⟨i, ey, i, rfl, q3.1, a, ys, rfl, hq, fun c hc => keep_l ((l.mono g1).mono g2) s2 ?_ q3.2 hc⟩
      split
      · exact rr
      · exact rr.reverse
    · exact q3.elim
  | _ => exact q3.elim
end
end N3

namespace N3
open PySem PySem.Spec PyProof.Rows L2
/-! ### the truth of any value; a or b, a and b as values -/
def trv (h : PH) : PV → Option Bool
  | .non => some false
  | .bl b => some b
  | .int i => some (i != 0)
  | .str x => if x.length ≤ SZ then some ((x.length : Int) != 0) else none
  | .tup xs => some (!xs.isEmpty)
  | p => match seqL h p with | some xs => some (!xs.isEmpty) | none => none
theorem isEmpty_rels {K : PySem.W.Frag} {H : Hp} {ps : List PV} {xs : List V} (r : Rels K H ps xs) : ps.isEmpty = xs.isEmpty := by
  cases ps with
  | nil => rw [Rels.nil_iff] at r; subst r; rfl
  | cons p ps => obtain ⟨v, vs, rfl, _, _⟩ := r.uncons; rfl
theorem trv_up {K : PySem.W.Frag} {H : Hp} {h : PH} {p : PV} {v : V} {k : Bool} (r : Rel K H p v) (s : Sim K H h) (e : trv h p = some k) : TruV K v H k := by
  have seq : ∀ {xs}, seqL h p = some xs → k = !xs.isEmpty → TruV K v H k := fun {xs} e1 e2 => by
    obtain ⟨a, ys, rfl, hq, rr⟩ := seqL_sq r s e1
    exact .inl ⟨ys, hq, by rw [e2, isEmpty_rels rr]⟩
  cases p with
  | non => rw [rel_non.mp r]; exact (Option.some.inj e).symm
  | bl b => rw [rel_bl.mp r]; exact (Option.some.inj e).symm
  | int i => rw [rel_int.mp r]; exact (Option.some.inj e).symm
  | str x =>
    rw [rel_str.mp r]
    simp only [trv] at e
    split at e
    · rename_i hz
      exact ⟨sz_le hz, (Option.some.inj e).symm⟩
    · cases e
  | tup xs =>
    obtain ⟨a, ys, rfl, hq, rr⟩ := rel_tup.mp r
    exact .inr (.inl ⟨ys, hq, by rw [← isEmpty_rels rr]; exact (Option.some.inj e).symm⟩)
  | lst xs => exact seq (xs := xs) rfl (Option.some.inj e).symm
  | ref a =>
    have e : (match seqL h (.ref a) with | some xs => some (!xs.isEmpty) | none => none) = some k := e
    split at e
    · rename_i xs e1
      exact seq e1 (Option.some.inj e).symm
    · cases e
  | dct ks vs => cases e
  | ty n => cases e
def mOrV (a b : ME) : ME := fun τ h Q => a τ h fun p h1 => match trv h1 p with
  | some k => if k = true then Q p h1 else b τ h1 Q
  | none => False
def mAndV (a b : ME) : ME := fun τ h Q => a τ h fun p h1 => match trv h1 p with
  | some k => if k = true then b τ h1 Q else Q p h1
  | none => False
section
variable {X : Cx} {a b e : Expr} {rest : List Expr} {pos : Pos}
theorem le_orV {ma mb : ME} (ha : LE X a ma) (hb : LE X (.BoolOp .Or (b :: rest) pos) mb) : LE X (.BoolOp .Or (a :: b :: rest) pos) (mOrV ma mb) := by
  refine PE.weak (pe_orT ha hb) fun σ H Q ⟨τ, h, Q', s, sh, q, l⟩ => ?_
  refine ⟨τ, h, _, s, sh, q, fun p h1 v H1 q1 m1 r s1 => ?_⟩
  split at q1
  · rename_i k e
    refine ⟨k, trv_up r s1 e, ?_⟩
    cases k with
    | true => exact l _ _ _ _ q1 m1 r s1
    | false => exact ⟨τ, h1, Q', s.mono m1.mono, s1, q1, l.mono m1⟩
  · exact q1.elim
theorem le_andV {ma mb : ME} (ha : LE X a ma) (hb : LE X (.BoolOp .And (b :: rest) pos) mb) : LE X (.BoolOp .And (a :: b :: rest) pos) (mAndV ma mb) := by
  refine PE.weak (pe_andT ha hb) fun σ H Q ⟨τ, h, Q', s, sh, q, l⟩ => ?_
  refine ⟨τ, h, _, s, sh, q, fun p h1 v H1 q1 m1 r s1 => ?_⟩
  split at q1
  · rename_i k e
    refine ⟨k, trv_up r s1 e, ?_⟩
    cases k with
    | true => exact ⟨τ, h1, Q', s.mono m1.mono, s1, q1, l.mono m1⟩
    | false => exact l _ _ _ _ q1 m1 r s1
  · exact q1.elim
end
end N3

/-! classes: fields, methods, instances made; calls by any pattern of places, keywords, defaults -/
namespace N3
open PySem PySem.Spec PyProof.Rows L2

/-! ### items by their places -/
def pick {α : Type} (π : List Nat) (l : List α) : List α := π.filterMap fun i => l[i]?
theorem Vals.pick {vs : List V} {us : List Value} (r : Vals vs us) : ∀ π : List Nat, Vals (pick π vs) (N3.pick π us)
  | [] => .nil
  | i :: π => by
    have ih := Vals.pick r π
    unfold N3.pick at ih ⊢
    cases e : vs[i]? with
    | none =>
      have e2 : us[i]? = none := by
        rw [List.getElem?_eq_none_iff] at e ⊢
        rw [← r.length]; exact e
      rw [List.filterMap_cons_none e, List.filterMap_cons_none e2]; exact ih
    | some v =>
      obtain ⟨u, e2, ru⟩ := r.get e
      rw [List.filterMap_cons_some e, List.filterMap_cons_some e2]
      exact .cons ru ih
theorem Rels.pick {K : PySem.W.Frag} {H : Hp} {ps : List PV} {vs : List V} (r : Rels K H ps vs) : ∀ π : List Nat, Rels K H (N3.pick π ps) (N3.pick π vs)
  | [] => .nil
  | i :: π => by
    have ih := Rels.pick r π
    unfold N3.pick at ih ⊢
    cases e : ps[i]? with
    | none =>
      have e2 : vs[i]? = none := by
        rw [List.getElem?_eq_none_iff] at e ⊢
        rw [← r.length]; exact e
      rw [List.filterMap_cons_none e, List.filterMap_cons_none e2]; exact ih
    | some v =>
      obtain ⟨u, e2, ru⟩ := r.get e
      rw [List.filterMap_cons_some e, List.filterMap_cons_some e2]
      exact .cons ru ih
/-- how a call is written: n values by place, keywords named ks, defaults ds; the parameters' values are those of all these at π -/
structure Pat where
  n : Nat
  ks : List Str
  π : List Nat
  ds : List PV
structure KbP (K : PySem.W.Frag) (fd : FuncData) (ps : List Str) (b : Pat) : Prop where
  ex : ∃ (mv : List Value) (dv : List V), Vals dv mv ∧ (∀ H, Rels K H b.ds dv) ∧
    ∀ (s : Shared) (us ws : List Value), K.In s.heap → us.length = b.n → ws.length = b.ks.length → BindsTo s fd ⟨us, b.ks.zip ws⟩ (ps.zip (pick b.π (us ++ ws ++ mv)))
  len : ∀ l : List PV, l.length = b.n + b.ks.length + b.ds.length → (pick b.π l).length = ps.length
/-- a def that is called by patterns -/
structure FnC (P : Program) (w : World) (K : PySem.W.Frag) (mg : Str → Option Value) (base : Heap) (k : Nat) (f : Addr) (fd : FuncData) (ps : List Str) (sp : SpP) (pats : List Pat) : Prop where
  kp : PySem.W.keepIn K (.ref f) = true
  b : ∀ p ∈ pats, KbP K fd ps p
  g : FnG P w K mg base k f fd ps sp
/-- .. as a method of a class -/
structure FnM (P : Program) (w : World) (K : PySem.W.Frag) (mg : Str → Option Value) (base : Heap) (k : Nat) (C : Addr) (m : Str) (ps : List Str) (sp : SpP) (pats : List Pat) : Prop where
  cl : Cls K C
  ex : ∃ (f : Addr) (fd : FuncData), Meth K C m f ∧ FnC P w K mg base k f fd ps sp pats
/-- .. as what makes an instance of a class that is called by its name -/
structure FnI (P : Program) (w : World) (K : PySem.W.Frag) (mg : Str → Option Value) (base : Heap) (k : Nat) (x : Str) (C : Addr) (ps : List Str) (sp : SpP) (pats : List Pat) : Prop where
  at_ : mg x = some (.ref C)
  ex : ∃ (f : Addr) (fd : FuncData), Mk K C f ∧ FnC P w K mg base k f fd ps sp pats

/-! ### an instance's fields -/
def fN (f : Str) : List Str → List Str
  | [] => [f]
  | k :: r => if k = f then k :: r else k :: fN f r
def fV (f : Str) (v : PV) : List Str → List PV → List PV
  | k :: r, x :: s => if k = f then v :: s else x :: fV f v r s
  | _, _ => [v]
def fG (f : Str) : List Str → List PV → Option PV
  | k :: r, x :: s => if k = f then some x else fG f r s
  | _, _ => none
theorem fN_put (f : Str) (y : V) : ∀ fs : List (Str × V), (putF f y fs).map (·.1) = fN f (fs.map (·.1))
  | [] => rfl
  | (k, x) :: r => by
    show (if k = f then (k, y) :: r else (k, x) :: putF f y r).map (·.1) = if k = f then k :: r.map (·.1) else k :: fN f (r.map (·.1))
    split
    · rfl
    · rw [List.map_cons, fN_put f y r]
theorem fV_put {K : PySem.W.Frag} {H : Hp} {f : Str} {p : PV} {y : V} (r : Rel K H p y) : ∀ {fs : List (Str × V)} {vs : List PV}, Rels K H vs (fs.map (·.2)) → Rels K H (fV f p (fs.map (·.1)) vs) ((putF f y fs).map (·.2))
  | [], vs, rr => by
    rw [show fV f p (([] : List (Str × V)).map (·.1)) vs = [p] by cases vs <;> rfl]
    exact .cons r .nil
  | (k, x) :: fs, vs, rr => by
    cases vs with
    | nil => exact absurd rr.length (by simp)
    | cons v vs =>
      obtain ⟨w, ws, e, r1, r2⟩ := rr.uncons
      injection e with e1 e2
      subst e1 e2
      show Rels K H (if k = f then p :: vs else v :: fV f p (fs.map (·.1)) vs) ((if k = f then (k, y) :: fs else (k, x) :: putF f y fs).map (·.2))
      split
      · exact .cons r r2
      · exact .cons r1 (fV_put r r2)
theorem fG_get {K : PySem.W.Frag} {H : Hp} {f : Str} {p : PV} : ∀ {fs : List (Str × V)} {vs : List PV}, Rels K H vs (fs.map (·.2)) → fG f (fs.map (·.1)) vs = some p → ∃ v, fs.lookup f = some v ∧ Rel K H p v
  | [], vs, rr, e => by cases vs <;> cases e
  | (k, x) :: fs, vs, rr, e => by
    cases vs with
    | nil => exact absurd rr.length (by simp)
    | cons v vs =>
      obtain ⟨w, ws, e0, r1, r2⟩ := rr.uncons
      injection e0 with e1 e2
      subst e1 e2
      have e : (if k = f then some v else fG f (fs.map (·.1)) vs) = some p := e
      by_cases hk : k = f
      · rw [if_pos hk] at e
        injection e with e
        subst e hk
        exact ⟨x, by simp [List.lookup], r1⟩
      · rw [if_neg hk] at e
        obtain ⟨u, e3, r3⟩ := fG_get r2 e
        refine ⟨u, ?_, r3⟩
        rw [List.lookup_cons, show (f == k) = false from beq_eq_false_iff_ne.mpr (Ne.symm hk)]
        exact e3
theorem noF_get {f : Str} : ∀ {fs : List (Str × V)}, f ∉ fs.map (·.1) → fs.lookup f = none
  | [], _ => rfl
  | (k, x) :: fs, h => by
    rw [List.map_cons, List.mem_cons, not_or] at h
    rw [List.lookup_cons, show (f == k) = false from beq_eq_false_iff_ne.mpr h.1]
    exact noF_get h.2
theorem Mono.own {H : Hp} {a : Addr} {o : HO} {x : Addr} (h : H a = some (.own x)) : Mono H (upd H a o) := .wr h (fun _ e => nomatch e) (fun _ _ e => nomatch e)
/-- o.f -/
def mFld (C : Addr) (f : Str) (m : ME) : ME := fun τ h Q => m τ h fun p h1 => match p with
  | .ref a => (match h1 a with
    | some (.ins C' ns vs) => C' = C ∧ (match fG f ns vs with | some v => Q v h1 | none => False)
    | _ => False)
  | _ => False
/-- o.f = e -/
def mPutF (C : Addr) (f : Str) (mo mv : ME) : MS := fun D τ h => mv τ h fun p h1 => mo τ h1 fun d h2 => match d with
  | .ref a => (match h2 a with
    | some (.ins C' ns vs) => C' = C ∧ ns.length < 1000 ∧ D.nx τ (up h2 a (.ins C (fN f ns) (fV f p ns vs)))
    | _ => False)
  | _ => False
/-- o.f += e, of ints -/
def mAugF (C : Addr) (f : Str) (g : Int → Int → Int) (mo mv : ME) : MS := fun D τ h => mo τ h fun d h1 => match d with
  | .ref a => (match h1 a with
    | some (.ins C' ns vs) => C' = C ∧ (match fG f ns vs with
      | some (.int i) => mv τ h1 fun q h2 => (match q with
        | .int j => (match h2 a with
          | some (.ins C2 ns2 vs2) => C2 = C ∧ ns2.length < 1000 ∧ D.nx τ (up h2 a (.ins C (fN f ns2) (fV f (.int (g i j)) ns2 vs2)))
          | _ => False)
        | _ => False)
      | _ => False)
    | _ => False)
  | _ => False
section
variable {X : Cx} {o e value : Expr} {es : List Expr} {f : Str} {pos pos' tpos apos : Pos} {mo mv m : ME} {C : Addr}
theorem le_fld (c : Cls X.K C) (n : NoAttr X.K C f) (he : LE X e m) (hb : attributeBase e f X.env (eval e X.env) = eval e X.env := by rfl) : LE X (.Attribute e f pos) (mFld C f m) := by
  refine PE.weak (pe_fld he hb) fun σ H Q ⟨τ, h, Q', s, sh, q, l⟩ => ?_
  refine ⟨τ, h, _, s, sh, q, fun p h1 v H1 q1 g1 r1 s1 => ?_⟩
  cases p with
  | ref a =>
    simp only at q1
    split at q1
    · rename_i C' ns vs e1
      obtain ⟨rfl, q1⟩ := q1
      split at q1
      · rename_i w ew
        obtain ⟨u, e2, dx, fs, rfl, rfl, rr⟩ := s1 a _ e1
        obtain ⟨y, ey, ry⟩ := fG_get rr ew
        exact ⟨a, C', dx, fs, y, rel_ref.mp r1, e2, c, n, ey, l _ _ _ _ q1 g1 ry s1⟩
      · exact q1.elim
    · exact q1.elim
  | _ => exact q1.elim
theorem ls_fld (c : Cls X.K C) (n : NoAttr X.K C f) (ho : LE X o mo) (hv : LE X value mv) (hs : swapsWith value (some (.Attribute o f pos')) pos.line X.env = pure false := by rfl) : LS X (.Assign [.Attribute o f pos'] value pos) (mPutF C f mo mv) := by
  refine PS.weak (ps_fld ho hv hs) fun D σ H ⟨τ, h, D', s, sh, q, l⟩ => ?_
  refine ⟨τ, h, _, s, sh, q, fun p h1 v H1 q1 g1 r1 s1 => ?_⟩
  refine ⟨τ, h1, _, s.mono g1.mono, s1, q1, fun d h2 x H2 q2 g2 r2 s2 => ?_⟩
  cases d with
  | ref a =>
    simp only at q2
    split at q2
    · rename_i C' ns vs e1
      obtain ⟨rfl, hl, q2⟩ := q2
      obtain ⟨u, e2, dx, fs, rfl, rfl, rr⟩ := s2 a _ e1
      have mm : Mono H2 (upd H2 a (.ins C' dx (putF f v fs))) := Mono.ins e2
      refine ⟨a, C', dx, fs, rel_ref.mp r2, e2, c, n, by simpa using hl, l.nx _ _ _ _ q2 ((g1.trans g2).trans (.wr e1 mm)) (((s.mono g1.mono).mono g2.mono).mono mm) (s2.put mm ⟨dx, _, rfl, (fN_put f v fs).symm, (fV_put (r1.mono g2.mono) rr).mono mm⟩)⟩
    · exact q2.elim
  | _ => exact q2.elim
theorem ls_augF {op : Operator} {g : Int → Int → Int} (c : Cls X.K C) (n : NoAttr X.K C f) (ho : LE X o mo) (hv : LE X value mv) (hop : InOp X op (fun x y H Q => ∃ i j, x = .int i ∧ y = .int j ∧ Q (.int (g i j)) H)) : LS X (.AugAssign (.Attribute o f tpos) op value pos) (mAugF C f g mo mv) := by
  refine PS.weak (ps_fldaug ho hv hop) fun D σ H ⟨τ, h, D', s, sh, q, l⟩ => ?_
  refine ⟨τ, h, _, s, sh, q, fun d h1 x H1 q1 g1 r1 s1 => ?_⟩
  cases d with
  | ref a =>
    simp only at q1
    split at q1
    · rename_i C' ns vs e1
      obtain ⟨rfl, q1⟩ := q1
      split at q1
      · rename_i i ei
        obtain ⟨u, e2, dx, fs, rfl, rfl, rr⟩ := s1 a _ e1
        obtain ⟨y, ey, ry⟩ := fG_get rr ei
        refine ⟨a, C', dx, fs, y, rel_ref.mp r1, e2, c, n, ey, τ, h1, _, s.mono g1.mono, s1, q1, fun p h2 v H2 q2 g2 r2 s2 => ?_⟩
        cases p with
        | int j =>
          simp only at q2
          split at q2
          · rename_i C2 ns2 vs2 e3
            obtain ⟨rfl, hl, q2⟩ := q2
            obtain ⟨u2, e4, dx2, fs2, rfl, rfl, rr2⟩ := s2 a _ e3
            have mm : Mono H2 (upd H2 a (.ins C2 dx2 (putF f (.int (g i j)) fs2))) := Mono.ins e4
            refine ⟨i, j, rel_int.mp ry, rel_int.mp r2, dx2, fs2, e4, by simpa using hl, l.nx _ _ _ _ q2 ((g1.trans g2).trans (.wr e3 mm)) (((s.mono g1.mono).mono g2.mono).mono mm) (s2.put mm ⟨dx2, _, rfl, (fN_put f _ fs2).symm, (fV_put (rel_int.mpr rfl) rr2).mono mm⟩)⟩
          · exact q2.elim
        | _ => exact q2.elim
      · exact q1.elim
    · exact q1.elim
  | _ => exact q1.elim
end
/-! ### methods -/
/-- o.m(..): the places' values, then the keywords' -/
def mMeth (C : Addr) (mn : Str) (sp : SpP) (b : Pat) (mo : ME) (m mk : MA) : ME := fun τ h Q => mo τ h fun p h1 => match p with
  | .ref a => (match h1 a with
    | some (.ins C' ns _) => C' = C ∧ mn ∉ ns ∧ m τ h1 fun ps h2 => mk τ h2 fun qs h3 => sp (pick b.π (.ref a :: ps ++ qs ++ b.ds)) h3 Q
    | _ => False)
  | _ => False
/-- C(..) -/
def mMake (C : Addr) (sp : SpP) (b : Pat) (m mk : MA) : ME := fun τ h Q => m τ h fun ps h1 => mk τ h1 fun qs h2 => ∀ a, h2 a = none → sp (pick b.π (.ref a :: ps ++ qs ++ b.ds)) (up h2 a (.ins C [] [])) fun v h3 => v = .non ∧ Q (.ref a) h3
section
variable {X : Cx} {k : Nat} {f C : Addr} {fd : FuncData} {ps : List Str} {sp : SpP} {pats : List Pat} {b : Pat} {x mn : Str} {p pos apos : Pos} {e o : Expr} {es : List Expr} {kws : List Keyword} {mo : ME} {m mk : MA}
/-- the callee runs -/
theorem call_c {pins : List (Addr × Obj)} {σ : L2.St} {H : Hp} {s : Shared} {Q : VK} {us ws : List Value} {vs zs : List V} {h : PH} {qs rs : List PV} {Q' : N3.PK} (F : FnC X.prog X.w X.K X.mg X.base k f fd ps sp pats) (hb : b ∈ pats) (hr : Room k X.A) (hG : X.A.guards = some [])
    (I : Inv X pins σ H s) (r1 : Vals vs us) (r2 : Vals zs ws) (rr1 : Rels X.K H qs vs) (rr2 : Rels X.K H rs zs) (sh : Sim X.K H h) (l1 : us.length = b.n) (l2 : ws.length = b.ks.length) (q : sp (pick b.π (qs ++ rs ++ b.ds)) h Q') (l : LQ X.K H h Q' Q) :
    wpAny (model X.prog X.w) X.A (call (.ref f) us (b.ks.zip ws)) (EP X pins σ Q) X.xe s := by
  obtain ⟨mv, dv, rv, rd, to⟩ := (F.b b hb).ex
  have R : Vals (pick b.π (vs ++ zs ++ dv)) (pick b.π (us ++ ws ++ mv)) := Vals.pick ((r1.append r2).append rv) b.π
  have RR : Rels X.K H (pick b.π (qs ++ rs ++ b.ds)) (pick b.π (vs ++ zs ++ dv)) := Rels.pick ((rr1.append rr2).append (rd H)) b.π
  have hl : (pick b.π (qs ++ rs ++ b.ds)).length = ps.length := (F.b b hb).len _ (by
    rw [List.length_append, List.length_append, rr1.length, rr2.length, r1.length, r2.length, l1, l2])
  exact call_g F.g hr hG I (to s us ws I.kIn l1 l2) R ⟨_, h, Q', hl, RR, sh, q, l⟩
theorem le_meth {pl : Sem Bool} (c : FnM X.prog X.w X.K X.mg X.base k C mn ps sp pats) {j n m' : Nat} (hb : pats[j]? = some b) {kk : Nat} (hr : Room kk X.A) (hj : k ≤ kk) (hG : X.A.guards = some []) (ho : LE X o mo) (ha : LAn X (e :: es) n m) (hkw : LKn X kws m' mk) (hn : n + 1 = b.n := by rfl) (hm : m' = b.ks.length := by rfl)
    (hst : starEach (e :: es) X.env = (false, eval e X.env) :: starEach es X.env := by rfl) (hall : (backToKw pos (keywordEach kws X.env)).all (·.1.isSome) = true := by rfl) (hks : (backToKw pos (keywordEach kws X.env)).filterMap (·.1) = b.ks := by rfl)
    (hpl : ((backTo pos (starEach (e :: es) X.env)).any (·.1) || (backToKw pos (keywordEach kws X.env)).any (·.1.isNone)) = false := by rfl)
    (ht : eval (.Call (.Attribute o mn apos) (e :: es) kws pos) X.env = (do
      let ov ← eval o X.env
      standAt apos.atName
      let (f, first) ← holding [ov] (getMethod ov mn pl)
      callWith pos f first (backTo pos (starEach (e :: es) X.env)) (backToKw pos (keywordEach kws X.env))) := by rfl) :
    LE X (.Call (.Attribute o mn apos) (e :: es) kws pos) (mMeth C mn sp b mo m mk) := by
  obtain ⟨f, fd, hM, F⟩ := c.ex
  have hbm : b ∈ pats := List.mem_of_getElem? hb
  refine ⟨fun pins s σ H Q I ⟨τ, h, Q', ss, sh, q, l⟩ => ?_⟩
  refine PySem.W.methodCall_KW (pl := pl) (thn (ho.run pins s σ H (fun v H1 => ∃ a ns vs h1, v = .ref a ∧ h1 a = some (.ins C ns vs) ∧ mn ∉ ns ∧ Go H h H1 h1 ∧ Sim X.K H1 h1 ∧ m τ h1 fun ps h2 => mk τ h2 fun qs h3 => sp (pick b.π (.ref a :: ps ++ qs ++ b.ds)) h3 Q') I
    ⟨τ, h, _, ss, sh, q, fun p h1 v H1 q1 g1 r1 s1 => ?_⟩) fun u s1 ⟨x, H1, I1, rx, a, ns, vs, h1, ex, ea, hns, g1, sh1, q1⟩ => ?_) ht
  · cases p with
    | ref a =>
      simp only at q1
      split at q1
      · rename_i C' ns vs e1
        obtain ⟨rfl, hns, q1⟩ := q1
        exact ⟨a, ns, vs, h1, rel_ref.mp r1, e1, hns, g1, s1, q1⟩
      · exact q1.elim
    | _ => exact q1.elim
  subst ex
  obtain rfl : u = Value.ref a := rx
  obtain ⟨ob, eo, dx, fs, rfl, rfl, rr⟩ := sh1 a _ ea
  refine getmeth_ok I1 eo c.cl hM (noF_get hns) ?_
  refine PySem.W.callWith_KW (first := [.ref a]) (h₀ := X.base) I1.ok.mod.kin hM.kp hall (thn (ha.run pos pins s1 σ H1 (fun vs H2 => ∃ qs h2, vs.length = n ∧ Rels X.K H2 qs vs ∧ Go H1 h1 H2 h2 ∧ Sim X.K H2 h2 ∧ mk τ h2 fun rs h3 => sp (pick b.π (.ref a :: qs ++ rs ++ b.ds)) h3 Q') I1
    ⟨τ, h1, _, ss.mono g1.mono, sh1, q1, fun qs h2 vs H2 q2 hl g2 r2 s2 => ⟨qs, h2, by rw [← r2.length, hl], r2, g2, s2, q2⟩⟩) fun us s2 ⟨vs, H2, I2, r2, qs, h2, lv, rq, g2, sh2, q2⟩ => ?_) hpl hst
  refine thn (hkw.run pos pins s2 σ H2 (fun zs H3 => ∃ rs h3, zs.length = m' ∧ Rels X.K H3 rs zs ∧ Go H2 h2 H3 h3 ∧ Sim X.K H3 h3 ∧ sp (pick b.π (.ref a :: qs ++ rs ++ b.ds)) h3 Q') I2
    ⟨τ, h2, _, (ss.mono g1.mono).mono g2.mono, sh2, q2, fun rs h3 zs H3 q3 hz g3 r3 s3 => ⟨rs, h3, by rw [← r3.length, hz], r3, g3, s3, q3⟩⟩) fun ws s3 ⟨zs, H3, I3, r3, rs, h3, lz, rz, g3, sh3, q3⟩ => ⟨I3.kIn, ?_⟩
  rw [hks]
  exact call_c (us := .ref a :: us) (vs := .ref a :: vs) (qs := .ref a :: qs) F hbm (hr.mono hj) hG I3 (.cons rfl r2) r3 (.cons (rel_ref.mpr rfl) (rq.mono g3.mono)) rz sh3 (by rw [List.length_cons, ← r2.length, lv, hn]) (by rw [← r3.length, lz, hm]) q3 (l.mono ((g1.trans g2).trans g3))
theorem le_meth0 {pl : Sem Bool} (c : FnM X.prog X.w X.K X.mg X.base k C mn ps sp pats) {j m' : Nat} (hb : pats[j]? = some b) {kk : Nat} (hr : Room kk X.A) (hj : k ≤ kk) (hG : X.A.guards = some []) (ho : LE X o mo) (hkw : LKn X kws m' mk) (hn : 1 = b.n := by rfl) (hm : m' = b.ks.length := by rfl)
    (hall : (backToKw pos (keywordEach kws X.env)).all (·.1.isSome) = true := by rfl) (hks : (backToKw pos (keywordEach kws X.env)).filterMap (·.1) = b.ks := by rfl)
    (hpl : ((backTo pos (starEach [] X.env)).any (·.1) || (backToKw pos (keywordEach kws X.env)).any (·.1.isNone)) = false := by rfl)
    (ht : eval (.Call (.Attribute o mn apos) [] kws pos) X.env = (do
      let ov ← eval o X.env
      standAt apos.atName
      let (f, first) ← holding [ov] (getMethod ov mn pl)
      callWith pos f first (backTo pos (starEach [] X.env)) (backToKw pos (keywordEach kws X.env))) := by rfl) :
    LE X (.Call (.Attribute o mn apos) [] kws pos) (mMeth C mn sp b mo mNil mk) := by
  obtain ⟨f, fd, hM, F⟩ := c.ex
  have hbm : b ∈ pats := List.mem_of_getElem? hb
  refine ⟨fun pins s σ H Q I ⟨τ, h, Q', ss, sh, q, l⟩ => ?_⟩
  refine PySem.W.methodCall_KW (pl := pl) (thn (ho.run pins s σ H (fun v H1 => ∃ a ns vs h1, v = .ref a ∧ h1 a = some (.ins C ns vs) ∧ mn ∉ ns ∧ Go H h H1 h1 ∧ Sim X.K H1 h1 ∧ mk τ h1 fun qs h3 => sp (pick b.π (.ref a :: [] ++ qs ++ b.ds)) h3 Q') I
    ⟨τ, h, _, ss, sh, q, fun p h1 v H1 q1 g1 r1 s1 => ?_⟩) fun u s1 ⟨x, H1, I1, rx, a, ns, vs, h1, ex, ea, hns, g1, sh1, q1⟩ => ?_) ht
  · cases p with
    | ref a =>
      simp only at q1
      split at q1
      · rename_i C' ns vs e1
        obtain ⟨rfl, hns, q1⟩ := q1
        exact ⟨a, ns, vs, h1, rel_ref.mp r1, e1, hns, g1, s1, q1⟩
      · exact q1.elim
    | _ => exact q1.elim
  subst ex
  obtain rfl : u = Value.ref a := rx
  obtain ⟨ob, eo, dx, fs, rfl, rfl, rr⟩ := sh1 a _ ea
  refine getmeth_ok I1 eo c.cl hM (noF_get hns) ?_
  refine PySem.W.callWith_KW0 (first := [.ref a]) (h₀ := X.base) I1.ok.mod.kin hM.kp hall (thn (hkw.run pos pins s1 σ H1 (fun zs H3 => ∃ rs h3, zs.length = m' ∧ Rels X.K H3 rs zs ∧ Go H1 h1 H3 h3 ∧ Sim X.K H3 h3 ∧ sp (pick b.π (.ref a :: [] ++ rs ++ b.ds)) h3 Q') I1
    ⟨τ, h1, _, ss.mono g1.mono, sh1, q1, fun rs h3 zs H3 q3 hz g3 r3 s3 => ⟨rs, h3, by rw [← r3.length, hz], r3, g3, s3, q3⟩⟩) fun ws s3 ⟨zs, H3, I3, r3, rs, h3, lz, rz, g3, sh3, q3⟩ => ⟨I3.kIn, ?_⟩) hpl
  rw [hks]
  exact call_c (us := [.ref a]) (vs := [.ref a]) (qs := [.ref a]) F hbm (hr.mono hj) hG I3 (.cons rfl .nil) r3 (.cons (rel_ref.mpr rfl) .nil) rz sh3 hn (by rw [← r3.length, lz, hm]) q3 (l.mono (g1.trans g3))
/-! ### instances made -/
theorem Go.made {H : Hp} {h : PH} {a dx : Addr} (e : H a = none) (e' : H dx = none) (n : dx ≠ a) : Go H h (upd (upd H dx (.own a)) a (.ins C dx [])) (up h a (.ins C [] [])) :=
  Go.trans (Go.new e') (Go.add (by rw [upd_ne (Ne.symm n)]; exact e))
theorem make_c {pins : List (Addr × Obj)} {σ : L2.St} {H : Hp} {s : Shared} {Q : VK} {us ws : List Value} {vs zs : List V} {h : PH} {qs rs : List PV} {Q' : N3.PK} (M : Mk X.K C f) (F : FnC X.prog X.w X.K X.mg X.base k f fd ps sp pats) (hb : b ∈ pats) (hr : Room (k + 1) X.A) (hG : X.A.guards = some [])
    (I : Inv X pins σ H s) (r1 : Vals vs us) (r2 : Vals zs ws) (rr1 : Rels X.K H qs vs) (rr2 : Rels X.K H rs zs) (sh : Sim X.K H h) (l1 : us.length + 1 = b.n) (l2 : ws.length = b.ks.length)
    (q : ∀ a, h a = none → sp (pick b.π (.ref a :: qs ++ rs ++ b.ds)) (up h a (.ins C [] [])) fun v h3 => v = .non ∧ Q' (.ref a) h3) (l : LQ X.K H h Q' Q) :
    wpAny (model X.prog X.w) X.A (call (.ref C) us (b.ks.zip ws)) (EP X pins σ Q) X.xe s := by
  have ea : H (s.heap.objs.size + 1) = none := I.hok.fresh (Nat.le_succ _)
  have ed : H s.heap.objs.size = none := I.hok.fresh (Nat.le_refl _)
  have ne : s.heap.objs.size ≠ s.heap.objs.size + 1 := Nat.ne_of_lt (Nat.lt_succ_self _)
  have I2 := Inv.made (C := C) I
  obtain ⟨mv, dv, rv, rd, to⟩ := (F.b b hb).ex
  have g := Go.made (C := C) (h := h) ea ed ne
  have mm := g.mono
  have R0 : Vals (.ref (s.heap.objs.size + 1) :: vs) (.ref (s.heap.objs.size + 1) :: us) := .cons rfl r1
  have R : Vals (pick b.π (.ref (s.heap.objs.size + 1) :: vs ++ zs ++ dv)) (pick b.π (.ref (s.heap.objs.size + 1) :: us ++ ws ++ mv)) := Vals.pick ((R0.append r2).append rv) b.π
  have RR : Rels X.K _ (pick b.π (.ref (s.heap.objs.size + 1) :: qs ++ rs ++ b.ds)) (pick b.π (.ref (s.heap.objs.size + 1) :: vs ++ zs ++ dv)) := Rels.pick (((Rels.cons (rel_ref.mpr rfl) (rr1.mono mm)).append (rr2.mono mm)).append (rd _)) b.π
  have hl : (pick b.π (.ref (s.heap.objs.size + 1) :: qs ++ rs ++ b.ds)).length = ps.length := (F.b b hb).len _ (by
    rw [List.length_append, List.length_append, List.length_cons, rr1.length, rr2.length, r1.length, r2.length, l1, l2])
  have sh2 : Sim X.K (upd (upd H s.heap.objs.size (.own (s.heap.objs.size + 1))) (s.heap.objs.size + 1) (.ins C s.heap.objs.size [])) (up h (s.heap.objs.size + 1) (.ins C [] [])) := by
    have s1 := sh.new (o := .own (s.heap.objs.size + 1)) ed
    exact s1.put (Mono.new (by rw [upd_ne (Ne.symm ne)]; exact ea)) ⟨_, [], rfl, rfl, .nil⟩
  refine wpAny_call (make_map (f := f) I.kIn M.makes M.init (beq_iff_eq.mp M.fn) (codeAny_mono (F.g.run _ X.stack _ _ ⟨Value.ref (s.heap.objs.size + 1) :: us, b.ks.zip ws⟩ _ _ (fun v H2 => v = .non ∧ Q (.ref (s.heap.objs.size + 1)) H2) (hr.make C us (b.ks.zip ws)) ?_
    (I2.env0.make C us (b.ks.zip ws)) (to _ (Value.ref (s.heap.objs.size + 1) :: us) ws I2.kIn (by rw [List.length_cons, l1]) l2) R ⟨_, _, _, hl, RR, sh2, q _ (sh.fresh ea), ?_⟩) fun r s' hq' => ?_))
  · exact hG
  · rintro v h3 y H3 ⟨rfl, q3⟩ g3 r3 s3
    exact ⟨rel_non.mp r3, l _ _ _ _ q3 (g.trans g3) (rel_ref.mpr rfl) s3⟩
  · cases r with
    | error e => exact False.elim hq'
    | ok fl =>
      cases fl with
      | ret u =>
        obtain ⟨v, H', I3, rv, ev, q3⟩ := I2.after hq'
        subst ev
        exact ⟨rv, ⟨V.ref (s.heap.objs.size + 1), H', I3, rfl, q3⟩⟩
      | next => exact False.elim hq'
      | brk => exact False.elim hq'
      | cont => exact False.elim hq'
theorem le_make (c : FnI X.prog X.w X.K X.mg X.base k x C ps sp pats) {j n m' : Nat} (hb : pats[j]? = some b) {kk : Nat} (hr : Room kk X.A) (hj : k + 1 ≤ kk) (hG : X.A.guards = some []) (ha : LAn X (e :: es) n m) (hkw : LKn X kws m' mk) (hn : n + 1 = b.n := by rfl) (hm : m' = b.ks.length := by rfl) (hg : Gl X x := by rfl)
    (hall : (backToKw pos (keywordEach kws X.env)).all (·.1.isSome) = true := by rfl) (hks : (backToKw pos (keywordEach kws X.env)).filterMap (·.1) = b.ks := by rfl) (hdb : (x == ("__debug__" : Str)) = false := by decide)
    (he : starEach (e :: es) X.env = (false, eval e X.env) :: starEach es X.env := by rfl) (hpl : ((backTo pos (starEach (e :: es) X.env)).any (·.1) || (backToKw pos (keywordEach kws X.env)).any (·.1.isNone)) = false := by rfl) :
    LE X (.Call (.Name x p) (e :: es) kws pos) (mMake C sp b m mk) := by
  obtain ⟨f, fd, M, F⟩ := c.ex
  have hbm : b ∈ pats := List.mem_of_getElem? hb
  refine ⟨fun pins s σ H Q I ⟨τ, h, Q', ss, sh, q, l⟩ => ?_⟩
  refine wpAny_Call_Name_kw (ld_glob I hg c.at_ ?_ hdb)
  refine PySem.W.callWith_KW (h₀ := X.base) I.ok.mod.kin M.kp hall (thn (ha.run pos pins s σ H (fun vs H2 => ∃ qs h2, vs.length = n ∧ Rels X.K H2 qs vs ∧ Go H h H2 h2 ∧ Sim X.K H2 h2 ∧ mk τ h2 fun rs h3 => ∀ a, h3 a = none → sp (pick b.π (.ref a :: qs ++ rs ++ b.ds)) (up h3 a (.ins C [] [])) fun v h4 => v = .non ∧ Q' (.ref a) h4) I
    ⟨τ, h, _, ss, sh, q, fun qs h2 vs H2 q2 hl g2 r2 s2 => ⟨qs, h2, by rw [← r2.length, hl], r2, g2, s2, q2⟩⟩) fun us s2 ⟨vs, H2, I2, r2, qs, h2, lv, rq, g2, sh2, q2⟩ => ?_) hpl he
  refine thn (hkw.run pos pins s2 σ H2 (fun zs H3 => ∃ rs h3, zs.length = m' ∧ Rels X.K H3 rs zs ∧ Go H2 h2 H3 h3 ∧ Sim X.K H3 h3 ∧ ∀ a, h3 a = none → sp (pick b.π (.ref a :: qs ++ rs ++ b.ds)) (up h3 a (.ins C [] [])) fun v h4 => v = .non ∧ Q' (.ref a) h4) I2
    ⟨τ, h2, _, ss.mono g2.mono, sh2, q2, fun rs h3 zs H3 q3 hz g3 r3 s3 => ⟨rs, h3, by rw [← r3.length, hz], r3, g3, s3, q3⟩⟩) fun ws s3 ⟨zs, H3, I3, r3, rs, h3, lz, rz, g3, sh3, q3⟩ => ⟨I3.kIn, ?_⟩
  rw [hks]
  exact make_c M F hbm (hr.mono hj) hG I3 r2 r3 (rq.mono g3.mono) rz sh3 (by show us.length + 1 = _; rw [← r2.length, lv, hn]) (by rw [← r3.length, lz, hm]) q3 (l.mono (g2.trans g3))
theorem le_make0 (c : FnI X.prog X.w X.K X.mg X.base k x C ps sp pats) {j m' : Nat} (hb : pats[j]? = some b) {kk : Nat} (hr : Room kk X.A) (hj : k + 1 ≤ kk) (hG : X.A.guards = some []) (hkw : LKn X kws m' mk) (hn : 1 = b.n := by rfl) (hm : m' = b.ks.length := by rfl) (hg : Gl X x := by rfl)
    (hall : (backToKw pos (keywordEach kws X.env)).all (·.1.isSome) = true := by rfl) (hks : (backToKw pos (keywordEach kws X.env)).filterMap (·.1) = b.ks := by rfl) (hdb : (x == ("__debug__" : Str)) = false := by decide)
    (hpl : ((backTo pos (starEach [] X.env)).any (·.1) || (backToKw pos (keywordEach kws X.env)).any (·.1.isNone)) = false := by rfl) :
    LE X (.Call (.Name x p) [] kws pos) (mMake C sp b mNil mk) := by
  obtain ⟨f, fd, M, F⟩ := c.ex
  have hbm : b ∈ pats := List.mem_of_getElem? hb
  refine ⟨fun pins s σ H Q I ⟨τ, h, Q', ss, sh, q, l⟩ => ?_⟩
  refine wpAny_Call_Name_kw (ld_glob I hg c.at_ ?_ hdb)
  refine PySem.W.callWith_KW0 (h₀ := X.base) I.ok.mod.kin M.kp hall (thn (hkw.run pos pins s σ H (fun zs H3 => ∃ rs h3, zs.length = m' ∧ Rels X.K H3 rs zs ∧ Go H h H3 h3 ∧ Sim X.K H3 h3 ∧ ∀ a, h3 a = none → sp (pick b.π (.ref a :: [] ++ rs ++ b.ds)) (up h3 a (.ins C [] [])) fun v h4 => v = .non ∧ Q' (.ref a) h4) I
    ⟨τ, h, _, ss, sh, q, fun rs h3 zs H3 q3 hz g3 r3 s3 => ⟨rs, h3, by rw [← r3.length, hz], r3, g3, s3, q3⟩⟩) fun ws s3 ⟨zs, H3, I3, r3, rs, h3, lz, rz, g3, sh3, q3⟩ => ⟨I3.kIn, ?_⟩) hpl
  rw [hks]
  exact make_c (us := []) (vs := []) (qs := []) M F hbm (hr.mono hj) hG I3 .nil r3 .nil rz sh3 hn (by rw [← r3.length, lz, hm]) q3 (l.mono g3)
end
end N3

/-! dicts: in, get, pop, del, +=; walks along keys and items; list, sorted, len; comprehensions of a dict; len of an instance -/
namespace N3
open PySem PySem.Spec PyProof.Rows L2

/-! ### in -/
def rInK (neg : Bool) : R2 := fun x y H Q => ∃ a ov, y = .ref a ∧ DGet H a x ov ∧ Q (.bl (if neg then !ov.isSome else ov.isSome)) H
theorem op_inK {X : Cx} (hu : X.A.units + 1 < cLine) : OpR X (compareOp .In) (rInK false) := by
  intro pins s σ H x y v u Q I rx ry h
  obtain ⟨a, ov, rfl, g, q⟩ := h
  cases ry
  exact d_in hu I g rx fun s3 I3 => ⟨.bl ov.isSome, H, I3, rfl, q⟩
theorem op_notInK {X : Cx} (hu : X.A.units + 1 < cLine) : OpR X (compareOp .NotIn) (rInK true) := by
  intro pins s σ H x y v u Q I rx ry h
  obtain ⟨a, ov, rfl, g, q⟩ := h
  cases ry
  exact d_notIn hu I g rx fun s3 I3 => ⟨.bl (!ov.isSome), H, I3, rfl, q⟩
/-- a key in a dict -/
def rInD (neg : Bool) : PR2 := fun p q h Q => match dctL h q, kOf p with
  | some (ks, vs), some k => Q (.bl ((lk ks vs k).isSome != neg)) h
  | _, _ => False
theorem lk_some {K : PySem.W.Frag} {H : Hp} {kvs : List (Key × V)} {vs : List PV} (k : Key) (r : Rels K H vs (kvs.map (·.2))) : (valV kvs k).isSome = (lk (kvs.map (·.1)) vs k).isSome := by
  have z := lk_val k r
  cases e : lk (kvs.map (·.1)) vs k with
  | none => rw [e] at z; rw [z]; rfl
  | some p => rw [e] at z; obtain ⟨v, ev, _⟩ := z; rw [ev]; rfl
theorem lf_inD {K : PySem.W.Frag} {neg : Bool} : Lf2 K (rInK neg) (rInD neg) := by
  intro x y H p q h Q' Q rp rq s r l
  unfold rInD at r
  split at r
  · rename_i ks vs k e ek
    obtain ⟨a, kvs, rfl, hd, rfl, rr⟩ := dctL_rd rq s e
    have ex := kOf_rel rp ek
    subst ex
    refine ⟨a, valV kvs k, rfl, .inl ⟨kvs, k, hd, rfl, rfl⟩, ?_⟩
    rw [lk_some k rr]
    have := l _ _ _ _ r .refl (rel_bl.mpr rfl) s
    cases neg with
    | true => simpa using this
    | false => simpa using this
  · exact r.elim
/-! ### get, pop, del, += -/
def mGet2 (mo mk mx : ME) : ME := fun τ h Q => mo τ h fun p h1 => (dctL h1 p).isSome = true ∧ mk τ h1 fun y h2 => mx τ h2 fun z h3 => match dctL h3 p, kOf y with
  | some (ks, vs), some k => Q ((lk ks vs k).getD z) h3
  | _, _ => False
def eK (ks : List Key) (k : Key) : List Key := ks.filter fun k' => decide (k' ≠ k)
def eV : List Key → List PV → Key → List PV
  | k' :: ks, v :: vs, k => if k' ≠ k then v :: eV ks vs k else eV ks vs k
  | _, _, _ => []
theorem drop_rel {K : PySem.W.Frag} {H : Hp} {k : Key} : ∀ {kvs : List (Key × V)} {vs : List PV}, Rels K H vs (kvs.map (·.2)) → eK (kvs.map (·.1)) k = (dropK kvs k).map (·.1) ∧ Rels K H (eV (kvs.map (·.1)) vs k) ((dropK kvs k).map (·.2))
  | [], vs, r => ⟨rfl, by cases vs <;> exact .nil⟩
  | kv :: kvs, vs, r => by
    cases vs with
    | nil => exact absurd r.length (by simp)
    | cons v vs =>
      obtain ⟨w, ws, e, r1, r2⟩ := r.uncons
      injection e with e1 e2
      subst e1 e2
      obtain ⟨i1, i2⟩ := drop_rel (k := k) r2
      unfold eK dropK at *
      by_cases hk : kv.1 ≠ k
      · simp only [List.map_cons, eV, if_pos hk, List.filter_cons, decide_eq_true hk, if_true]
        exact ⟨by rw [i1], .cons r1 i2⟩
      · simp only [List.map_cons, eV, if_neg hk, List.filter_cons, decide_eq_false hk, if_false, Bool.false_eq_true]
        exact ⟨i1, i2⟩
def mPopK (mo mk : ME) : ME := fun τ h Q => mo τ h fun p h1 => (dctL h1 p).isSome = true ∧ mk τ h1 fun y h2 => match p, kOf y with
  | .ref a, some k => (match h2 a with
    | some (.dct ks vs) => (match lk ks vs k with | some v => Q v (up h2 a (.dct (eK ks k) (eV ks vs k))) | none => False)
    | _ => False)
  | _, _ => False
def mDelK (mo mk : ME) : MS := fun D τ h => mo τ h fun p h1 => mk τ h1 fun y h2 => match p, kOf y with
  | .ref a, some k => (match h2 a with
    | some (.dct ks vs) => (lk ks vs k).isSome = true ∧ D.nx τ (up h2 a (.dct (eK ks k) (eV ks vs k)))
    | _ => False)
  | _, _ => False
def mAugD (g : Int → Int → Int) (mo mk mv : ME) : MS := fun D τ h => mo τ h fun p h1 => mk τ h1 fun y h2 => match p, kOf y with
  | .ref a, some k => (match h2 a with
    | some (.dct ks vs) => (match lk ks vs k with
      | some (.int i) => mv τ h2 fun q h3 => (match q with
        | .int j => (match h3 a with
          | some (.dct ks3 vs3) => ks3.length < SZ ∧ D.nx τ (up h3 a (.dct (pk ks3 k) (pvs ks3 vs3 k (.int (g i j)))))
          | _ => False)
        | _ => False)
      | _ => False)
    | _ => False)
  | _, _ => False
section
variable {X : Cx} {pos apos cpos tpos p2 : Pos} {o e f value : Expr} {mo mk mx mv : ME}
theorem isD_of {K : PySem.W.Frag} {H : Hp} {h : PH} {p : PV} {v : V} (r : Rel K H p v) (s : Sim K H h) (e : (dctL h p).isSome = true) : ∃ a, v = .ref a ∧ IsD H a := by
  obtain ⟨⟨ks, vs⟩, e⟩ := Option.isSome_iff_exists.mp e
  obtain ⟨a, kvs, rfl, hd, _⟩ := dctL_rd r s e
  exact ⟨a, rfl, .inl ⟨kvs, hd⟩⟩
theorem le_get2 (hu : X.A.units + 1 < cLine) (ho : LE X o mo) (he : LE X e mk) (hf : LE X f mx)
    (hbase : attributeBase o "get" X.env (eval o X.env) = eval o X.env := by rfl)
    (hfew : ((backTo cpos (starEach [e, f] X.env)).all (fun x => !x.1) && (backToKw cpos (keywordEach [] X.env)).all (fun x => x.1.isSome)
    && decide (([e, f] : List Expr).length + ([] : List Keyword).length + (if ([] : List Keyword).isEmpty then 0 else 1) < 30)) = true := by rfl)
    (hline : (apos.endLine == cpos.line) = true := by rfl) (htrees : backTo cpos (starEach [e, f] X.env) = [(false, eval e X.env), (false, eval f X.env)] := by rfl) :
    LE X (.Call (.Attribute o "get" apos) [e, f] [] cpos) (mGet2 mo mk mx) := by
  refine PE.weak (pe_dget2 hu ho he hf ⟨hbase, hfew, hline, htrees⟩) fun σ H Q ⟨τ, h, Q', s, sh, q, l⟩ => ?_
  refine ⟨τ, h, _, s, sh, q, fun p h1 v H1 ⟨q0, q1⟩ g1 r1 s1 => ?_⟩
  obtain ⟨a, rfl, hD⟩ := isD_of r1 s1 q0
  refine ⟨a, rfl, hD, τ, h1, _, s.mono g1.mono, s1, q1, fun y h2 w H2 q2 g2 r2 s2 => ?_⟩
  refine ⟨τ, h2, _, (s.mono g1.mono).mono g2.mono, s2, q2, fun z h3 u H3 q3 g3 r3 s3 => ?_⟩
  split at q3
  · rename_i ks vs k e3 ek
    obtain ⟨a', kvs, ea, hd, rfl, rr⟩ := dctL_rd (r1.mono (g2.trans g3).mono) s3 e3
    injection ea with ea
    subst ea
    have ew := kOf_rel r2 ek
    subst ew
    refine ⟨valV kvs k, .inl ⟨kvs, k, hd, rfl, rfl⟩, ?_⟩
    have z1 := lk_val k rr
    cases e5 : lk (kvs.map (·.1)) vs k with
    | none =>
      rw [e5] at z1 q3
      rw [z1]
      exact l _ _ _ _ q3 ((g1.trans g2).trans g3) r3 s3
    | some pv =>
      rw [e5] at z1 q3
      obtain ⟨vv, ev, rv⟩ := z1
      rw [ev]
      exact l _ _ _ _ q3 ((g1.trans g2).trans g3) rv s3
  · exact q3.elim
theorem le_popK (ho : LE X o mo) (he : LE X e mk)
    (hbase : attributeBase o "pop" X.env (eval o X.env) = eval o X.env := by rfl)
    (hfew : ((backTo cpos (starEach [e] X.env)).all (fun x => !x.1) && (backToKw cpos (keywordEach [] X.env)).all (fun x => x.1.isSome)
    && decide (([e] : List Expr).length + ([] : List Keyword).length + (if ([] : List Keyword).isEmpty then 0 else 1) < 30)) = true := by rfl)
    (hline : (apos.endLine == cpos.line) = true := by rfl) (htrees : backTo cpos (starEach [e] X.env) = [(false, eval e X.env)] := by rfl) :
    LE X (.Call (.Attribute o "pop" apos) [e] [] cpos) (mPopK mo mk) := by
  refine PE.weak (pe_dpop1 ho he ⟨hbase, hfew, hline, htrees⟩) fun σ H Q ⟨τ, h, Q', s, sh, q, l⟩ => ?_
  refine ⟨τ, h, _, s, sh, q, fun p h1 v H1 ⟨q0, q1⟩ g1 r1 s1 => ?_⟩
  obtain ⟨a, rfl, hD⟩ := isD_of r1 s1 q0
  refine ⟨a, rfl, hD, τ, h1, _, s.mono g1.mono, s1, q1, fun y h2 w H2 q2 g2 r2 s2 => ?_⟩
  cases ek : kOf y with
  | none => cases p <;> (rw [ek] at q2; exact q2.elim)
  | some k =>
    rw [ek] at q2
    cases p with
    | ref b =>
      obtain rfl : a = b := by have := rel_ref.mp r1; injection this
      simp only at q2
      split at q2
      · rename_i ks vs e2
        split at q2
        · rename_i pv epv
          obtain ⟨u, eu, kvs, rfl, rfl, rr⟩ := s2 a _ e2
          have ew := kOf_rel r2 ek
          subst ew
          have z1 := lk_val k rr
          rw [epv] at z1
          obtain ⟨vv, ev, rv⟩ := z1
          have mm : Mono H2 (upd H2 a (.dK (dropK kvs k))) := Mono.dK eu
          obtain ⟨d1, d2⟩ := drop_rel (k := k) rr
          exact ⟨kvs, k, vv, eu, rfl, ev, l _ _ _ _ q2 ((g1.trans g2).trans (.wr e2 mm)) (rv.mono mm) (s2.put mm ⟨_, rfl, d1, d2.mono mm⟩)⟩
        · exact q2.elim
      · exact q2.elim
    | _ => exact q2.elim
theorem ls_delK (ho : LE X o mo) (he : LE X e mk) : LS X (.Delete [.Subscript o e tpos] pos) (mDelK mo mk) := by
  refine PS.weak (ps_ddel ho he) fun D σ H ⟨τ, h, D', s, sh, q, l⟩ => ?_
  refine ⟨τ, h, _, s, sh, q, fun p h1 v H1 q1 g1 r1 s1 => ⟨τ, h1, _, s.mono g1.mono, s1, q1, fun y h2 w H2 q2 g2 r2 s2 => ?_⟩⟩
  cases ek : kOf y with
  | none => cases p <;> (rw [ek] at q2; exact q2.elim)
  | some k =>
    rw [ek] at q2
    cases p with
    | ref a =>
      simp only at q2
      split at q2
      · rename_i ks vs e2
        obtain ⟨q0, q2⟩ := q2
        obtain ⟨u, eu, kvs, rfl, rfl, rr⟩ := s2 a _ e2
        have ew := kOf_rel r2 ek
        subst ew
        have mm : Mono H2 (upd H2 a (.dK (dropK kvs k))) := Mono.dK eu
        obtain ⟨d1, d2⟩ := drop_rel (k := k) rr
        exact ⟨a, kvs, k, rel_ref.mp (r1.mono g2.mono), eu, rfl, by rw [lk_some k rr]; exact q0, l.nx _ _ _ _ q2 ((g1.trans g2).trans (.wr e2 mm)) (((s.mono g1.mono).mono g2.mono).mono mm) (s2.put mm ⟨_, rfl, d1, d2.mono mm⟩)⟩
      · exact q2.elim
    | _ => exact q2.elim
theorem ls_augD {op : Operator} {g : Int → Int → Int} (hu : X.A.units + 1 < cLine) (ho : LE X o mo) (he : LE X e mk) (hv : LE X value mv) (hop : InOp X op (fun x y H Q => ∃ i j, x = .int i ∧ y = .int j ∧ Q (.int (g i j)) H))
    (ha : ∀ ov iv new, augStore e ov iv new = (do holding [new, ov, iv] (setItem ov iv new); release [new, ov, iv] []; pure .next) := by intro _ _ _; rfl) : LS X (.AugAssign (.Subscript o e tpos) op value pos) (mAugD g mo mk mv) := by
  refine PS.weak (ps_daug hu ho he hv hop ha) fun D σ H ⟨τ, h, D', s, sh, q, l⟩ => ?_
  refine ⟨τ, h, _, s, sh, q, fun p h1 v H1 q1 g1 r1 s1 => ⟨τ, h1, _, s.mono g1.mono, s1, q1, fun y h2 w H2 q2 g2 r2 s2 => ?_⟩⟩
  cases ek : kOf y with
  | none => cases p <;> (rw [ek] at q2; exact q2.elim)
  | some k =>
    rw [ek] at q2
    cases p with
    | ref a =>
      simp only at q2
      split at q2
      · rename_i ks vs e2
        split at q2
        · rename_i i ei
          obtain ⟨u, eu, kvs, rfl, rfl, rr⟩ := s2 a _ e2
          have ew := kOf_rel r2 ek
          subst ew
          have z1 := lk_val k rr
          rw [ei] at z1
          obtain ⟨vv, ev, rv⟩ := z1
          refine ⟨a, vv, rel_ref.mp (r1.mono g2.mono), .inl ⟨kvs, k, .inl eu, rfl, ev.symm⟩, τ, h2, _, (s.mono g1.mono).mono g2.mono, s2, q2, fun q h3 w3 H3 q3 g3 r3 s3 => ?_⟩
          cases q with
          | int j =>
            simp only at q3
            split at q3
            · rename_i ks3 vs3 e4
              obtain ⟨hl, q3⟩ := q3
              obtain ⟨u3, eu3, kvs3, rfl, rfl, rr3⟩ := s3 a _ e4
              have mm : Mono H3 (upd H3 a (.dK (putK kvs3 k (.int (g i j))))) := Mono.dK eu3
              obtain ⟨z1, z2⟩ := put_rel (k := k) (p := .int (g i j)) (v := .int (g i j)) rr3 (rel_int.mpr rfl)
              exact ⟨i, j, rel_int.mp (rv.mono g3.mono), rel_int.mp r3, _, DPut.k eu3 (by have z := hl; rw [List.length_map] at z; exact sz_lt z), l.nx _ _ _ _ q3 (((g1.trans g2).trans g3).trans (.wr e4 mm)) ((((s.mono g1.mono).mono g2.mono).mono g3.mono).mono mm) (s3.put mm ⟨_, rfl, z1, z2.mono mm⟩)⟩
            · exact q3.elim
          | _ => exact q3.elim
        · exact q2.elim
      · exact q2.elim
    | _ => exact q2.elim
end
/-! ### walks along a dict -/
/-- a key as a value -/
def kP : Key → PV
  | .inl i => .int i
  | .inr x => .str x
theorem kP_rel {K : PySem.W.Frag} {H : Hp} (k : Key) : Rel K H (kP k) (kV k) := by
  cases k with
  | inl i => exact rel_int.mpr rfl
  | inr x => exact rel_str.mpr rfl
/-- the guard of a walk: the dict that is locked stays -/
def gdK (p : PV) (ks : List Key) (vs : List PV) : PH → Prop := match p with
  | .ref a => fun h => h a = some (.lck ks vs)
  | _ => fun _ => True
def mKeysI (m : ME) : MI := fun τ h Q => m τ h fun p h1 => match p with
  | .dct ks vs => ks.length ≤ SZ ∧ Q (ks.map kP) (fun _ => True) h1
  | .ref a => (match h1 a with | some (.lck ks vs) => ks.length ≤ SZ ∧ Q (ks.map kP) (gdK p ks vs) h1 | _ => False)
  | _ => False
def mItemsI (m : ME) : MI := fun τ h Q => m τ h fun p h1 => match p with
  | .dct ks vs => ks.length ≤ SZ ∧ Q (List.zipWith (fun k v => .tup [kP k, v]) ks vs) (fun _ => True) h1
  | .ref a => (match h1 a with | some (.lck ks vs) => ks.length ≤ SZ ∧ Q (List.zipWith (fun k v => .tup [kP k, v]) ks vs) (gdK p ks vs) h1 | _ => False)
  | _ => False
section
variable {X : Cx} {tg e : Expr} {pos apos cpos : Pos} {m : ME}
/-- a walked dict: frozen at a; what it is later -/
theorem frz_walk {K : PySem.W.Frag} {H1 : Hp} {h1 : PH} {p : PV} {v : V} {ks : List Key} {vs : List PV} (r : Rel K H1 p v) (s : Sim K H1 h1) (e : p = .dct ks vs ∨ ∃ a, p = .ref a ∧ h1 a = some (.lck ks vs)) :
    ∃ a o kvs, v = .ref a ∧ H1 a = some (.frz o (.dK kvs)) ∧ ks = kvs.map (·.1) ∧ Rels K H1 vs (kvs.map (·.2)) := by
  rcases e with rfl | ⟨a, rfl, e⟩
  · obtain ⟨a, kvs, e1, ⟨o, f⟩, e2, rr⟩ := rel_dct.mp r
    exact ⟨a, o, kvs, e1, f, e2, rr⟩
  · obtain ⟨u, e2, ob, kvs, rfl, e3, rr⟩ := s a _ e
    exact ⟨a, ob, kvs, rel_ref.mp r, e2, e3, rr⟩
theorem li_keys (he : LE X e m) : LI X tg e (mKeysI m) := by
  refine PI.weak (pi_keys he) fun σ H R ⟨τ, h, Q', s, sh, q, l⟩ => ?_
  refine ⟨τ, h, _, s, sh, q, fun p h1 v H1 q1 g1 r1 s1 => ?_⟩
  have go : ∀ (ks : List Key) (vs : List PV) (gd : PH → Prop), (p = .dct ks vs ∨ ∃ a, p = .ref a ∧ h1 a = some (.lck ks vs)) → ks.length ≤ SZ → Q' (ks.map kP) gd h1 →
      ∃ d o, v = .ref d ∧ ((∃ kvs, H1 d = some (.frz o (.dK kvs)) ∧ R (Itk d o kvs) H1) ∨ ∃ kvs, H1 d = some (.frz o (.dT kvs)) ∧ R (Itkt d o kvs) H1) := fun ks vs gd e hz q1 => by
    obtain ⟨a, o, kvs, rfl, hf, rfl, rr⟩ := frz_walk r1 s1 e
    refine ⟨a, o, rfl, .inl ⟨kvs, hf, l _ _ _ _ _ q1 g1 s1 ⟨by rw [List.length_map]; exact sz_le hz, fun i H h hi m _ _ => ?_, fun H h m _ _ => ?_, fun i H h y H' p hp m sh' _ hy => ?_⟩⟩⟩
    · exact ⟨m.f _ _ _ hf, by simpa using hi⟩
    · exact ⟨m.f _ _ _ hf, by simp⟩
    · obtain ⟨rfl, k, w, ek, rfl⟩ := hy
      rw [List.getElem?_map, List.getElem?_map, ek] at hp
      simp only [Option.map_some, Option.some.injEq] at hp
      subst hp
      exact ⟨.refl, sh', kP_rel k⟩
  split at q1
  · exact go _ _ _ (.inl rfl) q1.1 q1.2
  · rename_i a
    split at q1
    · rename_i ks vs e1
      exact go ks vs _ (.inr ⟨a, rfl, e1⟩) q1.1 q1.2
    · exact q1.elim
  · exact q1.elim
theorem li_items {elts : List Expr} {kk : Nat} {tpos : Pos} (he : LE X e m) (hbase : attributeBase e "items" X.env (eval e X.env) = eval e X.env := by rfl) (hline : (apos.endLine == cpos.line) = true := by rfl) :
    LI X (.Tuple elts kk tpos) (.Call (.Attribute e "items" apos) [] [] cpos) (mItemsI m) := by
  refine PI.weak (pi_items he hbase hline) fun σ H R ⟨τ, h, Q', s, sh, q, l⟩ => ?_
  refine ⟨τ, h, _, s, sh, q, fun p h1 v H1 q1 g1 r1 s1 => ?_⟩
  have go : ∀ (ks : List Key) (vs : List PV) (gd : PH → Prop), (p = .dct ks vs ∨ ∃ a, p = .ref a ∧ h1 a = some (.lck ks vs)) → ks.length ≤ SZ → Q' (List.zipWith (fun k v => .tup [kP k, v]) ks vs) gd h1 →
      ∃ d o kvs, v = .ref d ∧ H1 d = some (.frz o (.dK kvs)) ∧ R (Iti d o kvs) H1 := fun ks vs gd e hz q1 => by
    obtain ⟨a, o, kvs, rfl, hf, rfl, rr⟩ := frz_walk r1 s1 e
    have ll : vs.length = kvs.length := by rw [rr.length, List.length_map]
    refine ⟨a, o, kvs, rfl, hf, l _ _ _ _ _ q1 g1 s1 ⟨?_, fun i H h hi m _ _ => ?_, fun H h m _ _ => ?_, fun i H h y H' p hp m sh' _ hy => ?_⟩⟩
    · rw [List.length_zipWith, List.length_map, ll, Nat.min_self]
      rw [List.length_map] at hz
      exact sz_le hz
    · rw [List.length_zipWith, List.length_map, ll, Nat.min_self] at hi
      exact ⟨m.f _ _ _ hf, hi⟩
    · rw [List.length_zipWith, List.length_map, ll, Nat.min_self]
      exact ⟨m.f _ _ _ hf, Nat.le_refl _⟩
    · obtain ⟨T, k, w, ek, rfl, hT, rfl⟩ := hy
      rw [List.getElem?_zipWith, List.getElem?_map, ek] at hp
      obtain ⟨pw, epw, rw'⟩ := (rr.mono m).get' (i := i) (v := w) (by rw [List.getElem?_map, ek]; rfl)
      rw [epw] at hp
      simp only [Option.map_some, Option.some.injEq] at hp
      subst hp
      have mm : Mono H (upd H T (.tup [kV k, w])) := Mono.new hT
      exact ⟨.new hT, sh'.new hT, rel_tup.mpr ⟨T, _, rfl, .inl (.inl upd_same), .cons (kP_rel k) (.cons (rw'.mono mm) .nil)⟩⟩
  split at q1
  · exact go _ _ _ (.inl rfl) q1.1 q1.2
  · rename_i a
    split at q1
    · rename_i ks vs e1
      exact go ks vs _ (.inr ⟨a, rfl, e1⟩) q1.1 q1.2
    · exact q1.elim
  · exact q1.elim
end
/-! ### a dict is locked while it is gone along -/
/-! no kept dict stands in it -/
mutual
def nd : PV → Bool
  | .dct _ _ => false
  | .tup ps => nds ps
  | .lst ps => nds ps
  | _ => true
def nds : List PV → Bool
  | [] => true
  | p :: ps => nd p && nds ps
end
mutual
theorem nd_pK : ∀ k, nd (pK k) = true
  | .none => by simp only [pK, nd]
  | .num _ => by simp only [pK, nd]
  | .text _ => by simp only [pK, nd]
  | .tup ks => by simp only [pK, nd]; exact nds_pKs ks
theorem nds_pKs : ∀ ks, nds (pKs ks) = true
  | [] => by simp only [pKs, nds]
  | k :: ks => by simp only [pKs, nds, nd_pK k, nds_pKs ks, Bool.and_self]
end
def ndO : PO → Bool
  | .lst ps => nds ps
  | .dct _ vs => nds vs
  | .ins _ _ vs => nds vs
  | .lck _ _ => true
  | .xd _ vs => nds vs
  | .tab _ => true
  | .dn _ _ _ vs => nds vs
def ndS : PSt → Bool
  | [] => true
  | none :: r => ndS r
  | some p :: r => nd p && ndS r
def ndH (h : PH) : Prop := ∀ b o, h b = some o → ndO o = true
section
variable {K : PySem.W.Frag} {H1 : Hp} {a : Addr} {od : Obj} {kvs : List (Key × V)} {u : HO}
mutual
theorem nd_rel (hA : H1 a = some (.frz od (.dK kvs))) : ∀ (p : PV) (v : V), nd p = true → Rel K H1 p v → Rel K (upd H1 a u) p v
  | .non, _, _, h => by simpa only [Rel] using h
  | .bl _, _, _, h => by simpa only [Rel] using h
  | .int _, _, _, h => by simpa only [Rel] using h
  | .str _, _, _, h => by simpa only [Rel] using h
  | .ref _, _, _, h => by simpa only [Rel] using h
  | .ty _, _, _, h => by simpa only [Rel] using h
  | .dct _ _, _, n, _ => by simp [nd] at n
  | .tup ps, v, n, h => by
    obtain ⟨b, xs, e, h1, h2⟩ := rel_tup.mp h
    refine rel_tup.mpr ⟨b, xs, e, ?_, nds_rel hA ps xs (by simpa only [nd] using n) h2⟩
    rcases h1 with (q | ⟨o, q⟩) | q
    · have hb : b ≠ a := fun z => by rw [z, hA] at q; cases q
      exact .inl (.inl (by rw [upd_ne hb]; exact q))
    · have hb : b ≠ a := fun z => by rw [z, hA] at q; cases q
      exact .inl (.inr ⟨o, by rw [upd_ne hb]; exact q⟩)
    · exact .inr q
  | .lst ps, v, n, h => by
    obtain ⟨b, xs, e, h1, h2⟩ := rel_lst.mp h
    refine rel_lst.mpr ⟨b, xs, e, ?_, nds_rel hA ps xs (by simpa only [nd] using n) h2⟩
    rcases h1 with ⟨o, q⟩ | q
    · have hb : b ≠ a := fun z => by rw [z, hA] at q; cases q
      exact .inl ⟨o, by rw [upd_ne hb]; exact q⟩
    · exact .inr q
theorem nds_rel (hA : H1 a = some (.frz od (.dK kvs))) : ∀ (ps : List PV) (xs : List V), nds ps = true → Rels K H1 ps xs → Rels K (upd H1 a u) ps xs
  | [], _, _, h => by simpa only [Rels] using h
  | p :: ps, xs, n, h => by
    simp only [nds, Bool.and_eq_true] at n
    obtain ⟨v, vs, rfl, h1, h2⟩ := h.uncons
    exact .cons (nd_rel hA p v n.1 h1) (nds_rel hA ps vs n.2 h2)
end
theorem ndO_rel (hA : H1 a = some (.frz od (.dK kvs))) {b : Addr} (hb : b ≠ a) : ∀ {o : PO} {w : HO}, H1 b = some w → (∀ ks vs, o ≠ .lck ks vs) → ndO o = true → RelO K H1 o w → RelO K (upd H1 a u) o w
  | .lst ps, _, _, _, n, ⟨xs, e, r⟩ => ⟨xs, e, nds_rel hA _ _ n r⟩
  | .dct ks vs, _, _, _, n, ⟨kvs, e, r, q⟩ => ⟨kvs, e, r, nds_rel hA _ _ n q⟩
  | .ins C ns vs, _, _, _, n, ⟨dx, fs, e, m, r⟩ => ⟨dx, fs, e, m, nds_rel hA _ _ n r⟩
  | .lck ks vs, _, _, z, _, _ => absurd rfl (z ks vs)
  | .xd ns vs, _, _, _, n, ⟨fs, e, m, r⟩ => ⟨fs, e, m, nds_rel hA _ _ n r⟩
  | .tab q, _, _, _, _, ⟨ps, e, t⟩ => ⟨ps, e, t.1, fun pos cv z => let ⟨c, oc, vs, tk, e1, e2, r⟩ := t.2 pos cv z; ⟨c, oc, vs, tk, e1, by rw [upd_ne (fun y => by rw [y, hA] at e2; cases e2)]; exact e2, r⟩⟩
  | .dn D w ks vs, _, _, _, n, ⟨kvs, e, m, r, q⟩ => ⟨kvs, e, m, fun x hx => ⟨(r x hx).1, nd_rel hA _ _ (nd_pK _) (r x hx).2⟩, nds_rel hA _ _ n q⟩
theorem ndS_rel {τ : PSt} {σ : L2.St} (hA : H1 a = some (.frz od (.dK kvs))) (n : ndS τ = true) (s : SimS K H1 σ τ) : SimS K (upd H1 a u) σ τ := by
  refine ⟨s.1, fun i p e => ?_⟩
  obtain ⟨v, e1, r⟩ := s.2 i p e
  refine ⟨v, e1, nd_rel hA p v ?_ r⟩
  have key : ∀ (τ : PSt) (i : Nat), ndS τ = true → gt τ i = some p → nd p = true := by
    intro τ
    induction τ with
    | nil => intro i _ e; cases i <;> cases e
    | cons x r ih =>
      intro i n e
      cases x with
      | none =>
        cases i with
        | zero => cases e
        | succ i => exact ih i n e
      | some q =>
        simp only [ndS, Bool.and_eq_true] at n
        cases i with
        | zero => cases e; exact n.1
        | succ i => exact ih i n.2 e
  exact key τ i n e
end
/-- but the one at a no dict is locked -/
def lk1 (a : Addr) (h : PH) : Prop := ∀ b ks vs, h b = some (.lck ks vs) → b = a
def unl (a : Addr) (ks : List Key) (vs : List PV) (D : PEnds) : PEnds :=
  ⟨fun τ h => (h a = some (.lck ks vs) ∧ ndS τ = true ∧ ndH h ∧ lk1 a h) ∧ D.nx τ (up h a (.dct ks vs)), fun p h => (h a = some (.lck ks vs) ∧ nd p = true ∧ ndH h ∧ lk1 a h) ∧ D.rt p (up h a (.dct ks vs)),
   fun τ h => (h a = some (.lck ks vs) ∧ ndS τ = true ∧ ndH h ∧ lk1 a h) ∧ D.bk τ (up h a (.dct ks vs)), fun τ h => (h a = some (.lck ks vs) ∧ ndS τ = true ∧ ndH h ∧ lk1 a h) ∧ D.ct τ (up h a (.dct ks vs))⟩
def mLockS (m : MS) : MS := fun D τ h => ∃ a ks vs, h a = some (.dct ks vs) ∧ m (unl a ks vs D) τ (up h a (.lck ks vs))
def mLockE (m : ME) : ME := fun τ h Q => ∃ a ks vs, h a = some (.dct ks vs) ∧ m τ (up h a (.lck ks vs)) fun p h1 => (h1 a = some (.lck ks vs) ∧ nd p = true ∧ ndH h1 ∧ lk1 a h1) ∧ Q p (up h1 a (.dct ks vs))
section
variable {K : PySem.W.Frag} {H H1 : Hp} {h h1 : PH} {a : Addr} {od : Obj} {kvs : List (Key × V)} {ks : List Key} {vs : List PV}
theorem lock_go (e : h a = some (.dct ks vs)) (he : H a = some (.dK kvs)) : Go H h (upd H a (.frz od (.dK kvs))) (up h a (.lck ks vs)) := .wr e (Mono.dK he)
theorem lock_sim (s : Sim K H h) (e : h a = some (.dct ks vs)) (he : H a = some (.dK kvs)) : Sim K (upd H a (.frz od (.dK kvs))) (up h a (.lck ks vs)) := by
  obtain ⟨u, e1, kvs', rfl, e2, rr⟩ := s a _ e
  rw [he] at e1
  cases e1
  exact s.put (Mono.dK he) ⟨od, _, rfl, e2, rr.mono (Mono.dK he)⟩
/-- the tuples, frozen things stay when a frozen dict is a dict again: by the lock's own address alone -/
theorem unlock_go (e0 : h a = some (.dct ks vs)) (he : H a = some (.dK kvs)) (g : Go (upd H a (.frz od (.dK kvs))) (up h a (.lck ks vs)) H1 h1) (e1 : H1 a = some (.frz od (.dK kvs))) : Go H h (upd H1 a (.dK kvs)) (up h1 a (.dct ks vs)) := by
  refine ⟨⟨fun b xs q => ?_, fun b o u q => ?_⟩, fun b u q n => ?_, fun b u q n => ?_, fun b q => ?_⟩
  · have hb : b ≠ a := fun z => by rw [z, he] at q; cases q
    rw [upd_ne hb]
    exact g.mono.t b xs (by rw [upd_ne hb]; exact q)
  · have hb : b ≠ a := fun z => by rw [z, he] at q; cases q
    rw [upd_ne hb]
    exact g.mono.f b o u (by rw [upd_ne hb]; exact q)
  · have hb : b ≠ a := fun z => by rw [z, e0] at n; cases n
    rw [upd_ne hb]
    exact g.frame b u (by rw [upd_ne hb]; exact q) (by rw [up_ne hb]; exact n)
  · have hb : b ≠ a := fun z => by rw [z, e0] at n; cases n
    rw [up_ne hb]
    exact g.dom b u (by rw [upd_ne hb]; exact q) (by rw [up_ne hb]; exact n)
  · have hb : b ≠ a := fun z => by rw [z, upd_same] at q; cases q
    rw [upd_ne hb] at q
    have := g.live b q
    rw [upd_ne hb] at this
    exact this
theorem unlock_sim (e0 : h a = some (.dct ks vs)) (he : H a = some (.dK kvs)) (s0 : Sim K H h) (g : Go (upd H a (.frz od (.dK kvs))) (up h a (.lck ks vs)) H1 h1) (e1 : H1 a = some (.frz od (.dK kvs))) (n : ndH h1) (n1 : lk1 a h1) (s : Sim K H1 h1) : Sim K (upd H1 a (.dK kvs)) (up h1 a (.dct ks vs)) := by
  have g2 := unlock_go e0 he g e1
  intro b o q
  by_cases hb : b = a
  · subst hb
    rw [up_same] at q
    cases q
    obtain ⟨u, e2, kvs', rfl, e3, rr⟩ := s0 b _ e0
    rw [he] at e2
    cases e2
    exact ⟨_, upd_same, _, rfl, e3, rr.mono g2.mono⟩
  · rw [up_ne hb] at q
    obtain ⟨w, e2, r⟩ := s b o q
    refine ⟨w, by rw [upd_ne hb]; exact e2, ndO_rel e1 hb e2 (fun ks vs z => hb (n1 b ks vs (by rw [q, z]))) (n b o q) r⟩
end
section
variable {X : Cx} {e : Expr} {st : Stmt} {m : ME} {ms : MS}
theorem le_lockE (he : LE X e m) : LE X e (mLockE m) := by
  refine PE.weak (pe_lock he) fun σ H Q ⟨τ, h, Q', s, sh, ⟨a, ks, vs, ea, q⟩, l⟩ => ?_
  obtain ⟨u, eu, kvs, rfl, e3, rr⟩ := sh a _ ea
  refine ⟨a, _, eu, trivial, fun od => ?_⟩
  have g0 := lock_go (od := od) ea eu
  refine ⟨τ, _, _, s.mono g0.mono, lock_sim sh ea eu, q, fun p h1 v H1 ⟨⟨q1, q2, q3, q4⟩, q5⟩ g1 r1 s1 => ?_⟩
  have e1 : H1 a = some (.frz od (.dK kvs)) := g1.mono.f a od _ upd_same
  exact ⟨e1, l _ _ _ _ q5 (unlock_go ea eu g1 e1) (nd_rel e1 p v q2 r1) (unlock_sim ea eu sh g1 e1 q3 q4 s1)⟩
theorem ls_lockS (hs : LS X st ms) : LS X st (mLockS ms) := by
  refine PS.weak (ps_lock hs) fun D σ H ⟨τ, h, D', s, sh, ⟨a, ks, vs, ea, q⟩, l⟩ => ?_
  obtain ⟨u, eu, kvs, rfl, e3, rr⟩ := sh a _ ea
  refine ⟨a, _, eu, trivial, fun od => ?_⟩
  have g0 := lock_go (od := od) ea eu
  refine ⟨τ, _, _, s.mono g0.mono, lock_sim sh ea eu, q, ⟨?_, ?_, ?_, ?_⟩⟩
  · rintro τ1 h1 σ1 H1 ⟨⟨q1, q2, q3, q4⟩, q5⟩ g1 ss1 s1
    have e1 : H1 a = some (.frz od (.dK kvs)) := g1.mono.f a od _ upd_same
    exact ⟨e1, l.nx _ _ _ _ q5 (unlock_go ea eu g1 e1) (ndS_rel e1 q2 ss1) (unlock_sim ea eu sh g1 e1 q3 q4 s1)⟩
  · rintro p h1 v H1 ⟨⟨q1, q2, q3, q4⟩, q5⟩ g1 r1 s1
    have e1 : H1 a = some (.frz od (.dK kvs)) := g1.mono.f a od _ upd_same
    exact ⟨e1, l.rt _ _ _ _ q5 (unlock_go ea eu g1 e1) (nd_rel e1 p v q2 r1) (unlock_sim ea eu sh g1 e1 q3 q4 s1)⟩
  · rintro τ1 h1 σ1 H1 ⟨⟨q1, q2, q3, q4⟩, q5⟩ g1 ss1 s1
    have e1 : H1 a = some (.frz od (.dK kvs)) := g1.mono.f a od _ upd_same
    exact ⟨e1, l.bk _ _ _ _ q5 (unlock_go ea eu g1 e1) (ndS_rel e1 q2 ss1) (unlock_sim ea eu sh g1 e1 q3 q4 s1)⟩
  · rintro τ1 h1 σ1 H1 ⟨⟨q1, q2, q3, q4⟩, q5⟩ g1 ss1 s1
    have e1 : H1 a = some (.frz od (.dK kvs)) := g1.mono.f a od _ upd_same
    exact ⟨e1, l.ct _ _ _ _ q5 (unlock_go ea eu g1 e1) (ndS_rel e1 q2 ss1) (unlock_sim ea eu sh g1 e1 q3 q4 s1)⟩
end
end N3

/-! comprehensions of a dict; list, sorted, len of a dict; len of an instance -/
namespace N3
open PySem PySem.Spec PyProof.Rows L2

def dcL (gd : PH → Prop) (τ : PSt) (g : MG) (t : MT) (mk mv : ME) : List PV → List Key → List PV → PH → (List Key → List PV → PH → Prop) → Prop
  | [], ks, vs, h, Q => gd h ∧ Q ks vs h
  | p :: ps, ks, vs, h, Q => gd h ∧ g p τ h fun τ1 h1 => t τ1 h1 fun b h2 => if b = true then mk τ1 h2 fun y h3 => mv τ1 h3 fun z h4 => (match kOf y with
    | some k => dcL gd τ g t mk mv ps (pk ks k) (pvs ks vs k z) h4 Q
    | none => False) else dcL gd τ g t mk mv ps ks vs h2 Q
def mDc (mi : MI) (vs : List Nat) (g : MG) (t : MT) (mk mv : ME) : ME := fun τ h Q => mi τ h fun ps gd h1 => dcL gd (wp τ vs) g t mk mv ps [] [] h1 fun ks us h2 => Q (.dct ks us) h2
def mDcM (mi : MI) (vs : List Nat) (g : MG) (t : MT) (mk mv : ME) : ME := fun τ h Q => mi τ h fun ps gd h1 => dcL gd (wp τ vs) g t mk mv ps [] [] h1 fun ks us h2 => ∀ a, h2 a = none → Q (.ref a) (up h2 a (.dct ks us))
theorem putK_len (kvs : List (Key × V)) (k : Key) (v : V) : (putK kvs k v).length ≤ kvs.length + 1 := by
  unfold putK
  split
  · rw [List.length_map]; omega
  · rw [List.length_append]; simp
theorem dc_up {K : PySem.W.Frag} {mi : MI} {vs : List Nat} {g : MG} {t : MT} {mk mv : ME} {Y : List Key → List PV → PH → Prop} {σ : L2.St} {H0 : Hp} {τ : PSt} {h0 : PH} {Q : VK} (s0 : SimS K H0 σ τ) (sh0 : Sim K H0 h0)
    (q : mi τ h0 fun ps gd h1 => dcL gd (wp τ vs) g t mk mv ps [] [] h1 Y)
    (fin : ∀ ks us h2 kvs D H2, Y ks us h2 → H0 D = none → H2 D = some (.dK kvs) → h2 D = none → Sim K H2 h2 → ks = kvs.map (·.1) → Rels K H2 us (kvs.map (·.2)) → Go H0 h0 H2 h2 → Q (.ref D) H2) :
    tDc (upI K mi) (upG K vs g) (upT K t) (upE K mk) (upE K mv) vs σ H0 Q := by
  refine ⟨τ, h0, _, s0, sh0, q, fun ps gd h1 H1 J q1 g1 s1 wk D hD => ?_⟩
  have hD1 : h1 D = none := s1.fresh hD
  have gD : Go H1 h1 (upd H1 D (.dK [])) h1 := .new hD
  refine ⟨fun i n H => ∃ h ks us kvs, i ≤ ps.length ∧ n = ps.length - i ∧ Go H1 h1 H h ∧ H D = some (.dK kvs) ∧ h D = none ∧ ks = kvs.map (·.1) ∧ Rels K H us (kvs.map (·.2)) ∧ kvs.length ≤ i ∧ Sim K H h ∧ dcL gd (wp τ vs) g t mk mv (ps.drop i) ks us h Y,
    ⟨ps.length, h1, [], [], [], Nat.zero_le _, rfl, gD, upd_same, hD1, rfl, .nil, Nat.le_refl _, s1.new hD, q1⟩, ?_⟩
  rintro i n H ⟨h, ks, us, kvs, hi, rfl, gg, hx, hd, rk, ra, hl, sh, q⟩
  by_cases hlt : i < ps.length
  · have e : ps.drop i = ps[i] :: ps.drop (i + 1) := List.drop_eq_getElem_cons hlt
    rw [e] at q
    obtain ⟨hgd, q⟩ := q
    refine .inr ⟨wk.goes i H h hlt gg.mono sh hgd, fun H' => ∃ h ks us kvs, Go H1 h1 H' h ∧ H' D = some (.dK kvs) ∧ h D = none ∧ ks = kvs.map (·.1) ∧ Rels K H' us (kvs.map (·.2)) ∧ kvs.length ≤ i + 1 ∧ Sim K H' h ∧ dcL gd (wp τ vs) g t mk mv (ps.drop (i + 1)) ks us h Y,
      fun H' ⟨h, ks, us, kvs, a1, a2, a3, a4, a5, a6, a7, a8⟩ => ⟨ps.length - (i + 1), by omega, h, ks, us, kvs, hlt, rfl, a1, a2, a3, a4, a5, a6, a7, a8⟩, fun x H' y => ?_⟩
    obtain ⟨g2, sh2, rx⟩ := wk.yields i H h x H' ps[i] (List.getElem?_eq_getElem hlt) gg.mono sh hgd y
    have gw : Mono H0 H' := (g1.trans (gg.trans g2)).mono
    refine ⟨ps[i], wp τ vs, h, _, rx, (s0.mono gw).wipe vs, sh2, q, fun τ3 h3 σ3 H3 q3 g3 s3 sh3 w3 => ⟨by rw [w3, wipe_wipe], ?_⟩⟩
    refine ⟨τ3, h3, _, s3, sh3, q3, fun b h4 H4 q4 g4 s4 => ?_⟩
    have g24 := (g2.trans g3).trans g4
    have x4 : H4 D = some (.dK kvs) := g24.frame D _ hx hd
    have d4 : h4 D = none := g24.dom D _ hx hd
    cases b with
    | true =>
      simp only [if_true] at q4 ⊢
      refine ⟨τ3, h4, _, s3.mono g4.mono, s4, q4, fun yk h5 yv H5 q5 g5 r5 s5 => ?_⟩
      refine ⟨τ3, h5, _, (s3.mono g4.mono).mono g5.mono, s5, q5, fun zv h6 z6 H6 q6 g6 r6 s6 => ?_⟩
      have g56 := g5.trans g6
      have x6 : H6 D = some (.dK kvs) := g56.frame D _ x4 d4
      have d6 : h6 D = none := g56.dom D _ x4 d4
      have few := wk.few
      cases ek : kOf yk with
      | none => rw [ek] at q6; exact q6.elim
      | some k =>
        rw [ek] at q6
        have ey := kOf_rel r5 ek
        subst ey
        have mm : Mono H6 (upd H6 D (.dK (putK kvs k z6))) := Mono.dK x6
        obtain ⟨z1, z2⟩ := put_rel (k := k) (ra.mono (g24.trans g56).mono) r6
        have pl := putK_len kvs k z6
        refine ⟨kvs, k, rfl, x6, by omega, h6, pk ks k, pvs ks us k zv, putK kvs k z6, ?_, upd_same, d6, ?_, ?_, by omega, s6.drop mm d6, q6⟩
        · exact (((gg.trans g24).trans g56)).renew hD mm
        · rw [rk]; exact z1
        · rw [rk]; exact z2.mono mm
    | false =>
      simp only [Bool.false_eq_true, if_false] at q4 ⊢
      exact ⟨h4, ks, us, kvs, gg.trans g24, x4, d4, rk, ra.mono g24.mono, by omega, s4, q4⟩
  · have e : i = ps.length := by omega
    subst e
    rw [List.drop_length] at q
    have g0 := g1.trans gg
    exact .inl ⟨wk.stops H h gg.mono sh q.1, fin ks us h kvs D H q.2 (g1.live D hD) hx hd sh rk ra g0⟩
section
variable {X : Cx} {pos : Pos}
theorem le_dc {kx vx tg iter : Expr} {ifs : List Expr} {scope : Scope} {mi : MI} {g : MG} {t : MT} {mk mv : ME} (own : List (Str × Nat)) (hc : X.calm = true) (hN : X.N.Nodup) (hi : LI X tg iter mi) (ok : BlkOk X.N X.env.scope scope own)
    (hg : ∀ (s : Shared) (H : Hp) (C : Addr) (cl : List (Str × Addr)) (fp : List Addr), LG (X.blk s H scope (compEnvC scope cl C X.env) fp) tg (own.map (·.2)) g) (ht : ∀ (s : Shared) (H : Hp) (C : Addr) (cl : List (Str × Addr)) (fp : List Addr), LTs (X.blk s H scope (compEnvC scope cl C X.env) fp) ifs t)
    (hk : ∀ (s : Shared) (H : Hp) (C : Addr) (cl : List (Str × Addr)) (fp : List Addr), LE (X.blk s H scope (compEnvC scope cl C X.env) fp) kx mk)
    (he : ∀ (s : Shared) (H : Hp) (C : Addr) (cl : List (Str × Addr)) (fp : List Addr), LE (X.blk s H scope (compEnvC scope cl C X.env) fp) vx mv) (hs : ∀ x, foldedSetIterable iter X.env x = pure x := by intro _; rfl) :
    LE X (.DictComp kx vx [⟨tg, iter, ifs, 0⟩] scope pos) (mDc mi (own.map (·.2)) g t mk mv) :=
  PE.weak (PE.kp (pe_dc hc hN hi ok hg ht hk he hs)) fun σ H Q ⟨τ, h, Q', s, sh, q, l⟩ => dc_up s sh q fun ks us h2 kvs D H2 q2 h0 hD hd s2 rk r2 g2 => .inr ⟨D, _, rfl, hD, trivial, fun o => by
    have mm : Mono H2 (upd H2 D (.frz o (.dK kvs))) := Mono.dK hD
    refine l (.dct ks us) h2 (.ref D) _ q2 (g2.renew h0 mm) ?_ (s2.drop mm hd)
    exact rel_dct.mpr ⟨D, kvs, rfl, ⟨o, upd_same⟩, rk, r2.mono mm⟩⟩
theorem le_dcM {kx vx tg iter : Expr} {ifs : List Expr} {scope : Scope} {mi : MI} {g : MG} {t : MT} {mk mv : ME} (own : List (Str × Nat)) (hc : X.calm = true) (hN : X.N.Nodup) (hi : LI X tg iter mi) (ok : BlkOk X.N X.env.scope scope own)
    (hg : ∀ (s : Shared) (H : Hp) (C : Addr) (cl : List (Str × Addr)) (fp : List Addr), LG (X.blk s H scope (compEnvC scope cl C X.env) fp) tg (own.map (·.2)) g) (ht : ∀ (s : Shared) (H : Hp) (C : Addr) (cl : List (Str × Addr)) (fp : List Addr), LTs (X.blk s H scope (compEnvC scope cl C X.env) fp) ifs t)
    (hk : ∀ (s : Shared) (H : Hp) (C : Addr) (cl : List (Str × Addr)) (fp : List Addr), LE (X.blk s H scope (compEnvC scope cl C X.env) fp) kx mk)
    (he : ∀ (s : Shared) (H : Hp) (C : Addr) (cl : List (Str × Addr)) (fp : List Addr), LE (X.blk s H scope (compEnvC scope cl C X.env) fp) vx mv) (hs : ∀ x, foldedSetIterable iter X.env x = pure x := by intro _; rfl) :
    LE X (.DictComp kx vx [⟨tg, iter, ifs, 0⟩] scope pos) (mDcM mi (own.map (·.2)) g t mk mv) :=
  PE.weak (pe_dc hc hN hi ok hg ht hk he hs) fun σ H Q ⟨τ, h, Q', s, sh, q, l⟩ => dc_up s sh q fun ks us h2 kvs D H2 q2 h0 hD hd s2 rk r2 g2 => by
    refine l (.ref D) _ (.ref D) H2 (q2 D hd) (g2.own h0) (by simp only [Rel]) fun b p e => ?_
    by_cases hb : b = D
    · subst hb
      rw [up_same] at e; cases e
      exact ⟨_, hD, kvs, rfl, rk, r2⟩
    · rw [up_ne hb] at e
      exact s2 b p e
end
/-! ### list, sorted, len of a dict -/
def rListK : PRA := fun ps h Q => match ps with
  | [p] => (match dctL h p with | some (ks, _) => Q (.lst (ks.map kP)) h | none => False)
  | _ => False
def rSortK : PRA := fun ps h Q => match ps with
  | [p] => (match dctL h p with | some (ks, _) => ∃ xs : List Str, ks = xs.map Sum.inr ∧ xs.length < 64 ∧ ∀ ys : List Str, ys.Perm xs → sortedS ys = true → Q (.lst (ys.map PV.str)) h | none => False)
  | _ => False
def rLenK : PRA := fun ps h Q => match ps with
  | [.ref a] => (match h a with | some (.dct ks _) => Q (.int (ks.length : Nat)) h | _ => False)
  | _ => False
theorem keys_rel {K : PySem.W.Frag} {H : Hp} : ∀ kvs : List (Key × V), Rels K H ((kvs.map (·.1)).map kP) (kvs.map fun kv => kV kv.1)
  | [] => .nil
  | kv :: kvs => .cons (kP_rel kv.1) (keys_rel kvs)
section
variable {X : Cx} {pos p : Pos} {e : Expr} {m : MA}
theorem le_listK (hc : X.calm = true) (hm : X.mg "list" = none) (ha : LAn X [e] 1 m) (hg : Gl X "list" := by rfl) (h1 : starEach [e] X.env = (false, eval e X.env) :: starEach [] X.env := by rfl) (h2 : (backTo pos (starEach [] X.env)).any (·.1) = false := by rfl) : LE X (.Call (.Name "list" p) [e] [] pos) (mBlt rListK m) := by
  refine le_tyK (T := "list") (call_listD hc) ?_ hm ha hg (by decide +kernel) (by decide) (by decide) h1 h2
  intro xs H ps h Q' Q rp s r l
  unfold rListK at r
  split at r
  · rename_i p
    obtain ⟨v, rfl, r1⟩ := rp.one
    split at r
    · rename_i ks vs e
      obtain ⟨a, kvs, rfl, hd, rfl, rr⟩ := dctL_rd r1 s e
      exact ⟨a, kvs, rfl, hd, fun c hc => keep_l l s (keys_rel kvs) r hc⟩
    · exact r.elim
  · exact r.elim
theorem le_sortK (hc : X.calm = true) (hm : X.mg "sorted" = none) (ha : LAn X [e] 1 m) (hg : Gl X "sorted" := by rfl) (h1 : starEach [e] X.env = (false, eval e X.env) :: starEach [] X.env := by rfl) (h2 : (backTo pos (starEach [] X.env)).any (·.1) = false := by rfl) : LE X (.Call (.Name "sorted" p) [e] [] pos) (mBlt rSortK m) := by
  refine le_bltK (id := "sorted") (call_sortedD hc) ?_ hm ha hg (by decide +kernel) (by decide) (by decide) h1 h2
  intro xs H ps h Q' Q rp s r l
  unfold rSortK at r
  split at r
  · rename_i p
    obtain ⟨v, rfl, r1⟩ := rp.one
    split at r
    · rename_i ks vs e
      obtain ⟨a, kvs, rfl, hd, rfl, rr⟩ := dctL_rd r1 s e
      obtain ⟨ys, ey, hl, r⟩ := r
      exact ⟨a, kvs, ys, rfl, hd, ey, hl, fun zs c hp hs hc => keep_l l s (rels_of_strs zs) (r zs hp hs) hc⟩
    · exact r.elim
  · exact r.elim
theorem le_lenK (hm : X.mg "len" = none) (ha : LAn X [e] 1 m) (hg : Gl X "len" := by rfl) (h1 : starEach [e] X.env = (false, eval e X.env) :: starEach [] X.env := by rfl) (h2 : (backTo pos (starEach [] X.env)).any (·.1) = false := by rfl) : LE X (.Call (.Name "len" p) [e] [] pos) (mBlt rLenK m) := by
  refine le_blt (id := "len") call_lenD ?_ hm ha hg (by decide +kernel) (by decide) (by decide) h1 h2
  intro xs H ps h Q' Q rp s r l
  unfold rLenK at r
  split at r
  · rename_i a
    obtain ⟨v, rfl, r1⟩ := rp.one
    have ev := rel_ref.mp r1
    subst ev
    split at r
    · rename_i ks vs e
      obtain ⟨u, eu, kvs, rfl, rfl, rr⟩ := s a _ e
      rw [List.length_map] at r
      exact ⟨a, kvs, rfl, eu, l _ _ _ _ r .refl (rel_int.mpr rfl) s⟩
    · exact r.elim
  · exact r.elim
end
/-! ### len of an instance -/
section
variable {prog : Program} {w : World} {A : Around} {E : Value → Shared → Prop} {K : PySem.W.Frag} {s : Shared} {a ox C f : Addr} {od : Option Obj}
theorem special_meth {ob : Obj} {name : Str} {args : List Value} {Q : Option Value → Shared → Prop} (X : K.In s.heap) (I : PySem.W.InstAt s.heap a ob C od) (hf : PySem.W.findIn K (.ref C) name = some (some (.ref f))) (ht : PySem.W.isFn K (.ref f) = true)
    (hc : wpAny (model prog w) A (call (.ref f) (.ref a :: args)) (fun v s' => Q (some v) s') E s) : wpAny (model prog w) A (callSpecial? (.ref a) name args) Q E s := by
  unfold callSpecial? specialOf
  refine wpAny_bind (wpAny_bind (I.type.here ((PySem.W.looks_findIn X hf).here ?_)))
  refine wpAny_holding (wpAny_bind ((PySem.W.bind_fn X (.ref a) (beq_iff_eq.mp ht)).here ?_))
  exact wpAny_bind (wpAny_mono hc (fun v s' h => wpAny_pure h) fun _ _ z => z)
theorem len_ins {ob : Obj} {Q : Value → Shared → Prop} (X : K.In s.heap) (I : PySem.W.InstAt s.heap a ob C od) (hf : PySem.W.findIn K (.ref C) "__len__" = some (some (.ref f))) (ht : PySem.W.isFn K (.ref f) = true)
    (hcall : wpAny (model prog w) A.in1 (call (.ref f) [.ref a]) (fun r s' => ∃ n u, r = .int n u ∧ 0 ≤ n ∧ n < 2 ^ 63 ∧ Q (.int n s'.toks) { s' with toks := s'.toks + 1 }) E s) :
    wpAny (model prog w) A (call (.builtin "len") [.ref a]) Q E s := by
  refine Calls.call_function_entry kind_len plain_len entry_len (args_len1 _) ?_
  unfold Builtin.«len»
  refine wpAny_bind (m := oneArg "len" _) (wpAny_pure ?_)
  refine wpAny_bind (m := callSpecial? (.ref a) (Str.ofString "__len__")) (special_meth X I hf ht (wpAny_mono hcall (fun r s' hr => ?_) fun _ _ y => y))
  obtain ⟨n, u, rfl, h0, h1, hq⟩ := hr
  refine wpAny_bind (wpAny_holding (wpAny_pure ?_))
  refine wpAny_bind (wpAny_letGo ?_)
  show wpAny _ _ (if n < 0 then _ else _) _ _ _
  rw [if_neg (by omega)]
  show wpAny _ _ (if n ≥ 2 ^ 63 then _ else _) _ _ _
  rw [if_neg (by omega)]
  exact wpAny_bind (wpAny_mkInt (wpAny_pure ⟨_, rfl, hq⟩))
end
def pat1 : Pat := ⟨1, [], [0], []⟩
/-- len(o) -/
def rLenO (C : Addr) (sp : SpP) : PRA := fun ps h Q => match ps with
  | [.ref a] => (match h a with
    | some (.ins C' _ _) => C' = C ∧ sp [.ref a] h fun v h2 => ∃ n : Nat, v = .int n ∧ n ≤ SZ ∧ Q v h2
    | _ => False)
  | _ => False
section
variable {X : Cx} {pos p : Pos} {e : Expr} {m : MA} {k : Nat} {C : Addr} {ps : List Str} {sp : SpP} {pats : List Pat}
theorem call_lenO (c : FnM X.prog X.w X.K X.mg X.base k C "__len__" ps sp pats) (hb : pat1 ∈ pats) {kk : Nat} (hr : Room kk X.A) (hj : k + 1 ≤ kk) (hG : X.A.guards = some []) :
    CallR X (.builtin "len") (fun xs H Q => ∃ a dx fs h Q', xs = [.ref a] ∧ H a = some (.ins C dx fs) ∧ Sim X.K H h ∧ sp [.ref a] h Q' ∧ LQ X.K H h Q' (fun v H2 => ∃ n : Nat, v = .int n ∧ n ≤ SZ ∧ Q v H2)) := by
  intro pins s σ H xs us Q I r hq
  obtain ⟨a, dx, fs, h, Q', rfl, ha, sh, q, l⟩ := hq
  obtain ⟨u, rfl, ru⟩ := vals1 r
  obtain rfl : u = Value.ref a := ru
  obtain ⟨f, fd, hM, F⟩ := c.ex
  obtain ⟨mA, O, _, _, _, _⟩ := ins_get I.hok ha
  obtain ⟨od, J, _⟩ := O.look
  obtain ⟨mv, dv, rv, rd, to⟩ := (F.b pat1 hb).ex
  have hl : (pick pat1.π ([PV.ref a] ++ [] ++ pat1.ds)).length = ps.length := (F.b pat1 hb).len _ rfl
  have R0 : Vals [V.ref a] [Value.ref a] := .cons rfl .nil
  have R : Vals (pick pat1.π ([V.ref a] ++ [] ++ dv)) (pick pat1.π ([Value.ref a] ++ [] ++ mv)) := Vals.pick ((R0.append (.nil : Vals [] [])).append rv) pat1.π
  have RR : Rels X.K H (pick pat1.π ([PV.ref a] ++ [] ++ pat1.ds)) (pick pat1.π ([V.ref a] ++ [] ++ dv)) := Rels.pick (((Rels.cons (rel_ref.mpr rfl) .nil).append .nil).append (rd H)) pat1.π
  refine len_ins I.kIn J hM.at_ hM.fn (wpAny_call (codeAny_mono (F.g.run X.A.in1 X.stack s H ⟨[.ref a], []⟩ _ _ (fun v H2 => ∃ n : Nat, v = .int n ∧ n ≤ SZ ∧ Q v H2) (hr.mono hj).in1 hG I.env0.in1 (to s [.ref a] [] I.kIn rfl rfl) R ⟨_, h, Q', hl, RR, sh, q, l⟩) fun r s' hq' => ?_))
  cases r with
  | error e => exact False.elim hq'
  | ok fl =>
    cases fl with
    | ret u =>
      obtain ⟨v, H', I3, rv, n, rfl, hn, q3⟩ := I.after hq'
      obtain ⟨t, rfl⟩ := rv
      have hz : SZ = 16777216 := rfl
      exact ⟨_, _, rfl, by omega, by omega, ⟨.int n, H', I3.tok _, ⟨_, rfl⟩, q3⟩⟩
    | next => exact False.elim hq'
    | brk => exact False.elim hq'
    | cont => exact False.elim hq'
theorem le_lenO (c : FnM X.prog X.w X.K X.mg X.base k C "__len__" ps sp pats) (hb : pat1 ∈ pats) {kk : Nat} (hr : Room kk X.A) (hj : k + 1 ≤ kk) (hG : X.A.guards = some []) (hm : X.mg "len" = none) (ha : LAn X [e] 1 m) (hg : Gl X "len" := by rfl)
    (h1 : starEach [e] X.env = (false, eval e X.env) :: starEach [] X.env := by rfl) (h2 : (backTo pos (starEach [] X.env)).any (·.1) = false := by rfl) : LE X (.Call (.Name "len" p) [e] [] pos) (mBlt (rLenO C sp) m) := by
  refine le_blt (id := "len") (call_lenO c hb hr hj hG) ?_ hm ha hg (by decide +kernel) (by decide) (by decide) h1 h2
  intro xs H ps h Q' Q rp s r l
  unfold rLenO at r
  split at r
  · rename_i a
    obtain ⟨v, rfl, r1⟩ := rp.one
    have ev := rel_ref.mp r1
    subst ev
    split at r
    · rename_i C' ns vs e
      obtain ⟨rfl, r⟩ := r
      obtain ⟨u, eu, dx, fs, rfl, rfl, rr⟩ := s a _ e
      refine ⟨a, dx, fs, h, _, rfl, eu, s, r, fun p h1 v H1 ⟨n, en, hn, q⟩ g1 r1 s1 => ?_⟩
      subst en
      exact ⟨n, rel_int.mp r1, hn, l _ _ _ _ q g1 r1 s1⟩
    · exact r.elim
  · exact r.elim
end
end N3

/-! what a call binds, by patterns -/
namespace N3
open PySem PySem.Spec PyProof.Rows L2
def Kwd (K : PySem.W.Frag) (D : Addr) (ms : List (Str × V)) : Prop := ∀ q ∈ ms, ∃ u, PySem.W.nsIn K D q.1 = some (some u) ∧ RelV q.2 u
theorem kwd_nil {K : PySem.W.Frag} {D : Addr} : Kwd K D [] := fun _ h => nomatch h
theorem kwd_cons {K : PySem.W.Frag} {D : Addr} {x : Str} {v : V} {u : Value} {ms : List (Str × V)} (h : PySem.W.nsIn K D x = some (some u)) (r : RelV v u) (t : Kwd K D ms) : Kwd K D ((x, v) :: ms) := List.forall_mem_cons.mpr ⟨⟨u, h, r⟩, t⟩
def toV : PV → V
  | .int n => .int n
  | .bl b => .bl b
  | .str s => .str s
  | _ => .non
theorem toV_rel {K : PySem.W.Frag} {H : Hp} : ∀ {ps : List PV} {vs : List V}, vs = ps.map toV → (∀ p ∈ ps, match p with | .int _ | .bl _ | .str _ | .non => True | _ => False) → Rels K H ps vs
  | [], _, rfl, _ => .nil
  | p :: ps, _, rfl, h => by
    refine .cons ?_ (toV_rel rfl fun q hq => h q (List.mem_cons_of_mem _ hq))
    have := h p (List.mem_cons_self ..)
    cases p with
    | int n => exact rel_int.mpr rfl
    | bl b => simp only [Rel, toV]
    | str s => exact rel_str.mpr rfl
    | non => exact rel_non.mpr rfl
    | _ => exact this.elim
section
variable {K : PySem.W.Frag} {x qual : Str} {st : Stmt} {ps : List Str} {b : Pat} {kV doc pm cdv ct : Value} {an : Option Addr} {D : Addr}
theorem kb_all (e : b.ds = []) (h : ∀ us ws : List Value, us.length = b.n → ws.length = b.ks.length → bindArgs (PySem.W.fnOf x qual (defArgs st) (defBody st) (defScope st) .none kV doc pm an cdv ct) ⟨us, b.ks.zip ws⟩ = pure (ps.zip (pick b.π (us ++ ws ++ []))))
    (hl : ∀ l : List PV, l.length = b.n + b.ks.length + b.ds.length → (pick b.π l).length = ps.length) : KbP K (PySem.W.fnOf x qual (defArgs st) (defBody st) (defScope st) .none kV doc pm an cdv ct) ps b :=
  ⟨⟨[], [], .nil, fun H => by rw [e]; exact .nil, fun s us ws _ h1 h2 => BindsTo.of_eq (h us ws h1 h2)⟩, hl⟩
theorem kb_kwo {ms : List (Str × V)} (e : ms.map (·.2) = b.ds.map toV) (hd : Kwd K D ms)
    (h : ∀ us mv ws : List Value, us.length = b.n → mv.length = ms.length → ws.length = b.ks.length → KwChain D ((ms.map (·.1)).zip mv) (bindArgs (PySem.W.fnOf x qual (defArgs st) (defBody st) (defScope st) .none (.ref D) doc pm an cdv ct) ⟨us, b.ks.zip ws⟩) (ps.zip (pick b.π (us ++ ws ++ mv))))
    (hl : ∀ l : List PV, l.length = b.n + b.ks.length + b.ds.length → (pick b.π l).length = ps.length) (hp : ∀ p ∈ b.ds, match p with | .int _ | .bl _ | .str _ | .non => True | _ => False) : KbP K (PySem.W.fnOf x qual (defArgs st) (defBody st) (defScope st) .none (.ref D) doc pm an cdv ct) ps b := by
  obtain ⟨mv, l, rk, hks⟩ := kwd_vals hd
  exact ⟨⟨mv, ms.map (·.2), rk, fun H => toV_rel e hp, fun s us ws X h1 h2 => BindsTo.of_looks fun M => KwChain.looks X hks (h us mv ws h1 l h2)⟩, hl⟩
end
end N3

/-! a dict's values gone along; plain defs called by patterns -/
namespace N3
open PySem PySem.Spec PyProof.Rows L2
def mValsI (m : ME) : MI := fun τ h Q => m τ h fun p h1 => match p with
  | .dct ks vs => ks.length ≤ SZ ∧ Q vs (fun _ => True) h1
  | .ref a => (match h1 a with | some (.lck ks vs) => ks.length ≤ SZ ∧ Q vs (gdK p ks vs) h1 | _ => False)
  | _ => False
section
variable {X : Cx} {tg e : Expr} {pos apos cpos : Pos} {m : ME}
theorem li_vals (he : LE X e m) (hbase : attributeBase e "values" X.env (eval e X.env) = eval e X.env := by rfl) (hline : (apos.endLine == cpos.line) = true := by rfl) :
    LI X tg (.Call (.Attribute e "values" apos) [] [] cpos) (mValsI m) := by
  refine PI.weak (pi_values he hbase hline) fun σ H R ⟨τ, h, Q', s, sh, q, l⟩ => ?_
  refine ⟨τ, h, _, s, sh, q, fun p h1 v H1 q1 g1 r1 s1 => ?_⟩
  have go : ∀ (ks : List Key) (vs : List PV) (gd : PH → Prop), (p = .dct ks vs ∨ ∃ a, p = .ref a ∧ h1 a = some (.lck ks vs)) → ks.length ≤ SZ → Q' vs gd h1 →
      ∃ d o kvs, v = .ref d ∧ H1 d = some (.frz o (.dK kvs)) ∧ R (Itd d o kvs) H1 := fun ks vs gd e hz q1 => by
    obtain ⟨a, o, kvs, rfl, hf, rfl, rr⟩ := frz_walk r1 s1 e
    have ll : vs.length = kvs.length := by rw [rr.length, List.length_map]
    refine ⟨a, o, kvs, rfl, hf, l _ _ _ _ _ q1 g1 s1 ⟨?_, fun i H h hi m _ _ => ?_, fun H h m _ _ => ?_, fun i H h y H' p hp m sh' _ hy => ?_⟩⟩
    · rw [ll]
      rw [List.length_map] at hz
      exact sz_le hz
    · rw [ll] at hi
      exact ⟨m.f _ _ _ hf, hi⟩
    · rw [ll]
      exact ⟨m.f _ _ _ hf, Nat.le_refl _⟩
    · obtain ⟨rfl, k, ek⟩ := hy
      obtain ⟨pw, epw, rw'⟩ := (rr.mono m).get' (i := i) (v := y) (by rw [List.getElem?_map, ek]; rfl)
      rw [epw] at hp
      simp only [Option.some.injEq] at hp
      subst hp
      exact ⟨.refl, sh', rw'⟩
  split at q1
  · exact go _ _ _ (.inl rfl) q1.1 q1.2
  · rename_i a
    split at q1
    · rename_i ks vs e1
      exact go ks vs _ (.inr ⟨a, rfl, e1⟩) q1.1 q1.2
    · exact q1.elim
  · exact q1.elim
end
/-- a def of the top that is called by patterns -/
structure FnP (P : Program) (w : World) (K : PySem.W.Frag) (mg : Str → Option Value) (base : Heap) (k : Nat) (x : Str) (ps : List Str) (sp : SpP) (pats : List Pat) : Prop where
  ex : ∃ (f : Addr) (fd : FuncData), mg x = some (.ref f) ∧ FnC P w K mg base k f fd ps sp pats
def mCallP (sp : SpP) (b : Pat) (m mk : MA) : ME := fun τ h Q => m τ h fun ps h1 => mk τ h1 fun qs h2 => sp (pick b.π (ps ++ qs ++ b.ds)) h2 Q
section
variable {X : Cx} {k : Nat} {ps : List Str} {sp : SpP} {pats : List Pat} {b : Pat} {x : Str} {p pos : Pos} {e : Expr} {es : List Expr} {kws : List Keyword} {m mk : MA}
theorem le_fnP (c : FnP X.prog X.w X.K X.mg X.base k x ps sp pats) {j n m' : Nat} (hb : pats[j]? = some b) {kk : Nat} (hr : Room kk X.A) (hj : k ≤ kk) (hG : X.A.guards = some []) (ha : LAn X (e :: es) n m) (hkw : LKn X kws m' mk) (hn : n = b.n := by rfl) (hm : m' = b.ks.length := by rfl) (hg : Gl X x := by rfl)
    (hall : (backToKw pos (keywordEach kws X.env)).all (·.1.isSome) = true := by rfl) (hks : (backToKw pos (keywordEach kws X.env)).filterMap (·.1) = b.ks := by rfl) (hdb : (x == ("__debug__" : Str)) = false := by decide)
    (he : starEach (e :: es) X.env = (false, eval e X.env) :: starEach es X.env := by rfl) (hpl : ((backTo pos (starEach (e :: es) X.env)).any (·.1) || (backToKw pos (keywordEach kws X.env)).any (·.1.isNone)) = false := by rfl) :
    LE X (.Call (.Name x p) (e :: es) kws pos) (mCallP sp b m mk) := by
  obtain ⟨f, fd, at_, F⟩ := c.ex
  have hbm : b ∈ pats := List.mem_of_getElem? hb
  refine ⟨fun pins s σ H Q I ⟨τ, h, Q', ss, sh, q, l⟩ => ?_⟩
  refine wpAny_Call_Name_kw (ld_glob I hg at_ ?_ hdb)
  refine PySem.W.callWith_KW (h₀ := X.base) I.ok.mod.kin F.kp hall (thn (ha.run pos pins s σ H (fun vs H2 => ∃ qs h2, vs.length = n ∧ Rels X.K H2 qs vs ∧ Go H h H2 h2 ∧ Sim X.K H2 h2 ∧ mk τ h2 fun rs h3 => sp (pick b.π (qs ++ rs ++ b.ds)) h3 Q') I
    ⟨τ, h, _, ss, sh, q, fun qs h2 vs H2 q2 hl g2 r2 s2 => ⟨qs, h2, by rw [← r2.length, hl], r2, g2, s2, q2⟩⟩) fun us s2 ⟨vs, H2, I2, r2, qs, h2, lv, rq, g2, sh2, q2⟩ => ?_) hpl he
  refine thn (hkw.run pos pins s2 σ H2 (fun zs H3 => ∃ rs h3, zs.length = m' ∧ Rels X.K H3 rs zs ∧ Go H2 h2 H3 h3 ∧ Sim X.K H3 h3 ∧ sp (pick b.π (qs ++ rs ++ b.ds)) h3 Q') I2
    ⟨τ, h2, _, ss.mono g2.mono, sh2, q2, fun rs h3 zs H3 q3 hz g3 r3 s3 => ⟨rs, h3, by rw [← r3.length, hz], r3, g3, s3, q3⟩⟩) fun ws s3 ⟨zs, H3, I3, r3, rs, h3, lz, rz, g3, sh3, q3⟩ => ⟨I3.kIn, ?_⟩
  rw [hks]
  exact call_c F hbm (hr.mono hj) hG I3 r2 r3 (rq.mono g3.mono) rz sh3 (by show us.length = _; rw [← r2.length, lv, hn]) (by rw [← r3.length, lz, hm]) q3 (l.mono (g2.trans g3))
end
end N3

/-! exceptions of own classes: what is raised, what a def lets out, try -/
namespace N3
open PySem PySem.Spec PyProof.Rows L2

/-- an exception: its class, its fields (none: no dict) -/
structure Ex where
  C : Addr
  fs : Option (List Str × List PV)
/-- a wish about what is raised: in a def's frame; behind a call -/
abbrev PW := Ex → PSt → PH → Prop
abbrev PX := Ex → PH → Prop
def RelX (K : PySem.W.Frag) (H0 H : Hp) (h : PH) (x : Ex) (cls : Value) (d : Option Addr) : Prop := cls = .ref x.C ∧
  ((x.fs = none ∧ d = none) ∨ ∃ dd fs ns vs, x.fs = some (ns, vs) ∧ d = some dd ∧ H0 dd = none ∧ H dd = some (.xd fs) ∧ h dd = none ∧ ns = fs.map (·.1) ∧ Rels K H vs (fs.map (·.2)))
def LX (K : PySem.W.Frag) (H : Hp) (h : PH) (w : PW) (W : WX) : Prop := ∀ x τ1 h1 cls d σ1 H1, w x τ1 h1 → Go H h H1 h1 → RelX K H H1 h1 x cls d → SimS K H1 σ1 τ1 → Sim K H1 h1 → W cls d σ1 H1
def LXf (K : PySem.W.Frag) (H : Hp) (h : PH) (w : PX) (E : XK) : Prop := ∀ x h1 cls d H1, w x h1 → Go H h H1 h1 → RelX K H H1 h1 x cls d → Sim K H1 h1 → E cls d H1
section
variable {K : PySem.W.Frag} {H H' H1 : Hp} {h h' h1 : PH} {x : Ex} {cls : Value} {d : Option Addr}
theorem RelX.back (r : RelX K H' H1 h1 x cls d) (l : ∀ b, H' b = none → H b = none) : RelX K H H1 h1 x cls d := by
  obtain ⟨e, r⟩ := r
  refine ⟨e, ?_⟩
  rcases r with r | ⟨dd, fs, ns, vs, e1, e2, e3, e4, e5, e6, e7⟩
  · exact .inl r
  · exact .inr ⟨dd, fs, ns, vs, e1, e2, l _ e3, e4, e5, e6, e7⟩
theorem LX.mono {w : PW} {W : WX} (l : LX K H h w W) (g : Go H h H' h') : LX K H' h' w W := fun x τ1 h1 cls d σ1 H1 q g1 r s sh => l x τ1 h1 cls d σ1 H1 q (g.trans g1) (r.back g.live) s sh
theorem LXf.mono {w : PX} {E : XK} (l : LXf K H h w E) (g : Go H h H' h') : LXf K H' h' w E := fun x h1 cls d H1 q g1 r sh => l x h1 cls d H1 q (g.trans g1) (r.back g.live) sh
theorem LX.at {w : PW} {W : WX} {σ : L2.St} {τ : PSt} (l : LX K H h w W) (s : SimS K H σ τ) : LXf K H h (fun x h1 => w x τ h1) (fun cls d H1 => W cls d σ H1) :=
  fun x h1 cls d H1 q g r sh => l x τ h1 cls d σ H1 q g r (s.mono g.mono) sh
theorem LX.no {W : WX} : LX K H h (fun _ _ _ => False) W := fun _ _ _ _ _ _ _ q => q.elim
end
def upEX (K : PySem.W.Frag) (W : WX) (m : PW → ME) : TE := fun σ H Q => ∃ τ h Q' w, SimS K H σ τ ∧ Sim K H h ∧ m w τ h Q' ∧ LQ K H h Q' Q ∧ LX K H h w W
def upLX (K : PySem.W.Frag) (W : WX) (n : Nat) (m : PW → MA) : TA := fun σ H Q => ∃ τ h Q' w, SimS K H σ τ ∧ Sim K H h ∧ m w τ h Q' ∧ LLn K H h n Q' Q ∧ LX K H h w W
def upSX (K : PySem.W.Frag) (W : WX) (m : PW → MS) : TS := fun D σ H => ∃ τ h D' w, SimS K H σ τ ∧ Sim K H h ∧ m w D' τ h ∧ LD K H h D' D ∧ LX K H h w W
abbrev LEX (X : Cx) (W : WX) (e : Expr) (m : PW → ME) : Prop := PE X e (upEX X.K W m)
abbrev LAX (X : Cx) (W : WX) (es : List Expr) (n : Nat) (m : PW → MA) : Prop := PA X es (upLX X.K W n m)
abbrev LSX (X : Cx) (W : WX) (s : Stmt) (m : PW → MS) : Prop := PS X s (upSX X.K W m)
abbrev LSsX (X : Cx) (W : WX) (s : List Stmt) (m : PW → MS) : Prop := PSs X s (upSX X.K W m)
abbrev W0 : WX := fun _ _ _ _ => False
abbrev w0 : PW := fun _ _ _ => False

/-! ### expressions -/
section
variable {X : Cx} {W : WX} {pos : Pos} {e : Expr} {es : List Expr} {n : Nat}
theorem lx_of {m : ME} (h : LE X e m) : LEX X W e (fun _ => m) := PE.weak h fun σ H Q ⟨τ, h, Q', w, s, sh, q, l, _⟩ => ⟨τ, h, Q', s, sh, q, l⟩
theorem lxa_nil : LAX X W [] 0 (fun _ => mNil) := PA.weak pa_nil fun σ H Q ⟨τ, h, Q', w, s, sh, q, l, _⟩ => l [] h [] H q rfl .refl .nil sh
theorem lxa_of {m : MA} (h : LAn X es n m) : LAX X W es n (fun _ => m) := PA.weak h fun σ H Q ⟨τ, h, Q', w, s, sh, q, l, _⟩ => ⟨τ, h, Q', s, sh, q, l⟩
theorem lxa_cons {ma : PW → ME} {mr : PW → MA} (ha : LEX X W e ma) (hr : LAX X W es n mr) (hs : starEach (e :: es) X.env = (false, eval e X.env) :: starEach es X.env := by rfl) : LAX X W (e :: es) (n + 1) (fun w => mCons (ma w) (mr w)) := by
  refine PA.weak (pa_cons ha hr hs) fun σ H Q ⟨τ, h, Q', w, s, sh, q, l, lx⟩ => ?_
  refine ⟨τ, h, _, w, s, sh, q, fun p h1 v H1 q1 m1 r s1 => ?_, lx⟩
  refine ⟨τ, h1, _, w, s.mono m1.mono, s1, q1, fun ps h2 vs H2 q2 hn m2 r2 s2 => ?_, lx.mono m1⟩
  exact l _ _ _ _ q2 (by rw [List.length_cons, hn]) (m1.trans m2) (.cons (r.mono m2.mono) r2) s2
theorem lx_tup {x1} {m : PW → MA} (h : LAX X W es n m) (hn : n ≤ 1000 := by decide) : LEX X W (.Tuple es x1 pos) (fun w => mTup (m w)) := by
  refine PE.weak (pe_tup h) fun σ H Q ⟨τ, h, Q', w, s, sh, q, l, lx⟩ => ?_
  refine ⟨τ, h, _, w, s, sh, q, fun ps h1 vs H1 q1 hl m1 r s1 => ⟨?_, fun p e => make_t (l.mono m1) s1 r q1 e⟩, lx⟩
  rw [← r.length, hl]; exact few hn
theorem lx_lst {m : PW → MA} (h : LAX X W es n m) (hn : n ≤ 1000 := by decide) : LEX X W (.List es pos) (fun w => mLst (m w)) := by
  refine PE.weak (PE.kp (pe_lst h)) fun σ H Q ⟨τ, h, Q', w, s, sh, q, l, lx⟩ => ?_
  refine ⟨τ, h, _, w, s, sh, q, fun ps h1 vs H1 q1 hl m1 r s1 => ⟨?_, fun p e => keep_l (l.mono m1) s1 r q1 e⟩, lx⟩
  rw [← r.length, hl]; exact few hn
theorem lx_if {c a b : Expr} {t : MT} {ma mb : PW → ME} (hc : LT X c t) (ha : LEX X W a ma) (hb : LEX X W b mb) : LEX X W (.IfExp c a b pos) (fun w => mIf t (ma w) (mb w)) := by
  refine PE.weak (pe_ifExp hc ha hb) fun σ H Q ⟨τ, h, Q', w, s, sh, q, l, lx⟩ => ?_
  refine ⟨τ, h, _, s, sh, q, fun c h1 H1 q1 m1 s1 => ?_⟩
  cases c with
  | true => exact ⟨τ, h1, Q', w, s.mono m1.mono, s1, q1, l.mono m1, lx.mono m1⟩
  | false => exact ⟨τ, h1, Q', w, s.mono m1.mono, s1, q1, l.mono m1, lx.mono m1⟩
theorem argsX_up {K : PySem.W.Frag} {r : List V → Hp → VK → Prop} {r' : PRA} {Z : VK → VK} (hr : ∀ xs H ps h Q' Q, Rels K H ps xs → Sim K H h → r' ps h Q' → LQ K H h Q' Q → r xs H (Z Q)) {m : PW → MA} {σ : L2.St} {H : Hp} {Q : VK}
    (h : upEX K W (fun w => mBlt r' (m w)) σ H Q) : tCB r (upLX K W n m) σ H (Z Q) := by
  obtain ⟨τ, h, Q', w, s, sh, q, l, lx⟩ := h
  exact ⟨τ, h, _, w, s, sh, q, fun ps h1 vs H1 q1 hl m1 r1 s1 => hr vs H1 ps h1 Q' Q r1 s1 q1 (l.mono m1), lx⟩
end

/-! ### what a def does, that may raise -/
abbrev SpX := List PV → PH → PK → PX → Prop
def upFX (K : PySem.W.Frag) (n : Nat) (sp : SpX) : Sp := fun vs H Q E => ∃ ps h Q' w, ps.length = n ∧ Rels K H ps vs ∧ Sim K H h ∧ sp ps h Q' w ∧ LQ K H h Q' Q ∧ LXf K H h w E
structure FnGX (P : Program) (w : World) (K : PySem.W.Frag) (mg : Str → Option Value) (base : Heap) (k : Nat) (f : Addr) (fd : FuncData) (ps : List Str) (sp : SpX) : Prop where
  run : ∀ (A : Around) (outer : List Env) (s : Shared) (H : Hp) (args : Args) (us : List Value) (vs : List V) (Q : VK) (E : XK), Room k A → A.guards = some [] → Env0 P w K mg base A outer s H → BindsTo s fd args (ps.zip us) → Vals vs us →
    upFX K ps.length sp vs H Q E → codeAny (model P w) A (.call (.ref f) args) (CR (L2.CX P w) outer P w H s Q E) s
theorem sub_go {H : Hp} {h : PH} {H1 : Hp} {h1 h0 : PH} (g : Go H h H1 h1) (s : sub h0 h1) : Go H h H1 h0 := ⟨g.mono, g.frame, fun b u e n => sub_none s (g.dom b u e n), g.live⟩
def frgX (w : PX) : PX := fun x h1 => ∃ h0, sub h0 h1 ∧ w x h0
theorem LXf.frg {K : PySem.W.Frag} {H : Hp} {h : PH} {w : PX} {E : XK} (l : LXf K H h w E) : LXf K H h (frgX w) E := fun x h1 cls d H1 ⟨h0, s, q⟩ g r sm => by
  refine l x h0 cls d H1 q (sub_go g s) ?_ (sm.less s)
  obtain ⟨e, r⟩ := r
  refine ⟨e, ?_⟩
  rcases r with r | ⟨dd, fs, ns, vs, e1, e2, e3, e4, e5, e6, e7⟩
  · exact .inl r
  · exact .inr ⟨dd, fs, ns, vs, e1, e2, e3, e4, sub_none s e5, e6, e7⟩
section
variable {P : Program} {w : World} {K : PySem.W.Frag} {mg : Str → Option Value} {base : Heap}
theorem FnGX.mono {j k : Nat} {f : Addr} {fd : FuncData} {ps : List Str} {sp : SpX} (F : FnGX P w K mg base j f fd ps sp) (h : j ≤ k) : FnGX P w K mg base k f fd ps sp :=
  ⟨fun A outer s H args us vs Q E hr => F.run A outer s H args us vs Q E (hr.mono h)⟩
/-- a def from its body -/
theorem fn_okX {x qual : Str} {st : Stmt} {f : Addr} {fd : FuncData} {N ps : List Str} {k : Nat} {sp : SpX} {m : PW → MS} (F : Fun K x qual st f fd) (S : FnScope N ps (defScope st))
    (hb : ∀ (cdv : Value) (A : Around) (outer : List Env) (s : Shared) (H : Hp) (E : XK), Room k (A.deeper (envOfC qual (defScope st) s.heap.objs.size f cdv)) → A.guards = some [] →
      Takes (cxOf (L2.CX P w) P w K mg base N qual (defScope st) f cdv A outer s H E) (fun cls d _ H' => E cls d H') →
      PassesOwn (model P w) (A.deeper (envOfC qual (defScope st) s.heap.objs.size f cdv)) (envOfC qual (defScope st) s.heap.objs.size f cdv) (cxOf (L2.CX P w) P w K mg base N qual (defScope st) f cdv A outer s H E).xe →
      LSsX (cxOf (L2.CX P w) P w K mg base N qual (defScope st) f cdv A outer s H E) (fun cls d _ H' => E cls d H') (defBody st) m)
    (hm : ∀ qs h Q wx, qs.length = ps.length → sp qs h Q wx → m (fun x _ h1 => frgX wx x h1) (ends (N3.frg Q)) (sp0 N.length qs) h) : FnGX P w K mg base (k + 1) f fd ps sp := by
  obtain ⟨oc, od, kV, doc, pm, an, cdv, ct, osl, rfl, lk, hcd⟩ := F.ex
  have hN : ps.length ≤ N.length := by
    have e := congrArg List.length S.pre
    rw [List.length_take] at e; omega
  refine ⟨fun A outer s H args us vs Q E hr hG e0 hbi r ⟨qs, h, Q', wx, hl, rr, sh, q, l, lx⟩ => ?_⟩
  have lv : vs.length = ps.length := by rw [← rr.length, hl]
  have KX : K.In s.heap := e0.mod.kin.keeps fun b o e => (e0.bs b o e).1
  have hkind : ∀ y ∈ ps.zip us, (defScope st).names.lookup y.1 = some .local ∨ ((defScope st).names.lookup y.1 = some .cell ∧ ((cellsFrom (s.heap.objs.size + 1) (defScope st).names []).lookup y.1).isSome = true) := fun ⟨n, v⟩ hy =>
    (S.par n (List.of_mem_zip hy).1).imp id fun z => ⟨z, PySem.W.cellsFrom_some _ _ _ (.inl z)⟩
  refine codeAny_call_function hr.depth (KX _ _ lk) rfl S.co S.gen rfl (PySem.W.codeRec_of KX hcd) (hbi _ _ _ _ (wpAny_newFunctionEnv_cells S.kind hkind fun env he s1 x => ?_))
  subst he
  refine ⟨(e0.mod.nolimit.keeps fun b o e => (e0.bs b o e).1).keeps x.toInCall.keep, codeAny_func ?_⟩
  have I : Inv (cxOf (L2.CX P w) P w K mg base N qual (defScope st) f cdv A outer s H E) [] (L2.start N vs) H s1 := inv_start S hr.hd e0 lv r x
  have hrun := (hb cdv A outer s H E (hr.deeper _) hG (takes_of rfl rfl rfl rfl) (passes_of rfl)).run [] s1 (L2.start N vs) H { nx := fun _ H' => Q .non H', rt := Q } I
    ⟨sp0 N.length qs, h, ends (N3.frg Q'), _, simS_start rr (by omega), sh, hm qs h Q' wx hl q, ⟨fun τ h1 σ H1 q1 g1 s1 sh1 => l.frg _ _ _ _ q1 g1 (by simp only [Rel]) sh1, l.frg, fun _ _ _ _ z => z.elim, fun _ _ _ _ z => z.elim⟩,
      fun x τ1 h1 cls d σ1 H1 q1 g1 r1 _ sh1 => lx.frg x h1 cls d H1 q1 g1 r1 sh1⟩
  refine wpAny_mono hrun (fun fl s' hs => ?_) fun e s' hs => hs
  have fin : ∀ {σ' : L2.St} {H' : Hp} {v : V} {u : Value}, Inv (cxOf (L2.CX P w) P w K mg base N qual (defScope st) f cdv A outer s H E) [] σ' H' s' → RelV v u → Q v H' → CE outer P w H s Q u s' :=
    fun {σ' H' v u} J rv z => ⟨v, H', J.os, J.bare, J.base, J.hok, rv, z⟩
  cases fl with
  | ret u => obtain ⟨v, σ', H', J, rv, z⟩ := hs; exact fin J rv z
  | next => obtain ⟨σ', H', J, z⟩ := hs; exact fin (v := V.non) (u := Value.none) J rfl z
  | brk => obtain ⟨_, _, _, z⟩ := hs; exact False.elim z
  | cont => obtain ⟨_, _, _, z⟩ := hs; exact False.elim z
end
/-! ### calls -/
structure FnCX (P : Program) (w : World) (K : PySem.W.Frag) (mg : Str → Option Value) (base : Heap) (k : Nat) (f : Addr) (fd : FuncData) (ps : List Str) (sp : SpX) (pats : List Pat) : Prop where
  kp : PySem.W.keepIn K (.ref f) = true
  b : ∀ p ∈ pats, KbP K fd ps p
  g : FnGX P w K mg base k f fd ps sp
structure FnMX (P : Program) (w : World) (K : PySem.W.Frag) (mg : Str → Option Value) (base : Heap) (k : Nat) (C : Addr) (m : Str) (ps : List Str) (sp : SpX) (pats : List Pat) : Prop where
  cl : Cls K C
  ex : ∃ (f : Addr) (fd : FuncData), Meth K C m f ∧ FnCX P w K mg base k f fd ps sp pats
structure FnPX (P : Program) (w : World) (K : PySem.W.Frag) (mg : Str → Option Value) (base : Heap) (k : Nat) (x : Str) (ps : List Str) (sp : SpX) (pats : List Pat) : Prop where
  ex : ∃ (f : Addr) (fd : FuncData), mg x = some (.ref f) ∧ FnCX P w K mg base k f fd ps sp pats
def mCallX (sp : SpX) (b : Pat) (m mk : MA) : PW → ME := fun w τ h Q => m τ h fun ps h1 => mk τ h1 fun qs h2 => sp (pick b.π (ps ++ qs ++ b.ds)) h2 Q fun x h3 => w x τ h3
def mMethX (C : Addr) (mn : Str) (sp : SpX) (b : Pat) (mo : ME) (m mk : MA) : PW → ME := fun w τ h Q => mo τ h fun p h1 => match p with
  | .ref a => (match h1 a with
    | some (.ins C' ns _) => C' = C ∧ mn ∉ ns ∧ m τ h1 fun ps h2 => mk τ h2 fun qs h3 => sp (pick b.π (.ref a :: ps ++ qs ++ b.ds)) h3 Q fun x h4 => w x τ h4
    | _ => False)
  | _ => False
/-- nothing is raised: as a call of a def that raises nothing -/
def noX (sp : SpX) : SpP := fun ps h Q => sp ps h Q fun _ _ => False
section
variable {X : Cx} {W : WX} {k : Nat} {f C : Addr} {fd : FuncData} {ps : List Str} {sp : SpX} {pats : List Pat} {b : Pat} {x mn : Str} {p pos apos : Pos} {e o : Expr} {es : List Expr} {kws : List Keyword} {mo : ME} {m mk : MA}
theorem FnGX.no {P : Program} {w : World} {K : PySem.W.Frag} {mg : Str → Option Value} {base : Heap} (F : FnGX P w K mg base k f fd ps sp) : FnG P w K mg base k f fd ps (noX sp) :=
  ⟨fun A outer s H args us vs Q hr hG he hb r ⟨qs, h, Q', hl, rr, sh, q, l⟩ => codeAny_mono (F.run A outer s H args us vs Q (fun _ _ _ => False) hr hG he hb r ⟨qs, h, Q', _, hl, rr, sh, q, l, fun _ _ _ _ _ z => z.elim⟩) fun r s' hq => by
    cases r with
    | error e =>
      obtain ⟨a, B, H', cls, d, _, _, _, _, _, _, _, z⟩ := hq
      exact z.elim
    | ok fl => cases fl <;> exact hq⟩
theorem FnCX.no {P : Program} {w : World} {K : PySem.W.Frag} {mg : Str → Option Value} {base : Heap} (F : FnCX P w K mg base k f fd ps sp pats) : FnC P w K mg base k f fd ps (noX sp) pats := ⟨F.kp, F.b, F.g.no⟩
theorem FnMX.no {P : Program} {w : World} {K : PySem.W.Frag} {mg : Str → Option Value} {base : Heap} (F : FnMX P w K mg base k C mn ps sp pats) : FnM P w K mg base k C mn ps (noX sp) pats :=
  let ⟨f, fd, a, b⟩ := F.ex; ⟨F.cl, f, fd, a, b.no⟩
theorem FnPX.no {P : Program} {w : World} {K : PySem.W.Frag} {mg : Str → Option Value} {base : Heap} (F : FnPX P w K mg base k x ps sp pats) : FnP P w K mg base k x ps (noX sp) pats :=
  let ⟨f, fd, a, b⟩ := F.ex; ⟨f, fd, a, b.no⟩
theorem call_cX {pins : List (Addr × Obj)} {σ : L2.St} {τ : PSt} {H : Hp} {s : Shared} {Q : VK} {us ws : List Value} {vs zs : List V} {h : PH} {qs rs : List PV} {Q' : N3.PK} {w : PW} (tk : Takes X W) (F : FnCX X.prog X.w X.K X.mg X.base k f fd ps sp pats) (hb : b ∈ pats) (hr : Room k X.A) (hG : X.A.guards = some [])
    (I : Inv X pins σ H s) (r1 : Vals vs us) (r2 : Vals zs ws) (rr1 : Rels X.K H qs vs) (rr2 : Rels X.K H rs zs) (sh : Sim X.K H h) (ss : SimS X.K H σ τ) (l1 : us.length = b.n) (l2 : ws.length = b.ks.length) (q : sp (pick b.π (qs ++ rs ++ b.ds)) h Q' fun x h3 => w x τ h3) (l : LQ X.K H h Q' Q) (lx : LX X.K H h w W) :
    wpAny (model X.prog X.w) X.A (call (.ref f) us (b.ks.zip ws)) (EP X pins σ Q) X.xe s := by
  obtain ⟨mv, dv, rv, rd, to⟩ := (F.b b hb).ex
  have R : Vals (pick b.π (vs ++ zs ++ dv)) (pick b.π (us ++ ws ++ mv)) := Vals.pick ((r1.append r2).append rv) b.π
  have RR : Rels X.K H (pick b.π (qs ++ rs ++ b.ds)) (pick b.π (vs ++ zs ++ dv)) := Rels.pick ((rr1.append rr2).append (rd H)) b.π
  have hl : (pick b.π (qs ++ rs ++ b.ds)).length = ps.length := (F.b b hb).len _ (by
    rw [List.length_append, List.length_append, rr1.length, rr2.length, r1.length, r2.length, l1, l2])
  refine wpAny_call (codeAny_mono (F.g.run X.A X.stack s H ⟨us, b.ks.zip ws⟩ _ _ Q (fun cls d H' => W cls d σ H') hr hG I.env0 (to s us ws I.kIn l1 l2) R ⟨_, h, Q', _, hl, RR, sh, q, l, lx.at ss⟩) fun r s' hq => ?_)
  cases r with
  | error e => exact tk e s' (XE.of_call I (fun _ _ _ h => h) hq)
  | ok fl =>
    cases fl with
    | ret u => exact I.after hq
    | _ => exact False.elim hq
theorem lx_meth {pl : Sem Bool} (tk : Takes X W) (c : FnMX X.prog X.w X.K X.mg X.base k C mn ps sp pats) {j n m' : Nat} (hb : pats[j]? = some b) {kk : Nat} (hr : Room kk X.A) (hj : k ≤ kk) (hG : X.A.guards = some []) (ho : LE X o mo) (ha : LAn X (e :: es) n m) (hkw : LKn X kws m' mk) (hn : n + 1 = b.n := by rfl) (hm : m' = b.ks.length := by rfl)
    (hst : starEach (e :: es) X.env = (false, eval e X.env) :: starEach es X.env := by rfl) (hall : (backToKw pos (keywordEach kws X.env)).all (·.1.isSome) = true := by rfl) (hks : (backToKw pos (keywordEach kws X.env)).filterMap (·.1) = b.ks := by rfl)
    (hpl : ((backTo pos (starEach (e :: es) X.env)).any (·.1) || (backToKw pos (keywordEach kws X.env)).any (·.1.isNone)) = false := by rfl)
    (ht : eval (.Call (.Attribute o mn apos) (e :: es) kws pos) X.env = (do
      let ov ← eval o X.env
      standAt apos.atName
      let (f, first) ← holding [ov] (getMethod ov mn pl)
      callWith pos f first (backTo pos (starEach (e :: es) X.env)) (backToKw pos (keywordEach kws X.env))) := by rfl) :
    LEX X W (.Call (.Attribute o mn apos) (e :: es) kws pos) (mMethX C mn sp b mo m mk) := by
  obtain ⟨f, fd, hM, F⟩ := c.ex
  have hbm : b ∈ pats := List.mem_of_getElem? hb
  refine ⟨fun pins s σ H Q I ⟨τ, h, Q', wx, ss, sh, q, l, lx⟩ => ?_⟩
  refine PySem.W.methodCall_KW (pl := pl) (thn (ho.run pins s σ H (fun v H1 => ∃ a ns vs h1, v = .ref a ∧ h1 a = some (.ins C ns vs) ∧ mn ∉ ns ∧ Go H h H1 h1 ∧ Sim X.K H1 h1 ∧ m τ h1 fun ps h2 => mk τ h2 fun qs h3 => sp (pick b.π (.ref a :: ps ++ qs ++ b.ds)) h3 Q' fun x h4 => wx x τ h4) I
    ⟨τ, h, _, ss, sh, q, fun p h1 v H1 q1 g1 r1 s1 => ?_⟩) fun u s1 ⟨x, H1, I1, rx, a, ns, vs, h1, ex, ea, hns, g1, sh1, q1⟩ => ?_) ht
  · cases p with
    | ref a =>
      simp only at q1
      split at q1
      · rename_i C' ns vs e1
        obtain ⟨rfl, hns, q1⟩ := q1
        exact ⟨a, ns, vs, h1, rel_ref.mp r1, e1, hns, g1, s1, q1⟩
      · exact q1.elim
    | _ => exact q1.elim
  subst ex
  obtain rfl : u = Value.ref a := rx
  obtain ⟨ob, eo, dx, fs, rfl, rfl, rr⟩ := sh1 a _ ea
  refine getmeth_ok I1 eo c.cl hM (noF_get hns) ?_
  refine PySem.W.callWith_KW (first := [.ref a]) (h₀ := X.base) I1.ok.mod.kin hM.kp hall (thn (ha.run pos pins s1 σ H1 (fun vs H2 => ∃ qs h2, vs.length = n ∧ Rels X.K H2 qs vs ∧ Go H1 h1 H2 h2 ∧ Sim X.K H2 h2 ∧ mk τ h2 fun rs h3 => sp (pick b.π (.ref a :: qs ++ rs ++ b.ds)) h3 Q' fun x h4 => wx x τ h4) I1
    ⟨τ, h1, _, ss.mono g1.mono, sh1, q1, fun qs h2 vs H2 q2 hl g2 r2 s2 => ⟨qs, h2, by rw [← r2.length, hl], r2, g2, s2, q2⟩⟩) fun us s2 ⟨vs, H2, I2, r2, qs, h2, lv, rq, g2, sh2, q2⟩ => ?_) hpl hst
  refine thn (hkw.run pos pins s2 σ H2 (fun zs H3 => ∃ rs h3, zs.length = m' ∧ Rels X.K H3 rs zs ∧ Go H2 h2 H3 h3 ∧ Sim X.K H3 h3 ∧ sp (pick b.π (.ref a :: qs ++ rs ++ b.ds)) h3 Q' fun x h4 => wx x τ h4) I2
    ⟨τ, h2, _, (ss.mono g1.mono).mono g2.mono, sh2, q2, fun rs h3 zs H3 q3 hz g3 r3 s3 => ⟨rs, h3, by rw [← r3.length, hz], r3, g3, s3, q3⟩⟩) fun ws s3 ⟨zs, H3, I3, r3, rs, h3, lz, rz, g3, sh3, q3⟩ => ⟨I3.kIn, ?_⟩
  rw [hks]
  have gg := (g1.trans g2).trans g3
  exact call_cX (us := .ref a :: us) (vs := .ref a :: vs) (qs := .ref a :: qs) tk F hbm (hr.mono hj) hG I3 (.cons rfl r2) r3 (.cons (rel_ref.mpr rfl) (rq.mono g3.mono)) rz sh3 (ss.mono gg.mono) (by rw [List.length_cons, ← r2.length, lv, hn]) (by rw [← r3.length, lz, hm]) q3 (l.mono gg) (lx.mono gg)
theorem lx_meth0 {pl : Sem Bool} (tk : Takes X W) (c : FnMX X.prog X.w X.K X.mg X.base k C mn ps sp pats) {j m' : Nat} (hb : pats[j]? = some b) {kk : Nat} (hr : Room kk X.A) (hj : k ≤ kk) (hG : X.A.guards = some []) (ho : LE X o mo) (hkw : LKn X kws m' mk) (hn : 1 = b.n := by rfl) (hm : m' = b.ks.length := by rfl)
    (hall : (backToKw pos (keywordEach kws X.env)).all (·.1.isSome) = true := by rfl) (hks : (backToKw pos (keywordEach kws X.env)).filterMap (·.1) = b.ks := by rfl)
    (hpl : ((backTo pos (starEach [] X.env)).any (·.1) || (backToKw pos (keywordEach kws X.env)).any (·.1.isNone)) = false := by rfl)
    (ht : eval (.Call (.Attribute o mn apos) [] kws pos) X.env = (do
      let ov ← eval o X.env
      standAt apos.atName
      let (f, first) ← holding [ov] (getMethod ov mn pl)
      callWith pos f first (backTo pos (starEach [] X.env)) (backToKw pos (keywordEach kws X.env))) := by rfl) :
    LEX X W (.Call (.Attribute o mn apos) [] kws pos) (mMethX C mn sp b mo mNil mk) := by
  obtain ⟨f, fd, hM, F⟩ := c.ex
  have hbm : b ∈ pats := List.mem_of_getElem? hb
  refine ⟨fun pins s σ H Q I ⟨τ, h, Q', wx, ss, sh, q, l, lx⟩ => ?_⟩
  refine PySem.W.methodCall_KW (pl := pl) (thn (ho.run pins s σ H (fun v H1 => ∃ a ns vs h1, v = .ref a ∧ h1 a = some (.ins C ns vs) ∧ mn ∉ ns ∧ Go H h H1 h1 ∧ Sim X.K H1 h1 ∧ mk τ h1 fun qs h3 => sp (pick b.π (.ref a :: [] ++ qs ++ b.ds)) h3 Q' fun x h4 => wx x τ h4) I
    ⟨τ, h, _, ss, sh, q, fun p h1 v H1 q1 g1 r1 s1 => ?_⟩) fun u s1 ⟨x, H1, I1, rx, a, ns, vs, h1, ex, ea, hns, g1, sh1, q1⟩ => ?_) ht
  · cases p with
    | ref a =>
      simp only at q1
      split at q1
      · rename_i C' ns vs e1
        obtain ⟨rfl, hns, q1⟩ := q1
        exact ⟨a, ns, vs, h1, rel_ref.mp r1, e1, hns, g1, s1, q1⟩
      · exact q1.elim
    | _ => exact q1.elim
  subst ex
  obtain rfl : u = Value.ref a := rx
  obtain ⟨ob, eo, dx, fs, rfl, rfl, rr⟩ := sh1 a _ ea
  refine getmeth_ok I1 eo c.cl hM (noF_get hns) ?_
  refine PySem.W.callWith_KW0 (first := [.ref a]) (h₀ := X.base) I1.ok.mod.kin hM.kp hall (thn (hkw.run pos pins s1 σ H1 (fun zs H3 => ∃ rs h3, zs.length = m' ∧ Rels X.K H3 rs zs ∧ Go H1 h1 H3 h3 ∧ Sim X.K H3 h3 ∧ sp (pick b.π (.ref a :: [] ++ rs ++ b.ds)) h3 Q' fun x h4 => wx x τ h4) I1
    ⟨τ, h1, _, ss.mono g1.mono, sh1, q1, fun rs h3 zs H3 q3 hz g3 r3 s3 => ⟨rs, h3, by rw [← r3.length, hz], r3, g3, s3, q3⟩⟩) fun ws s3 ⟨zs, H3, I3, r3, rs, h3, lz, rz, g3, sh3, q3⟩ => ⟨I3.kIn, ?_⟩) hpl
  rw [hks]
  have gg := g1.trans g3
  exact call_cX (us := [.ref a]) (vs := [.ref a]) (qs := [.ref a]) tk F hbm (hr.mono hj) hG I3 (.cons rfl .nil) r3 (.cons (rel_ref.mpr rfl) .nil) rz sh3 (ss.mono gg.mono) hn (by rw [← r3.length, lz, hm]) q3 (l.mono gg) (lx.mono gg)
theorem lx_fnP (tk : Takes X W) (c : FnPX X.prog X.w X.K X.mg X.base k x ps sp pats) {j n m' : Nat} (hb : pats[j]? = some b) {kk : Nat} (hr : Room kk X.A) (hj : k ≤ kk) (hG : X.A.guards = some []) (ha : LAn X (e :: es) n m) (hkw : LKn X kws m' mk) (hn : n = b.n := by rfl) (hm : m' = b.ks.length := by rfl) (hg : Gl X x := by rfl)
    (hall : (backToKw pos (keywordEach kws X.env)).all (·.1.isSome) = true := by rfl) (hks : (backToKw pos (keywordEach kws X.env)).filterMap (·.1) = b.ks := by rfl) (hdb : (x == ("__debug__" : Str)) = false := by decide)
    (he : starEach (e :: es) X.env = (false, eval e X.env) :: starEach es X.env := by rfl) (hpl : ((backTo pos (starEach (e :: es) X.env)).any (·.1) || (backToKw pos (keywordEach kws X.env)).any (·.1.isNone)) = false := by rfl) :
    LEX X W (.Call (.Name x p) (e :: es) kws pos) (mCallX sp b m mk) := by
  obtain ⟨f, fd, at_, F⟩ := c.ex
  have hbm : b ∈ pats := List.mem_of_getElem? hb
  refine ⟨fun pins s σ H Q I ⟨τ, h, Q', wx, ss, sh, q, l, lx⟩ => ?_⟩
  refine wpAny_Call_Name_kw (ld_glob I hg at_ ?_ hdb)
  refine PySem.W.callWith_KW (h₀ := X.base) I.ok.mod.kin F.kp hall (thn (ha.run pos pins s σ H (fun vs H2 => ∃ qs h2, vs.length = n ∧ Rels X.K H2 qs vs ∧ Go H h H2 h2 ∧ Sim X.K H2 h2 ∧ mk τ h2 fun rs h3 => sp (pick b.π (qs ++ rs ++ b.ds)) h3 Q' fun x h4 => wx x τ h4) I
    ⟨τ, h, _, ss, sh, q, fun qs h2 vs H2 q2 hl g2 r2 s2 => ⟨qs, h2, by rw [← r2.length, hl], r2, g2, s2, q2⟩⟩) fun us s2 ⟨vs, H2, I2, r2, qs, h2, lv, rq, g2, sh2, q2⟩ => ?_) hpl he
  refine thn (hkw.run pos pins s2 σ H2 (fun zs H3 => ∃ rs h3, zs.length = m' ∧ Rels X.K H3 rs zs ∧ Go H2 h2 H3 h3 ∧ Sim X.K H3 h3 ∧ sp (pick b.π (qs ++ rs ++ b.ds)) h3 Q' fun x h4 => wx x τ h4) I2
    ⟨τ, h2, _, ss.mono g2.mono, sh2, q2, fun rs h3 zs H3 q3 hz g3 r3 s3 => ⟨rs, h3, by rw [← r3.length, hz], r3, g3, s3, q3⟩⟩) fun ws s3 ⟨zs, H3, I3, r3, rs, h3, lz, rz, g3, sh3, q3⟩ => ⟨I3.kIn, ?_⟩
  rw [hks]
  have gg := g2.trans g3
  exact call_cX tk F hbm (hr.mono hj) hG I3 r2 r3 (rq.mono g3.mono) rz sh3 (ss.mono gg.mono) (by show us.length = _; rw [← r2.length, lv, hn]) (by rw [← r3.length, lz, hm]) q3 (l.mono gg) (lx.mono gg)
/-- keywords alone -/
theorem lx_fnP0 (tk : Takes X W) (c : FnPX X.prog X.w X.K X.mg X.base k x ps sp pats) {j m' : Nat} (hb : pats[j]? = some b) {kk : Nat} (hr : Room kk X.A) (hj : k ≤ kk) (hG : X.A.guards = some []) (hkw : LKn X kws m' mk) (hn : 0 = b.n := by rfl) (hm : m' = b.ks.length := by rfl) (hg : Gl X x := by rfl)
    (hall : (backToKw pos (keywordEach kws X.env)).all (·.1.isSome) = true := by rfl) (hks : (backToKw pos (keywordEach kws X.env)).filterMap (·.1) = b.ks := by rfl) (hdb : (x == ("__debug__" : Str)) = false := by decide)
    (hpl : ((backTo pos (starEach [] X.env)).any (·.1) || (backToKw pos (keywordEach kws X.env)).any (·.1.isNone)) = false := by rfl) :
    LEX X W (.Call (.Name x p) [] kws pos) (mCallX sp b mNil mk) := by
  obtain ⟨f, fd, at_, F⟩ := c.ex
  have hbm : b ∈ pats := List.mem_of_getElem? hb
  refine ⟨fun pins s σ H Q I ⟨τ, h, Q', wx, ss, sh, q, l, lx⟩ => ?_⟩
  refine wpAny_Call_Name_kw (ld_glob I hg at_ ?_ hdb)
  refine PySem.W.callWith_KW0 (h₀ := X.base) I.ok.mod.kin F.kp hall (thn (hkw.run pos pins s σ H (fun zs H3 => ∃ rs h3, zs.length = m' ∧ Rels X.K H3 rs zs ∧ Go H h H3 h3 ∧ Sim X.K H3 h3 ∧ sp (pick b.π ([] ++ rs ++ b.ds)) h3 Q' fun x h4 => wx x τ h4) I
    ⟨τ, h, _, ss, sh, q, fun rs h3 zs H3 q3 hz g3 r3 s3 => ⟨rs, h3, by rw [← r3.length, hz], r3, g3, s3, q3⟩⟩) fun ws s3 ⟨zs, H3, I3, r3, rs, h3, lz, rz, g3, sh3, q3⟩ => ⟨I3.kIn, ?_⟩) hpl
  rw [hks]
  exact call_cX (us := []) (vs := []) (qs := []) tk F hbm (hr.mono hj) hG I3 .nil r3 .nil rz sh3 (ss.mono g3.mono) hn (by rw [← r3.length, lz, hm]) q3 (l.mono g3) (lx.mono g3)
end
end N3

/-! statements of defs that may raise; raise; try; isinstance and fields of what was caught -/
namespace N3
open PySem PySem.Spec PyProof.Rows L2

section
variable {X : Cx} {W : WX} {pos : Pos} {s : Stmt} {rest : List Stmt} {e : Expr}
theorem lsx_of {m : MS} (h : LS X s m) : LSX X W s (fun _ => m) := PS.weak h fun D σ H ⟨τ, h, D', w, s, sh, q, l, _⟩ => ⟨τ, h, D', s, sh, q, l⟩
theorem lssx_of {ss : List Stmt} {m : MS} (h : LSs X ss m) : LSsX X W ss (fun _ => m) := PSs.weak h fun D σ H ⟨τ, h, D', w, s, sh, q, l, _⟩ => ⟨τ, h, D', s, sh, q, l⟩
theorem ls_ofX {m : PW → MS} (h : LSX X W0 s m) : LS X s (m w0) := PS.weak h fun D σ H ⟨τ, h, D', s, sh, q, l⟩ => ⟨τ, h, D', w0, s, sh, q, l, LX.no⟩
theorem le_ofX {m : PW → ME} (h : LEX X W0 e m) : LE X e (m w0) := PE.weak h fun σ H Q ⟨τ, h, Q', s, sh, q, l⟩ => ⟨τ, h, Q', w0, s, sh, q, l, LX.no⟩
theorem LD.seqX {K : PySem.W.Frag} {H : Hp} {h : PH} {D' : PEnds} {D : Ends} {w : PW} (l : LD K H h D' D) (lx : LX K H h w W) (b : PW → MS) : LD K H h { D' with nx := b w D' } { D with nx := upSX K W b D } :=
  ⟨fun τ h1 σ H1 q m s sh => ⟨τ, h1, D', w, s, sh, q, l.mono m, lx.mono m⟩, l.rt, l.bk, l.ct⟩
theorem lssx_cons {a b : PW → MS} (h1 : LSX X W s a) (h2 : LSsX X W rest b) : LSsX X W (s :: rest) (fun w => mSeq (a w) (b w)) :=
  PSs.weak (pss_cons h1 h2) fun D σ H ⟨τ, h, D', w, s, sh, q, l, lx⟩ => ⟨τ, h, _, w, s, sh, q, l.seqX lx b, lx⟩
theorem lssx_one {a : PW → MS} (h1 : LSX X W s a) : LSsX X W [s] a := pss_one h1
theorem lssx_nil : LSsX X W [] (fun _ => mNx) := lssx_of ls_nil
theorem lsx_expr {m : PW → ME} (he : LEX X W e m) (hs : swapsWith e none pos.line X.env = pure false := by rfl) : LSX X W (.Expr e pos) (fun w => mDrop (m w)) :=
  PS.weak (ps_expr he hs) fun D σ H ⟨τ, h, D', w, s, sh, q, l, lx⟩ => ⟨τ, h, _, w, s, sh, q, fun p h1 v H1 q1 m1 r s1 => l.nx τ h1 σ H1 q1 m1 (s.mono m1.mono) s1, lx⟩
theorem lsx_ret {m : PW → ME} (he : LEX X W e m) : LSX X W (.Return (some e) pos) (fun w => mRet (m w)) :=
  PS.weak (ps_ret he) fun D σ H ⟨τ, h, D', w, s, sh, q, l, lx⟩ => ⟨τ, h, _, w, s, sh, q, l.rt, lx⟩
theorem lsx_if {c : Expr} {a b : List Stmt} {t : MT} {ma mb : PW → MS} (hc : LT X c t) (ha : LSsX X W a ma) (hb : LSsX X W b mb) : LSX X W (.If c a b pos) (fun w => mIfS t (ma w) (mb w)) := by
  refine PS.weak (ps_if hc ha hb) fun D σ H ⟨τ, h, D', w, s, sh, q, l, lx⟩ => ?_
  refine ⟨τ, h, _, s, sh, q, fun c h1 H1 q1 m1 s1 => ?_⟩
  cases c with
  | true => exact ⟨τ, h1, D', w, s.mono m1.mono, s1, q1, l.mono m1, lx.mono m1⟩
  | false => exact ⟨τ, h1, D', w, s.mono m1.mono, s1, q1, l.mono m1, lx.mono m1⟩
theorem lsx_set {i : Nat} {x : Str} {m : PW → ME} {pos' : Pos} (hN : X.N.Nodup) (he : LEX X W e m) (hi : X.N[i]? = some x := by rfl) (hx : Loc X.env.scope x := by first | exact Or.inl rfl | exact Or.inr rfl) (hs : swapsWith e (some (.Name x pos')) pos.line X.env = pure false := by rfl) (hf : X.fn x = true ∨ X.env.scope.names.lookup x = some .local := by first | exact .inl rfl | exact .inr rfl | assumption) :
    LSX X W (.Assign [.Name x pos'] e pos) (fun w => mAsg (m w) (gN i)) := by
  refine PS.weak (ps_set hN hi hx he hs hf) fun D σ H ⟨τ, h, D', w, s, sh, q, l, lx⟩ => ?_
  exact ⟨τ, h, _, w, s, sh, q, fun p h1 v H1 q1 m1 r s1 => l.nx _ _ _ _ q1 m1 ((s.mono m1.mono).set r) s1, lx⟩
theorem lsx_asg {tg : Expr} {vs : List Nat} {m : PW → ME} {g : MG} (he : LEX X W e m) (hg : LG X tg vs g) (hs : swapsWithSole [tg] e pos.line X.env = pure false := by rfl) (hw : swappedStores [tg] e X.env = pure none := by rfl)
    (h1 : (assignEach [tg] X.env).map (·.2) = [assign tg X.env] := by rfl) : LSX X W (.Assign [tg] e pos) (fun w => mAsg (m w) g) := by
  refine PS.weak (ps_asg he hg hs hw h1) fun D σ H ⟨τ, h, D', w, s, sh, q, l, lx⟩ => ?_
  refine ⟨τ, h, _, w, s, sh, q, fun p h1 v H1 q1 m1 r s1 => ?_, lx⟩
  exact ⟨p, τ, h1, _, r, s.mono m1.mono, s1, q1, fun τ1 h2 σ1 H2 q2 m2 s2 sh2 _ => l.nx _ _ _ _ q2 (m1.trans m2) s2 sh2⟩
theorem lsx_for {tg iter : Expr} {body : List Stmt} {mi : MI} {vs : List Nat} {g : MG} {b : PW → MS} (hp : PassesOwn (model X.prog X.w) X.A X.env X.xe) (hc : X.calm = true) (hi : LI X tg iter mi) (hg : LG X tg vs g) (hb : LSsX X W body b)
    (hs : ∀ x, foldedSetIterable iter X.env x = pure x := by intro _; rfl) : LSX X W (.For tg iter body [] pos) (fun w => mFor mi g (b w)) := by
  refine PS.weak (ps_for hp hc hi hg hb hs) fun D σ0 H0 ⟨τ0, h0, D', w, s0, sh0, q0, l, lx⟩ => ?_
  refine ⟨τ0, h0, _, s0, sh0, q0, fun ps gd h1 H1 J q1 g1 s1 wk => ?_⟩
  have l1 := l.mono g1
  have lx1 := lx.mono g1
  refine ⟨fun i m σ H => ∃ τ h, i ≤ ps.length ∧ m = ps.length - i ∧ Go H1 h1 H h ∧ SimS X.K H σ τ ∧ Sim X.K H h ∧ forL gd g (b w) D' (ps.drop i) τ h,
    ⟨ps.length, τ0, h1, Nat.zero_le _, rfl, .refl, s0.mono g1.mono, s1, q1⟩, ?_⟩
  rintro i m σ H ⟨τ, h, hi, rfl, gg, s, sh, q⟩
  by_cases hlt : i < ps.length
  · have e : ps.drop i = ps[i] :: ps.drop (i + 1) := List.drop_eq_getElem_cons hlt
    rw [e] at q
    obtain ⟨hgd, q⟩ := q
    refine .inr ⟨wk.goes i H h hlt gg.mono sh hgd, fun σ' H' => ∃ τ h, Go H1 h1 H' h ∧ SimS X.K H' σ' τ ∧ Sim X.K H' h ∧ forL gd g (b w) D' (ps.drop (i + 1)) τ h, fun σ' H' ⟨τ, h, a, b', c, d⟩ => ⟨ps.length - (i + 1), by omega, τ, h, hlt, rfl, a, b', c, d⟩, fun x H' y => ?_⟩
    obtain ⟨g2, sh2, rx⟩ := wk.yields i H h x H' ps[i] (List.getElem?_eq_getElem hlt) gg.mono sh hgd y
    refine ⟨ps[i], τ, h, _, rx, s.mono g2.mono, sh2, q, fun τ3 h3 σ3 H3 q3 g3 s3 sh3 _ => ?_⟩
    have g13 := (gg.trans g2).trans g3
    refine ⟨τ3, h3, _, w, s3, sh3, q3, ?_, lx1.mono g13⟩
    have l3 := l1.mono g13
    have again : LN X.K H3 h3 (forL gd g (b w) D' (ps.drop (i + 1))) (fun σ' H' => ∃ τ h, Go H1 h1 H' h ∧ SimS X.K H' σ' τ ∧ Sim X.K H' h ∧ forL gd g (b w) D' (ps.drop (i + 1)) τ h) := fun τ4 h4 σ4 H4 q4 g4 s4 sh4 =>
      ⟨τ4, h4, g13.trans g4, s4, sh4, q4⟩
    exact ⟨again, l3.rt, l3.nx, again⟩
  · have e : i = ps.length := by omega
    subst e
    rw [List.drop_length] at q
    exact .inl ⟨wk.stops H h gg.mono sh q.1, l1.nx τ h σ H q.2 gg s sh⟩
theorem lsx_while {c : Expr} {body : List Stmt} {t : MT} {b : PW → MS} (hp : PassesOwn (model X.prog X.w) X.A X.env X.xe) (hc : LT X c t) (hb : LSsX X W body b) : LSX X W (.While c body [] pos) (fun w => mWhile t (b w)) := by
  refine PS.weak (ps_while hp hc hb) fun D σ0 H0 ⟨τ0, h0, D', w, s0, sh0, ⟨I, ⟨n0, i0⟩, turn⟩, l, lx⟩ => ?_
  refine ⟨fun n σ H => ∃ τ h, Go H0 h0 H h ∧ SimS X.K H σ τ ∧ Sim X.K H h ∧ I n τ h, ⟨n0, τ0, h0, .refl, s0, sh0, i0⟩, ?_⟩
  rintro n σ H ⟨τ, h, g, s, sh, i⟩
  refine ⟨τ, h, _, s, sh, turn n τ h i, fun c h1 H1 q1 g1 s1 => ?_⟩
  cases c with
  | true =>
    rw [if_pos rfl] at q1 ⊢
    refine ⟨fun σ' H' => ∃ m, m < n ∧ ∃ τ h, Go H0 h0 H' h ∧ SimS X.K H' σ' τ ∧ Sim X.K H' h ∧ I m τ h, fun σ' H' z => z, ?_⟩
    have l' := l.mono (g.trans g1)
    refine ⟨τ, h1, _, w, s.mono g1.mono, s1, q1, ?_, lx.mono (g.trans g1)⟩
    have again : LN X.K H1 h1 (fun τ' h' => ∃ m, m < n ∧ I m τ' h') (fun σ' H' => ∃ m, m < n ∧ ∃ τ h, Go H0 h0 H' h ∧ SimS X.K H' σ' τ ∧ Sim X.K H' h ∧ I m τ h) := fun τ2 h2 σ2 H2 ⟨m, hm, i2⟩ g2 s2 sh2 =>
      ⟨m, hm, τ2, h2, (g.trans g1).trans g2, s2, sh2, i2⟩
    exact ⟨again, l'.rt, l'.nx, again⟩
  | false =>
    rw [if_neg Bool.false_ne_true] at q1 ⊢
    exact l.nx τ h1 σ H1 q1 (g.trans g1) (s.mono g1.mono) s1

/-! ### raise -/
def mRaise (C : Addr) : PW → MS := fun w _ τ h => w ⟨C, none⟩ τ h
/-- a class without an __init__ of its own, that may be raised -/
structure ExMk (K : PySem.W.Frag) (mg : Str → Option Value) (x : Str) (C : Addr) (bmB : List Value) (newId : String) : Prop where
  at_ : mg x = some (.ref C)
  ex : PySem.W.excIn K C bmB newId = true
  kp : PySem.W.keepIn K (.ref C) = true
  be : PySem.W.subIn K (.ref C) (.type "BaseException") = some true
  ty : PySem.W.typeIn K (.ref C) = some (.type "type")
theorem lsx_raise {C : Addr} {bmB : List Value} {B newId initId : String} {x m : Str} {j : Nat} {p p2 pos' : Pos} (F : ExcBaseFacts B newId initId bmB) (tk : Takes X W) (hc : X.calm = true) (T : ExMk X.K X.mg x C bmB newId) (hg : Gl X x := by rfl) (hdb : (x == ("__debug__" : Str)) = false := by decide) :
    LSX X W (.Raise (some (.Call (.Name x p) [.Constant (.str m) j p2] [] pos')) none pos) (mRaise C) :=
  PS.weak (ps_raise hc tk (pmk_own F T.ex T.at_ T.kp (raises_own T.be T.ty) hg hdb)) fun D σ H ⟨τ, h, D', w, s, sh, q, l, lx⟩ => lx _ τ h _ none σ H q .refl ⟨rfl, .inl ⟨rfl, rfl⟩⟩ s sh
/-- .. that is never come to -/
theorem ls_never : LS X s (fun _ _ _ => False) := ⟨fun pins s σ H D I ⟨_, _, _, _, _, z, _⟩ => z.elim⟩
end

/-! ### try -/
def offE (oi : Option Nat) (D : Ends) : Ends := match oi with
  | none => D
  | some i => { nx := fun σ' H' => D.nx (σ'.set i none) H', rt := D.rt, bk := fun σ' H' => D.bk (σ'.set i none) H', ct := fun σ' H' => D.ct (σ'.set i none) H' }
def onS (oi : Option Nat) (a : Addr) (σ : L2.St) : L2.St := match oi with
  | none => σ
  | some i => σ.set i (some (.ref a))
def wGen (K : PySem.W.Frag) (Wout : WX) (D : Ends) : List (Value × Option Nat × (Addr → Value → Option Addr → TS)) → WX
  | [] => Wout
  | (c, oi, ts) :: r => fun cls d σ H => ∃ b, PySem.W.exmOne K cls c = some b ∧ (b = true → ∀ a, H a = none → ts a cls d (offE oi D) (onS oi a σ) H) ∧ (b = false → wGen K Wout D r cls d σ H)
inductive HdsG (X : Cx) : List ExceptHandler → List (Value × Option Nat × (Addr → Value → Option Addr → TS)) → Prop
  | nil : HdsG X [] []
  | cons {x : Str} {c : Value} {ts : Addr → Value → Option Addr → TS} {b₀ : Stmt} {suite : List Stmt} {np pos' : Pos} {hds : List ExceptHandler} {l : List (Value × Option Nat × (Addr → Value → Option Addr → TS))} (hc : Names X x c)
      (hsu : ∀ (a : Addr) (oe : Obj) (cls : Value) (d : Option Addr) (pn : List (Addr × Obj)), Zc cls d oe → (∃ vs, oe.data = .fields vs) → PSs (X.suite a ((a, oe) :: pn)) (b₀ :: suite) (ts a cls d)) (r : HdsG X hds l) :
      HdsG X (.ExceptHandler (some (.Name x np)) none (b₀ :: suite) pos' :: hds) ((c, none, ts) :: l)
  | consN {x n : Str} {i : Nat} {c : Value} {ts : Addr → Value → Option Addr → TS} {b₀ : Stmt} {suite : List Stmt} {np pos' : Pos} {hds : List ExceptHandler} {l : List (Value × Option Nat × (Addr → Value → Option Addr → TS))} (hc : Names X x c) (hi : X.N[i]? = some n) (hln : X.env.kindOf n = some .local)
      (hsu : ∀ (a : Addr) (oe : Obj) (cls : Value) (d : Option Addr) (pn : List (Addr × Obj)), Zc cls d oe → (∃ vs, oe.data = .fields vs) → PSs (X.suite a ((a, oe) :: pn)) (b₀ :: suite) (ts a cls d)) (r : HdsG X hds l) :
      HdsG X (.ExceptHandler (some (.Name x np)) (some n) (b₀ :: suite) pos' :: hds) ((c, some i, ts) :: l)
/-- an exception of the body that has been noted in this frame: a, over the state without it (at sI) -/
structure Caught (X : Cx) (pins : List (Addr × Obj)) (σ : L2.St) (H : Hp) (a : Addr) (cls : Value) (d : Option Addr) (s : Shared) : Prop where
  ex : ∃ (B : Heap) (sI : Shared), Inv X pins σ H sI ∧ (∀ b o, sI.heap.get? b = some o → b ∉ frs X.stack → B.get? b = some o) ∧ sI.heap.UpToSlots s.heap ∧ HandSPX.FlyingZ B (X.env :: X.outer) a (Zc cls d) s.heap ∧ s.os = sI.os ∧ AllBare s.gens
  na : H a = none
section
variable {X : Cx} {pins : List (Addr × Obj)} {σ : L2.St} {H : Hp} {a : Addr} {cls : Value} {d : Option Addr} {s : Shared}
theorem Caught.inv (c : Caught X pins σ H a cls d s) : Inv X pins σ H s := by
  obtain ⟨B, sI, I, nb, up, fl, os, ag⟩ := c.ex
  exact I.landed nb fl.1 up os ag
/-- .. as the suite holds it -/
theorem Caught.hold (c : Caught X pins σ H a cls d s) (hf : X.env.frame = some X.env.locals) : ∃ oe, s.heap.get? a = some oe ∧ Zc cls d oe ∧ (∃ vs, oe.data = .fields vs) ∧ Inv (X.suite a ((a, oe) :: (X.pn ++ pins))) [] σ H s := by
  obtain ⟨B, sI, I, nb, up, fl, os, ag⟩ := id c.ex
  obtain ⟨oe, vs, he, hz, hd⟩ := fl.there
  have away : a ∉ frs (X.env :: X.outer) := fun hm => by
    obtain ⟨_, o, eo, no⟩ := fl.2.2.1.mem hm
    rw [he, Option.some.injEq] at eo
    subst eo
    exact no _ hd
  have up1 : ∀ {L : Addr} {e : Env}, e ∈ X.env :: X.outer → e.frame = some L → a ≠ L := fun {L e} he hL z => away (List.mem_filterMap.mpr ⟨e, he, by rw [hL, z]⟩)
  refine ⟨oe, he, hz, ⟨vs, hd⟩, c.inv.suite he hd c.na (up1 List.mem_cons_self hf) fun hm => ?_⟩
  obtain ⟨e, he, hL⟩ := List.mem_filterMap.mp hm
  exact up1 (List.mem_cons_of_mem _ he) hL rfl
/-- its flight is let go once more -/
theorem Caught.calm {M : Model} {A : Around} {E : Value → Shared → Prop} {Q : Unit → Shared → Prop} (c : Caught X pins σ H a cls d s) (h : ∀ h', Caught X pins σ H a cls d { s with heap := h' } → Q () { s with heap := h' }) : wpAny M A (setFlight (.ref a) none) Q E s := by
  obtain ⟨B, sI, I, nb, up, fl, os, ag⟩ := c.ex
  exact HandSPX.lands_againZ fl fun h' fl' up' => h h' ⟨⟨B, sI, I, nb, up.trans up', fl', os, ag⟩, c.na⟩
theorem Caught.type (c : Caught X pins σ H a cls d s) {M : Model} : PySem.W.Looks M s.heap (typeOf (.ref a)) cls := by
  obtain ⟨B, sI, I, nb, up, fl, os, ag⟩ := c.ex
  obtain ⟨oe, vs, he, hz, hd⟩ := fl.there
  exact fun A Q E s' k q => wpAny_typeOf_ref (k _ _ he) (by rw [hz.1]; exact q)
/-- no clause is left -/
theorem Caught.on {D : Ends} {W : WX} (c : Caught X pins σ H a cls d s) (hs : X.stack = X.env :: X.outer) (hf : X.env.frame = some X.env.locals) (tk : Takes X W) (w : W cls d σ H) : wpAny (model X.prog X.w) X.A (handleBy (.ref a) X.env []) (SP X pins D) X.xe s := by
  obtain ⟨B, sI, I, nb, up, fl, os, ag⟩ := c.ex
  refine wpAny_handleBy_nil ?_
  unfold PySem.passOn
  have go : wpAny (model X.prog X.w) X.A (setFlight (.ref a) X.env.frame) (fun _ s4 => wpAny (model X.prog X.w) X.A (throw (.ref a) : Sem Flow) (SP X pins D) X.xe s4) X.xe s := by
    rw [hf]
    exact HandSPX.setFlight_upZ fl fun h4 hh up4 => wpAny_throw (tk _ _ ⟨a, B, sI, pins, σ, H, cls, d, rfl, I, nb, up.trans up4, .inr (.inr (hs ▸ hh)), c.na, os, ag, w⟩)
  obtain ⟨_, _, _, oe, vs, T, _, _, he, _, hd, h1, _⟩ := fl
  refine wpAny_bind (wpAny_field he hd h1 ?_)
  have ne : ¬ ((Value.ref T == Value.none) = true) := by simp
  rw [if_neg ne]
  first
    | exact wpAny_bind (wpAny_pure (wpAny_bind go))
    | exact wpAny_bind go
/-- a suite's end: its name goes where it has one -/
theorem sp_back {oe : Obj} {D : Ends} {f : Flow} {s' : Shared} (ok : X.Ok) (h : SP (X.suite a ((a, oe) :: (X.pn ++ pins))) [] D f s') : SP X pins D f s' := by
  cases f with
  | ret u => obtain ⟨v, σ', H', I, r, q⟩ := h; exact ⟨v, σ', H', I.unsuite ok, r, q⟩
  | next => obtain ⟨σ', H', I, q⟩ := h; exact ⟨σ', H', I.unsuite ok, q⟩
  | brk => obtain ⟨σ', H', I, q⟩ := h; exact ⟨σ', H', I.unsuite ok, q⟩
  | cont => obtain ⟨σ', H', I, q⟩ := h; exact ⟨σ', H', I.unsuite ok, q⟩
theorem sp_gone {oe : Obj} {D : Ends} {f : Flow} {s' : Shared} {i : Nat} {n : Str} {pos : Pos} (ok : X.Ok) (hN : X.N.Nodup) (hi : X.N[i]? = some n) (hl : X.env.kindOf n = some .local) (h : SP (X.suite a ((a, oe) :: (X.pn ++ pins))) [] (offE (some i) D) f s') :
    wpAny (model X.prog X.w) X.A (do bindName X.env n .none; unbindBehindTheSuite X.env n pos) (fun _ s7 => SP X pins D f s7) X.xe s' := by
  cases f with
  | ret u => obtain ⟨v, σ', H', I, r, q⟩ := h; exact gone_ok (I.unsuite ok) hN hi hl fun s7 J => ⟨v, _, H', J, r, q⟩
  | next => obtain ⟨σ', H', I, q⟩ := h; exact gone_ok (I.unsuite ok) hN hi hl fun s7 J => ⟨_, H', J, q⟩
  | brk => obtain ⟨σ', H', I, q⟩ := h; exact gone_ok (I.unsuite ok) hN hi hl fun s7 J => ⟨_, H', J, q⟩
  | cont => obtain ⟨σ', H', I, q⟩ := h; exact gone_ok (I.unsuite ok) hN hi hl fun s7 J => ⟨_, H', J, q⟩
/-- the class of a clause is looked up -/
theorem names_ld {x : Str} {c : Value} {np : Pos} (hc : Names X x c) {oe : Obj} {pn : List (Addr × Obj)} (S : Inv (X.suite a ((a, oe) :: pn)) [] σ H s) {Q : Value → Shared → Prop} {E : Value → Shared → Prop} (q : Q c s) :
    wpAny (model X.prog X.w) (X.A.mark (some (.ref a))) (eval (.Name x np) X.env) Q E s := by
  rcases hc with ⟨hg, hdb, hm | ⟨hm, hv, hn⟩⟩
  · exact ld_glob (X := X.suite a ((a, oe) :: pn)) S hg hm q hdb
  · exact ld_blt (X := X.suite a ((a, oe) :: pn)) S hg hm hv q hn hdb
theorem Caught.clauses {D : Ends} {W : WX} {hds : List ExceptHandler} {l : List (Value × Option Nat × (Addr → Value → Option Addr → TS))} (hh : HdsG X hds l) (hs : X.stack = X.env :: X.outer) (hf : X.env.frame = some X.env.locals) (hN : X.N.Nodup) (tk : Takes X W) (c : Caught X pins σ H a cls d s) :
    wGen X.K W D l cls d σ H → wpAny (model X.prog X.w) X.A (handleBy (.ref a) X.env hds) (SP X pins D) X.xe s := by
  have ok := c.inv.ok
  obtain ⟨oe, _, _, _, S⟩ := c.hold hf
  induction hh with
  | nil => exact c.on hs hf tk
  | cons hc hsu r ih =>
    rintro ⟨b, e, hy, hn⟩
    refine wpAny_handleBy_cons (codeAny_handlers_test (names_ld hc S ((PySem.W.exm_one c.inv.kIn c.type e).here ?_))) (fun z => nomatch z)
    cases b with
    | false => exact ih (hn rfl)
    | true =>
      refine codeAny_handlers_suite (c.calm fun h' c' => ?_)
      obtain ⟨oe', _, hz, hd, S'⟩ := c'.hold hf
      exact wpAny_mono ((hsu a oe' cls d _ hz hd).run [] _ _ H D S' (hy rfl a c.na)) (fun f s6 q => sp_back ok q) fun _ _ z => z.elim
  | consN hc hi hl hsu r ih =>
    rintro ⟨b, e, hy, hn⟩
    refine wpAny_handleBy_cons (codeAny_handlers_test (names_ld hc S ((PySem.W.exm_one c.inv.kIn c.type e).here ?_))) (fun z => nomatch z)
    cases b with
    | false => exact ih (hn rfl)
    | true =>
      refine codeAny_handlers_suite_as (c.calm fun h' c' => ?_)
      obtain ⟨oe', _, hz, hd, S'⟩ := c'.hold hf
      refine store_ok (X := X.suite a ((a, oe') :: (X.pn ++ pins))) (v := .ref a) S' hN hi (.inl hl) rfl (fun s5 S5 => ?_) (.inr hl)
      exact wpAny_mono ((hsu a oe' cls d _ hz hd).run [] s5 _ H _ S5 (hy rfl a c.na)) (fun f s6 q => sp_gone ok hN hi hl q) fun _ _ z => z.elim
theorem sp_try {pn' : List (Addr × Obj)} {xe : Value → Shared → Prop} {D : Ends} {f : Flow} {s' : Shared} (ok : X.Ok) (h : SP (X.tr (X.pn ++ pins) xe) pn' D f s') : SP X pins D f s' := by
  cases f with
  | ret u => obtain ⟨v, σ', H', I, r, q⟩ := h; exact ⟨v, σ', H', I.ofTry ok, r, q⟩
  | next => obtain ⟨σ', H', I, q⟩ := h; exact ⟨σ', H', I.ofTry ok, q⟩
  | brk => obtain ⟨σ', H', I, q⟩ := h; exact ⟨σ', H', I.ofTry ok, q⟩
  | cont => obtain ⟨σ', H', I, q⟩ := h; exact ⟨σ', H', I.ofTry ok, q⟩
end
section
variable {X : Cx} {body : List Stmt} {h₀ : ExceptHandler} {hds : List ExceptHandler} {l : List (Value × Option Nat × (Addr → Value → Option Addr → TS))} {pos : Pos} {tb : WX → TS} {Wout : WX}
/-- try with any clauses, with names or without -/
theorem ps_tryG (hs : X.stack = X.env :: X.outer) (hf : X.env.frame = some X.env.locals) (hN : X.N.Nodup) (tk : Takes X Wout)
    (hb : ∀ (W : WX) (pn : List (Addr × Obj)) (xe : Value → Shared → Prop), Takes (X.tr pn xe) W → PassesOwn (model X.prog X.w) X.A X.env xe → PSs (X.tr pn xe) body (tb W))
    (hh : HdsG X (h₀ :: hds) l) : PS X (.Try body (h₀ :: hds) [] [] pos) (fun D σ H => tb (wGen X.K Wout D l) D σ H) := by
  refine ⟨fun pins s σ H D I h => wpAny_Try_except (wpAny_mono ((hb (wGen X.K Wout D l) (X.pn ++ pins) _ ?_ PassesOwn.looking).run [] s σ H D (I.toTry _) h) (fun f s1 q => ?_) fun _ _ q => q)⟩
  · rintro u s' ⟨a, B, sI, pins', σ', H', cls, d, rfl, J, nb, up, sky, na, os, ag, w⟩
    have J' : Inv X pins σ' H' sI := J.ofTry I.ok
    refine Sky.land Zc.steady (by rw [I.ok.frames, hs]) hf (show Sky B (X.env :: X.outer) a (Zc cls d) X.env.locals s'.heap from hs ▸ sky) fun h3 fl up3 => ?_
    exact Caught.clauses hh hs hf hN tk ⟨⟨B, sI, J', nb, up.trans up3, fl, os, ag⟩, na⟩ w
  · have z := sp_try I.ok q
    cases f with
    | next => exact wpAny_execs_nil z
    | ret u => exact z
    | brk => exact z
    | cont => exact z
end

abbrev SuiteM := Addr → Addr → Option Addr → MS
structure Hd where
  tbl : List (Addr × Bool)
  oi : Option Nat
  ms : SuiteM
def onP (oi : Option Nat) (a : Addr) (τ : PSt) : PSt := match oi with | none => τ | some i => st τ i (some (.ref a))
def outP (oi : Option Nat) (τ : PSt) : PSt := match oi with | none => τ | some i => st τ i none
def loseO (od : Option Addr) (h : PH) : PH := match od with | none => h | some a => lose h a
def offP (oi : Option Nat) (od : Option Addr) (D : PEnds) : PEnds :=
  ⟨fun τ h => D.nx (outP oi τ) (loseO od h), fun p h => D.rt p (loseO od h), fun τ h => D.bk (outP oi τ) (loseO od h), fun τ h => D.ct (outP oi τ) (loseO od h)⟩
def mHds (w : PW) (D : PEnds) : List Hd → PW
  | [] => w
  | hd :: r => fun x τ h => ∃ b, (x.C, b) ∈ hd.tbl ∧
    (b = true → ∀ a, h a = none → (x.fs = none → hd.ms a x.C none (offP hd.oi none D) (onP hd.oi a τ) h) ∧
      ∀ ns vs dd, x.fs = some (ns, vs) → h dd = none → dd ≠ a → hd.ms a x.C (some dd) (offP hd.oi (some dd) D) (onP hd.oi a τ) (up h dd (.xd ns vs))) ∧
    (b = false → mHds w D r x τ h)
def mTry (mb : PW → MS) (l : List Hd) : PW → MS := fun w D τ h => mb (mHds w D l) D τ h
theorem lose_up {h : PH} {a : Addr} {o : PO} (e : h a = none) : lose (up h a o) a = h := by
  funext b
  by_cases hb : b = a
  · subst hb; rw [lose_same, e]
  · rw [lose_ne hb, up_ne hb]
theorem sub_loseO {od : Option Addr} {h : PH} : sub (loseO od h) h := by
  intro b o e
  cases od with
  | none => exact e
  | some a =>
    have e' : lose h a b = some o := e
    unfold lose at e'
    split at e'
    · cases e'
    · exact e'
inductive HdsX (X : Cx) : List ExceptHandler → List Hd → Prop
  | nil : HdsX X [] []
  | cons {x : Str} {c : Value} {b₀ : Stmt} {suite : List Stmt} {np pos' : Pos} {hds : List ExceptHandler} {tbl : List (Addr × Bool)} {ms : SuiteM} {l : List Hd} (hc : Names X x c) (ht : ∀ p ∈ tbl, PySem.W.exmOne X.K (.ref p.1) c = some p.2)
      (hsu : ∀ (a : Addr) (oe : Obj) (C : Addr) (d : Option Addr) (pn : List (Addr × Obj)), Zc (.ref C) d oe → (∃ vs, oe.data = .fields vs) → LSs (X.suite a ((a, oe) :: pn)) (b₀ :: suite) (ms a C d)) (r : HdsX X hds l) :
      HdsX X (.ExceptHandler (some (.Name x np)) none (b₀ :: suite) pos' :: hds) (⟨tbl, none, ms⟩ :: l)
  | consN {x n : Str} {i : Nat} {c : Value} {b₀ : Stmt} {suite : List Stmt} {np pos' : Pos} {hds : List ExceptHandler} {tbl : List (Addr × Bool)} {ms : SuiteM} {l : List Hd} (hc : Names X x c) (ht : ∀ p ∈ tbl, PySem.W.exmOne X.K (.ref p.1) c = some p.2) (hi : X.N[i]? = some n) (hln : X.env.kindOf n = some .local)
      (hsu : ∀ (a : Addr) (oe : Obj) (C : Addr) (d : Option Addr) (pn : List (Addr × Obj)), Zc (.ref C) d oe → (∃ vs, oe.data = .fields vs) → LSs (X.suite a ((a, oe) :: pn)) (b₀ :: suite) (ms a C d)) (r : HdsX X hds l) :
      HdsX X (.ExceptHandler (some (.Name x np)) (some n) (b₀ :: suite) pos' :: hds) (⟨tbl, some i, ms⟩ :: l)
theorem pss_ex {X : Cx} {ss : List Stmt} {cls : Value} {t : Addr → TS} (h : ∀ C, cls = .ref C → PSs X ss (t C)) : PSs X ss (fun D σ H => ∃ C, cls = .ref C ∧ t C D σ H) := ⟨fun pins s σ H D I ⟨C, e, q⟩ => (h C e).run pins s σ H D I q⟩
theorem off_ld {K : PySem.W.Frag} {H H1 : Hp} {h h2 : PH} {D' : PEnds} {D : Ends} {oi : Option Nat} {od : Option Addr} (l : LD K H h D' D) (g : Go H h H1 h2) : LD K H1 h2 (offP oi od D') (offE oi D) := by
  have ss : ∀ {σ : L2.St} {τ : PSt} {H2 : Hp} {i : Nat}, SimS K H2 σ τ → SimS K H2 (σ.set i none) (st τ i none) := fun {σ τ H2 i} s => SimS.wipe s [i]
  cases oi with
  | none => exact ⟨fun τ h3 σ H2 q m s sh => l.nx _ _ _ _ q (sub_go (g.trans m) sub_loseO) s (sh.less sub_loseO), fun p h3 v H2 q m r sh => l.rt _ _ _ _ q (sub_go (g.trans m) sub_loseO) r (sh.less sub_loseO),
      fun τ h3 σ H2 q m s sh => l.bk _ _ _ _ q (sub_go (g.trans m) sub_loseO) s (sh.less sub_loseO), fun τ h3 σ H2 q m s sh => l.ct _ _ _ _ q (sub_go (g.trans m) sub_loseO) s (sh.less sub_loseO)⟩
  | some i => exact ⟨fun τ h3 σ H2 q m s sh => l.nx _ _ _ _ q (sub_go (g.trans m) sub_loseO) (ss s) (sh.less sub_loseO), fun p h3 v H2 q m r sh => l.rt _ _ _ _ q (sub_go (g.trans m) sub_loseO) r (sh.less sub_loseO),
      fun τ h3 σ H2 q m s sh => l.bk _ _ _ _ q (sub_go (g.trans m) sub_loseO) (ss s) (sh.less sub_loseO), fun τ h3 σ H2 q m s sh => l.ct _ _ _ _ q (sub_go (g.trans m) sub_loseO) (ss s) (sh.less sub_loseO)⟩
/-- one clause -/
theorem hd_lx {K : PySem.W.Frag} {W : WX} {w : PW} {D' : PEnds} {D : Ends} {H : Hp} {h : PH} {hd : Hd} {r : List Hd} {c : Value} {l' : List (Value × Option Nat × (Addr → Value → Option Addr → TS))} (ht : ∀ p ∈ hd.tbl, PySem.W.exmOne K (.ref p.1) c = some p.2) (l : LD K H h D' D)
    (ih : LX K H h (mHds w D' r) (wGen K W D l')) : LX K H h (mHds w D' (hd :: r)) (wGen K W D ((c, hd.oi, fun a cls d D σ H => ∃ C, cls = .ref C ∧ upS K (hd.ms a C d) D σ H) :: l')) := by
  rintro x τ1 h1 cls d σ1 H1 ⟨b, hb, hy, hn⟩ g ⟨e, rx⟩ s sh
  subst e
  have onσ : ∀ a, SimS K H1 (onS hd.oi a σ1) (onP hd.oi a τ1) := fun a => by
    unfold onS onP
    cases hd.oi with
    | none => exact s
    | some i => exact s.set (rel_ref.mpr rfl)
  refine ⟨b, ht _ hb, fun e1 a na => ⟨x.C, rfl, ?_⟩, fun e1 => ih _ _ _ _ _ _ _ (hn e1) g ⟨rfl, rx⟩ s sh⟩
  obtain ⟨q0, q1⟩ := hy e1 a (sh.fresh na)
  rcases rx with ⟨e2, e3⟩ | ⟨dd, fs, ns, vs, e2, e3, e4, e5, e6, e7, e8⟩
  · subst e3
    exact ⟨_, h1, _, onσ a, sh, q0 e2, off_ld l g⟩
  · subst e3
    refine ⟨_, _, _, onσ a, ?_, q1 ns vs dd e2 e6 (fun z => by rw [z, na] at e5; cases e5), off_ld l (g.own e4)⟩
    intro b o q
    by_cases hb : b = dd
    · subst hb
      rw [up_same] at q; cases q
      exact ⟨_, e5, fs, rfl, e7, e8⟩
    · rw [up_ne hb] at q; exact sh b o q
theorem hds_up {X : Cx} {W : WX} {hds : List ExceptHandler} {l : List Hd} (hh : HdsX X hds l) : ∃ l', HdsG X hds l' ∧ ∀ (w : PW) (D' : PEnds) (D : Ends) (H : Hp) (h : PH), LD X.K H h D' D → LX X.K H h w W → LX X.K H h (mHds w D' l) (wGen X.K W D l') := by
  induction hh with
  | nil => exact ⟨[], .nil, fun w D' D H h _ lx => lx⟩
  | cons hc ht hsu r ih =>
    obtain ⟨l', hg, hl⟩ := ih
    exact ⟨_, .cons hc (fun a oe cls d pn hz hf => pss_ex fun C e => by subst e; exact hsu a oe C d pn hz hf) hg, fun w D' D H h ld lx => hd_lx (hd := ⟨_, none, _⟩) ht ld (hl w D' D H h ld lx)⟩
  | consN hc ht hi hln hsu r ih =>
    obtain ⟨l', hg, hl⟩ := ih
    exact ⟨_, .consN hc hi hln (fun a oe cls d pn hz hf => pss_ex fun C e => by subst e; exact hsu a oe C d pn hz hf) hg, fun w D' D H h ld lx => hd_lx (hd := ⟨_, some _, _⟩) ht ld (hl w D' D H h ld lx)⟩
section
variable {X : Cx} {W : WX} {body : List Stmt} {h₀ : ExceptHandler} {hds : List ExceptHandler} {l : List Hd} {pos : Pos} {mb : PW → MS}
theorem lsx_try (tk : Takes X W) (hN : X.N.Nodup) (hb : ∀ (W' : WX) (pn : List (Addr × Obj)) (xe : Value → Shared → Prop), Takes (X.tr pn xe) W' → PassesOwn (model X.prog X.w) X.A X.env xe → LSsX (X.tr pn xe) W' body mb)
    (hh : HdsX X (h₀ :: hds) l) (hs : X.stack = X.env :: X.outer := by rfl) (hf : X.env.frame = some X.env.locals := by rfl) : LSX X W (.Try body (h₀ :: hds) [] [] pos) (mTry mb l) := by
  obtain ⟨l', hg, hl⟩ := hds_up (W := W) hh
  exact PS.weak (ps_tryG hs hf hN tk (tb := fun W' => upSX X.K W' mb) hb hg) fun D σ H ⟨τ, h, D', w, s, sh, q, ld, lx⟩ => ⟨τ, h, D', _, s, sh, q, ld, hl w D' D H h ld lx⟩
/-- .. where nothing is let out -/
theorem ls_try (tk : Takes X W0) (hN : X.N.Nodup) (hb : ∀ (W' : WX) (pn : List (Addr × Obj)) (xe : Value → Shared → Prop), Takes (X.tr pn xe) W' → PassesOwn (model X.prog X.w) X.A X.env xe → LSsX (X.tr pn xe) W' body mb)
    (hh : HdsX X (h₀ :: hds) l) (hs : X.stack = X.env :: X.outer := by rfl) (hf : X.env.frame = some X.env.locals := by rfl) : LS X (.Try body (h₀ :: hds) [] [] pos) (mTry mb l w0) := ls_ofX (lsx_try tk hN hb hh hs hf)
theorem takes0 : Takes X W0 := takes_none5
end

/-! ### what was caught -/
/-- what a class must say, so that isinstance asks its instances rightly -/
structure ExcK (K : PySem.W.Frag) (D : Addr) : Prop where
  cl : (PySem.W.clsIn K D).isSome = true
  hg : PySem.W.findIn K (.ref D) "__getattribute__" = some (some (.builtin "BaseException.__getattribute__"))
  hk : PySem.W.findIn K (.ref D) "__getattr__" = some none
  hs : PySem.W.subIn K (.ref D) (.type "BaseException") = some true
  ha : PySem.W.findIn K (.ref D) "__class__" = some (some (.builtin "object.__class__"))
  hn : PySem.W.specialIn K (.builtin "object.__class__") "__get__" = some (some (.builtin "getset_descriptor.__get__"))
  ht : PySem.W.takesIn K (.builtin "object.__class__") = some true
  hm : PySem.W.mroIn K D (.type "object") = some true
def held (d : Option Addr) (h : PH) : Prop := match d with | none => True | some dd => ∃ ns vs, h dd = some (.xd ns vs)
def rIsE (a C : Addr) (d : Option Addr) (tbl : List (Addr × Bool)) (pv : PV) : PRA := fun ps h Q => match ps with
  | [.ref a', _] => a' = a ∧ held d h ∧ ∃ b, (C, b) ∈ tbl ∧ Q (.bl b) h
  | _ => False
def rIsEs (a C : Addr) (d : Option Addr) (tbl : List (Addr × Bool)) (pvs : List PV) : PRA := fun ps h Q => match ps with
  | [.ref a', _] => a' = a ∧ held d h ∧ ∃ b, (C, b) ∈ tbl ∧ Q (.bl b) h
  | _ => False
/-- what isinstance is asked by: the second thing is just so -/
def oIsE (K : PySem.W.Frag) (a C : Addr) (d : Option Addr) (cv : Value) : List V → Hp → VK → Prop := fun xs H Q => ∃ (c : V) (b : Bool), xs = [.ref a, c] ∧ (∀ u, RelV c u → u = cv) ∧ (∀ dd, d = some dd → ∃ fs, H dd = some (.xd fs)) ∧ ExcK K C ∧ PySem.W.kitOne K (.ref C) cv = some b ∧ Q (.bl b) H
def oIsEs (K : PySem.W.Frag) (a C : Addr) (d : Option Addr) (cvs : List Value) : List V → Hp → VK → Prop := fun xs H Q => ∃ (tp : Addr) (ys : List V) (b : Bool), xs = [.ref a, .ref tp] ∧ SqT K H tp ys ∧ (∀ us, Vals ys us → us = cvs) ∧ (∀ dd, d = some dd → ∃ fs, H dd = some (.xd fs)) ∧ ExcK K C ∧ PySem.W.kitAny K (.ref C) cvs = some b ∧ Q (.bl b) H
section
variable {X : Cx} {a C : Addr} {oe : Obj} {d : Option Addr} {pn : List (Addr × Obj)} {e : Expr} {pos p p2 : Pos} {m : ME} {tbl : List (Addr × Bool)}
theorem inst_held {s : Shared} {pins : List (Addr × Obj)} {σ : L2.St} {H : Hp} (I : Inv (X.suite a ((a, oe) :: pn)) pins σ H s) (hz : Zc (.ref C) d oe) (hf : ∃ vs, oe.data = .fields vs) (hd : ∀ dd, d = some dd → ∃ fs, H dd = some (.xd fs)) :
    ∃ od, PySem.W.InstAt s.heap a oe C od := by
  obtain ⟨hget, _⟩ := I.pin (a, oe) (List.mem_append.mpr (.inl List.mem_cons_self))
  obtain ⟨vs, hv⟩ := hf
  obtain ⟨oc, od, oda, osl⟩ := oe
  obtain ⟨h1, h2⟩ := hz
  dsimp only at h1 h2 hv
  subst h1 h2 hv
  cases od with
  | none => exact ⟨none, hget, rfl, rfl, trivial⟩
  | some dd =>
    obtain ⟨fs, ho⟩ := hd dd rfl
    obtain ⟨_, ⟨o, _, _, e, _⟩, _⟩ := I.hok dd _ ho
    exact ⟨some o, hget, rfl, rfl, e⟩
theorem call_isK {cv : Value} (hz : Zc (.ref C) d oe) (hf : ∃ vs, oe.data = .fields vs) : CallR (X.suite a ((a, oe) :: pn)) (.builtin "isinstance") (oIsE X.K a C d cv) := by
  intro pins s σ H xs us Q I r h
  obtain ⟨c, b, rfl, hcv, hd, T, e, q⟩ := h
  cases r with
  | cons rx rr =>
    cases rr with
    | cons rt rr =>
      cases rr
      cases rx
      have ec := hcv _ rt
      subst ec
      obtain ⟨od, J⟩ := inst_held I hz hf hd
      exact PySem.W.kia_one (PySem.W.kitx_exc T.cl T.hg T.hk T.hs T.ha T.hn T.ht T.hm) I.kIn J e (fun z => nomatch z) fun tk => ⟨.bl b, H, I.kept (t' := tk) fun _ _ z => z, rfl, q⟩
theorem call_isKs {cvs : List Value} (hz : Zc (.ref C) d oe) (hf : ∃ vs, oe.data = .fields vs) : CallR (X.suite a ((a, oe) :: pn)) (.builtin "isinstance") (oIsEs X.K a C d cvs) := by
  intro pins s σ H xs us Q I r h
  obtain ⟨tp, ys, b, rfl, ht, hcv, hd, T, e, q⟩ := h
  cases r with
  | cons rx rr =>
    cases rr with
    | cons rt rr =>
      cases rr
      cases rx
      cases rt
      obtain ⟨od, J⟩ := inst_held I hz hf hd
      obtain ⟨its, ri, ⟨o, ho, hcls, n, hdat⟩, _⟩ := I.tuple ht
      have ei := hcv _ ri
      subst ei
      obtain ⟨oc, odd, oda, osl⟩ := o
      dsimp only at hcls hdat
      subst hcls hdat
      exact PySem.W.kia_tup (PySem.W.kitx_exc T.cl T.hg T.hk T.hs T.ha T.hn T.ht T.hm) I.kIn J ho e (fun z => nomatch z) fun tk => ⟨.bl b, H, I.kept (t' := tk) fun _ _ z => z, rfl, q⟩
theorem held_up {K : PySem.W.Frag} {H : Hp} {h : PH} (hh : held d h) (s : Sim K H h) : ∀ dd, d = some dd → ∃ fs, H dd = some (.xd fs) := by
  intro dd e
  subst e
  obtain ⟨ns, vs, e1⟩ := hh
  obtain ⟨u, e2, fs, rfl, _⟩ := s dd _ e1
  exact ⟨fs, e2⟩
/-- a class in an expression: an own one, a built-in one -/
inductive ClsV (X : Cx) : Expr → PV → Value → Prop
  | own {x : Str} {T : Addr} {p : Pos} (hm : X.mg x = some (.ref T)) (hg : Gl X x) (hd : (x == ("__debug__" : Str)) = false) : ClsV X (.Name x p) (.ref T) (.ref T)
  | blt {x : Str} {n : String} {p : Pos} (hm : X.mg x = none) (hb : bootBuiltins x = some (.type n)) (hg : Gl X x) (hn : x ≠ "__name__") (hd : (x == ("__debug__" : Str)) = false) : ClsV X (.Name x p) (.ty n) (.type n)
theorem ClsV.le {X : Cx} {e : Expr} {pv : PV} {cv : Value} (h : ClsV X e pv cv) : LE X e (mC pv) := by
  cases h with
  | own hm hg hd => exact le_c (pe_glob (v := .ref _) hg hm rfl hd) fun _ => rel_ref.mpr rfl
  | blt hm hb hg hn hd => exact le_c (pe_bltn (v := .ty _) hg hm hb rfl hn hd) fun _ => by simp only [Rel]
theorem ClsV.rel {X : Cx} {e : Expr} {pv : PV} {cv : Value} (h : ClsV X e pv cv) {K : PySem.W.Frag} {H : Hp} {v : V} (r : Rel K H pv v) (u : Value) (ru : RelV v u) : u = cv := by
  cases h with
  | own hm hg hd => rw [rel_ref.mp r] at ru; exact ru
  | blt hm hb hg hn hd =>
    simp only [Rel] at r
    subst r
    exact ru
def mIsE (a C : Addr) (d : Option Addr) (tbl : List (Addr × Bool)) (pv : PV) (m : ME) : ME := mBlt (fun ps h Q => (match ps with | [_, pv'] => pv' = pv | _ => False) ∧ rIsE a C d tbl pv ps h Q) (mCons m (mCons (mC pv) mNil))
/-- isinstance(e, T) -/
theorem le_isE {te : Expr} {pv : PV} {cv : Value} (hz : Zc (.ref C) d oe) (hf : ∃ vs, oe.data = .fields vs) (hm : X.mg "isinstance" = none) (ht : ∀ q ∈ tbl, ExcK X.K q.1 ∧ PySem.W.kitOne X.K (.ref q.1) cv = some q.2) (hT : ClsV (X.suite a ((a, oe) :: pn)) te pv cv) (he : LE (X.suite a ((a, oe) :: pn)) e m)
    (hg : Gl X "isinstance" := by rfl) (h1 : starEach [e, te] X.env = (false, eval e X.env) :: starEach [te] X.env := by rfl) (h2 : starEach [te] X.env = (false, eval te X.env) :: starEach [] X.env := by rfl)
    (h3 : (backTo pos (starEach [te] X.env)).any (·.1) = false := by rfl) : LE (X.suite a ((a, oe) :: pn)) (.Call (.Name "isinstance" p) [e, te] [] pos) (mIsE a C d tbl pv m) := by
  refine le_blt (r' := fun ps h Q => (match ps with | [_, pv'] => pv' = pv | _ => False) ∧ rIsE a C d tbl pv ps h Q) (X := X.suite a ((a, oe) :: pn)) (call_isK (cv := cv) hz hf) ?_ hm (la_cons he (la_cons hT.le la_nil h2) h1) hg (by decide +kernel) (by decide) (by decide) h1 h3
  rintro xs H ps h Q' Q rp s ⟨r0, r⟩ l
  unfold rIsE at r
  split at r
  · rename_i a' pv'
    obtain ⟨rfl, hh, b, hb, q⟩ := r
    obtain ⟨v, w, rfl, r1, r2⟩ := rp.two
    have e0 : pv' = pv := r0
    subst e0
    obtain ⟨T, e⟩ := ht _ hb
    exact ⟨w, b, by rw [rel_ref.mp r1], fun u ru => hT.rel r2 u ru, held_up hh s, T, e, l _ _ _ _ q .refl (by simp only [Rel]) s⟩
  · exact r.elim
/-- classes in a displayed tuple -/
inductive ClsVs (X : Cx) : List Expr → List PV → List Value → Prop
  | nil : ClsVs X [] [] []
  | cons {e : Expr} {es : List Expr} {pv : PV} {pvs : List PV} {cv : Value} {cvs : List Value} (h : ClsV X e pv cv) (r : ClsVs X es pvs cvs) (hs : starEach (e :: es) X.env = (false, eval e X.env) :: starEach es X.env := by rfl) : ClsVs X (e :: es) (pv :: pvs) (cv :: cvs)
def mCs : List PV → MA
  | [] => mNil
  | p :: r => mCons (mC p) (mCs r)
theorem ClsVs.le {X : Cx} {es : List Expr} {pvs : List PV} {cvs : List Value} (h : ClsVs X es pvs cvs) : LAn X es pvs.length (mCs pvs) := by
  induction h with
  | nil => exact la_nil
  | cons h r hs ih => exact la_cons h.le ih hs
theorem ClsVs.rel {X : Cx} {es : List Expr} {pvs : List PV} {cvs : List Value} (h : ClsVs X es pvs cvs) {K : PySem.W.Frag} {H : Hp} : ∀ {ys : List V}, Rels K H pvs ys → ∀ us, Vals ys us → us = cvs := by
  induction h with
  | nil =>
    intro ys r us ru
    rw [r.len0] at ru
    cases ru; rfl
  | cons h r0 hs ih =>
    intro ys r us ru
    obtain ⟨v, vs, rfl, r1, r2⟩ := r.uncons
    cases ru with
    | cons ra rb => rw [h.rel r1 _ ra, ih r2 _ rb]
def mIsEs (a C : Addr) (d : Option Addr) (tbl : List (Addr × Bool)) (pvs : List PV) (m : ME) : ME := mBlt (fun ps h Q => (match ps with | [_, pv'] => pv' = .tup pvs | _ => False) ∧ rIsE a C d tbl (.tup pvs) ps h Q) (mCons m (mCons (mTup (mCs pvs)) mNil))
/-- isinstance(e, (T, ..)) -/
theorem le_isEs {tes : List Expr} {pvs : List PV} {cvs : List Value} {x1} (hz : Zc (.ref C) d oe) (hf : ∃ vs, oe.data = .fields vs) (hm : X.mg "isinstance" = none) (ht : ∀ q ∈ tbl, ExcK X.K q.1 ∧ PySem.W.kitAny X.K (.ref q.1) cvs = some q.2) (hT : ClsVs (X.suite a ((a, oe) :: pn)) tes pvs cvs) (he : LE (X.suite a ((a, oe) :: pn)) e m) (hl : pvs.length ≤ 1000 := by decide)
    (hg : Gl X "isinstance" := by rfl) (h1 : starEach [e, .Tuple tes x1 p2] X.env = (false, eval e X.env) :: starEach [.Tuple tes x1 p2] X.env := by rfl) (h2 : starEach [.Tuple tes x1 p2] X.env = (false, eval (.Tuple tes x1 p2) X.env) :: starEach [] X.env := by rfl)
    (h3 : (backTo pos (starEach [.Tuple tes x1 p2] X.env)).any (·.1) = false := by rfl) : LE (X.suite a ((a, oe) :: pn)) (.Call (.Name "isinstance" p) [e, .Tuple tes x1 p2] [] pos) (mIsEs a C d tbl pvs m) := by
  refine le_blt (r' := fun ps h Q => (match ps with | [_, pv'] => pv' = .tup pvs | _ => False) ∧ rIsE a C d tbl (.tup pvs) ps h Q) (X := X.suite a ((a, oe) :: pn)) (call_isKs (cvs := cvs) hz hf) ?_ hm (la_cons he (la_cons (le_tup hT.le hl) la_nil h2) h1) hg (by decide +kernel) (by decide) (by decide) h1 h3
  rintro xs H ps h Q' Q rp s ⟨r0, r⟩ l
  unfold rIsE at r
  split at r
  · rename_i a' pv'
    obtain ⟨rfl, hh, b, hb, q⟩ := r
    obtain ⟨v, w, rfl, r1, r2⟩ := rp.two
    have e0 : pv' = .tup pvs := r0
    subst e0
    obtain ⟨tp, ys, rfl, ht2, rys⟩ := rel_tup.mp r2
    obtain ⟨T, e⟩ := ht _ hb
    exact ⟨tp, ys, b, by rw [rel_ref.mp r1], ht2, hT.rel rys, held_up hh s, T, e, l _ _ _ _ q .refl (by simp only [Rel]) s⟩
  · exact r.elim
/-- e.f of what was caught -/
def mXf (a C : Addr) (d : Option Addr) (f : Str) (cs : List Addr) (m : ME) : ME := fun τ h Q => m τ h fun p h1 => p = .ref a ∧ C ∈ cs ∧ match d with
  | some dd => (match h1 dd with
    | some (.xd ns vs) => (match fG f ns vs with | some v => Q v h1 | none => False)
    | _ => False)
  | none => False
theorem le_xf {n : Str} (hz : Zc (.ref C) d oe) (hf : ∃ vs, oe.data = .fields vs) {cs : List Addr} (T : ∀ D ∈ cs, XfC X.K D ∧ PySem.W.findIn X.K (.ref D) n = some none) (he : LE (X.suite a ((a, oe) :: pn)) e m) (hb : attributeBase e n X.env (eval e X.env) = eval e X.env := by rfl) :
    LE (X.suite a ((a, oe) :: pn)) (.Attribute e n pos) (mXf a C d n cs m) := by
  cases d with
  | none => exact ⟨fun pins s σ H Q I ⟨τ, h, Q', ss, sh, q, l⟩ => attr_of hb (thn (he.run pins s σ H (fun _ _ => False) I ⟨τ, h, _, ss, sh, q, fun p h1 v H1 q1 _ _ _ => q1.2.2.elim⟩) fun u s1 ⟨_, _, _, _, z⟩ => z.elim)⟩
  | some dd =>
    by_cases hC : C ∈ cs
    case neg => exact ⟨fun pins s σ H Q I ⟨τ, h, Q', ss, sh, q, l⟩ => attr_of hb (thn (he.run pins s σ H (fun _ _ => False) I ⟨τ, h, _, ss, sh, q, fun p h1 v H1 q1 _ _ _ => hC q1.2.1⟩) fun u s1 ⟨_, _, _, _, z⟩ => z.elim)⟩
    obtain ⟨T1, T2⟩ := T C hC
    refine PE.weak (pe_xf T1 T2 hz hf he hb) fun σ H Q ⟨τ, h, Q', s, sh, q, l⟩ => ?_
    refine ⟨τ, h, _, s, sh, q, fun p h1 v H1 q1 g1 r1 s1 => ?_⟩
    obtain ⟨rfl, _, q1⟩ := q1
    simp only at q1
    split at q1
    · rename_i ns vs e1
      split at q1
      · rename_i w ew
        obtain ⟨u, e2, fs, rfl, rfl, rr⟩ := s1 dd _ e1
        obtain ⟨y, ey, ry⟩ := fG_get rr ew
        exact ⟨rel_ref.mp r1, rfl, dd, fs, y, rfl, e2, ey, l _ _ _ _ q1 g1 ry s1⟩
      · exact q1.elim
    · exact q1.elim
end
end N3

/-! isinstance of an own class; == and != by an own __eq__ -/
namespace N3
open PySem PySem.Spec PyProof.Rows L2

/-- what of the text a class must have so that isinstance sees its instances -/
structure IsC (K : PySem.W.Frag) (C : Addr) : Prop where
  cl : Cls K C
  cd : ∃ cd, PySem.W.clsIn K C = some cd
  ty : PySem.W.typeIn K (.ref C) = some (.type "type")
  ha : PySem.W.findIn K (.ref C) "__class__" = some (some (.builtin "object.__class__"))
  hn : PySem.W.specialIn K (.builtin "object.__class__") "__get__" = some (some (.builtin "getset_descriptor.__get__"))
  ht : PySem.W.takesIn K (.builtin "object.__class__") = some true
  hm : PySem.W.mroIn K C (.type "object") = some true
def insC (h : PH) : PV → Option Addr
  | .ref a => match h a with | some (.ins D _ _) => some D | _ => none
  | _ => none
/-- whether a value is an instance of the class at C (where all classes of objects that may come here are this one) -/
def isO (C : Addr) (h : PH) (p : PV) : Option Bool := match insC h p with
  | some D => if D = C then some true else none
  | none => (tn h p).map fun _ => false
theorem tn_sub (K : PySem.W.Frag) (C : Addr) : ∀ t : Tn, PySem.W.subIn K (.type t.name) (.ref C) = some false := by
  intro t
  cases t <;> kernel_rfl
theorem isO_ty {K : PySem.W.Frag} {H : Hp} {h : PH} {C : Addr} {p : PV} {v : V} {b : Bool} (T : IsC K C) (r : Rel K H p v) (s : Sim K H h) (e : isO C h p = some b) : ∃ t, TyX K H v t ∧ PySem.W.kitOne K t (.ref C) = some b ∧ PySem.W.notFirst K C t = true := by
  unfold isO at e
  split at e
  · rename_i D hD
    split at e
    · rename_i hDC
      subst hDC
      cases e
      unfold insC at hD
      split at hD
      · rename_i a
        split at hD
        · rename_i D' ns vs ha
          cases hD
          obtain ⟨u, e1, dx, fs, rfl, _⟩ := s a _ ha
          rw [rel_ref.mp r]
          exact ⟨_, .base (.ins e1 T.cl T.ha T.hn T.ht T.hm), by unfold PySem.W.kitOne; rw [if_pos (beq_self_eq_true _)], by unfold PySem.W.notFirst; rw [beq_self_eq_true, Bool.true_or]⟩
        · cases hD
      · cases hD
    · cases e
  · obtain ⟨t, et, eb⟩ := Option.map_eq_some_iff.mp e
    subst eb
    have hs := tn_sub K C t
    refine ⟨_, tn_ty r s et, ?_, ?_⟩
    · obtain ⟨cd, hc⟩ := T.cd
      unfold PySem.W.kitOne PySem.W.kitCls
      have nb : ¬ ((Value.type t.name == Value.ref C) = true) := fun z => Value.noConfusion (beq_iff_eq.mp z)
      rw [if_neg nb]
      simp [hc, T.ty, hs]
    · unfold PySem.W.notFirst
      rw [hs, beq_self_eq_true, Bool.or_true]
def rIsO (C : Addr) : PRA := fun ps h Q => match ps with
  | [p, .ref D] => D = C ∧ (match isO C h p with | some b => Q (.bl b) h | none => False)
  | _ => False
section
variable {X : Cx} {pos p p2 : Pos} {e : Expr} {m : ME} {C : Addr}
theorem le_isO {x : Str} (T : IsC X.K C) (hm : X.mg "isinstance" = none) (hx : X.mg x = some (.ref C)) (he : LE X e m) (hg : Gl X "isinstance" := by rfl) (hgx : Gl X x := by rfl) (hd : (x == ("__debug__" : Str)) = false := by decide)
    (h1 : starEach [e, .Name x p2] X.env = (false, eval e X.env) :: starEach [.Name x p2] X.env := by rfl) (h2 : starEach [.Name x p2] X.env = (false, eval (.Name x p2) X.env) :: starEach [] X.env := by rfl)
    (h3 : (backTo pos (starEach [.Name x p2] X.env)).any (·.1) = false := by rfl) : LE X (.Call (.Name "isinstance" p) [e, .Name x p2] [] pos) (mBlt (rIsO C) (mCons m (mCons (mC (.ref C)) mNil))) := by
  have ht : LE X (.Name x p2) (mC (.ref C)) := le_c (pe_glob (v := .ref C) hgx hx rfl hd) fun _ => rel_ref.mpr rfl
  refine le_blt (r' := rIsO C) (call_isi (X := X)) ?_ hm (la_cons he (la_cons ht la_nil h2) h1) hg (by decide +kernel) (by decide) (by decide) h1 h3
  intro xs H ps h Q' Q rp s r l
  unfold rIsO at r
  split at r
  · rename_i q D
    obtain ⟨rfl, r⟩ := r
    obtain ⟨v, w, rfl, r1, r2⟩ := rp.two
    rw [rel_ref.mp r2]
    split at r
    · rename_i b eb
      obtain ⟨t, ty, k, _⟩ := isO_ty T r1 s eb
      exact ⟨v, .ref D, t, .ref D, b, rfl, .own D, ty, k, l _ _ _ _ r .refl (rel_bl.mpr rfl) s⟩
    · exact r.elim
  · exact r.elim
end

/-! ### an own __eq__ -/
abbrev pat2 : Pat := ⟨2, [], [0, 1], []⟩
def rEqO (neg : Bool) (C : Addr) (sp : SpP) : PR2 := fun p q h Q => insC h p = some C ∧ (isO C h q).isSome = true ∧ sp [p, q] h fun v h1 => match v with | .bl b => Q (.bl (b != neg)) h1 | _ => False
def oEqO (K : PySem.W.Frag) (neg : Bool) (C : Addr) (sp : SpP) : R2 := fun x y H Q => ∃ p q h Q', Rel K H p x ∧ Rel K H q y ∧ Sim K H h ∧ rEqO neg C sp p q h Q' ∧ LQ K H h Q' Q
theorem lf_eqO {K : PySem.W.Frag} {neg : Bool} {C : Addr} {sp : SpP} : Lf2 K (oEqO K neg C sp) (rEqO neg C sp) := fun x y H p q h Q' Q rp rq s r l => ⟨p, q, h, Q', rp, rq, s, r, l⟩
section
variable {X : Cx} {C : Addr} {k : Nat} {ps : List Str} {sp : SpP} {pats : List Pat}
theorem eq_call {f : Addr} {fd : FuncData} {A : Around} {neg : Bool} {pins : List (Addr × Obj)} {σ : L2.St} {H : Hp} {h : PH} {s : Shared} {Q : VK} {Q' : N3.PK} {p q : PV} {x y : V} {u v : Value} (F : FnC X.prog X.w X.K X.mg X.base k f fd ps sp pats) (hb : pat2 ∈ pats) (hr : Room k A) (hG : A.guards = some []) (hfr : A.frames = X.A.frames)
    (I : Inv X pins σ H s) (rp : Rel X.K H p x) (rq : Rel X.K H q y) (ru : RelV x u) (rv : RelV y v) (sh : Sim X.K H h) (r : sp [p, q] h fun v h1 => match v with | .bl b => Q' (.bl (b != neg)) h1 | _ => False) (l : LQ X.K H h Q' Q) :
    wpAny (model X.prog X.w) A (call (.ref f) [u, v]) (fun r s' => ∃ b, r = .bool b ∧ EP X pins σ Q (.bool (b != neg)) s') X.xe s := by
  obtain ⟨mv, dv, rmv, rd, to⟩ := (F.b _ hb).ex
  have hl := (F.b _ hb).len [p, q] rfl
  have em : mv = [] := by
    have e1 := (rd H).length
    have e2 := rmv.length
    have : mv.length = 0 := by rw [← e2, ← e1]; rfl
    exact List.eq_nil_of_length_eq_zero this
  subst em
  have e0 : Env0 X.prog X.w X.K X.mg X.base A X.stack s H := by
    have e := I.env0
    exact ⟨by rw [hfr]; exact e.frames, e.mod, e.bs, e.bsz, e.funs, e.frf, e.hok, e.bare⟩
  have R : Vals [x, y] [u, v] := .cons ru (.cons rv .nil)
  refine wpAny_call (codeAny_mono (F.g.run A X.stack s H ⟨[u, v], []⟩ [u, v] [x, y] (fun z H1 => ∃ b, z = .bl b ∧ Q (.bl (b != neg)) H1) hr hG e0 (to s [u, v] [] I.kIn rfl rfl) R ⟨[p, q], h, _, hl, .cons rp (.cons rq .nil), sh, r, ?_⟩) fun r s' hq => ?_)
  · intro p1 h1 v1 H1 q1 g1 r1 s1
    cases p1 with
    | bl b => exact ⟨b, rel_bl.mp r1, l _ _ _ _ q1 g1 (rel_bl.mpr rfl) s1⟩
    | _ => exact q1.elim
  · cases r with
    | error e => exact False.elim hq
    | ok fl =>
      cases fl with
      | ret w =>
        obtain ⟨z, H', I', rz, b, ez, ex⟩ := I.after hq
        subst ez
        cases rz
        exact ⟨b, rfl, .bl (b != neg), H', I', rfl, ex⟩
      | _ => exact False.elim hq
theorem ins_look {pins : List (Addr × Obj)} {σ : L2.St} {H : Hp} {h : PH} {s : Shared} {p : PV} {x : V} {u : Value} (I : Inv X pins σ H s) (rp : Rel X.K H p x) (ru : RelV x u) (sh : Sim X.K H h) (e : insC h p = some C) : ∃ a ox od, u = .ref a ∧ PySem.W.InstAt s.heap a ox C od := by
  unfold insC at e
  split at e
  · rename_i a
    split at e
    · rename_i D ns vs ha
      cases e
      obtain ⟨w, e1, dx, fs, rfl, _⟩ := sh a _ ha
      rw [rel_ref.mp rp] at ru
      obtain ⟨mA, J, _⟩ := ins_get I.hok e1
      obtain ⟨od, J, _⟩ := J.look
      exact ⟨a, _, _, ru, J⟩
    · cases e
  · cases e
theorem op_eqO (T : IsC X.K C) (c : FnM X.prog X.w X.K X.mg X.base k C "__eq__" ps sp pats) {kk : Nat} (hr : Room kk X.A) (hj : k ≤ kk) (hG : X.A.guards = some []) (hb : pat2 ∈ pats) : OpR X (compareOp .Eq) (oEqO X.K false C sp) := by
  intro pins s σ H x y v u Q I rx ry hq
  obtain ⟨p, q, h, Q', rp, rq, sh, ⟨hi, ho, r⟩, l⟩ := hq
  obtain ⟨f, fd, hM, F⟩ := c.ex
  obtain ⟨a, ox, od, rfl, J⟩ := ins_look I rp rx sh hi
  obtain ⟨b, eb⟩ := Option.isSome_iff_exists.mp ho
  obtain ⟨t, ty, _, nf⟩ := isO_ty T rq sh eb
  obtain ⟨P, Z, hp, _⟩ := kit_of I ry ty
  obtain ⟨m, hF⟩ := I.fr
  show wpAny (model X.prog X.w) X.A (richCompare .Eq (.ref a) u) (EP X pins σ Q) X.xe s
  refine PySem.W.cmp_K (op := .Eq) (tb := t) (by have := hu1 hr; omega) hF I.ok.mod.kin J (Z.ty _ _ I.kIn hp) nf hM.at_ hM.fn ?_
  refine wpAny_mono (eq_call (neg := false) (A := X.A) F hb (hr.mono hj) hG rfl I rp rq rx ry sh r l) (fun w s' z => ?_) fun _ _ z => z
  obtain ⟨b, rfl, z⟩ := z
  have : (b != false) = b := by cases b <;> rfl
  rw [this] at z
  exact z
/-- object.__ne__: the own __eq__ is asked, its answer turned -/
theorem ne_K {f : Addr} {A : Around} {pins : List (Addr × Obj)} {σ : L2.St} {H : Hp} {s : Shared} {a : Addr} {v : Value} {ox : Obj} {od : Option Obj} {tb : Value} {Q : Value → Shared → Prop} (hu : A.units + 1 < cLine) (I : Inv X pins σ H s) (J : PySem.W.InstAt s.heap a ox C od) (hm : PySem.W.mroIn X.K C (.type "object") = some true)
    (hb : PySem.W.Looks (model X.prog X.w) s.heap (typeOf v) tb) (nf : PySem.W.notFirst X.K C tb = true) (hn : PySem.W.findIn X.K (.ref C) "__ne__" = some (some (.builtin "object.__ne__"))) (hs : PySem.W.findIn X.K (.ref C) "__eq__" = some (some (.ref f))) (hf : PySem.W.isFn X.K (.ref f) = true)
    (h : wpAny (model X.prog X.w) A.in1 (call (.ref f) [.ref a, v]) (fun r s' => ∃ b, r = .bool b ∧ Q (.bool (!b)) s') X.xe s) : wpAny (model X.prog X.w) A (richCompare .NotEq (.ref a) v) Q X.xe s := by
  have K := I.kIn
  have L0 := J.type (M := model X.prog X.w)
  have sub : PySem.W.Looks (model X.prog X.w) s.heap (isInstance (.ref a) (.type "object")) true := L0.andThen (PySem.W.looks_mroIn K hm)
  have body : ∀ {Q : Fin → Shared → Prop}, wpAny (model X.prog X.w) A.in1 (call (.ref f) [.ref a, v]) (fun r s' => ∃ b, r = .bool b ∧ Q (.done (.ret (.bool (!b)))) s') X.xe s → wpAny (model X.prog X.w) A.in1 (Builtin.«object.__ne__» ⟨[.ref a, v], []⟩) Q X.xe s := by
    intro Q hq
    obtain ⟨hp, g, d, t, os⟩ := s
    unfold Builtin.«object.__ne__»
    repeat (first
      | with_reducible refine wpAny_cRoomFor (by show A.units + 1 < cLine; exact hu) ?_
      | (refine wpAny_bind (m := callSpecialIfBound? (.ref a) (Str.ofString "__eq__") [v]) (PySem.W.ifBound_K K J hs hf (wpAny_mono hq (fun r s' hr => ?_) fun _ _ e => e))
         obtain ⟨b, rfl, hr⟩ := hr
         repeat (first | exact hr | exact wpAny_pure hr | exact wpAny_truthy_bool hr | (refine wpAny_bind (m := truthy (.bool _)) (wpAny_truthy_bool ?_)) | wp_step))
      | wp_step)
  have one : wpAny (model X.prog X.w) A (tryCompare (.ref a) "__ne__" v) (fun r s' => ∃ w, r = some w ∧ Q w s') X.xe s := by
    unfold tryCompare
    refine wpAny_bind ?_
    simp only [callSpecialIfBound?, bindSpecialIfBound?]
    refine wpAny_holding (wpAny_bind (wpAny_bind (wpAny_bind (L0.here ((PySem.W.looks_findIn K hn).here ?_)))))
    simp only [F.cmp_object.ne.bind]
    have go : wpAny (model X.prog X.w) A (call (.builtin "object.__ne__") [.ref a, v]) (fun w s' => ∃ b, w = .bool b ∧ Q (.bool b) s') X.xe s := by
      refine wpAny_call (codeAny_call_builtin F.cmp_object.ne.plain F.cmpEntry_ne ?_)
      refine @PySem.W.check_slot (model X.prog X.w) _ _ s "object.__ne__" "object" "__ne__" (.ref a) [v] [] _ F.cmpKind_ne F.cmpSplit_ne sub (F.cmpArgs_ne _ _) ?_
      exact body (wpAny_mono h (fun r s' ⟨b, e, q⟩ => ⟨b, e, !b, rfl, q⟩) fun _ _ z => z)
    have fin : ∀ {P : Option Value → Shared → Prop}, (∀ b s', Q (.bool b) s' → P (some (.bool b)) s') → wpAny (model X.prog X.w) A (call (.builtin "object.__ne__") ([.ref a] ++ [v]) >>= fun v => pure (some v)) P X.xe s := fun hP => wpAny_bind (wpAny_mono go (fun w s' ⟨b, e, q⟩ => by subst e; exact wpAny_pure (hP b s' q)) fun _ _ z => z)
    have out : ∀ b s', Q (.bool b) s' → wpAny (model X.prog X.w) A (match (some (Value.bool b) : Option Value) with | some .notImplemented | none => pure none | some v => pure (some v)) (fun r s' => ∃ w, r = some w ∧ Q w s') X.xe s' := fun b s' q => wpAny_pure ⟨_, rfl, q⟩
    refine wpAny_bind (wpAny_askSetting (wpAny_ite ?_))
    split
    · exact wpAny_bind (wpAny_pure (wpAny_pure (fin out)))
    · exact wpAny_tryCatch (wpAny_bind (wpAny_pure (wpAny_pure (fin out))))
  unfold richCompare
  simp only [oneThing_ref]
  refine wpAny_holding (wpAny_bind (wpAny_cRoomFor (by omega) ?_))
  refine wpAny_bind (L0.here (wpAny_bind (hb.here ?_)))
  have fin : wpAny (model X.prog X.w) A (tryCompare (.ref a) "__ne__" v >>= fun r => match r with | some w => pure w | none => pure .none) Q X.xe s := wpAny_bind (wpAny_mono one (fun r s' ⟨w, e, q⟩ => by subst e; exact wpAny_pure q) fun _ _ z => z)
  split
  · rename_i q
    have e : PySem.W.subIn X.K tb (.ref C) = some false := by
      unfold PySem.W.notFirst at nf
      rcases Bool.or_eq_true_iff.mp nf with z | z
      · rw [beq_iff_eq.mp z] at q
        simp at q
      · exact beq_iff_eq.mp z
    refine wpAny_bind ((PySem.W.looks_subIn K e).here ?_)
    simp only [Bool.false_eq_true, if_false]
    exact wpAny_bind (wpAny_mono one (fun r s' ⟨w, e, q⟩ => by subst e; exact wpAny_pure q) fun _ _ z => z)
  · refine wpAny_bind (wpAny_pure ?_)
    simp only [Bool.false_eq_true, if_false]
    exact wpAny_bind (wpAny_mono one (fun r s' ⟨w, e, q⟩ => by subst e; exact wpAny_pure q) fun _ _ z => z)
theorem op_neO (T : IsC X.K C) (c : FnM X.prog X.w X.K X.mg X.base k C "__eq__" ps sp pats) (hn : PySem.W.findIn X.K (.ref C) "__ne__" = some (some (.builtin "object.__ne__"))) {kk : Nat} (hr : Room kk X.A) (hj : k + 1 ≤ kk) (hG : X.A.guards = some []) (hb : pat2 ∈ pats) : OpR X (compareOp .NotEq) (oEqO X.K true C sp) := by
  intro pins s σ H x y v u Q I rx ry hq
  obtain ⟨p, q, h, Q', rp, rq, sh, ⟨hi, ho, r⟩, l⟩ := hq
  obtain ⟨f, fd, hM, F⟩ := c.ex
  obtain ⟨a, ox, od, rfl, J⟩ := ins_look I rp rx sh hi
  obtain ⟨b, eb⟩ := Option.isSome_iff_exists.mp ho
  obtain ⟨t, ty, _, nf⟩ := isO_ty T rq sh eb
  obtain ⟨P, Z, hp, _⟩ := kit_of I ry ty
  show wpAny (model X.prog X.w) X.A (richCompare .NotEq (.ref a) u) (EP X pins σ Q) X.xe s
  refine ne_K (by have := hu1 hr; omega) I J T.hm (Z.ty _ _ I.kIn hp) nf hn hM.at_ hM.fn ?_
  refine wpAny_mono (eq_call (neg := true) (A := X.A.in1) F hb ((hr.mono hj).in1) hG rfl I rp rq rx ry sh r l) (fun w s' z => ?_) fun _ _ z => z
  obtain ⟨b, rfl, z⟩ := z
  have : (b != true) = !b := by cases b <;> rfl
  rw [this] at z
  exact ⟨b, rfl, z⟩
end
/-! ### range downwards -/
def rngD (lo : Int) (n : Nat) : List PV := (List.range n).map fun i => .int (lo + (i : Nat) * (-1))
theorem rngD_wk {K : PySem.W.Frag} {lo : Int} {n : Nat} {H1 : Hp} (hn : n ≤ SZ) : Wk K (Itc lo (-1) n) (rngD lo n) (fun _ => True) H1 := by
  have hl : (rngD lo n).length = n := by unfold rngD; rw [List.length_map, List.length_range]
  refine ⟨by rw [hl]; exact sz_le hn, fun i H h hi _ _ _ => (by rw [hl] at hi; exact hi), fun H h _ _ _ => (by rw [hl]; exact Nat.le_refl n), fun i H h y H' p hp _ sh' _ hy => ?_⟩
  obtain ⟨rfl, rfl⟩ := hy
  unfold rngD at hp
  rw [List.getElem?_map] at hp
  obtain ⟨j, e, e2⟩ := Option.map_eq_some_iff.mp hp
  obtain ⟨hj, ej⟩ := List.getElem?_eq_some_iff.mp e
  rw [List.getElem_range] at ej
  subst ej e2
  exact ⟨.refl, sh', rel_int.mpr rfl⟩
def mRng3 (m : MA) : MI := fun τ h Q => m τ h fun ps h1 => match ps with
  | [.int i, .int j, .int c] => (c = -1 ∧ -16777216 ≤ i ∧ i ≤ 16777216 ∧ -16777216 ≤ j ∧ j ≤ 16777216 ∧ i - j ≤ 16777216) ∧ Q (rngD i (i - j).toNat) (fun _ => True) h1
  | _ => False
theorem li_rng3 {X : Cx} {tg a b c : Expr} {p pos : Pos} {m : MA} (hm : X.mg "range" = none) (ha : LAn X [a, b, c] 3 m) (hg : Gl X "range" := by rfl) (hs : starEach [a, b, c] X.env = (false, eval a X.env) :: starEach [b, c] X.env := by rfl) (hpl : (backTo pos (starEach [b, c] X.env)).any (·.1) = false := by rfl) :
    LI X tg (.Call (.Name "range" p) [a, b, c] [] pos) (mRng3 m) := by
  refine PI.weak (pi_range3 hg hm ha hs hpl) fun σ H R ⟨τ, h, Q', s, sh, q, l⟩ => ?_
  refine ⟨τ, h, _, s, sh, q, fun ps h1 vs H1 q1 hl g1 r1 s1 => ?_⟩
  split at q1
  · rename_i i j c
    obtain ⟨⟨rfl, b1, b2, b3, b4, b5⟩, q1⟩ := q1
    obtain ⟨v, vs1, rfl, r2, r3⟩ := r1.uncons
    obtain ⟨v2, v3, rfl, r4, r5⟩ := r3.two
    have e1 := rel_int.mp r2
    have e2 := rel_int.mp r4
    have e3 := rel_int.mp r5
    subst e1 e2 e3
    exact ⟨i, j, -1, (i - j).toNat, rfl, RgC.neg (by omega) (by omega) (by omega) (by omega), l _ _ _ _ _ q1 g1 s1 (rngD_wk (by show _ ≤ 16777216; omega))⟩
  · exact q1.elim
/-! ### a, *b = tuple -/
/-- what the parts of `a, *b, c = tuple` are -/
theorem star_partsT {prog : Program} {w : World} {A : Around} {E : Value → Shared → Prop} {s : Shared} {l : Addr} {its : Array Value} {n i : Nat} {Q : List Value → Shared → Prop} (hl : IsTup s.heap l its) (hh : A.handled = none) (hi : i < n) (hn : n ≤ its.size + 1) (hz : its.size ≤ sizeLine)
    (k : ∀ (g : Heap) (tk : Nat), (∀ b o, s.heap.get? b = some o → g.get? b = some o) → Q (its.toList.take i ++ [.ref g.objs.size] ++ (its.toList.drop i).drop (its.size + 1 - n)) { s with heap := g.push { cls := .type "list", data := .seq ((its.toList.drop i).take (its.size + 1 - n)).toArray }, toks := tk }) :
    wpAny (model prog w) A (unpackItems (.ref l) n (some i)) Q E s := by
  have far : l < s.heap.objs.size := let ⟨_, ho, _⟩ := hl; Heap.lt_size ho
  have ne : l ≠ s.heap.objs.size := Nat.ne_of_lt far
  unfold unpackItems notIterableAtAll
  refine wpAny_bind (wpAny_bind (wpAny_specialOf hl.typeIs slot_tuple_iter.lookup (wpAny_pure ?_)))
  simp only [Bool.false_eq_true, if_false]
  refine wpAny_bind (wpAny_holding (iter_tuple hl (wpAny_bind (wpAny_holding (draw_tuple ne i 0 _ _ ⟨_, Heap.get?_push_size _ rfl, rfl, rfl⟩ (hl.push _) (by omega) fun g1 at1 sm => ?_)))))
  have hl1 : IsTup g1 l its := (hl.push _).extBut sm.extBut ne
  rw [Nat.zero_add] at at1
  have la : s.heap.objs.size < g1.objs.size := let ⟨_, ho, _⟩ := id at1; Heap.lt_size ho
  have lb : l < g1.objs.size := let ⟨_, ho, _⟩ := id hl1; Heap.lt_size ho
  rw [List.drop_zero]
  have f1 : (its.toList.take i).length = i := by rw [List.length_take, Array.length_toList]; omega
  have f2 : (its.toList.drop i).length = its.size - i := by rw [List.length_drop, Array.length_toList]
  have f3 : (its.toList.drop i).length - (n - 1 - i) = its.size + 1 - n := by rw [f2]; omega
  rw [if_neg (by rw [f1]; omega)]
  refine wpAny_bind (wpAny_holding (PySem.W.kun_collect (s := { s with heap := g1 }) (T := "tuple_iterator") (.inr (.inr (.inr rfl))) (Walks.tuple (A := A.in1) hh s.heap.objs.size l ne its) (fun _ _ st => st.1.typeIs) (k := i) (by omega) ⟨at1, hl1⟩ la lb (fun g2 tk kp => ?_) hz))
  dsimp only
  rw [if_neg (by rw [f2]; omega), f3]
  refine wpAny_bind (wpAny_newList (wpAny_pure ?_))
  have old : ∀ b o, s.heap.get? b = some o → g2.get? b = some o := fun b o e => kp b o (Nat.ne_of_lt (Heap.lt_size e)) (sm.extBut b o (Nat.ne_of_lt (Heap.lt_size e)) (Heap.get?_push_of_some _ e))
  exact k g2 tk old
def gStrT (K : PySem.W.Frag) (n i : Nat) (t : TGs) : TG := fun v σ H Q => ∃ a xs, v = .ref a ∧ SqT K H a xs ∧ n ≤ xs.length + 1 ∧
  ∀ D o, H D = none → t (xs.take i ++ [.ref D] ++ (xs.drop i).drop (xs.length + 1 - n)) σ (upd H D (.frz o (.lst ((xs.drop i).take (xs.length + 1 - n))))) Q
section
variable {X : Cx} {pos : Pos} {es : List Expr} {vs : List Nat}
theorem pg_strT {k : Nat} {t : TGs} {n i : Nat} (hc : X.calm = true) (h : PGs X es t) (hn : (assignEach es X.env).length = n := by rfl) (hst : (assignEach es X.env).findIdx? (·.1) = some i := by rfl) (hi : i < n := by decide) : PG X (.Tuple es k pos) (gStrT X.K n i t) := by
  refine ⟨fun pins s σ H v u Q I r hw => ?_⟩
  obtain ⟨a, xs, rfl, hq, hl, hw⟩ := hw
  cases r
  obtain ⟨its, rv, pl, hz⟩ := I.tuple hq
  have ll := rv.length
  rw [PyProof.Rows.assign_Tuple]; refine wpAny_bind (wpAny_standAt ?_)
  unfold unpack; rw [hn, hst]
  refine wpAny_bind (wpAny_holding (star_partsT pl (I.ok.hd hc) hi (by simp; omega) (by simp; omega) fun g tk old => ?_))
  have I1 : Inv X pins σ H { s with heap := g } := I.kept (t' := s.toks) old
  have e : its.toArray.toList = its := rfl
  have ez : its.toArray.size = xs.length := by simp [ll]
  rw [e, ez]
  have I2 : Inv X pins σ (upd H g.objs.size (.lst ((xs.drop i).take (xs.length + 1 - n)))) { s with heap := g.push { cls := .type "list", data := .seq ((its.drop i).take (xs.length + 1 - n)).toArray }, toks := tk } :=
    I1.laid (a := g.objs.size) (t' := tk) (fun b o z => Heap.get?_push_of_some _ z) (Nat.le_refl _) ⟨by rw [List.length_take, List.length_drop]; omega, _, _, (rv.drop i).take _, Heap.get?_push_size _ rfl⟩
  obtain ⟨o, I3⟩ := Inv.keep I2 upd_same trivial
  rw [upd_upd] at I3
  have q := hw g.objs.size o (I1.hok.fresh (Nat.le_refl _))
  refine h.run pins _ σ _ _ _ Q I3 ?_ q
  exact ((rv.take i).append (Paired.cons (show RelV (.ref g.objs.size) (.ref g.objs.size) from rfl) .nil)).append ((rv.drop i).drop _)
/-- a, *b, c = tuple -/
def gSt (n i : Nat) (g : MGs) : MG := fun p τ h Q => match p with
  | .tup ps => n ≤ ps.length + 1 ∧ g (ps.take i ++ [.lst ((ps.drop i).take (ps.length + 1 - n))] ++ (ps.drop i).drop (ps.length + 1 - n)) τ h Q
  | _ => False
theorem lg_strT {k : Nat} {g : MGs} {n i : Nat} (hc : X.calm = true) (h : LGs X es vs g) (hn : (assignEach es X.env).length = n := by rfl) (hst : (assignEach es X.env).findIdx? (·.1) = some i := by rfl) (hi : i < n := by decide) : LG X (.Tuple es k pos) vs (gSt n i g) := by
  refine PG.weak (pg_strT hc h hn hst hi) fun v σ H Q ⟨p, τ, h, Q', r, s, sh, q, l⟩ => ?_
  unfold gSt at q
  split at q
  · rename_i ps
    obtain ⟨a, xs, rfl, sq, rr⟩ := rel_tup.mp r
    have ll := rr.length
    have q2 := q.2
    rw [ll] at q2
    refine ⟨a, xs, rfl, sq, by rw [← ll]; exact q.1, fun D o hD => ?_⟩
    have m : Mono H (upd H D (.frz o (.lst ((xs.drop i).take (xs.length + 1 - n))))) := Mono.new hD
    refine ⟨_, τ, h, Q', ?_, s.mono m, sh.new hD, q2, fun τ1 h1 σ1 H1 q1 g1 s1 sh1 w1 => l τ1 h1 σ1 H1 q1 (Go.trans (.new hD) g1) s1 sh1 w1⟩
    refine Rels.append (Rels.append ((rr.take i).mono m) (.cons ?_ .nil)) (((rr.drop i).drop _).mono m)
    simp only [Rel]
    exact ⟨D, _, rfl, .inl ⟨o, upd_same⟩, ((rr.drop i).take _).mono m⟩
  · exact q.elim
end
end N3

/-! list comprehensions whose step may raise (by a call of an own def) -/
namespace N3
open PySem PySem.Spec PyProof.Rows L2

/-- what flies in from a call is taken -/
def TakesF (X : Cx) (W : WX) : Prop := ∀ (u : Value) (s' : Shared), XE X W u s' → (∃ B a Z, u = .ref a ∧ HandSPX.FlyingZ B X.stack a Z s'.heap) → X.xe u s'
theorem takesF {X : Cx} {W : WX} (t : Takes X W) : TakesF X W := fun u s' x _ => t u s' x
theorem sky_fly {B B' h : Heap} {l : List Env} {a L : Addr} {Z Z' : Obj → Prop} (sk : Sky B l a Z L h) (fl : HandSPX.FlyingZ B' l a Z' h) : HandSPX.FlyingZ B l a Z h := by
  obtain ⟨_, _, _, oe, vs, T, oT, ts, he, _, hd, h1, _, _, hT, hdT, h3⟩ := fl
  rcases sk with ⟨_, _, _, oe', vs', he', _, hd', h1'⟩ | f | ⟨_, _, _, oe', vs', T', oT', ts', he', _, hd', h1', _, _, hT', hdT', h3'⟩
  · rw [he] at he'; cases he'
    rw [hd] at hd'; cases hd'
    rw [h1] at h1'; cases h1'
  · exact f
  · rw [he] at he'; cases he'
    rw [hd] at hd'; cases hd'
    rw [h1] at h1'; cases h1'
    rw [hT] at hT'; cases hT'
    rw [hdT] at hdT'; cases hdT'
    rw [h3] at h3'
    simp [rawInt] at h3'
section
variable {X : Cx} {W : WX} {k : Nat} {f : Addr} {fd : FuncData} {ps : List Str} {sp : SpX} {pats : List Pat} {b : Pat} {x : Str} {p pos : Pos} {e : Expr} {es : List Expr} {kws : List Keyword} {m mk : MA}
theorem call_cF {pins : List (Addr × Obj)} {σ : L2.St} {τ : PSt} {H : Hp} {s : Shared} {Q : VK} {us ws : List Value} {vs zs : List V} {h : PH} {qs rs : List PV} {Q' : N3.PK} {w : PW} (tk : TakesF X W) (F : FnCX X.prog X.w X.K X.mg X.base k f fd ps sp pats) (hb : b ∈ pats) (hr : Room k X.A) (hG : X.A.guards = some [])
    (I : Inv X pins σ H s) (r1 : Vals vs us) (r2 : Vals zs ws) (rr1 : Rels X.K H qs vs) (rr2 : Rels X.K H rs zs) (sh : Sim X.K H h) (ss : SimS X.K H σ τ) (l1 : us.length = b.n) (l2 : ws.length = b.ks.length) (q : sp (pick b.π (qs ++ rs ++ b.ds)) h Q' fun x h3 => w x τ h3) (l : LQ X.K H h Q' Q) (lx : LX X.K H h w W) :
    wpAny (model X.prog X.w) X.A (call (.ref f) us (b.ks.zip ws)) (EP X pins σ Q) X.xe s := by
  obtain ⟨mv, dv, rv, rd, to⟩ := (F.b b hb).ex
  have R : Vals (pick b.π (vs ++ zs ++ dv)) (pick b.π (us ++ ws ++ mv)) := Vals.pick ((r1.append r2).append rv) b.π
  have RR : Rels X.K H (pick b.π (qs ++ rs ++ b.ds)) (pick b.π (vs ++ zs ++ dv)) := Rels.pick ((rr1.append rr2).append (rd H)) b.π
  have hl : (pick b.π (qs ++ rs ++ b.ds)).length = ps.length := (F.b b hb).len _ (by
    rw [List.length_append, List.length_append, rr1.length, rr2.length, r1.length, r2.length, l1, l2])
  refine wpAny_call (codeAny_mono (F.g.run X.A X.stack s H ⟨us, b.ks.zip ws⟩ _ _ Q (fun cls d H' => W cls d σ H') hr hG I.env0 (to s us ws I.kIn l1 l2) R ⟨_, h, Q', _, hl, RR, sh, q, l, lx.at ss⟩) fun r s' hq => ?_)
  cases r with
  | error e =>
    refine tk e s' (XE.of_call I (fun _ _ _ h => h) hq) ?_
    obtain ⟨a, B, H', cls, d, rfl, fl, _⟩ := hq
    exact ⟨B, a, _, rfl, fl⟩
  | ok fl =>
    cases fl with
    | ret u => exact I.after hq
    | _ => exact False.elim hq
theorem lx_fnPF (tk : TakesF X W) (c : FnPX X.prog X.w X.K X.mg X.base k x ps sp pats) {j n m' : Nat} (hb : pats[j]? = some b) {kk : Nat} (hr : Room kk X.A) (hj : k ≤ kk) (hG : X.A.guards = some []) (ha : LAn X (e :: es) n m) (hkw : LKn X kws m' mk) (hn : n = b.n := by rfl) (hm : m' = b.ks.length := by rfl) (hg : Gl X x := by rfl)
    (hall : (backToKw pos (keywordEach kws X.env)).all (·.1.isSome) = true := by rfl) (hks : (backToKw pos (keywordEach kws X.env)).filterMap (·.1) = b.ks := by rfl) (hdb : (x == ("__debug__" : Str)) = false := by decide)
    (he : starEach (e :: es) X.env = (false, eval e X.env) :: starEach es X.env := by rfl) (hpl : ((backTo pos (starEach (e :: es) X.env)).any (·.1) || (backToKw pos (keywordEach kws X.env)).any (·.1.isNone)) = false := by rfl) :
    LEX X W (.Call (.Name x p) (e :: es) kws pos) (mCallX sp b m mk) := by
  obtain ⟨f, fd, at_, F⟩ := c.ex
  have hbm : b ∈ pats := List.mem_of_getElem? hb
  refine ⟨fun pins s σ H Q I ⟨τ, h, Q', wx, ss, sh, q, l, lx⟩ => ?_⟩
  refine wpAny_Call_Name_kw (ld_glob I hg at_ ?_ hdb)
  refine PySem.W.callWith_KW (h₀ := X.base) I.ok.mod.kin F.kp hall (thn (ha.run pos pins s σ H (fun vs H2 => ∃ qs h2, vs.length = n ∧ Rels X.K H2 qs vs ∧ Go H h H2 h2 ∧ Sim X.K H2 h2 ∧ mk τ h2 fun rs h3 => sp (pick b.π (qs ++ rs ++ b.ds)) h3 Q' fun x h4 => wx x τ h4) I
    ⟨τ, h, _, ss, sh, q, fun qs h2 vs H2 q2 hl g2 r2 s2 => ⟨qs, h2, by rw [← r2.length, hl], r2, g2, s2, q2⟩⟩) fun us s2 ⟨vs, H2, I2, r2, qs, h2, lv, rq, g2, sh2, q2⟩ => ?_) hpl he
  refine thn (hkw.run pos pins s2 σ H2 (fun zs H3 => ∃ rs h3, zs.length = m' ∧ Rels X.K H3 rs zs ∧ Go H2 h2 H3 h3 ∧ Sim X.K H3 h3 ∧ sp (pick b.π (qs ++ rs ++ b.ds)) h3 Q' fun x h4 => wx x τ h4) I2
    ⟨τ, h2, _, ss.mono g2.mono, sh2, q2, fun rs h3 zs H3 q3 hz g3 r3 s3 => ⟨rs, h3, by rw [← r3.length, hz], r3, g3, s3, q3⟩⟩) fun ws s3 ⟨zs, H3, I3, r3, rs, h3, lz, rz, g3, sh3, q3⟩ => ⟨I3.kIn, ?_⟩
  rw [hks]
  have gg := g2.trans g3
  exact call_cF tk F hbm (hr.mono hj) hG I3 r2 r3 (rq.mono g3.mono) rz sh3 (ss.mono gg.mono) (by show us.length = _; rw [← r2.length, lv, hn]) (by rw [← r3.length, lz, hm]) q3 (l.mono gg) (lx.mono gg)
end

/-! ### the block's names let go -/
theorem noteFrame_env {cenv env : Env} (e : Value) (h : cenv.frame = env.frame) : noteFrame e cenv = noteFrame e env := by
  unfold noteFrame PySem.frameOf
  rw [h]
theorem ns_slots {h h' : Heap} {C : Addr} {m : Str → Option Value} (hn : h.Ns C m) (up : h.UpToSlots h') : h'.Ns C m := by
  obtain ⟨oL, es, ep, hoL, hdL, r⟩ := hn
  obtain ⟨sl, e⟩ := up C oL hoL fun vs q => by rw [hdL] at q; cases q
  exact ⟨_, es, ep, e, hdL, r⟩
/-- the flight survives that the block's names are let go -/
theorem held_but {B h h' : Heap} {l : List Env} {a L C : Addr} {Z : Obj → Prop} {m : Str → Option Value} {o' : Obj} (f : HandSPX.HeldZ B l a Z L h) (hn : h.Ns C m) (hn' : h'.get? C = some o') (hd' : ∀ vs, o'.data ≠ .fields vs) (sb : Heap.SameBut C h h')
    {oC : Obj} (hC : B.get? C = some oC) (fr : o'.isFreed = false) : HandSPX.HeldZ (B.update C fun _ => o') l a Z L h' := by
  obtain ⟨f1, f2, f3, oe, vs, T, oT, ts, he, hz, hd, h1, hnT, hTe, hT, hdT, h3⟩ := f
  obtain ⟨oL, es, ep, hoL, hdL, r⟩ := hn
  have up0 : (B.update C fun _ => o').get? C = some o' := Heap.get?_update_self _ hC fr
  have upn : ∀ b, b ≠ C → (B.update C fun _ => o').get? b = B.get? b := fun b hb => Heap.get?_update_other _ _ (Ne.symm hb)
  have ne1 : a ≠ C := fun z => by rw [z, hoL] at he; cases he; rw [hdL] at hd; cases hd
  have ne2 : T ≠ C := fun z => by rw [z, hoL] at hT; cases hT; rw [hdL] at hdT; cases hdT
  refine ⟨fun b o e => ?_, by rw [upn _ ne1]; exact f2, ?_, oe, vs, T, oT, ts, (sb.2 a ne1).trans he, hz, hd, h1, by rw [upn _ ne2]; exact hnT, hTe, (sb.2 T ne2).trans hT, hdT, h3⟩
  · by_cases hb : b = C
    · subst hb; rw [up0] at e; cases e; exact hn'
    · rw [upn b hb] at e; exact (sb.2 b hb).trans (f1 b o e)
  · revert f3
    clear hz
    induction l with
    | nil => exact fun _ => trivial
    | cons env r ih =>
      rintro ⟨k, ⟨L', o, e1, e2, e3, e4⟩, f⟩
      have hb : L' ≠ C := fun z => by rw [z, hC] at e2; cases e2
      exact ⟨k, ⟨L', o, e1, by rw [upn _ hb]; exact e2, (sb.2 _ hb).trans e3, e4⟩, ih f⟩
end N3

/-! list comprehensions whose step may raise: the machine, the readings -/
namespace N3
open PySem PySem.Spec PyProof.Rows L2

abbrev blkX (X : Cx) (s : Shared) (H : Hp) (scope : Scope) (cenv : Env) (fp : List Addr) (xe : Value → Shared → Prop) : Cx := { X.blk s H scope cenv fp with xe := xe }
section
variable {X : Cx} {pos : Pos}
theorem lc_coreX {W : WX} {pins : List (Addr × Obj)} {s : Shared} {σ : L2.St} {H : Hp} {Q : VK} {elt tg iter : Expr} {ifs : List Expr} {scope : Scope} {own : List (Str × Nat)} {wi : TI} {g : TG} {tt : TT} {te : TE}
    (hst : X.stack = X.env :: X.outer) (hf : X.env.frame = some X.env.locals) (tk : Takes X W)
    (hc : X.calm = true) (hN : X.N.Nodup) (I : Inv X pins σ H s) (hi : PI X tg iter wi) (ok : BlkOk X.N X.env.scope scope own)
    (hg : ∀ (s : Shared) (H : Hp) (C : Addr) (cl : List (Str × Addr)) (fp : List Addr) (xe : Value → Shared → Prop), PG (blkX X s H scope (compEnvC scope cl C X.env) fp xe) tg g) (ht : ∀ (s : Shared) (H : Hp) (C : Addr) (cl : List (Str × Addr)) (fp : List Addr) (xe : Value → Shared → Prop), PTs (blkX X s H scope (compEnvC scope cl C X.env) fp xe) ifs tt)
    (he : ∀ (s : Shared) (H : Hp) (C : Addr) (cl : List (Str × Addr)) (fp : List Addr) (xe : Value → Shared → Prop), TakesF (blkX X s H scope (compEnvC scope cl C X.env) fp xe) (fun cls d _ H' => W cls d σ H') → PE (blkX X s H scope (compEnvC scope cl C X.env) fp xe) elt te) (hs : ∀ x, foldedSetIterable iter X.env x = pure x)
    (h : tLc wi g tt te (own.map (·.2)) σ H Q) :
    wpAny (model X.prog X.w) X.A (eval (.ListComp elt [⟨tg, iter, ifs, 0⟩] scope pos) X.env) (EP X pins σ Q) X.xe s := by
  rw [eval_ListComp]
  have hfree : ∀ y ∈ scope.names, y.2 = .free → ∃ c, X.env.cells.lookup y.1 = some c := fun y hy e => by
    rcases ok.free y hy e with k | k
    · exact I.ok.has _ (.inl k)
    · exact I.ok.has _ (.inr k)
  refine comprehension_at (use := none) rfl hs (closure_ok hfree) ok.kind (fun y hy e => by rw [ok.uniq y hy, e])
    (thn (hi.run pins s σ H _ I h) fun xv s1 hx => thn hx fun itv s2 h2 => ?_)
  obtain ⟨it, fp, tn, J, H2, e, I2, T, st2, f2, q⟩ := h2
  subst e
  refine wpAny_newObj_type (newEnv_comp ?_) (by show 0 ≤ sizeLine; decide)
  generalize hD : s2.heap.objs.size = D
  have hDn : H2 D = none := I2.hok.fresh (Nat.le_of_eq hD)
  obtain ⟨W', ⟨m0, w0⟩, turn⟩ := q D hDn
  generalize hs3 : ({ s2 with heap := s2.heap.push { cls := .type "list", data := .seq ([] : List Value).toArray } } : Shared) = s3
  have I3 : Inv X pins σ (upd H2 D (.lst [])) s3 := by
    rw [← hs3]
    refine I2.laid (t' := s2.toks) (fun b o e => Heap.get?_push_of_some _ e) (Nat.le_of_eq hD) ⟨Nat.zero_le _, [], 0, .nil, ?_⟩
    rw [← hD]
    exact Heap.get?_push_size _ rfl
  have h3 : s3.heap = s2.heap.push { cls := .type "list", data := .seq ([] : List Value).toArray } := by rw [← hs3]
  have sz : ∀ b ∈ fp, b < s2.heap.objs.size := fun b hb => by
    obtain ⟨o, e, _⟩ := T.obj _ _ st2 b hb
    exact Heap.lt_size e
  have f3 : ∀ b ∈ fp, FpOk X pins (upd H2 D (.lst [])) b ∧ b < s3.heap.objs.size := fun b hb => by
    have hlt := sz b hb
    refine ⟨⟨?_, (f2 b hb).2⟩, by rw [h3, Heap.size_push]; exact Nat.lt_succ_of_lt hlt⟩
    rw [upd_ne (by rw [← hD]; exact Nat.ne_of_lt hlt)]
    exact (f2 b hb).1
  have st3 : tn 0 s3.heap := T.keep _ _ _ st2 fun b _ o e => by rw [h3]; exact Heap.get?_push_of_some _ e
  have I4 := block_start I3 ok hN f3
  have pg := hg s3 (upd H2 D (.lst [])) s3.heap.objs.size (cellsFrom (s3.heap.objs.size + 1) scope.names (cloFrom X.env.cells scope.names [])) fp
  have pt := ht s3 (upd H2 D (.lst [])) s3.heap.objs.size (cellsFrom (s3.heap.objs.size + 1) scope.names (cloFrom X.env.cells scope.names [])) fp
  have pe := he s3 (upd H2 D (.lst [])) s3.heap.objs.size (cellsFrom (s3.heap.objs.size + 1) scope.names (cloFrom X.env.cells scope.names [])) fp
  show codeAny _ _ (.compStart (.ListComp elt [⟨tg, iter, ifs, 0⟩] scope pos) 0 (.ref it) (.ref D) (compEnvC scope (cellsFrom (s3.heap.objs.size + 1) scope.names (cloFrom X.env.cells scope.names [])) s3.heap.objs.size X.env)) (compEnds (model X.prog X.w) X.A X.xe none (EP X pins σ Q) (.ref D) (compEnvC scope (cellsFrom (s3.heap.objs.size + 1) scope.names (cloFrom X.env.cells scope.names [])) s3.heap.objs.size X.env)) { s3 with heap := pushCells (s3.heap.push { cls := .type "dict", data := .dict #[] }) scope.names }
  have nfp : ∀ b ∈ fp, (upd H2 D (.lst [])) b = none := fun b hb => (f3 b hb).1.1
  generalize hce : compEnvC scope (cellsFrom (s3.heap.objs.size + 1) scope.names (cloFrom X.env.cells scope.names [])) s3.heap.objs.size X.env = ce at I4 pg pt pe ⊢
  have cL : ce.locals = s3.heap.objs.size := by subst hce; rfl
  have cF : ce.frame = X.env.frame := by subst hce; rfl
  generalize hH3 : upd H2 D (.lst []) = H3 at I3 I4 pg pt pe w0 nfp f3
  generalize hs4 : ({ s3 with heap := pushCells (s3.heap.push { cls := .type "dict", data := .dict #[] }) scope.names } : Shared) = s4 at I4 ⊢
  generalize hxe : (notedBy (model X.prog X.w) X.A ce fun e s' => compEnds (model X.prog X.w) X.A X.xe none (EP X pins σ Q) (.ref D) ce (.error e) s') = xe0
  have I4 : Inv (blkX X s3 H3 scope ce fp xe0) [] (wipe σ (own.map (·.2))) H3 s4 := I4.wish xe0
  have st4 : tn 0 s4.heap := T.keep _ _ _ st3 fun b _ o e => by rw [← hs4]; exact pushCells_keeps _ _ _ _ (Heap.get?_push_of_some _ e)
  have stat : ∀ {σ' : L2.St} {H' : Hp} {s' : Shared}, Inv (blkX X s3 H3 scope ce fp xe0) [] σ' H' s' → (∀ b ∈ fp, H' b = none) → ∀ b ∈ fp, FpOk (blkX X s3 H3 scope ce fp xe0) [] H' b := fun {σ' H' s'} I' hn b hb =>
    ⟨hn b hb, (I'.ok.exf b hb).1, I'.ok.exfs b hb, .inl hb, fun x c e => (I'.ok.exf b hb).2 x c e, fun p hp => absurd (show p ∈ ([] : List (Addr × Obj)) ++ [] from hp) (by simp)⟩
  -- back in the def's context
  have back : ∀ {pins' : List (Addr × Obj)} {σ' : L2.St} {H' : Hp} {s' : Shared}, Inv (blkX X s3 H3 scope ce fp xe0) pins' σ' H' s' → Inv X pins σ H' s' := fun {pins' σ' H' s'} I6 =>
    I3.call' (ch := fp) I6.os I6.base I6.hok I6.bare fun b hb => ⟨(f3 b hb).1.2.2.2.1, (f3 b hb).1.2.1, (f3 b hb).1.2.2.2.2.1, (f3 b hb).1.2.2.2.2.2⟩
  have fpC : ∀ {pins' : List (Addr × Obj)} {σ' : L2.St} {H' : Hp} {s' : Shared}, Inv (blkX X s3 H3 scope ce fp xe0) pins' σ' H' s' → FpOk X pins H' ce.locals := fun {pins' σ' H' s'} I6 => by
    rw [cL]
    refine I3.fpOk (Nat.le_refl _) ?_
    have z : H' ce.locals = none := I6.free
    rw [cL] at z
    exact z
  have frC : ce.locals ∉ frs X.stack := fun hb => by
    obtain ⟨_, o, ho, _⟩ := I3.stack.mem hb
    have := Heap.lt_size ho
    rw [cL] at this
    exact absurd this (Nat.lt_irrefl _)
  have hfr : X.A.frames = some (X.env :: X.outer) := by rw [I.ok.frames, hst]
  have tkb : TakesF (blkX X s3 H3 scope ce fp xe0) (fun cls d _ H' => W cls d σ H') := by
    rintro u s' ⟨a, B, sI, pins', σ', H', cls, d, rfl, I', nb, up, sky, na, os, ag, w⟩ ⟨B1, a1, Z1, ea, fl1⟩
    cases ea
    have fl : HandSPX.FlyingZ B (X.env :: X.outer) a (Zc cls d) s'.heap := hst ▸ sky_fly sky fl1
    show xe0 (.ref a) s'
    rw [← hxe]
    show wpAny _ _ (noteFrame (.ref a) ce) _ _ s'
    rw [noteFrame_env _ cF]
    refine HandSPX.looks_onZ Zc.steady hfr hf fl fun h1 hh up1 => ?_
    obtain ⟨m, hn, _⟩ := I'.loc
    have hn : sI.heap.Ns ce.locals m := hn
    have hn1 : h1.Ns ce.locals m := ns_slots (ns_slots hn up) up1
    refine ⟨m, hn1, fun h2 m2 hn2 sb => ?_⟩
    have hoo := hn
    obtain ⟨oL, es, ep, hoL, hdL, r⟩ := hoo
    have hC : B.get? ce.locals = some oL := nb _ _ hoL frC
    obtain ⟨o2, es2, ep2, ho2, hd2, r2⟩ := hn2
    have nf2 : ∀ vs, o2.data ≠ .fields vs := fun vs q => by rw [hd2] at q; cases q
    have fr2 : o2.isFreed = false := by cases o2; simp only at hd2; subst hd2; rfl
    have hh2 := held_but hh hn1 ho2 nf2 sb hC fr2
    obtain ⟨g1, g2, g3, oe, vs, T', oT, ts, he2, hz2, hde, h12, rest⟩ := id hh2
    unfold PySem.passOn
    refine wpAny_bind (wpAny_field he2 hde h12 ?_)
    rw [if_neg (show ¬ ((Value.ref T' == Value.none) = true) from by simp)]
    rw [cF, hf]
    refine wpAny_bind (HandSPX.setFlight_onZ hh2 fun h4 hh4 up4 => ?_)
    refine wpAny_throw ?_
    refine tk _ _ ⟨a, B.update ce.locals fun _ => o2, { sI with heap := sI.heap.update ce.locals fun _ => o2 }, pins, σ, H', cls, d, rfl, ?_, fun b o e hb => ?_, fun b o e hnf => ?_, .inr (.inr (by rw [hst]; exact hh4)), na, os, ag, w⟩
    · obtain ⟨f0, f1, f2, f3, f4, f5⟩ := fpC I'
      exact (back I').turned (t' := sI.toks) (fun b o hb e => (Heap.get?_update_other _ _ (Ne.symm hb)).trans e) f0 f1 f3 f4 f5
    · by_cases z : b = ce.locals
      · subst z
        rw [Heap.get?_update_self _ hoL fr2] at e
        rw [Heap.get?_update_self _ hC fr2]; exact e
      · rw [Heap.get?_update_other _ _ (Ne.symm z)] at e
        rw [Heap.get?_update_other _ _ (Ne.symm z)]
        exact nb b o e hb
    · by_cases z : b = ce.locals
      · subst z
        have e : (sI.heap.update ce.locals fun _ => o2).get? ce.locals = some o := e
        rw [Heap.get?_update_self _ hoL fr2] at e
        cases e
        exact up4 _ _ ho2 nf2
      · have e : (sI.heap.update ce.locals fun _ => o2).get? b = some o := e
        rw [Heap.get?_update_other _ _ (Ne.symm z)] at e
        obtain ⟨sl, e1⟩ := (up.trans up1) b o e hnf
        obtain ⟨sl2, e2⟩ := up4 b _ ((sb.2 b z).trans e1) hnf
        exact ⟨sl2, e2⟩
  have loop : codeAny (model X.prog X.w) X.A (.compLoop (.ListComp elt [⟨tg, iter, ifs, 0⟩] scope pos) 0 (.ref it) (.ref D) ce) (compEnds (model X.prog X.w) X.A X.xe none (EP X pins σ Q) (.ref D) ce) s4 := by
    refine compLoop_any (fun n s' => ∃ i H', Inv (blkX X s3 H3 scope ce fp xe0) [] (wipe σ (own.map (·.2))) H' s' ∧ tn i s'.heap ∧ (∀ b ∈ fp, H' b = none) ∧ W' i n H') ?_ m0 ⟨0, H3, I4, st4, nfp, w0⟩
    rintro n s5 ⟨i, H5, I5, st5, n5, w5⟩
    rw [hxe]
    rcases turn i n H5 w5 with ⟨stop, qq⟩ | ⟨go, Nx, hNx, step⟩
    · have td := T.done (blkX X s3 H3 scope ce fp xe0) rfl rfl rfl hc i [] s5 _ H5 (fun _ _ => False) I5 (stat I5 n5) st5 stop
      refine thnF td fun r s6 ⟨hr, I6⟩ => ?_
      subst hr
      obtain ⟨m, hn, _⟩ := I6.loc
      refine ⟨m, hn, fun h'' sb => ?_⟩
      obtain ⟨f0, f1, f2, f3, f4, f5⟩ := fpC I6
      exact ⟨.ref D, H5, (back I6).turned (t' := s6.toks) (fun b o hb e => (sb.2 b hb).trans e) f0 f1 f3 f4 f5, rfl, qq⟩
    · have ti := T.item (blkX X s3 H3 scope ce fp xe0) rfl rfl rfl hc i [] s5 _ H5 (fun _ _ => False) I5 (stat I5 n5) st5 go
      refine thnF ti fun r s6 ⟨u, hr, h6⟩ => ?_
      subst hr
      refine thnF h6 fun _ s7 ⟨x, H7, I7, r7, y7, st7, n7⟩ => ?_
      have I7' := I7.pinned (stat I7 n7) (T.obj _ _ st7)
      refine thn ((pg xe0).run _ s7 _ H7 x u _ I7' r7 (step x H7 y7)) fun _ s8 ⟨σ8, H8, I8, hw8, q8⟩ => ?_
      refine thn ((pt xe0).run _ s8 σ8 H8 _ I8 q8) fun b s9 ⟨H9, I9, q9⟩ => ?_
      have fin : ∀ {s' : Shared} {H' : Hp}, Inv (blkX X s3 H3 scope ce fp xe0) ([] ++ pinsAt fp s7.heap) σ8 H' s' → Nx H' → ∃ m, m < n ∧ ∃ i H', Inv (blkX X s3 H3 scope ce fp xe0) [] (wipe σ (own.map (·.2))) H' s' ∧ tn i s'.heap ∧ (∀ b ∈ fp, H' b = none) ∧ W' i m H' := fun {s' H'} I' nx => by
        obtain ⟨m', hm, w'⟩ := hNx H' nx
        have pin' : ∀ b ∈ fp, ∀ o, s7.heap.get? b = some o → s'.heap.get? b = some o ∧ H' b = none := fun b hb o e =>
          let z := I'.pin (b, o) (List.mem_append_right _ (List.mem_append_right _ (mem_pinsAt hb e)))
          ⟨z.1, z.2.1⟩
        have hl : (wipe σ (own.map (·.2))).length = σ8.length := by rw [← hw8, wipe_length]
        refine ⟨m', hm, i + 1, H', (I'.unpinned (pins := [])).weak hl (fun j v e => ?_), T.keep _ _ _ st7 fun b hb o e => (pin' b hb o e).1, fun b hb => ?_, w'⟩
        · rw [← hw8] at e
          exact (wipe_some e).1
        · obtain ⟨o, e, _⟩ := T.obj _ _ st7 b hb
          exact (pin' b hb o e).2
      cases b with
      | false =>
        simp only [Bool.false_eq_true, if_false] at q9 ⊢
        exact fin I9 q9
      | true =>
        simp only [if_true] at q9 ⊢
        refine thn ((pe xe0 tkb).run _ s9 σ8 H9 _ I9 q9) fun z s10 ⟨yv, H10, I10, r10, acc, hD10, hz10, nx⟩ => ?_
        exact app_ok (X := blkX X s3 H3 scope ce fp xe0) I10 hD10 hz10 r10 fun s11 I11 => fin I11 nx
  exact codeAny_compStart_list loop (T.self X.A 0 _ _ _ st4 loop)

/-! ### the readings -/
/-- the reading of such a comprehension, whatever is done with the list -/
theorem lc_upX {K : PySem.W.Frag} {mi : MI} {vs : List Nat} {g : MG} {t : MT} {m : PW → ME} {Y : List PV → PH → Prop} {σ : L2.St} {H0 : Hp} {τ : PSt} {h0 : PH} {Q : VK} {w : PW} {W : WX} (s0 : SimS K H0 σ τ) (sh0 : Sim K H0 h0)
    (q : mi τ h0 fun ps gd h1 => lcL gd (wp τ vs) g t (m fun x _ h2 => w x τ h2) ps [] h1 Y) (lx : LX K H0 h0 w W)
    (fin : ∀ zs h2 xs D H2, Y zs h2 → H0 D = none → H2 D = some (.lst xs) → h2 D = none → Sim K H2 h2 → Rels K H2 zs xs → Go H0 h0 H2 h2 → Q (.ref D) H2) :
    tLc (upI K mi) (upG K vs g) (upT K t) (upEX K (fun cls d _ H' => W cls d σ H') m) vs σ H0 Q := by
  refine ⟨τ, h0, _, s0, sh0, q, fun ps gd h1 H1 J q1 g1 s1 wk D hD => ?_⟩
  have hD1 : h1 D = none := s1.fresh hD
  have gD : Go H1 h1 (upd H1 D (.lst [])) h1 := .new hD
  refine ⟨fun i n H => ∃ h acc xs, i ≤ ps.length ∧ n = ps.length - i ∧ Go H1 h1 H h ∧ H D = some (.lst xs) ∧ h D = none ∧ Rels K H acc xs ∧ xs.length ≤ i ∧ Sim K H h ∧ lcL gd (wp τ vs) g t (m fun x _ h2 => w x τ h2) (ps.drop i) acc h Y,
    ⟨ps.length, h1, [], [], Nat.zero_le _, rfl, gD, upd_same, hD1, .nil, Nat.le_refl _, s1.new hD, q1⟩, ?_⟩
  rintro i n H ⟨h, acc, xs, hi, rfl, gg, hx, hd, ra, hl, sh, q⟩
  by_cases hlt : i < ps.length
  · have e : ps.drop i = ps[i] :: ps.drop (i + 1) := List.drop_eq_getElem_cons hlt
    rw [e] at q
    obtain ⟨hgd, q⟩ := q
    refine .inr ⟨wk.goes i H h hlt gg.mono sh hgd, fun H' => ∃ h acc xs, Go H1 h1 H' h ∧ H' D = some (.lst xs) ∧ h D = none ∧ Rels K H' acc xs ∧ xs.length ≤ i + 1 ∧ Sim K H' h ∧ lcL gd (wp τ vs) g t (m fun x _ h2 => w x τ h2) (ps.drop (i + 1)) acc h Y,
      fun H' ⟨h, acc, xs, a1, a2, a3, a4, a5, a6, a7⟩ => ⟨ps.length - (i + 1), by omega, h, acc, xs, hlt, rfl, a1, a2, a3, a4, a5, a6, a7⟩, fun x H' y => ?_⟩
    obtain ⟨g2, sh2, rx⟩ := wk.yields i H h x H' ps[i] (List.getElem?_eq_getElem hlt) gg.mono sh hgd y
    have gw : Mono H0 H' := (g1.trans (gg.trans g2)).mono
    refine ⟨ps[i], wp τ vs, h, _, rx, (s0.mono gw).wipe vs, sh2, q, fun τ3 h3 σ3 H3 q3 g3 s3 sh3 w3 => ⟨by rw [w3, wipe_wipe], ?_⟩⟩
    refine ⟨τ3, h3, _, s3, sh3, q3, fun b h4 H4 q4 g4 s4 => ?_⟩
    have g24 := (g2.trans g3).trans g4
    have x4 : H4 D = some (.lst xs) := g24.frame D _ hx hd
    have d4 : h4 D = none := g24.dom D _ hx hd
    cases b with
    | true =>
      simp only [if_true] at q4 ⊢
      have gz := (g1.trans gg).trans g24
      refine ⟨τ3, h4, _, (fun x _ h2 => w x τ h2), s3.mono g4.mono, s4, q4, fun v h5 y5 H5 q5 g5 r5 s5 => ?_, fun x _ hz cls d _ Hz qz gg' rz _ shz => (lx.mono gz) x τ hz cls d σ Hz qz gg' rz (s0.mono (gz.trans gg').mono) shz⟩
      have x5 : H5 D = some (.lst xs) := g5.frame D _ x4 d4
      have d5 : h5 D = none := g5.dom D _ x4 d4
      have few := wk.few
      refine ⟨xs, x5, by omega, h5, acc ++ [v], xs ++ [y5], ?_, upd_same, d5, ?_, by rw [List.length_append]; simp; omega, s5.drop (Mono.lst x5) d5, q5⟩
      · have gA := ((gg.trans g24).trans g5)
        exact gA.renew hD (Mono.lst x5)
      · exact ((ra.mono (g24.trans g5).mono).append (.cons r5 .nil)).mono (Mono.lst x5)
    | false =>
      simp only [Bool.false_eq_true, if_false] at q4 ⊢
      exact ⟨h4, acc, xs, gg.trans g24, x4, d4, ra.mono g24.mono, by omega, s4, q4⟩
  · have e : i = ps.length := by omega
    subst e
    rw [List.drop_length] at q
    have g0 := g1.trans gg
    exact .inl ⟨wk.stops H h gg.mono sh q.1, fin acc h xs D H q.2 (g1.live D hD) hx hd sh ra g0⟩
def mLcX (mi : MI) (vs : List Nat) (g : MG) (t : MT) (m : PW → ME) : PW → ME := fun w τ h Q => mLc mi vs g t (m fun x _ h2 => w x τ h2) τ h Q
theorem lx_lc {W : WX} {elt tg iter : Expr} {ifs : List Expr} {scope : Scope} {mi : MI} {g : MG} {t : MT} {m : PW → ME} (own : List (Str × Nat)) (tk : Takes X W) (hc : X.calm = true) (hN : X.N.Nodup) (hi : LI X tg iter mi) (ok : BlkOk X.N X.env.scope scope own)
    (hg : ∀ (s : Shared) (H : Hp) (C : Addr) (cl : List (Str × Addr)) (fp : List Addr) (xe : Value → Shared → Prop), LG (blkX X s H scope (compEnvC scope cl C X.env) fp xe) tg (own.map (·.2)) g) (ht : ∀ (s : Shared) (H : Hp) (C : Addr) (cl : List (Str × Addr)) (fp : List Addr) (xe : Value → Shared → Prop), LTs (blkX X s H scope (compEnvC scope cl C X.env) fp xe) ifs t)
    (he : ∀ (s : Shared) (H : Hp) (C : Addr) (cl : List (Str × Addr)) (fp : List Addr) (xe : Value → Shared → Prop) (W' : WX), TakesF (blkX X s H scope (compEnvC scope cl C X.env) fp xe) W' → LEX (blkX X s H scope (compEnvC scope cl C X.env) fp xe) W' elt m) (hs : ∀ x, foldedSetIterable iter X.env x = pure x := by intro _; rfl)
    (hst : X.stack = X.env :: X.outer := by rfl) (hf : X.env.frame = some X.env.locals := by rfl) :
    LEX X W (.ListComp elt [⟨tg, iter, ifs, 0⟩] scope pos) (mLcX mi (own.map (·.2)) g t m) := by
  have core : PE X (.ListComp elt [⟨tg, iter, ifs, 0⟩] scope pos) (fun σ H Q => tLc (upI X.K mi) (upG X.K (own.map (·.2)) g) (upT X.K t) (upEX X.K (fun cls d _ H' => W cls d σ H') m) (own.map (·.2)) σ H Q) :=
    ⟨fun pins s σ H Q I h => lc_coreX (W := W) hst hf tk hc hN I hi ok hg ht (fun s H C cl fp xe tk' => he s H C cl fp xe _ tk') hs h⟩
  exact PE.weak (PE.kp core) fun σ H Q ⟨τ, h, Q', w, ss, sh, q, l, lx⟩ => lc_upX ss sh q lx fun zs h2 xs D H2 q2 h0 hD hd s2 r2 g2 => .inr ⟨D, _, rfl, hD, trivial, fun o => by
    have mm : Mono H2 (upd H2 D (.frz o (.lst xs))) := Mono.lst hD
    refine l (.lst zs) h2 (.ref D) _ q2 (g2.renew h0 mm) ?_ (s2.drop mm hd)
    simp only [Rel]
    exact ⟨D, xs, rfl, .inl ⟨o, upd_same⟩, r2.mono mm⟩⟩
end
end N3

/-! tuple of what may raise; abs; replace by written texts, behind a written text of the same list -/
namespace N3
open PySem PySem.Spec PyProof.Rows L2

section
variable {X : Cx} {W : WX} {pos p : Pos} {e : Expr} {es : List Expr} {n : Nat}
theorem lx_ty {x : Str} {T : String} {r : List V → Hp → VK → Prop} {r' : PRA} {m : PW → MA} (hc : CallR X (.type T) r) (hr : LfA X.K r r') (hm : X.mg x = none) (ha : LAX X W (e :: es) n m) (hg : Gl X x := by rfl) (hv : bootBuiltins x = some (.type T) := by decide +kernel)
    (hn : x ≠ "__name__" := by decide) (hdb : (x == ("__debug__" : Str)) = false := by decide)
    (h1 : starEach (e :: es) X.env = (false, eval e X.env) :: starEach es X.env := by rfl) (h2 : (backTo pos (starEach es X.env)).any (·.1) = false := by rfl) : LEX X W (.Call (.Name x p) (e :: es) [] pos) (fun w => mBlt r' (m w)) :=
  PE.weak (pe_callTy hc hg hm hv ha hn hdb h1 h2) fun _ _ _ h => argsX_up (Z := fun Q => Q) hr h
theorem lx_tuple {m : PW → MA} (hm : X.mg "tuple" = none) (ha : LAX X W [e] 1 m) (hg : Gl X "tuple" := by rfl) (h1 : starEach [e] X.env = (false, eval e X.env) :: starEach [] X.env := by rfl) :
    LEX X W (.Call (.Name "tuple" p) [e] [] pos) (fun w => mBlt rTupOf (m w)) := lx_ty call_tuple_of lf_tupOf hm ha hg (h1 := h1) (h2 := rfl)
def rAbs : PRA := fun ps h Q => match ps with
  | [.int i] => Q (.int (if i < 0 then -i else i)) h
  | _ => False
theorem lf_abs {K : PySem.W.Frag} : LfA K (fun xs H Q => ∃ i, xs = [.int i] ∧ Q (.int (if i < 0 then -i else i)) H) rAbs := by
  intro xs H ps h Q' Q rp s r l
  unfold rAbs at r
  split at r
  · obtain ⟨v, rfl, r1⟩ := rp.one
    have e := rel_int.mp r1
    subst e
    exact ⟨_, rfl, l _ _ _ _ r .refl (rel_int.mpr rfl) s⟩
  · exact r.elim
theorem le_abs {m : MA} (hm : X.mg "abs" = none) (ha : LAn X [e] 1 m) (hg : Gl X "abs" := by rfl) (h1 : starEach [e] X.env = (false, eval e X.env) :: starEach [] X.env := by rfl) :
    LE X (.Call (.Name "abs" p) [e] [] pos) (mBlt rAbs m) := le_blt call_abs lf_abs hm ha hg (h1 := h1) (h2 := rfl)
/-- a quotient by a far number -/
abbrev rDivW : PR2 := rII CDivW fun i j => i / j
/-- str of an int or a text -/
def rStrA : PRA := fun ps h Q => match ps with
  | [.int i] => i.natAbs.log2 < 1920 ∧ Q (.str (toString i)) h
  | [.str x] => Q (.str x) h
  | _ => False
theorem le_strA {m : MA} (hm : X.mg "str" = none) (ha : LAn X [e] 1 m) (hg : Gl X "str" := by rfl) (h1 : starEach [e] X.env = (false, eval e X.env) :: starEach [] X.env := by rfl) :
    LE X (.Call (.Name "str" p) [e] [] pos) (mBlt rStrA m) := le_ty (call_str_int.or SkE.call_str_str) (fun xs H ps h Q' Q rp s r l => by
  unfold rStrA at r
  split at r
  · obtain ⟨v, rfl, r1⟩ := rp.one
    rw [rel_int.mp r1]
    exact .inl ⟨_, rfl, r.1, l _ _ _ _ r.2 .refl (rel_str.mpr rfl) s⟩
  · obtain ⟨v, rfl, r1⟩ := rp.one
    rw [rel_str.mp r1]
    exact .inr ⟨_, rfl, l _ _ _ _ r .refl (rel_str.mpr rfl) s⟩
  · exact r.elim) hm ha hg (h1 := h1) (h2 := rfl)
end

/-! ### replace -/
abbrev LET (X : Cx) (e : Expr) (m : ME) : Prop := PET X e (upE X.K m)
abbrev LAT (X : Cx) (es : List Expr) (n : Nat) (m : MA) : Prop := PAT X es (upL X.K n m)
/-- an expression that gives a token out -/
def PE1 (X : Cx) (e : Expr) (t : TE) : Prop := ∀ (pins : List (Addr × Obj)) (s : Shared) (σ : L2.St) (H : Hp) (Q : VK), Inv X pins σ H s → t σ H Q → wpAny (model X.prog X.w) X.A (eval e X.env) (fun u s' => 1 ≤ s'.toks ∧ EP X pins σ Q u s') X.xe s
def mRepl (y z : Str) (mo : ME) : ME := fun τ h Q => mo τ h fun p h1 => match p with
  | .str x => x.length + (x.length + 1) * z.length ≤ 16777216 ∧ Q (.str (Txt.replace x y z)) h1
  | _ => False
section
variable {X : Cx} {pos p apos : Pos} {e f o : Expr} {es : List Expr} {n : Nat}
theorem PET.weak' {t u : TE} (h : PET X e t) (w : ∀ σ H Q, u σ H Q → t σ H Q) : PET X e u := fun pins s σ H Q h0 I q => h pins s σ H Q h0 I (w _ _ _ q)
theorem PAT.weak' {t u : TA} (h : PAT X es t) (w : ∀ σ H Q, u σ H Q → t σ H Q) : PAT X es u := fun pos pins s σ H Q h0 I q => h pos pins s σ H Q h0 I (w _ _ _ q)
theorem let_of {m : ME} (h : LE X e m) : LET X e m := CwR.PET.of h
theorem let_repl {y z : Str} {j k : Nat} {c0 c1 : Pos} {mo : ME} (ho : LE X o mo) (hyz : (y == z) = false := by decide)
    (hst : starEach [.Constant (.str y) j c0, .Constant (.str z) k c1] X.env = [(false, eval (.Constant (.str y) j c0) X.env), (false, eval (.Constant (.str z) k c1) X.env)] := by rfl)
    (hbase : attributeBase o "replace" X.env (eval o X.env) = eval o X.env := by rfl) (hline : (apos.endLine == pos.line) = true := by rfl) :
    LET X (.Call (.Attribute o "replace" apos) [.Constant (.str y) j c0, .Constant (.str z) k c1] [] pos) (mRepl y z mo) := by
  refine PET.weak' (CwR.pet_replC ho hyz hst hbase hline) fun σ H Q ⟨τ, h, Q', s, sh, q, l⟩ => ?_
  refine ⟨τ, h, _, s, sh, q, fun p h1 v H1 q1 g1 r1 s1 => ?_⟩
  cases p with
  | str x =>
    simp only at q1
    rw [rel_str.mp r1]
    exact ⟨x, rfl, q1.1, l _ _ _ _ q1.2 g1 (rel_str.mpr rfl) s1⟩
  | _ => exact q1.elim
theorem lat_nil : LAT X [] 0 mNil := PAT.weak' pat_nil fun σ H Q ⟨τ, h, Q', s, sh, q, l⟩ => l [] h [] H q rfl .refl .nil sh
theorem lat_of {m : MA} (h : LAn X es n m) : LAT X es n m := fun pos pins s σ H Q _ I q => h.run pos pins s σ H Q I q
theorem lat_cons {ma : ME} {mr : MA} (ha : LET X e ma) (hr : LAT X es n mr) (hs : starEach (e :: es) X.env = (false, eval e X.env) :: starEach es X.env := by rfl) : LAT X (e :: es) (n + 1) (mCons ma mr) := by
  refine PAT.weak' (pat_cons ha hr hs) fun σ H Q ⟨τ, h, Q', s, sh, q, l⟩ => ?_
  refine ⟨τ, h, _, s, sh, q, fun p h1 v H1 q1 m1 r s1 => ?_⟩
  refine ⟨τ, h1, _, s.mono m1.mono, s1, q1, fun ps h2 vs H2 q2 hn m2 r2 s2 => ?_⟩
  exact l _ _ _ _ q2 (by rw [List.length_cons, hn]) (m1.trans m2) (.cons (r.mono m2.mono) r2) s2
/-- behind an item that gives a token out -/
theorem pa_tok {te : TE} {ta : TA} (ha : PE1 X e te) (hr : PAT X es ta) (hs : starEach (e :: es) X.env = (false, eval e X.env) :: starEach es X.env := by rfl) : PA X (e :: es) (tCons te ta) := by
  refine ⟨fun pos pins s σ H Q I h => ?_⟩
  rw [hs]
  show wpAny _ _ (spliced ((false, eval e X.env) :: backTo pos (starEach es X.env))) _ _ s
  refine Calls.spliced_cons (thn (ha pins s σ H _ I h) fun v s1 ⟨hk, x, H1, I1, r1, q1⟩ => ?_)
  exact thn (hr pos pins s1 σ H1 _ hk I1 q1) fun us s2 ⟨xs, H2, I2, r2, q2⟩ => ⟨x :: xs, H2, I2, .cons r1 r2, q2⟩
theorem la_tok {ma : ME} {mr : MA} (ha : PE1 X e (upE X.K ma)) (hr : LAT X es n mr) (hs : starEach (e :: es) X.env = (false, eval e X.env) :: starEach es X.env := by rfl) : LAn X (e :: es) (n + 1) (mCons ma mr) := by
  refine PA.weak (pa_tok ha hr hs) fun σ H Q ⟨τ, h, Q', s, sh, q, l⟩ => ?_
  refine ⟨τ, h, _, s, sh, q, fun p h1 v H1 q1 m1 r s1 => ?_⟩
  refine ⟨τ, h1, _, s.mono m1.mono, s1, q1, fun ps h2 vs H2 q2 hn m2 r2 s2 => ?_⟩
  exact l _ _ _ _ q2 (by rw [List.length_cons, hn]) (m1.trans m2) (.cons (r.mono m2.mono) r2) s2
theorem pe1_op {op : Operator} {r : R2} {x : Str} {j : Nat} {tb : TE} (ho : OpR X (binaryOp op) r) (hb : PE X f tb) : PE1 X (.BinOp (.Constant (.str x) j p) op f pos) (tOp r (tC (.str x)) tb) := by
  intro pins s σ H Q I h
  refine wpAny_BinOp (Calls.Constant_str ?_)
  have I1 : Inv X pins σ H { s with toks := s.toks + 1 } := I.tok _
  refine wpAny_mono (PySem.wpAny_toks (hb.run pins _ σ H _ I1 h)) (fun v s2 q => ?_) fun _ _ z => z.2
  obtain ⟨hk, y, H2, I2, r2, q2⟩ := q
  refine wpAny_mono (PySem.wpAny_toks (ho pins s2 σ H2 (.str x) y _ v Q I2 ⟨_, rfl⟩ r2 q2)) (fun u s3 q => ?_) fun _ _ z => z.2
  have hk' : s.toks + 1 ≤ s2.toks := hk
  exact ⟨by omega, q.2⟩
theorem le1_op {op : Operator} {r : R2} {r' : PR2} {x : Str} {j : Nat} {mb : ME} (ho : OpR X (binaryOp op) r) (hr : Kf2 X.K r r') (hb : LE X f mb) : PE1 X (.BinOp (.Constant (.str x) j p) op f pos) (upE X.K (mB r' (mC (.str x)) mb)) := by
  intro pins s σ H Q I q
  have q1 := two_up (Z := kQ) hr q
  have q2 : tOp r (tC (.str x)) (upE X.K mb) σ H (kQ Q) := by
    obtain ⟨τ, h, Q1, s1, sh, qq, l⟩ := q1
    exact l _ _ _ _ qq .refl (rel_str.mpr rfl) sh
  refine thn (pe1_op ho hb pins s σ H _ I q2) fun u s1 ⟨hk, v, H1, I1, r1, q3⟩ => ?_
  rcases q3 with q3 | ⟨a, w, e1, e2, k, q3⟩
  · exact ⟨hk, v, H1, I1, r1, q3⟩
  · obtain ⟨o, I2⟩ := Inv.keep I1 e2 k
    exact ⟨hk, v, _, I2, r1, q3 o⟩
end
end N3

namespace N3
open PySem PySem.Spec PyProof.Rows L2

/-! ### the deck that the laws draw from -/
abbrev kLeft : Key := .inr ("left" : Str)
abbrev kEvery : Key := .inr ("every" : Str)
abbrev kGone : Key := .inr ("gone" : Str)
abbrev dkeys : List Key := [kLeft, kEvery, kGone]
theorem lk_left {a b c : PV} : lk dkeys [a, b, c] (.inr ("left" : Str)) = some a := if_pos rfl
theorem lk_every {a b c : PV} : lk dkeys [a, b, c] (.inr ("every" : Str)) = some b := by
  have h : ¬ (kLeft = kEvery) := by decide +kernel
  exact (if_neg h).trans (if_pos rfl)
theorem lk_gone {a b c : PV} : lk dkeys [a, b, c] (.inr ("gone" : Str)) = some c := by
  have h : ¬ (kLeft = kGone) := by decide +kernel
  have h2 : ¬ (kEvery = kGone) := by decide +kernel
  exact (if_neg h).trans ((if_neg h2).trans (if_pos rfl))
theorem pk_gone : pk dkeys (.inr ("gone" : Str)) = dkeys := by
  have h : hasK dkeys kGone = true := by decide +kernel
  exact if_pos h
theorem pvs_gone {a b c v : PV} : pvs dkeys [a, b, c] (.inr ("gone" : Str)) v = [a, b, v] := by
  have h : hasK dkeys kGone = true := by decide +kernel
  have h1 : ¬ (kLeft = kGone) := by decide +kernel
  have h2 : ¬ (kEvery = kGone) := by decide +kernel
  refine (if_pos h).trans ?_
  show [if kLeft = kGone then v else a, if kEvery = kGone then v else b, if kGone = kGone then v else c] = _
  rw [if_neg h1, if_neg h2, if_pos rfl]
/-- a deck's two objects, and all else -/
structure Dk where
  d : Addr
  l : Addr
  ev : Int
  h0 : PH
  ne : d ≠ l
def Dk.hp (D : Dk) (xs : List Int) (gone : Int) : PH := up (up D.h0 D.d (.dct dkeys [.ref D.l, .int D.ev, .int gone])) D.l (.lst (xs.map PV.int))
/-- at most n draws have been made -/
def Dk.At (D : Dk) (n : Nat) (h : PH) : Prop := ∃ (xs : List Int) (gone : Int), xs.length ≤ 63 ∧ 0 ≤ gone ∧ gone ≤ n ∧ h = D.hp xs gone
theorem Dk.At.mono {D : Dk} {n m : Nat} {h : PH} (a : D.At n h) (hm : n ≤ m) : D.At m h := by
  obtain ⟨xs, g, h1, h2, h3, e⟩ := a
  exact ⟨xs, g, h1, h2, by omega, e⟩
section
variable {D : Dk} {xs ys : List Int} {g g' : Int}
theorem Dk.at_d : D.hp xs g D.d = some (.dct dkeys [.ref D.l, .int D.ev, .int g]) := by unfold Dk.hp; rw [up_ne D.ne, up_same]
theorem Dk.at_l : D.hp xs g D.l = some (.lst (xs.map PV.int)) := by unfold Dk.hp; rw [up_same]
theorem Dk.put_d : up (D.hp xs g) D.d (.dct dkeys [.ref D.l, .int D.ev, .int g']) = D.hp xs g' := by
  unfold Dk.hp; rw [up_swap D.ne.symm, up_up]
theorem Dk.put_l : up (D.hp xs g) D.l (.lst (ys.map PV.int)) = D.hp ys g := by unfold Dk.hp; rw [up_up]
end
/-- draw(deck, many): any number below many -/
def spDraw : SpP := fun ps h Q => ∃ (D : Dk) (n : Nat) (many : Int), ps = [.ref D.d, .int many] ∧ D.At n h ∧ n < 1000000000 ∧ 1 ≤ many ∧ many < 100000000000000000000000000000000000000000 ∧ ∀ r h', 0 ≤ r → r < many → D.At (n + 1) h' → Q (.int r) h'
/-- deck(script) -/
def spDeck : SpP := fun ps h Q => ∃ ns : List Int, ps = [.lst (ns.map PV.int)] ∧ ns.length ≤ 63 ∧ ∀ (D : Dk) (h' : PH), D.h0 = h → D.At 0 h' → Q (.ref D.d) h'
/-- .. its objects are new -/
def spDeckF : SpP := fun ps h Q => ∃ ns : List Int, ps = [.lst (ns.map PV.int)] ∧ ns.length ≤ 63 ∧ ∀ (D : Dk) (h' : PH), D.h0 = h → h D.d = none → h D.l = none → D.At 0 h' → Q (.ref D.d) h'
def mDraw : MS :=
  mSeq (mDput (mB rAdd (mB rIx (mVar 0) (mC (.str "gone"))) (mC (.int 1))) (mVar 0) (mC (.str "gone")))
  (mSeq (mAsg (mB rIx (mVar 0) (mC (.str "every"))) (gN 2))
  (mSeq (mIfS (mTest (mB rNe (mB rIx (mVar 0) (mC (.str "left"))) (mLst (mNil)))) (mSeq (mAsg (mPop (mB rIx (mVar 0) (mC (.str "left")))) (gN 2))
  (mSeq (mIfS (mTest (mB rGe (mVar 2) (mB rPow (mC (.int 10)) (mC (.int 18))))) (mSeq (mDrop (mAppend (mB rIx (mVar 0) (mC (.str "left"))) (mCons (mB rDivW (mVar 2) (mVar 1)) (mNil))))
  (mRet (mB rMod (mVar 2) (mVar 1)))) (mNx))
  (mAsg (mB rAdd (mVar 2) (mB rIx (mVar 0) (mC (.str "every")))) (gN 2)))) (mNx))
  (mSeq (mAsg (mB rAdd (mB rMod (mVar 2) (mC (.int 2147483587))) (mB rMul (mB rMul (mC (.int 104659)) (mB rIx (mVar 0) (mC (.str "gone")))) (mB rIx (mVar 0) (mC (.str "gone"))))) (gN 3))
  (mSeq (mAsg (mB rMod (mB rMul (mB rAdd (mVar 3) (mC (.int 29))) (mC (.int 48271))) (mC (.int 2147483629))) (gN 3))
  (mSeq (mAsg (mB rMod (mB rAdd (mB rAdd (mB rMul (mVar 3) (mVar 3)) (mB rMul (mC (.int 39373)) (mB rIx (mVar 0) (mC (.str "gone"))))) (mC (.int 7))) (mC (.int 2147483563))) (gN 3))
  (mRet (mB rMod (mB rDiv (mB rMod (mB rMul (mVar 3) (mB rAdd (mB rDiv (mVar 3) (mC (.int 5))) (mC (.int 69621)))) (mC (.int 2147483647))) (mC (.int 32))) (mVar 1))))))))
/-- behind a statement: what its end hands on -/
theorem seq_mid {a b : MS} {D : PEnds} {τ : PSt} {h : PH} (mid : PSt → PH → Prop) (hb : ∀ τ h, mid τ h → b D τ h) (ha : ∀ P : PSt → PH → Prop, (∀ τ h, mid τ h → P τ h) → a { D with nx := P } τ h) : mSeq a b D τ h := ha (b D) hb
/-- a statement by itself, what follows unseen -/
theorem seq_step {a b : MS} {D : PEnds} {τ : PSt} {h : PH} (ha : ∀ P : PSt → PH → Prop, P = b D → a { D with nx := P } τ h) : mSeq a b D τ h := ha _ rfl
/-! ### loops by what holds at each turn -/
theorem forL_of {gd : PH → Prop} {g : MG} {b : MS} {D : PEnds} (W : List PV → PSt → PH → Prop)
    (step : ∀ p ps τ h, W (p :: ps) τ h → gd h ∧ ∀ P : PSt → PH → Prop, (∀ τ h, W ps τ h → P τ h) → g p τ h fun τ1 h1 => b { D with nx := P, ct := P, bk := D.nx } τ1 h1)
    (fin : ∀ τ h, W [] τ h → gd h ∧ D.nx τ h) : ∀ ps τ h, W ps τ h → forL gd g b D ps τ h
  | [], τ, h, w => fin τ h w
  | p :: ps, τ, h, w => ⟨(step p ps τ h w).1, (step p ps τ h w).2 (forL gd g b D ps) fun τ h w => forL_of W step fin ps τ h w⟩
theorem lcL_of {gd : PH → Prop} {τ : PSt} {g : MG} {t : MT} {m : ME} {Q : List PV → PH → Prop} (W : List PV → List PV → PH → Prop)
    (step : ∀ p ps acc h, W (p :: ps) acc h → gd h ∧ ∀ P : List PV → PH → Prop, (∀ acc h, W ps acc h → P acc h) → g p τ h fun τ1 h1 => t τ1 h1 fun b h2 => if b = true then m τ1 h2 fun v h3 => P (acc ++ [v]) h3 else P acc h2)
    (fin : ∀ acc h, W [] acc h → gd h ∧ Q acc h) : ∀ ps acc h, W ps acc h → lcL gd τ g t m ps acc h Q
  | [], acc, h, w => fin acc h w
  | p :: ps, acc, h, w => ⟨(step p ps acc h w).1, (step p ps acc h w).2 (fun acc h => lcL gd τ g t m ps acc h Q) fun acc h w => lcL_of W step fin ps acc h w⟩
theorem flats_ints : ∀ ns : List Int, flats (ns.map PV.int) = true
  | [] => rfl
  | n :: ns => by show (true && flats (ns.map PV.int)) = true; rw [flats_ints ns]; rfl
theorem depths_ints : ∀ ns : List Int, PyData.depthAll (toDs (ns.map PV.int)) = 0
  | [] => by simp [toDs, PyData.depthAll]
  | n :: ns => by
    have ih := depths_ints ns
    simp [toDs, toD, PyData.depthAll, PyData.depth, ih]
theorem depth_ints (ns : List Int) : (PyData.list (toDs (ns.map PV.int))).depth ≤ 64 := by
  simp [PyData.depth, depths_ints]
theorem Dk.list_l {D : Dk} {xs : List Int} {g : Int} : listAt (D.hp xs g) (.ref D.l) := ⟨_, _, rfl, Dk.at_l⟩
theorem pure_draw : ∀ qs h Q, qs.length = 2 → spDraw qs h Q → mDraw (ends Q) (sp0 4 qs) h := by
  rintro _ _ Q - ⟨D, n, many, rfl, ⟨xs, gone, hx, hg0, hgn, rfl⟩, hn, hm1, hm2, k⟩
  unfold mDraw
  have many0 : (0 : Int) < many := by omega
  have fin : ∀ (ys : List Int) (r : Int), ys.length ≤ 63 → 0 ≤ r → r < many → Q (.int r) (D.hp ys (gone + 1)) := fun ys r hy h1 h2 => k r _ h1 h2 ⟨ys, gone + 1, hy, by omega, by omega, rfl⟩
  refine seq_step fun P hP => ?_
  simp only [N3.mDput, N3.mB, N3.mU, N3.mVar, N3.mC, N3.sp0, N3.gt, N3.st, N3.rIx, N3.seqL, N3.dctL, N3.kOf, N3.rAdd, N3.mAsg, N3.gN, N3.mIfS, N3.mTest, N3.mPop, N3.mAppend, N3.mDrop, N3.mRet, N3.mRetN, N3.mNx, N3.mBrk, N3.mCnt, N3.mLst, N3.mLstM, N3.mCons, N3.mNil, N3.mTup, N3.mBlt, N3.mKw, N3.cat2, N3.cat2r, N3.gS, N3.gL, N3.mSlM, N3.rSlM, N3.mM1, N3.mSl, N3.mRev, N3.mStep, N3.mRevM, N3.mPart, N3.mNoPart, N3.rII, N3.rII0, N3.rIB, N3.rCmp, N3.rLt, N3.rLe, N3.rGt, N3.rGe, N3.mIsI, N3.tn, N3.isI, N3.mDisp, N3.mDct0, N3.mDct0M, N3.mPar3, N3.mAug, N3.rIAdd, N3.mExtend, N3.mInsert, N3.mPopAt, N3.rMin2, N3.rMax2, N3.rIntT, N3.rSplit, N3.rSplitM, N3.rAddM, N3.gPut, N3.mFmt, N3.mJs, N3.mJoin, N3.rDictP, N3.mRepM, N3.rListA, N3.rSortA, N3.mLc2, N3.lcI, N3.lcO, N3.rAllB, N3.rAnyB, N3.rStrI, N3.rIntO, N3.vwL, N3.rMul, N3.rMulT, N3.rNeg, N3.rSub, N3.rDiv, N3.rMod, N3.rPow, N3.mPar, N3.mAndT, N3.mOrT, N3.mNotT, N3.mAnd, N3.mOr, N3.mOrV, N3.mAndV, N3.trv, N3.mNot, N3.mIf, N3.mChn, N3.mKeep, N3.mRep, N3.mDispM, N3.mPs, N3.ends, N3.rLen, N3.rListOf, N3.rListOfM, N3.rTupOf, N3.rSumI, N3.listed, N3.rSl, N3.rRev, N3.rEq, N3.rNe, N3.rIsN, N3.rNotN, N3.isNon, N3.vw, N3.mYes, N3.gT, N3.gsCons, N3.gsNil, N3.mFor, N3.mSeqs, N3.mLc, N3.mLcM, N3.mRng1, N3.mRng2, N3.mEnum, N3.mEnumA, N3.mZip, N3.wp, N3.rJoin, N3.rSS, N3.rIdxS, N3.rRepr, N3.flat, N3.flats, N3.toD, N3.toDs, List.length_cons, List.length_nil, List.append_eq, List.cons_append, List.nil_append, List.map_cons, List.map_nil, if_true, if_false, Bool.false_eq_true, decide_eq_true_eq, Option.some.injEq, true_and, and_true, Bool.not_true, Bool.not_false, reduceCtorEq, Bool.and_self, Bool.and_true, Bool.true_and, ite_true, ite_false, Dk.at_d, Dk.at_l, lk_gone, pk_gone, pvs_gone, Dk.put_d]
  refine ⟨by decide, ?_⟩
  subst hP
  refine seq_step fun P hP => ?_
  simp only [N3.mDput, N3.mB, N3.mU, N3.mVar, N3.mC, N3.sp0, N3.gt, N3.st, N3.rIx, N3.seqL, N3.dctL, N3.kOf, N3.rAdd, N3.mAsg, N3.gN, N3.mIfS, N3.mTest, N3.mPop, N3.mAppend, N3.mDrop, N3.mRet, N3.mRetN, N3.mNx, N3.mBrk, N3.mCnt, N3.mLst, N3.mLstM, N3.mCons, N3.mNil, N3.mTup, N3.mBlt, N3.mKw, N3.cat2, N3.cat2r, N3.gS, N3.gL, N3.mSlM, N3.rSlM, N3.mM1, N3.mSl, N3.mRev, N3.mStep, N3.mRevM, N3.mPart, N3.mNoPart, N3.rII, N3.rII0, N3.rIB, N3.rCmp, N3.rLt, N3.rLe, N3.rGt, N3.rGe, N3.mIsI, N3.tn, N3.isI, N3.mDisp, N3.mDct0, N3.mDct0M, N3.mPar3, N3.mAug, N3.rIAdd, N3.mExtend, N3.mInsert, N3.mPopAt, N3.rMin2, N3.rMax2, N3.rIntT, N3.rSplit, N3.rSplitM, N3.rAddM, N3.gPut, N3.mFmt, N3.mJs, N3.mJoin, N3.rDictP, N3.mRepM, N3.rListA, N3.rSortA, N3.mLc2, N3.lcI, N3.lcO, N3.rAllB, N3.rAnyB, N3.rStrI, N3.rIntO, N3.vwL, N3.rMul, N3.rMulT, N3.rNeg, N3.rSub, N3.rDiv, N3.rMod, N3.rPow, N3.mPar, N3.mAndT, N3.mOrT, N3.mNotT, N3.mAnd, N3.mOr, N3.mOrV, N3.mAndV, N3.trv, N3.mNot, N3.mIf, N3.mChn, N3.mKeep, N3.mRep, N3.mDispM, N3.mPs, N3.ends, N3.rLen, N3.rListOf, N3.rListOfM, N3.rTupOf, N3.rSumI, N3.listed, N3.rSl, N3.rRev, N3.rEq, N3.rNe, N3.rIsN, N3.rNotN, N3.isNon, N3.vw, N3.mYes, N3.gT, N3.gsCons, N3.gsNil, N3.mFor, N3.mSeqs, N3.mLc, N3.mLcM, N3.mRng1, N3.mRng2, N3.mEnum, N3.mEnumA, N3.mZip, N3.wp, N3.rJoin, N3.rSS, N3.rIdxS, N3.rRepr, N3.flat, N3.flats, N3.toD, N3.toDs, List.length_cons, List.length_nil, List.append_eq, List.cons_append, List.nil_append, List.map_cons, List.map_nil, if_true, if_false, Bool.false_eq_true, decide_eq_true_eq, Option.some.injEq, true_and, and_true, Bool.not_true, Bool.not_false, reduceCtorEq, Bool.and_self, Bool.and_true, Bool.true_and, ite_true, ite_false, Dk.at_d, Dk.at_l, lk_every]
  subst hP
  refine seq_step fun P hP => ?_
  have rest : ∀ (ys : List Int) (c : Int), ys.length ≤ 63 → P [some (PV.ref D.d), some (PV.int many), some (PV.int c), none] (D.hp ys (gone + 1)) := by
    intro ys c hy
    subst hP
    refine seq_step fun P hP => ?_
    simp only [N3.mDput, N3.mB, N3.mU, N3.mVar, N3.mC, N3.sp0, N3.gt, N3.st, N3.rIx, N3.seqL, N3.dctL, N3.kOf, N3.rAdd, N3.mAsg, N3.gN, N3.mIfS, N3.mTest, N3.mPop, N3.mAppend, N3.mDrop, N3.mRet, N3.mRetN, N3.mNx, N3.mBrk, N3.mCnt, N3.mLst, N3.mLstM, N3.mCons, N3.mNil, N3.mTup, N3.mBlt, N3.mKw, N3.cat2, N3.cat2r, N3.gS, N3.gL, N3.mSlM, N3.rSlM, N3.mM1, N3.mSl, N3.mRev, N3.mStep, N3.mRevM, N3.mPart, N3.mNoPart, N3.rII, N3.rII0, N3.rIB, N3.rCmp, N3.rLt, N3.rLe, N3.rGt, N3.rGe, N3.mIsI, N3.tn, N3.isI, N3.mDisp, N3.mDct0, N3.mDct0M, N3.mPar3, N3.mAug, N3.rIAdd, N3.mExtend, N3.mInsert, N3.mPopAt, N3.rMin2, N3.rMax2, N3.rIntT, N3.rSplit, N3.rSplitM, N3.rAddM, N3.gPut, N3.mFmt, N3.mJs, N3.mJoin, N3.rDictP, N3.mRepM, N3.rListA, N3.rSortA, N3.mLc2, N3.lcI, N3.lcO, N3.rAllB, N3.rAnyB, N3.rStrI, N3.rIntO, N3.vwL, N3.rMul, N3.rMulT, N3.rNeg, N3.rSub, N3.rDiv, N3.rMod, N3.rPow, N3.mPar, N3.mAndT, N3.mOrT, N3.mNotT, N3.mAnd, N3.mOr, N3.mOrV, N3.mAndV, N3.trv, N3.mNot, N3.mIf, N3.mChn, N3.mKeep, N3.mRep, N3.mDispM, N3.mPs, N3.ends, N3.rLen, N3.rListOf, N3.rListOfM, N3.rTupOf, N3.rSumI, N3.listed, N3.rSl, N3.rRev, N3.rEq, N3.rNe, N3.rIsN, N3.rNotN, N3.isNon, N3.vw, N3.mYes, N3.gT, N3.gsCons, N3.gsNil, N3.mFor, N3.mSeqs, N3.mLc, N3.mLcM, N3.mRng1, N3.mRng2, N3.mEnum, N3.mEnumA, N3.mZip, N3.wp, N3.rJoin, N3.rSS, N3.rIdxS, N3.rRepr, N3.flat, N3.flats, N3.toD, N3.toDs, List.length_cons, List.length_nil, List.append_eq, List.cons_append, List.nil_append, List.map_cons, List.map_nil, if_true, if_false, Bool.false_eq_true, decide_eq_true_eq, Option.some.injEq, true_and, and_true, Bool.not_true, Bool.not_false, reduceCtorEq, Bool.and_self, Bool.and_true, Bool.true_and, ite_true, ite_false, Dk.at_d, Dk.at_l, lk_gone]
    refine ⟨by decide, ⟨.inl (by decide), ⟨.inr ⟨by omega, by omega⟩, ?_⟩⟩⟩
    subst hP
    refine seq_step fun P hP => ?_
    simp only [N3.mDput, N3.mB, N3.mU, N3.mVar, N3.mC, N3.sp0, N3.gt, N3.st, N3.rIx, N3.seqL, N3.dctL, N3.kOf, N3.rAdd, N3.mAsg, N3.gN, N3.mIfS, N3.mTest, N3.mPop, N3.mAppend, N3.mDrop, N3.mRet, N3.mRetN, N3.mNx, N3.mBrk, N3.mCnt, N3.mLst, N3.mLstM, N3.mCons, N3.mNil, N3.mTup, N3.mBlt, N3.mKw, N3.cat2, N3.cat2r, N3.gS, N3.gL, N3.mSlM, N3.rSlM, N3.mM1, N3.mSl, N3.mRev, N3.mStep, N3.mRevM, N3.mPart, N3.mNoPart, N3.rII, N3.rII0, N3.rIB, N3.rCmp, N3.rLt, N3.rLe, N3.rGt, N3.rGe, N3.mIsI, N3.tn, N3.isI, N3.mDisp, N3.mDct0, N3.mDct0M, N3.mPar3, N3.mAug, N3.rIAdd, N3.mExtend, N3.mInsert, N3.mPopAt, N3.rMin2, N3.rMax2, N3.rIntT, N3.rSplit, N3.rSplitM, N3.rAddM, N3.gPut, N3.mFmt, N3.mJs, N3.mJoin, N3.rDictP, N3.mRepM, N3.rListA, N3.rSortA, N3.mLc2, N3.lcI, N3.lcO, N3.rAllB, N3.rAnyB, N3.rStrI, N3.rIntO, N3.vwL, N3.rMul, N3.rMulT, N3.rNeg, N3.rSub, N3.rDiv, N3.rMod, N3.rPow, N3.mPar, N3.mAndT, N3.mOrT, N3.mNotT, N3.mAnd, N3.mOr, N3.mOrV, N3.mAndV, N3.trv, N3.mNot, N3.mIf, N3.mChn, N3.mKeep, N3.mRep, N3.mDispM, N3.mPs, N3.ends, N3.rLen, N3.rListOf, N3.rListOfM, N3.rTupOf, N3.rSumI, N3.listed, N3.rSl, N3.rRev, N3.rEq, N3.rNe, N3.rIsN, N3.rNotN, N3.isNon, N3.vw, N3.mYes, N3.gT, N3.gsCons, N3.gsNil, N3.mFor, N3.mSeqs, N3.mLc, N3.mLcM, N3.mRng1, N3.mRng2, N3.mEnum, N3.mEnumA, N3.mZip, N3.wp, N3.rJoin, N3.rSS, N3.rIdxS, N3.rRepr, N3.flat, N3.flats, N3.toD, N3.toDs, List.length_cons, List.length_nil, List.append_eq, List.cons_append, List.nil_append, List.map_cons, List.map_nil, if_true, if_false, Bool.false_eq_true, decide_eq_true_eq, Option.some.injEq, true_and, and_true, Bool.not_true, Bool.not_false, reduceCtorEq, Bool.and_self, Bool.and_true, Bool.true_and, ite_true, ite_false]
    refine ⟨.inr (by decide), by decide, ?_⟩
    have hz0 := Int.emod_nonneg ((c % 2147483587 + 104659 * (gone + 1) * (gone + 1) + 29) * 48271) (by decide : (2147483629 : Int) ≠ 0)
    have hz1 := Int.emod_lt_of_pos ((c % 2147483587 + 104659 * (gone + 1) * (gone + 1) + 29) * 48271) (by decide : (0 : Int) < 2147483629)
    revert hz0 hz1
    generalize (c % 2147483587 + 104659 * (gone + 1) * (gone + 1) + 29) * 48271 % 2147483629 = z
    intro hz0 hz1
    subst hP
    refine seq_step fun P hP => ?_
    simp only [N3.mDput, N3.mB, N3.mU, N3.mVar, N3.mC, N3.sp0, N3.gt, N3.st, N3.rIx, N3.seqL, N3.dctL, N3.kOf, N3.rAdd, N3.mAsg, N3.gN, N3.mIfS, N3.mTest, N3.mPop, N3.mAppend, N3.mDrop, N3.mRet, N3.mRetN, N3.mNx, N3.mBrk, N3.mCnt, N3.mLst, N3.mLstM, N3.mCons, N3.mNil, N3.mTup, N3.mBlt, N3.mKw, N3.cat2, N3.cat2r, N3.gS, N3.gL, N3.mSlM, N3.rSlM, N3.mM1, N3.mSl, N3.mRev, N3.mStep, N3.mRevM, N3.mPart, N3.mNoPart, N3.rII, N3.rII0, N3.rIB, N3.rCmp, N3.rLt, N3.rLe, N3.rGt, N3.rGe, N3.mIsI, N3.tn, N3.isI, N3.mDisp, N3.mDct0, N3.mDct0M, N3.mPar3, N3.mAug, N3.rIAdd, N3.mExtend, N3.mInsert, N3.mPopAt, N3.rMin2, N3.rMax2, N3.rIntT, N3.rSplit, N3.rSplitM, N3.rAddM, N3.gPut, N3.mFmt, N3.mJs, N3.mJoin, N3.rDictP, N3.mRepM, N3.rListA, N3.rSortA, N3.mLc2, N3.lcI, N3.lcO, N3.rAllB, N3.rAnyB, N3.rStrI, N3.rIntO, N3.vwL, N3.rMul, N3.rMulT, N3.rNeg, N3.rSub, N3.rDiv, N3.rMod, N3.rPow, N3.mPar, N3.mAndT, N3.mOrT, N3.mNotT, N3.mAnd, N3.mOr, N3.mOrV, N3.mAndV, N3.trv, N3.mNot, N3.mIf, N3.mChn, N3.mKeep, N3.mRep, N3.mDispM, N3.mPs, N3.ends, N3.rLen, N3.rListOf, N3.rListOfM, N3.rTupOf, N3.rSumI, N3.listed, N3.rSl, N3.rRev, N3.rEq, N3.rNe, N3.rIsN, N3.rNotN, N3.isNon, N3.vw, N3.mYes, N3.gT, N3.gsCons, N3.gsNil, N3.mFor, N3.mSeqs, N3.mLc, N3.mLcM, N3.mRng1, N3.mRng2, N3.mEnum, N3.mEnumA, N3.mZip, N3.wp, N3.rJoin, N3.rSS, N3.rIdxS, N3.rRepr, N3.flat, N3.flats, N3.toD, N3.toDs, List.length_cons, List.length_nil, List.append_eq, List.cons_append, List.nil_append, List.map_cons, List.map_nil, if_true, if_false, Bool.false_eq_true, decide_eq_true_eq, Option.some.injEq, true_and, and_true, Bool.not_true, Bool.not_false, reduceCtorEq, Bool.and_self, Bool.and_true, Bool.true_and, ite_true, ite_false, Dk.at_d, Dk.at_l, lk_gone]
    refine ⟨.inl ⟨by omega, by omega⟩, .inl (by decide), by decide, ?_⟩
    have hy0 := Int.emod_nonneg (z * z + 39373 * (gone + 1) + 7) (by decide : (2147483563 : Int) ≠ 0)
    have hy1 := Int.emod_lt_of_pos (z * z + 39373 * (gone + 1) + 7) (by decide : (0 : Int) < 2147483563)
    revert hy0 hy1
    generalize (z * z + 39373 * (gone + 1) + 7) % 2147483563 = y
    intro hy0 hy1
    subst hP
    simp only [N3.mDput, N3.mB, N3.mU, N3.mVar, N3.mC, N3.sp0, N3.gt, N3.st, N3.rIx, N3.seqL, N3.dctL, N3.kOf, N3.rAdd, N3.mAsg, N3.gN, N3.mIfS, N3.mTest, N3.mPop, N3.mAppend, N3.mDrop, N3.mRet, N3.mRetN, N3.mNx, N3.mBrk, N3.mCnt, N3.mLst, N3.mLstM, N3.mCons, N3.mNil, N3.mTup, N3.mBlt, N3.mKw, N3.cat2, N3.cat2r, N3.gS, N3.gL, N3.mSlM, N3.rSlM, N3.mM1, N3.mSl, N3.mRev, N3.mStep, N3.mRevM, N3.mPart, N3.mNoPart, N3.rII, N3.rII0, N3.rIB, N3.rCmp, N3.rLt, N3.rLe, N3.rGt, N3.rGe, N3.mIsI, N3.tn, N3.isI, N3.mDisp, N3.mDct0, N3.mDct0M, N3.mPar3, N3.mAug, N3.rIAdd, N3.mExtend, N3.mInsert, N3.mPopAt, N3.rMin2, N3.rMax2, N3.rIntT, N3.rSplit, N3.rSplitM, N3.rAddM, N3.gPut, N3.mFmt, N3.mJs, N3.mJoin, N3.rDictP, N3.mRepM, N3.rListA, N3.rSortA, N3.mLc2, N3.lcI, N3.lcO, N3.rAllB, N3.rAnyB, N3.rStrI, N3.rIntO, N3.vwL, N3.rMul, N3.rMulT, N3.rNeg, N3.rSub, N3.rDiv, N3.rMod, N3.rPow, N3.mPar, N3.mAndT, N3.mOrT, N3.mNotT, N3.mAnd, N3.mOr, N3.mOrV, N3.mAndV, N3.trv, N3.mNot, N3.mIf, N3.mChn, N3.mKeep, N3.mRep, N3.mDispM, N3.mPs, N3.ends, N3.rLen, N3.rListOf, N3.rListOfM, N3.rTupOf, N3.rSumI, N3.listed, N3.rSl, N3.rRev, N3.rEq, N3.rNe, N3.rIsN, N3.rNotN, N3.isNon, N3.vw, N3.mYes, N3.gT, N3.gsCons, N3.gsNil, N3.mFor, N3.mSeqs, N3.mLc, N3.mLcM, N3.mRng1, N3.mRng2, N3.mEnum, N3.mEnumA, N3.mZip, N3.wp, N3.rJoin, N3.rSS, N3.rIdxS, N3.rRepr, N3.flat, N3.flats, N3.toD, N3.toDs, List.length_cons, List.length_nil, List.append_eq, List.cons_append, List.nil_append, List.map_cons, List.map_nil, if_true, if_false, Bool.false_eq_true, decide_eq_true_eq, Option.some.injEq, true_and, and_true, Bool.not_true, Bool.not_false, reduceCtorEq, Bool.and_self, Bool.and_true, Bool.true_and, ite_true, ite_false, Dk.at_d, Dk.at_l, lk_gone]
    refine ⟨⟨by decide, by decide⟩, .inl ⟨by omega, by omega⟩, by decide, ⟨by decide, by decide⟩, many0, fin ys _ hy (Int.emod_nonneg _ (by omega)) (Int.emod_lt_of_pos _ many0)⟩
  simp only [N3.mDput, N3.mB, N3.mU, N3.mVar, N3.mC, N3.sp0, N3.gt, N3.st, N3.rIx, N3.seqL, N3.dctL, N3.kOf, N3.rAdd, N3.mAsg, N3.gN, N3.mIfS, N3.mTest, N3.mPop, N3.mAppend, N3.mDrop, N3.mRet, N3.mRetN, N3.mNx, N3.mBrk, N3.mCnt, N3.mLst, N3.mLstM, N3.mCons, N3.mNil, N3.mTup, N3.mBlt, N3.mKw, N3.cat2, N3.cat2r, N3.gS, N3.gL, N3.mSlM, N3.rSlM, N3.mM1, N3.mSl, N3.mRev, N3.mStep, N3.mRevM, N3.mPart, N3.mNoPart, N3.rII, N3.rII0, N3.rIB, N3.rCmp, N3.rLt, N3.rLe, N3.rGt, N3.rGe, N3.mIsI, N3.tn, N3.isI, N3.mDisp, N3.mDct0, N3.mDct0M, N3.mPar3, N3.mAug, N3.rIAdd, N3.mExtend, N3.mInsert, N3.mPopAt, N3.rMin2, N3.rMax2, N3.rIntT, N3.rSplit, N3.rSplitM, N3.rAddM, N3.gPut, N3.mFmt, N3.mJs, N3.mJoin, N3.rDictP, N3.mRepM, N3.rListA, N3.rSortA, N3.mLc2, N3.lcI, N3.lcO, N3.rAllB, N3.rAnyB, N3.rStrI, N3.rIntO, N3.vwL, N3.rMul, N3.rMulT, N3.rNeg, N3.rSub, N3.rDiv, N3.rMod, N3.rPow, N3.mPar, N3.mAndT, N3.mOrT, N3.mNotT, N3.mAnd, N3.mOr, N3.mOrV, N3.mAndV, N3.trv, N3.mNot, N3.mIf, N3.mChn, N3.mKeep, N3.mRep, N3.mDispM, N3.mPs, N3.ends, N3.rLen, N3.rListOf, N3.rListOfM, N3.rTupOf, N3.rSumI, N3.listed, N3.rSl, N3.rRev, N3.rEq, N3.rNe, N3.rIsN, N3.rNotN, N3.isNon, N3.vw, N3.mYes, N3.gT, N3.gsCons, N3.gsNil, N3.mFor, N3.mSeqs, N3.mLc, N3.mLcM, N3.mRng1, N3.mRng2, N3.mEnum, N3.mEnumA, N3.mZip, N3.wp, N3.rJoin, N3.rSS, N3.rIdxS, N3.rRepr, N3.flat, N3.flats, N3.toD, N3.toDs, List.length_cons, List.length_nil, List.append_eq, List.cons_append, List.nil_append, List.map_cons, List.map_nil, if_true, if_false, Bool.false_eq_true, decide_eq_true_eq, Option.some.injEq, true_and, and_true, Bool.not_true, Bool.not_false, reduceCtorEq, Bool.and_self, Bool.and_true, Bool.true_and, ite_true, ite_false, Dk.at_d, Dk.at_l, lk_left]
  refine ⟨flats_ints _, depth_ints _, ?_⟩
  rcases List.eq_nil_or_concat xs with rfl | ⟨ys, c, rfl⟩
  · rw [if_neg (by decide)]
    exact rest _ _ hx
  · rw [List.concat_eq_append] at hx ⊢
    rw [List.length_append] at hx
    have h1 : (!(PyData.list (toDs (List.map PV.int (ys ++ [c])))).eqv (PyData.list [])) = true := by
      cases ys <;> rfl
    rw [if_pos h1]
    refine seq_step fun P' hP' => ?_
    simp only [N3.mDput, N3.mB, N3.mU, N3.mVar, N3.mC, N3.sp0, N3.gt, N3.st, N3.rIx, N3.seqL, N3.dctL, N3.kOf, N3.rAdd, N3.mAsg, N3.gN, N3.mIfS, N3.mTest, N3.mPop, N3.mAppend, N3.mDrop, N3.mRet, N3.mRetN, N3.mNx, N3.mBrk, N3.mCnt, N3.mLst, N3.mLstM, N3.mCons, N3.mNil, N3.mTup, N3.mBlt, N3.mKw, N3.cat2, N3.cat2r, N3.gS, N3.gL, N3.mSlM, N3.rSlM, N3.mM1, N3.mSl, N3.mRev, N3.mStep, N3.mRevM, N3.mPart, N3.mNoPart, N3.rII, N3.rII0, N3.rIB, N3.rCmp, N3.rLt, N3.rLe, N3.rGt, N3.rGe, N3.mIsI, N3.tn, N3.isI, N3.mDisp, N3.mDct0, N3.mDct0M, N3.mPar3, N3.mAug, N3.rIAdd, N3.mExtend, N3.mInsert, N3.mPopAt, N3.rMin2, N3.rMax2, N3.rIntT, N3.rSplit, N3.rSplitM, N3.rAddM, N3.gPut, N3.mFmt, N3.mJs, N3.mJoin, N3.rDictP, N3.mRepM, N3.rListA, N3.rSortA, N3.mLc2, N3.lcI, N3.lcO, N3.rAllB, N3.rAnyB, N3.rStrI, N3.rIntO, N3.vwL, N3.rMul, N3.rMulT, N3.rNeg, N3.rSub, N3.rDiv, N3.rMod, N3.rPow, N3.mPar, N3.mAndT, N3.mOrT, N3.mNotT, N3.mAnd, N3.mOr, N3.mOrV, N3.mAndV, N3.trv, N3.mNot, N3.mIf, N3.mChn, N3.mKeep, N3.mRep, N3.mDispM, N3.mPs, N3.ends, N3.rLen, N3.rListOf, N3.rListOfM, N3.rTupOf, N3.rSumI, N3.listed, N3.rSl, N3.rRev, N3.rEq, N3.rNe, N3.rIsN, N3.rNotN, N3.isNon, N3.vw, N3.mYes, N3.gT, N3.gsCons, N3.gsNil, N3.mFor, N3.mSeqs, N3.mLc, N3.mLcM, N3.mRng1, N3.mRng2, N3.mEnum, N3.mEnumA, N3.mZip, N3.wp, N3.rJoin, N3.rSS, N3.rIdxS, N3.rRepr, N3.flat, N3.flats, N3.toD, N3.toDs, List.length_cons, List.length_nil, List.append_eq, List.cons_append, List.nil_append, List.map_cons, List.map_nil, if_true, if_false, Bool.false_eq_true, decide_eq_true_eq, Option.some.injEq, true_and, and_true, Bool.not_true, Bool.not_false, reduceCtorEq, Bool.and_self, Bool.and_true, Bool.true_and, ite_true, ite_false, Dk.at_d, Dk.at_l, lk_left, List.map_append, List.getLast?_append, List.getLast?_singleton, Option.some_or, List.dropLast_concat, Dk.put_l]
    subst hP'
    refine seq_step fun P' hP' => ?_
    simp only [N3.mDput, N3.mB, N3.mU, N3.mVar, N3.mC, N3.sp0, N3.gt, N3.st, N3.rIx, N3.seqL, N3.dctL, N3.kOf, N3.rAdd, N3.mAsg, N3.gN, N3.mIfS, N3.mTest, N3.mPop, N3.mAppend, N3.mDrop, N3.mRet, N3.mRetN, N3.mNx, N3.mBrk, N3.mCnt, N3.mLst, N3.mLstM, N3.mCons, N3.mNil, N3.mTup, N3.mBlt, N3.mKw, N3.cat2, N3.cat2r, N3.gS, N3.gL, N3.mSlM, N3.rSlM, N3.mM1, N3.mSl, N3.mRev, N3.mStep, N3.mRevM, N3.mPart, N3.mNoPart, N3.rII, N3.rII0, N3.rIB, N3.rCmp, N3.rLt, N3.rLe, N3.rGt, N3.rGe, N3.mIsI, N3.tn, N3.isI, N3.mDisp, N3.mDct0, N3.mDct0M, N3.mPar3, N3.mAug, N3.rIAdd, N3.mExtend, N3.mInsert, N3.mPopAt, N3.rMin2, N3.rMax2, N3.rIntT, N3.rSplit, N3.rSplitM, N3.rAddM, N3.gPut, N3.mFmt, N3.mJs, N3.mJoin, N3.rDictP, N3.mRepM, N3.rListA, N3.rSortA, N3.mLc2, N3.lcI, N3.lcO, N3.rAllB, N3.rAnyB, N3.rStrI, N3.rIntO, N3.vwL, N3.rMul, N3.rMulT, N3.rNeg, N3.rSub, N3.rDiv, N3.rMod, N3.rPow, N3.mPar, N3.mAndT, N3.mOrT, N3.mNotT, N3.mAnd, N3.mOr, N3.mOrV, N3.mAndV, N3.trv, N3.mNot, N3.mIf, N3.mChn, N3.mKeep, N3.mRep, N3.mDispM, N3.mPs, N3.ends, N3.rLen, N3.rListOf, N3.rListOfM, N3.rTupOf, N3.rSumI, N3.listed, N3.rSl, N3.rRev, N3.rEq, N3.rNe, N3.rIsN, N3.rNotN, N3.isNon, N3.vw, N3.mYes, N3.gT, N3.gsCons, N3.gsNil, N3.mFor, N3.mSeqs, N3.mLc, N3.mLcM, N3.mRng1, N3.mRng2, N3.mEnum, N3.mEnumA, N3.mZip, N3.wp, N3.rJoin, N3.rSS, N3.rIdxS, N3.rRepr, N3.flat, N3.flats, N3.toD, N3.toDs, List.length_cons, List.length_nil, List.append_eq, List.cons_append, List.nil_append, List.map_cons, List.map_nil, if_true, if_false, Bool.false_eq_true, decide_eq_true_eq, Option.some.injEq, true_and, and_true, Bool.not_true, Bool.not_false, reduceCtorEq, Bool.and_self, Bool.and_true, Bool.true_and, ite_true, ite_false, Dk.at_d, Dk.at_l, lk_left]
    refine ⟨⟨by decide, by decide, by decide⟩, ?_⟩
    by_cases hc : 10 ^ (18 : Int).toNat ≤ c
    · rw [if_pos hc]
      refine seq_step fun P'' hP'' => ?_
      simp only [N3.mDput, N3.mB, N3.mU, N3.mVar, N3.mC, N3.sp0, N3.gt, N3.st, N3.rIx, N3.seqL, N3.dctL, N3.kOf, N3.rAdd, N3.mAsg, N3.gN, N3.mIfS, N3.mTest, N3.mPop, N3.mAppend, N3.mDrop, N3.mRet, N3.mRetN, N3.mNx, N3.mBrk, N3.mCnt, N3.mLst, N3.mLstM, N3.mCons, N3.mNil, N3.mTup, N3.mBlt, N3.mKw, N3.cat2, N3.cat2r, N3.gS, N3.gL, N3.mSlM, N3.rSlM, N3.mM1, N3.mSl, N3.mRev, N3.mStep, N3.mRevM, N3.mPart, N3.mNoPart, N3.rII, N3.rII0, N3.rIB, N3.rCmp, N3.rLt, N3.rLe, N3.rGt, N3.rGe, N3.mIsI, N3.tn, N3.isI, N3.mDisp, N3.mDct0, N3.mDct0M, N3.mPar3, N3.mAug, N3.rIAdd, N3.mExtend, N3.mInsert, N3.mPopAt, N3.rMin2, N3.rMax2, N3.rIntT, N3.rSplit, N3.rSplitM, N3.rAddM, N3.gPut, N3.mFmt, N3.mJs, N3.mJoin, N3.rDictP, N3.mRepM, N3.rListA, N3.rSortA, N3.mLc2, N3.lcI, N3.lcO, N3.rAllB, N3.rAnyB, N3.rStrI, N3.rIntO, N3.vwL, N3.rMul, N3.rMulT, N3.rNeg, N3.rSub, N3.rDiv, N3.rMod, N3.rPow, N3.mPar, N3.mAndT, N3.mOrT, N3.mNotT, N3.mAnd, N3.mOr, N3.mOrV, N3.mAndV, N3.trv, N3.mNot, N3.mIf, N3.mChn, N3.mKeep, N3.mRep, N3.mDispM, N3.mPs, N3.ends, N3.rLen, N3.rListOf, N3.rListOfM, N3.rTupOf, N3.rSumI, N3.listed, N3.rSl, N3.rRev, N3.rEq, N3.rNe, N3.rIsN, N3.rNotN, N3.isNon, N3.vw, N3.mYes, N3.gT, N3.gsCons, N3.gsNil, N3.mFor, N3.mSeqs, N3.mLc, N3.mLcM, N3.mRng1, N3.mRng2, N3.mEnum, N3.mEnumA, N3.mZip, N3.wp, N3.rJoin, N3.rSS, N3.rIdxS, N3.rRepr, N3.flat, N3.flats, N3.toD, N3.toDs, List.length_cons, List.length_nil, List.append_eq, List.cons_append, List.nil_append, List.map_cons, List.map_nil, if_true, if_false, Bool.false_eq_true, decide_eq_true_eq, Option.some.injEq, true_and, and_true, Bool.not_true, Bool.not_false, reduceCtorEq, Bool.and_self, Bool.and_true, Bool.true_and, ite_true, ite_false, Dk.at_d, Dk.at_l, lk_left]
      refine ⟨Dk.list_l, wide_div (b := 140) many0 (Nat.lt_of_lt_of_le (show many.natAbs < 10 ^ 41 by omega) (by decide)) (by decide) (by decide), by rw [List.length_map]; show _ < 16777216; simp at hx; omega, ?_⟩
      rw [show List.map PV.int ys ++ [PV.int (c / many)] = List.map PV.int (ys ++ [c / many]) by simp, Dk.put_l]
      subst hP''
      simp only [N3.mDput, N3.mB, N3.mU, N3.mVar, N3.mC, N3.sp0, N3.gt, N3.st, N3.rIx, N3.seqL, N3.dctL, N3.kOf, N3.rAdd, N3.mAsg, N3.gN, N3.mIfS, N3.mTest, N3.mPop, N3.mAppend, N3.mDrop, N3.mRet, N3.mRetN, N3.mNx, N3.mBrk, N3.mCnt, N3.mLst, N3.mLstM, N3.mCons, N3.mNil, N3.mTup, N3.mBlt, N3.mKw, N3.cat2, N3.cat2r, N3.gS, N3.gL, N3.mSlM, N3.rSlM, N3.mM1, N3.mSl, N3.mRev, N3.mStep, N3.mRevM, N3.mPart, N3.mNoPart, N3.rII, N3.rII0, N3.rIB, N3.rCmp, N3.rLt, N3.rLe, N3.rGt, N3.rGe, N3.mIsI, N3.tn, N3.isI, N3.mDisp, N3.mDct0, N3.mDct0M, N3.mPar3, N3.mAug, N3.rIAdd, N3.mExtend, N3.mInsert, N3.mPopAt, N3.rMin2, N3.rMax2, N3.rIntT, N3.rSplit, N3.rSplitM, N3.rAddM, N3.gPut, N3.mFmt, N3.mJs, N3.mJoin, N3.rDictP, N3.mRepM, N3.rListA, N3.rSortA, N3.mLc2, N3.lcI, N3.lcO, N3.rAllB, N3.rAnyB, N3.rStrI, N3.rIntO, N3.vwL, N3.rMul, N3.rMulT, N3.rNeg, N3.rSub, N3.rDiv, N3.rMod, N3.rPow, N3.mPar, N3.mAndT, N3.mOrT, N3.mNotT, N3.mAnd, N3.mOr, N3.mOrV, N3.mAndV, N3.trv, N3.mNot, N3.mIf, N3.mChn, N3.mKeep, N3.mRep, N3.mDispM, N3.mPs, N3.ends, N3.rLen, N3.rListOf, N3.rListOfM, N3.rTupOf, N3.rSumI, N3.listed, N3.rSl, N3.rRev, N3.rEq, N3.rNe, N3.rIsN, N3.rNotN, N3.isNon, N3.vw, N3.mYes, N3.gT, N3.gsCons, N3.gsNil, N3.mFor, N3.mSeqs, N3.mLc, N3.mLcM, N3.mRng1, N3.mRng2, N3.mEnum, N3.mEnumA, N3.mZip, N3.wp, N3.rJoin, N3.rSS, N3.rIdxS, N3.rRepr, N3.flat, N3.flats, N3.toD, N3.toDs, List.length_cons, List.length_nil, List.append_eq, List.cons_append, List.nil_append, List.map_cons, List.map_nil, if_true, if_false, Bool.false_eq_true, decide_eq_true_eq, Option.some.injEq, true_and, and_true, Bool.not_true, Bool.not_false, reduceCtorEq, Bool.and_self, Bool.and_true, Bool.true_and, ite_true, ite_false]
      exact ⟨many0, fin _ _ (by rw [List.length_append]; exact hx) (Int.emod_nonneg _ (by omega)) (Int.emod_lt_of_pos _ many0)⟩
    · rw [if_neg hc]
      subst hP'
      simp only [N3.mDput, N3.mB, N3.mU, N3.mVar, N3.mC, N3.sp0, N3.gt, N3.st, N3.rIx, N3.seqL, N3.dctL, N3.kOf, N3.rAdd, N3.mAsg, N3.gN, N3.mIfS, N3.mTest, N3.mPop, N3.mAppend, N3.mDrop, N3.mRet, N3.mRetN, N3.mNx, N3.mBrk, N3.mCnt, N3.mLst, N3.mLstM, N3.mCons, N3.mNil, N3.mTup, N3.mBlt, N3.mKw, N3.cat2, N3.cat2r, N3.gS, N3.gL, N3.mSlM, N3.rSlM, N3.mM1, N3.mSl, N3.mRev, N3.mStep, N3.mRevM, N3.mPart, N3.mNoPart, N3.rII, N3.rII0, N3.rIB, N3.rCmp, N3.rLt, N3.rLe, N3.rGt, N3.rGe, N3.mIsI, N3.tn, N3.isI, N3.mDisp, N3.mDct0, N3.mDct0M, N3.mPar3, N3.mAug, N3.rIAdd, N3.mExtend, N3.mInsert, N3.mPopAt, N3.rMin2, N3.rMax2, N3.rIntT, N3.rSplit, N3.rSplitM, N3.rAddM, N3.gPut, N3.mFmt, N3.mJs, N3.mJoin, N3.rDictP, N3.mRepM, N3.rListA, N3.rSortA, N3.mLc2, N3.lcI, N3.lcO, N3.rAllB, N3.rAnyB, N3.rStrI, N3.rIntO, N3.vwL, N3.rMul, N3.rMulT, N3.rNeg, N3.rSub, N3.rDiv, N3.rMod, N3.rPow, N3.mPar, N3.mAndT, N3.mOrT, N3.mNotT, N3.mAnd, N3.mOr, N3.mOrV, N3.mAndV, N3.trv, N3.mNot, N3.mIf, N3.mChn, N3.mKeep, N3.mRep, N3.mDispM, N3.mPs, N3.ends, N3.rLen, N3.rListOf, N3.rListOfM, N3.rTupOf, N3.rSumI, N3.listed, N3.rSl, N3.rRev, N3.rEq, N3.rNe, N3.rIsN, N3.rNotN, N3.isNon, N3.vw, N3.mYes, N3.gT, N3.gsCons, N3.gsNil, N3.mFor, N3.mSeqs, N3.mLc, N3.mLcM, N3.mRng1, N3.mRng2, N3.mEnum, N3.mEnumA, N3.mZip, N3.wp, N3.rJoin, N3.rSS, N3.rIdxS, N3.rRepr, N3.flat, N3.flats, N3.toD, N3.toDs, List.length_cons, List.length_nil, List.append_eq, List.cons_append, List.nil_append, List.map_cons, List.map_nil, if_true, if_false, Bool.false_eq_true, decide_eq_true_eq, Option.some.injEq, true_and, and_true, Bool.not_true, Bool.not_false, reduceCtorEq, Bool.and_self, Bool.and_true, Bool.true_and, ite_true, ite_false, Dk.at_d, Dk.at_l, lk_every]
      exact rest _ _ (by simp at hx; omega)
def mDeck : MS :=
  mSeq (mAsg (mBlt rListA (mCons (mSl (mVar 0) (mNoPart) (mPart (mC (.int 63)))) (mNil))) (gN 1))
  (mSeq (mAsg (mB rAdd (mBlt rSumI (mCons (mLc (mSeqs (mVar 1)) [3] (gN 3) (mYes) (mB rMod (mVar 3) (mC (.int 999983)))) (mNil))) (mB rMul (mC (.int 7919)) (mBlt rLen (mCons (mVar 1) (mNil))))) (gN 2))
  (mRet (mDispM [(mC (.str "left"), mRevM (mVar 1)), (mC (.str "every"), mVar 2), (mC (.str "gone"), mC (.int 0))])))
/-- a comprehension whose turns change nothing: the items' answers -/
theorem lcL_map {gd : PH → Prop} {τ : PSt} {g : MG} {m : ME} {h : PH} {Q : List PV → PH → Prop} (f : PV → PV) (hg : gd h) :
    ∀ (ps acc : List PV), (∀ p ∈ ps, ∀ P : PV → PH → Prop, P (f p) h → g p τ h fun τ1 h1 => m τ1 h1 P) → Q (acc ++ ps.map f) h → lcL gd τ g mYes m ps acc h Q
  | [], acc, _, q => ⟨hg, by simpa using q⟩
  | p :: ps, acc, hs, q => by
    refine ⟨hg, ?_⟩
    have z := hs p List.mem_cons_self (fun v h3 => lcL gd τ g mYes m ps (acc ++ [v]) h3 Q) (lcL_map f hg ps _ (fun x hx => hs x (List.mem_cons_of_mem _ hx)) (by simpa using q))
    simpa only [mYes, if_true] using z
theorem pure_deckF : ∀ qs h Q, qs.length = 1 → spDeckF qs h Q → mDeck (ends Q) (sp0 4 qs) h := by
  rintro _ h Q - ⟨ns, rfl, hn, k⟩
  unfold mDeck
  have hc : cut (ns.map PV.int) none (some 63) = ns.map PV.int := cut_all ⟨rfl, by
    show HT.sIx _ _ (some 63) = _
    unfold HT.sIx
    simp; omega⟩
  refine seq_step fun P hP => ?_
  simp only [N3.mDput, N3.mB, N3.mU, N3.mVar, N3.mC, N3.sp0, N3.gt, N3.st, N3.rIx, N3.seqL, N3.dctL, N3.kOf, N3.rAdd, N3.mAsg, N3.gN, N3.mIfS, N3.mTest, N3.mPop, N3.mAppend, N3.mDrop, N3.mRet, N3.mRetN, N3.mNx, N3.mBrk, N3.mCnt, N3.mLst, N3.mLstM, N3.mCons, N3.mNil, N3.mTup, N3.mBlt, N3.mKw, N3.cat2, N3.cat2r, N3.gS, N3.gL, N3.mSlM, N3.rSlM, N3.mM1, N3.mSl, N3.mRev, N3.mStep, N3.mRevM, N3.mPart, N3.mNoPart, N3.rII, N3.rII0, N3.rIB, N3.rCmp, N3.rLt, N3.rLe, N3.rGt, N3.rGe, N3.mIsI, N3.tn, N3.isI, N3.mDisp, N3.mDct0, N3.mDct0M, N3.mPar3, N3.mAug, N3.rIAdd, N3.mExtend, N3.mInsert, N3.mPopAt, N3.rMin2, N3.rMax2, N3.rIntT, N3.rSplit, N3.rSplitM, N3.rAddM, N3.gPut, N3.mFmt, N3.mJs, N3.mJoin, N3.rDictP, N3.mRepM, N3.rListA, N3.rSortA, N3.mLc2, N3.lcI, N3.lcO, N3.rAllB, N3.rAnyB, N3.rStrI, N3.rIntO, N3.vwL, N3.rMul, N3.rMulT, N3.rNeg, N3.rSub, N3.rDiv, N3.rMod, N3.rPow, N3.mPar, N3.mAndT, N3.mOrT, N3.mNotT, N3.mAnd, N3.mOr, N3.mOrV, N3.mAndV, N3.trv, N3.mNot, N3.mIf, N3.mChn, N3.mKeep, N3.mRep, N3.mDispM, N3.mPs, N3.ends, N3.rLen, N3.rListOf, N3.rListOfM, N3.rTupOf, N3.rSumI, N3.listed, N3.rSl, N3.rRev, N3.rEq, N3.rNe, N3.rIsN, N3.rNotN, N3.isNon, N3.vw, N3.mYes, N3.gT, N3.gsCons, N3.gsNil, N3.mFor, N3.mSeqs, N3.mLc, N3.mLcM, N3.mRng1, N3.mRng2, N3.mEnum, N3.mEnumA, N3.mZip, N3.wp, N3.rJoin, N3.rSS, N3.rIdxS, N3.rRepr, N3.flat, N3.flats, N3.toD, N3.toDs, List.length_cons, List.length_nil, List.append_eq, List.cons_append, List.nil_append, List.map_cons, List.map_nil, if_true, if_false, Bool.false_eq_true, decide_eq_true_eq, Option.some.injEq, true_and, and_true, Bool.not_true, Bool.not_false, reduceCtorEq, Bool.and_self, Bool.and_true, Bool.true_and, ite_true, ite_false, hc]
  subst hP
  refine seq_step fun P hP => ?_
  simp only [N3.mDput, N3.mB, N3.mU, N3.mVar, N3.mC, N3.sp0, N3.gt, N3.st, N3.rIx, N3.seqL, N3.dctL, N3.kOf, N3.rAdd, N3.mAsg, N3.gN, N3.mIfS, N3.mTest, N3.mPop, N3.mAppend, N3.mDrop, N3.mRet, N3.mRetN, N3.mNx, N3.mBrk, N3.mCnt, N3.mLst, N3.mLstM, N3.mCons, N3.mNil, N3.mTup, N3.mBlt, N3.mKw, N3.cat2, N3.cat2r, N3.gS, N3.gL, N3.mSlM, N3.rSlM, N3.mM1, N3.mSl, N3.mRev, N3.mStep, N3.mRevM, N3.mPart, N3.mNoPart, N3.rII, N3.rII0, N3.rIB, N3.rCmp, N3.rLt, N3.rLe, N3.rGt, N3.rGe, N3.mIsI, N3.tn, N3.isI, N3.mDisp, N3.mDct0, N3.mDct0M, N3.mPar3, N3.mAug, N3.rIAdd, N3.mExtend, N3.mInsert, N3.mPopAt, N3.rMin2, N3.rMax2, N3.rIntT, N3.rSplit, N3.rSplitM, N3.rAddM, N3.gPut, N3.mFmt, N3.mJs, N3.mJoin, N3.rDictP, N3.mRepM, N3.rListA, N3.rSortA, N3.mLc2, N3.lcI, N3.lcO, N3.rAllB, N3.rAnyB, N3.rStrI, N3.rIntO, N3.vwL, N3.rMul, N3.rMulT, N3.rNeg, N3.rSub, N3.rDiv, N3.rMod, N3.rPow, N3.mPar, N3.mAndT, N3.mOrT, N3.mNotT, N3.mAnd, N3.mOr, N3.mOrV, N3.mAndV, N3.trv, N3.mNot, N3.mIf, N3.mChn, N3.mKeep, N3.mRep, N3.mDispM, N3.mPs, N3.ends, N3.rLen, N3.rListOf, N3.rListOfM, N3.rTupOf, N3.rSumI, N3.listed, N3.rSl, N3.rRev, N3.rEq, N3.rNe, N3.rIsN, N3.rNotN, N3.isNon, N3.vw, N3.mYes, N3.gT, N3.gsCons, N3.gsNil, N3.mFor, N3.mSeqs, N3.mLc, N3.mLcM, N3.mRng1, N3.mRng2, N3.mEnum, N3.mEnumA, N3.mZip, N3.wp, N3.rJoin, N3.rSS, N3.rIdxS, N3.rRepr, N3.flat, N3.flats, N3.toD, N3.toDs, List.length_cons, List.length_nil, List.append_eq, List.cons_append, List.nil_append, List.map_cons, List.map_nil, if_true, if_false, Bool.false_eq_true, decide_eq_true_eq, Option.some.injEq, true_and, and_true, Bool.not_true, Bool.not_false, reduceCtorEq, Bool.and_self, Bool.and_true, Bool.true_and, ite_true, ite_false]
  refine lcL_map (f := fun p => match p with | .int i => .int (i % 999983) | p => p) trivial _ _ (fun p hp P q => ?_) ?_
  · obtain ⟨i, _, rfl⟩ := List.mem_map.mp hp
    simp only [N3.mDput, N3.mB, N3.mU, N3.mVar, N3.mC, N3.sp0, N3.gt, N3.st, N3.rIx, N3.seqL, N3.dctL, N3.kOf, N3.rAdd, N3.mAsg, N3.gN, N3.mIfS, N3.mTest, N3.mPop, N3.mAppend, N3.mDrop, N3.mRet, N3.mRetN, N3.mNx, N3.mBrk, N3.mCnt, N3.mLst, N3.mLstM, N3.mCons, N3.mNil, N3.mTup, N3.mBlt, N3.mKw, N3.cat2, N3.cat2r, N3.gS, N3.gL, N3.mSlM, N3.rSlM, N3.mM1, N3.mSl, N3.mRev, N3.mStep, N3.mRevM, N3.mPart, N3.mNoPart, N3.rII, N3.rII0, N3.rIB, N3.rCmp, N3.rLt, N3.rLe, N3.rGt, N3.rGe, N3.mIsI, N3.tn, N3.isI, N3.mDisp, N3.mDct0, N3.mDct0M, N3.mPar3, N3.mAug, N3.rIAdd, N3.mExtend, N3.mInsert, N3.mPopAt, N3.rMin2, N3.rMax2, N3.rIntT, N3.rSplit, N3.rSplitM, N3.rAddM, N3.gPut, N3.mFmt, N3.mJs, N3.mJoin, N3.rDictP, N3.mRepM, N3.rListA, N3.rSortA, N3.mLc2, N3.lcI, N3.lcO, N3.rAllB, N3.rAnyB, N3.rStrI, N3.rIntO, N3.vwL, N3.rMul, N3.rMulT, N3.rNeg, N3.rSub, N3.rDiv, N3.rMod, N3.rPow, N3.mPar, N3.mAndT, N3.mOrT, N3.mNotT, N3.mAnd, N3.mOr, N3.mOrV, N3.mAndV, N3.trv, N3.mNot, N3.mIf, N3.mChn, N3.mKeep, N3.mRep, N3.mDispM, N3.mPs, N3.ends, N3.rLen, N3.rListOf, N3.rListOfM, N3.rTupOf, N3.rSumI, N3.listed, N3.rSl, N3.rRev, N3.rEq, N3.rNe, N3.rIsN, N3.rNotN, N3.isNon, N3.vw, N3.mYes, N3.gT, N3.gsCons, N3.gsNil, N3.mFor, N3.mSeqs, N3.mLc, N3.mLcM, N3.mRng1, N3.mRng2, N3.mEnum, N3.mEnumA, N3.mZip, N3.wp, N3.rJoin, N3.rSS, N3.rIdxS, N3.rRepr, N3.flat, N3.flats, N3.toD, N3.toDs, List.length_cons, List.length_nil, List.append_eq, List.cons_append, List.nil_append, List.map_cons, List.map_nil, if_true, if_false, Bool.false_eq_true, decide_eq_true_eq, Option.some.injEq, true_and, and_true, Bool.not_true, Bool.not_false, reduceCtorEq, Bool.and_self, Bool.and_true, Bool.true_and, ite_true, ite_false]
    exact ⟨by decide, q⟩
  · simp only [N3.mDput, N3.mB, N3.mU, N3.mVar, N3.mC, N3.sp0, N3.gt, N3.st, N3.rIx, N3.seqL, N3.dctL, N3.kOf, N3.rAdd, N3.mAsg, N3.gN, N3.mIfS, N3.mTest, N3.mPop, N3.mAppend, N3.mDrop, N3.mRet, N3.mRetN, N3.mNx, N3.mBrk, N3.mCnt, N3.mLst, N3.mLstM, N3.mCons, N3.mNil, N3.mTup, N3.mBlt, N3.mKw, N3.cat2, N3.cat2r, N3.gS, N3.gL, N3.mSlM, N3.rSlM, N3.mM1, N3.mSl, N3.mRev, N3.mStep, N3.mRevM, N3.mPart, N3.mNoPart, N3.rII, N3.rII0, N3.rIB, N3.rCmp, N3.rLt, N3.rLe, N3.rGt, N3.rGe, N3.mIsI, N3.tn, N3.isI, N3.mDisp, N3.mDct0, N3.mDct0M, N3.mPar3, N3.mAug, N3.rIAdd, N3.mExtend, N3.mInsert, N3.mPopAt, N3.rMin2, N3.rMax2, N3.rIntT, N3.rSplit, N3.rSplitM, N3.rAddM, N3.gPut, N3.mFmt, N3.mJs, N3.mJoin, N3.rDictP, N3.mRepM, N3.rListA, N3.rSortA, N3.mLc2, N3.lcI, N3.lcO, N3.rAllB, N3.rAnyB, N3.rStrI, N3.rIntO, N3.vwL, N3.rMul, N3.rMulT, N3.rNeg, N3.rSub, N3.rDiv, N3.rMod, N3.rPow, N3.mPar, N3.mAndT, N3.mOrT, N3.mNotT, N3.mAnd, N3.mOr, N3.mOrV, N3.mAndV, N3.trv, N3.mNot, N3.mIf, N3.mChn, N3.mKeep, N3.mRep, N3.mDispM, N3.mPs, N3.ends, N3.rLen, N3.rListOf, N3.rListOfM, N3.rTupOf, N3.rSumI, N3.listed, N3.rSl, N3.rRev, N3.rEq, N3.rNe, N3.rIsN, N3.rNotN, N3.isNon, N3.vw, N3.mYes, N3.gT, N3.gsCons, N3.gsNil, N3.mFor, N3.mSeqs, N3.mLc, N3.mLcM, N3.mRng1, N3.mRng2, N3.mEnum, N3.mEnumA, N3.mZip, N3.wp, N3.rJoin, N3.rSS, N3.rIdxS, N3.rRepr, N3.flat, N3.flats, N3.toD, N3.toDs, List.length_cons, List.length_nil, List.append_eq, List.cons_append, List.nil_append, List.map_cons, List.map_nil, if_true, if_false, Bool.false_eq_true, decide_eq_true_eq, Option.some.injEq, true_and, and_true, Bool.not_true, Bool.not_false, reduceCtorEq, Bool.and_self, Bool.and_true, Bool.true_and, ite_true, ite_false, List.map_map]
    refine ⟨ns.map (· % 999983), by rw [List.map_map]; rfl, .inl (by decide), ?_⟩
    subst hP
    simp only [N3.mDput, N3.mB, N3.mU, N3.mVar, N3.mC, N3.sp0, N3.gt, N3.st, N3.rIx, N3.seqL, N3.dctL, N3.kOf, N3.rAdd, N3.mAsg, N3.gN, N3.mIfS, N3.mTest, N3.mPop, N3.mAppend, N3.mDrop, N3.mRet, N3.mRetN, N3.mNx, N3.mBrk, N3.mCnt, N3.mLst, N3.mLstM, N3.mCons, N3.mNil, N3.mTup, N3.mBlt, N3.mKw, N3.cat2, N3.cat2r, N3.gS, N3.gL, N3.mSlM, N3.rSlM, N3.mM1, N3.mSl, N3.mRev, N3.mStep, N3.mRevM, N3.mPart, N3.mNoPart, N3.rII, N3.rII0, N3.rIB, N3.rCmp, N3.rLt, N3.rLe, N3.rGt, N3.rGe, N3.mIsI, N3.tn, N3.isI, N3.mDisp, N3.mDct0, N3.mDct0M, N3.mPar3, N3.mAug, N3.rIAdd, N3.mExtend, N3.mInsert, N3.mPopAt, N3.rMin2, N3.rMax2, N3.rIntT, N3.rSplit, N3.rSplitM, N3.rAddM, N3.gPut, N3.mFmt, N3.mJs, N3.mJoin, N3.rDictP, N3.mRepM, N3.rListA, N3.rSortA, N3.mLc2, N3.lcI, N3.lcO, N3.rAllB, N3.rAnyB, N3.rStrI, N3.rIntO, N3.vwL, N3.rMul, N3.rMulT, N3.rNeg, N3.rSub, N3.rDiv, N3.rMod, N3.rPow, N3.mPar, N3.mAndT, N3.mOrT, N3.mNotT, N3.mAnd, N3.mOr, N3.mOrV, N3.mAndV, N3.trv, N3.mNot, N3.mIf, N3.mChn, N3.mKeep, N3.mRep, N3.mDispM, N3.mPs, N3.ends, N3.rLen, N3.rListOf, N3.rListOfM, N3.rTupOf, N3.rSumI, N3.listed, N3.rSl, N3.rRev, N3.rEq, N3.rNe, N3.rIsN, N3.rNotN, N3.isNon, N3.vw, N3.mYes, N3.gT, N3.gsCons, N3.gsNil, N3.mFor, N3.mSeqs, N3.mLc, N3.mLcM, N3.mRng1, N3.mRng2, N3.mEnum, N3.mEnumA, N3.mZip, N3.wp, N3.rJoin, N3.rSS, N3.rIdxS, N3.rRepr, N3.flat, N3.flats, N3.toD, N3.toDs, List.length_cons, List.length_nil, List.append_eq, List.cons_append, List.nil_append, List.map_cons, List.map_nil, if_true, if_false, Bool.false_eq_true, decide_eq_true_eq, Option.some.injEq, true_and, and_true, Bool.not_true, Bool.not_false, reduceCtorEq, Bool.and_self, Bool.and_true, Bool.true_and, ite_true, ite_false]
    intro l hl
    refine ⟨by decide +kernel, fun d hd => ?_⟩
    have ne : d ≠ l := fun e => by rw [e, up_same] at hd; cases hd
    refine k ⟨d, l, (ns.map (· % 999983)).sum + 7919 * ((ns.map PV.int).length : Nat), h, ne⟩ _ rfl (by rwa [up_ne ne] at hd) hl ⟨ns.reverse, 0, by rw [List.length_reverse]; exact hn, Int.le_refl _, Int.le_refl _, ?_⟩
    unfold Dk.hp
    rw [up_swap ne.symm, List.map_reverse]
theorem pure_deck : ∀ qs h Q, qs.length = 1 → spDeck qs h Q → mDeck (ends Q) (sp0 4 qs) h := fun qs h Q hl ⟨ns, e, hn, k⟩ => pure_deckF qs h Q hl ⟨ns, e, hn, fun D h' e _ _ a => k D h' e a⟩
end N3

namespace N3
open PySem PySem.Spec PyProof.Rows L2

/-- a comprehension whose turns change nothing: the items that pass, and their answers -/
theorem lcL_filter {gd : PH → Prop} {τ : PSt} {g : MG} {t : MT} {m : ME} {h : PH} {Q : List PV → PH → Prop} (c : PV → Bool) (f : PV → PV) (hg : gd h) :
    ∀ (ps acc : List PV), (∀ p ∈ ps, ∀ P : List PV → PH → Prop, ∀ acc, (if c p = true then P (acc ++ [f p]) h else P acc h) → g p τ h fun τ1 h1 => t τ1 h1 fun b h2 => if b = true then m τ1 h2 fun v h3 => P (acc ++ [v]) h3 else P acc h2) →
      Q (acc ++ (ps.filter c).map f) h → lcL gd τ g t m ps acc h Q
  | [], acc, _, q => ⟨hg, by simpa using q⟩
  | p :: ps, acc, hs, q => by
    refine ⟨hg, hs p List.mem_cons_self (fun acc h3 => lcL gd τ g t m ps acc h3 Q) acc ?_⟩
    cases hc : c p with
    | true => exact lcL_filter c f hg ps _ (fun x hx => hs x (List.mem_cons_of_mem _ hx)) (by simpa [List.filter_cons, hc] using q)
    | false => exact lcL_filter c f hg ps _ (fun x hx => hs x (List.mem_cons_of_mem _ hx)) (by simpa [List.filter_cons, hc] using q)

/-! ### picking -/
theorem atI_nat {α : Type} {xs : List α} {r : Int} (h0 : 0 ≤ r) (h1 : r < xs.length) : ∃ v ∈ xs, atI xs r = some v := by
  have e : ixN xs.length r = some r.toNat := by
    unfold ixN
    simp only [h0, h1, if_true]
  have hl : r.toNat < xs.length := by omega
  refine ⟨xs[r.toNat], List.getElem_mem hl, ?_⟩
  unfold atI
  rw [e]
  exact List.getElem?_eq_getElem hl
def mPick (spD : SpP) : MS := mRet (mB rIx (mVar 1) (mBlt spD (mCons (mVar 0) (mCons (mBlt rLen (mCons (mVar 1) (mNil))) (mNil)))))
/-- what can be picked from: a text, a list, a tuple -/
def pickFrom : PV → Option (List PV)
  | .str x => some (ones x)
  | .lst xs => some xs
  | .tup xs => some xs
  | _ => none
def spPick : SpP := fun ps h Q => ∃ (D : Dk) (n : Nat) (p : PV) (xs : List PV), ps = [.ref D.d, p] ∧ D.At n h ∧ n < 1000000000 ∧ pickFrom p = some xs ∧ xs ≠ [] ∧ xs.length ≤ SZ ∧ ∀ v h', v ∈ xs → D.At (n + 1) h' → Q v h'
theorem pure_pick : ∀ qs h Q, qs.length = 2 → spPick qs h Q → mPick spDraw (ends Q) (sp0 2 qs) h := by
  rintro _ h Q - ⟨D, n, p, xs, rfl, ha, hn, hp, hne, hz, k⟩
  have pos : 0 < xs.length := List.length_pos_iff.mpr hne
  cases p with
  | str x =>
    simp only [pickFrom, Option.some.injEq] at hp
    subst hp
    have hl : x.length = (ones x).length := by unfold ones; rw [List.length_map, ← cl_length]
    simp only [mPick, N3.mDput, N3.mB, N3.mU, N3.mVar, N3.mC, N3.sp0, N3.gt, N3.st, N3.rIx, N3.seqL, N3.dctL, N3.kOf, N3.rAdd, N3.mAsg, N3.gN, N3.mIfS, N3.mTest, N3.mPop, N3.mAppend, N3.mDrop, N3.mRet, N3.mRetN, N3.mNx, N3.mBrk, N3.mCnt, N3.mLst, N3.mLstM, N3.mCons, N3.mNil, N3.mTup, N3.mBlt, N3.mKw, N3.cat2, N3.cat2r, N3.gS, N3.gL, N3.mSlM, N3.rSlM, N3.mM1, N3.mSl, N3.mRev, N3.mStep, N3.mRevM, N3.mPart, N3.mNoPart, N3.rII, N3.rII0, N3.rIB, N3.rCmp, N3.rLt, N3.rLe, N3.rGt, N3.rGe, N3.mIsI, N3.tn, N3.isI, N3.mDisp, N3.mDct0, N3.mDct0M, N3.mPar3, N3.mAug, N3.rIAdd, N3.mExtend, N3.mInsert, N3.mPopAt, N3.rMin2, N3.rMax2, N3.rIntT, N3.rSplit, N3.rSplitM, N3.rAddM, N3.gPut, N3.mFmt, N3.mJs, N3.mJoin, N3.rDictP, N3.mRepM, N3.rListA, N3.rSortA, N3.mLc2, N3.lcI, N3.lcO, N3.rAllB, N3.rAnyB, N3.rStrI, N3.rIntO, N3.vwL, N3.rMul, N3.rMulT, N3.rNeg, N3.rSub, N3.rDiv, N3.rMod, N3.rPow, N3.mPar, N3.mAndT, N3.mOrT, N3.mNotT, N3.mAnd, N3.mOr, N3.mOrV, N3.mAndV, N3.trv, N3.mNot, N3.mIf, N3.mChn, N3.mKeep, N3.mRep, N3.mDispM, N3.mPs, N3.ends, N3.rLen, N3.rListOf, N3.rListOfM, N3.rTupOf, N3.rSumI, N3.listed, N3.rSl, N3.rRev, N3.rEq, N3.rNe, N3.rIsN, N3.rNotN, N3.isNon, N3.vw, N3.mYes, N3.gT, N3.gsCons, N3.gsNil, N3.mFor, N3.mSeqs, N3.mLc, N3.mLcM, N3.mRng1, N3.mRng2, N3.mEnum, N3.mEnumA, N3.mZip, N3.wp, N3.rJoin, N3.rSS, N3.rIdxS, N3.rRepr, N3.flat, N3.flats, N3.toD, N3.toDs, List.length_cons, List.length_nil, List.append_eq, List.cons_append, List.nil_append, List.map_cons, List.map_nil, if_true, if_false, Bool.false_eq_true, decide_eq_true_eq, Option.some.injEq, true_and, and_true, Bool.not_true, Bool.not_false, reduceCtorEq, Bool.and_self, Bool.and_true, Bool.true_and, ite_true, ite_false]
    refine ⟨by rw [hl]; exact hz, D, n, _, rfl, ha, hn, by omega, by have hz' : (ones x).length ≤ 16777216 := hz; omega, fun r h' h0 h1 a => ?_⟩
    refine ⟨by rw [hl]; exact hz, ?_⟩
    obtain ⟨c, hc, e⟩ := atI_nat (xs := cl x) h0 (by rw [← cl_length]; exact h1)
    simp only [e]
    exact k _ _ (List.mem_map.mpr ⟨c, hc, rfl⟩) a
  | lst ys =>
    simp only [pickFrom, Option.some.injEq] at hp
    subst hp
    simp only [mPick, N3.mDput, N3.mB, N3.mU, N3.mVar, N3.mC, N3.sp0, N3.gt, N3.st, N3.rIx, N3.seqL, N3.dctL, N3.kOf, N3.rAdd, N3.mAsg, N3.gN, N3.mIfS, N3.mTest, N3.mPop, N3.mAppend, N3.mDrop, N3.mRet, N3.mRetN, N3.mNx, N3.mBrk, N3.mCnt, N3.mLst, N3.mLstM, N3.mCons, N3.mNil, N3.mTup, N3.mBlt, N3.mKw, N3.cat2, N3.cat2r, N3.gS, N3.gL, N3.mSlM, N3.rSlM, N3.mM1, N3.mSl, N3.mRev, N3.mStep, N3.mRevM, N3.mPart, N3.mNoPart, N3.rII, N3.rII0, N3.rIB, N3.rCmp, N3.rLt, N3.rLe, N3.rGt, N3.rGe, N3.mIsI, N3.tn, N3.isI, N3.mDisp, N3.mDct0, N3.mDct0M, N3.mPar3, N3.mAug, N3.rIAdd, N3.mExtend, N3.mInsert, N3.mPopAt, N3.rMin2, N3.rMax2, N3.rIntT, N3.rSplit, N3.rSplitM, N3.rAddM, N3.gPut, N3.mFmt, N3.mJs, N3.mJoin, N3.rDictP, N3.mRepM, N3.rListA, N3.rSortA, N3.mLc2, N3.lcI, N3.lcO, N3.rAllB, N3.rAnyB, N3.rStrI, N3.rIntO, N3.vwL, N3.rMul, N3.rMulT, N3.rNeg, N3.rSub, N3.rDiv, N3.rMod, N3.rPow, N3.mPar, N3.mAndT, N3.mOrT, N3.mNotT, N3.mAnd, N3.mOr, N3.mOrV, N3.mAndV, N3.trv, N3.mNot, N3.mIf, N3.mChn, N3.mKeep, N3.mRep, N3.mDispM, N3.mPs, N3.ends, N3.rLen, N3.rListOf, N3.rListOfM, N3.rTupOf, N3.rSumI, N3.listed, N3.rSl, N3.rRev, N3.rEq, N3.rNe, N3.rIsN, N3.rNotN, N3.isNon, N3.vw, N3.mYes, N3.gT, N3.gsCons, N3.gsNil, N3.mFor, N3.mSeqs, N3.mLc, N3.mLcM, N3.mRng1, N3.mRng2, N3.mEnum, N3.mEnumA, N3.mZip, N3.wp, N3.rJoin, N3.rSS, N3.rIdxS, N3.rRepr, N3.flat, N3.flats, N3.toD, N3.toDs, List.length_cons, List.length_nil, List.append_eq, List.cons_append, List.nil_append, List.map_cons, List.map_nil, if_true, if_false, Bool.false_eq_true, decide_eq_true_eq, Option.some.injEq, true_and, and_true, Bool.not_true, Bool.not_false, reduceCtorEq, Bool.and_self, Bool.and_true, Bool.true_and, ite_true, ite_false]
    refine ⟨D, n, _, rfl, ha, hn, by omega, by have hz' : ys.length ≤ 16777216 := hz; omega, fun r h' h0 h1 a => ?_⟩
    obtain ⟨c, hc, e⟩ := atI_nat h0 h1
    simp only [e]
    exact k _ _ hc a
  | tup ys =>
    simp only [pickFrom, Option.some.injEq] at hp
    subst hp
    simp only [mPick, N3.mDput, N3.mB, N3.mU, N3.mVar, N3.mC, N3.sp0, N3.gt, N3.st, N3.rIx, N3.seqL, N3.dctL, N3.kOf, N3.rAdd, N3.mAsg, N3.gN, N3.mIfS, N3.mTest, N3.mPop, N3.mAppend, N3.mDrop, N3.mRet, N3.mRetN, N3.mNx, N3.mBrk, N3.mCnt, N3.mLst, N3.mLstM, N3.mCons, N3.mNil, N3.mTup, N3.mBlt, N3.mKw, N3.cat2, N3.cat2r, N3.gS, N3.gL, N3.mSlM, N3.rSlM, N3.mM1, N3.mSl, N3.mRev, N3.mStep, N3.mRevM, N3.mPart, N3.mNoPart, N3.rII, N3.rII0, N3.rIB, N3.rCmp, N3.rLt, N3.rLe, N3.rGt, N3.rGe, N3.mIsI, N3.tn, N3.isI, N3.mDisp, N3.mDct0, N3.mDct0M, N3.mPar3, N3.mAug, N3.rIAdd, N3.mExtend, N3.mInsert, N3.mPopAt, N3.rMin2, N3.rMax2, N3.rIntT, N3.rSplit, N3.rSplitM, N3.rAddM, N3.gPut, N3.mFmt, N3.mJs, N3.mJoin, N3.rDictP, N3.mRepM, N3.rListA, N3.rSortA, N3.mLc2, N3.lcI, N3.lcO, N3.rAllB, N3.rAnyB, N3.rStrI, N3.rIntO, N3.vwL, N3.rMul, N3.rMulT, N3.rNeg, N3.rSub, N3.rDiv, N3.rMod, N3.rPow, N3.mPar, N3.mAndT, N3.mOrT, N3.mNotT, N3.mAnd, N3.mOr, N3.mOrV, N3.mAndV, N3.trv, N3.mNot, N3.mIf, N3.mChn, N3.mKeep, N3.mRep, N3.mDispM, N3.mPs, N3.ends, N3.rLen, N3.rListOf, N3.rListOfM, N3.rTupOf, N3.rSumI, N3.listed, N3.rSl, N3.rRev, N3.rEq, N3.rNe, N3.rIsN, N3.rNotN, N3.isNon, N3.vw, N3.mYes, N3.gT, N3.gsCons, N3.gsNil, N3.mFor, N3.mSeqs, N3.mLc, N3.mLcM, N3.mRng1, N3.mRng2, N3.mEnum, N3.mEnumA, N3.mZip, N3.wp, N3.rJoin, N3.rSS, N3.rIdxS, N3.rRepr, N3.flat, N3.flats, N3.toD, N3.toDs, List.length_cons, List.length_nil, List.append_eq, List.cons_append, List.nil_append, List.map_cons, List.map_nil, if_true, if_false, Bool.false_eq_true, decide_eq_true_eq, Option.some.injEq, true_and, and_true, Bool.not_true, Bool.not_false, reduceCtorEq, Bool.and_self, Bool.and_true, Bool.true_and, ite_true, ite_false]
    refine ⟨D, n, _, rfl, ha, hn, by omega, by have hz' : ys.length ≤ 16777216 := hz; omega, fun r h' h0 h1 a => ?_⟩
    obtain ⟨c, hc, e⟩ := atI_nat h0 h1
    simp only [e]
    exact k _ _ hc a
  | _ => simp [pickFrom] at hp

/-- a comprehension over turns that draw: each turn's value is good -/
theorem runs {D : Dk} {τ : PSt} {i cost n : Nat} {m : ME} {h : PH} {Q : List PV → PH → Prop} (G : PV → Prop) (ps : List PV) (step : ∀ p ∈ ps, ∀ n' h' (Q : PK), D.At n' h' → n ≤ n' → n' + cost ≤ n + cost * ps.length → (∀ v h2, G v → D.At (n' + cost) h2 → Q v h2) → m (st τ i (some p)) h' Q)
    (ha : D.At n h) (k : ∀ (zs : List PV) h', (∀ z ∈ zs, G z) → zs.length = ps.length → D.At (n + cost * ps.length) h' → Q zs h') : lcL (fun _ => True) τ (gN i) mYes m ps [] h Q := by
  refine lcL_of (W := fun qs acc h' => (∀ z ∈ acc, G z) ∧ (∀ q ∈ qs, q ∈ ps) ∧ acc.length + qs.length = ps.length ∧ D.At (n + cost * acc.length) h') ?_ ?_ _ _ _ ⟨fun _ z => (List.not_mem_nil z).elim, fun _ h => h, by simp, by simpa using ha⟩
  · rintro p qs acc h' ⟨hg, hm, hl, a⟩
    refine ⟨trivial, fun P hP => ?_⟩
    rw [List.length_cons] at hl
    have hc : cost * (acc.length + 1) ≤ cost * ps.length := Nat.mul_le_mul_left _ (by omega)
    rw [Nat.mul_add, Nat.mul_one] at hc
    show m (st τ i (some p)) h' fun v h3 => P (acc ++ [v]) h3
    refine step p (hm p List.mem_cons_self) _ h' _ a (by omega) (by omega) fun v h2 gv a2 => hP _ _ ⟨fun z hz => ?_, fun q hq => hm q (List.mem_cons_of_mem _ hq), by rw [List.length_append, List.length_singleton]; omega, ?_⟩
    · rcases List.mem_append.mp hz with h | h
      · exact hg z h
      · rw [List.mem_singleton] at h; subst h; exact gv
    · rw [List.length_append, List.length_singleton, Nat.mul_add, Nat.mul_one, ← Nat.add_assoc]; exact a2
  · rintro acc h' ⟨hg, hm, hl, a⟩
    have e : acc.length = ps.length := by simpa using hl
    exact ⟨trivial, k acc h' hg e (by rw [← e]; exact a)⟩
theorem rng_len {lo : Int} {n : Nat} : (rng lo n).length = n := by unfold rng; rw [List.length_map, List.length_range]
/-- texts of one sign each, put together -/
theorem signs_of (G : Nat → Prop) : ∀ zs : List PV, (∀ z ∈ zs, ∃ c, G c ∧ z = .str (S [c])) → ∃ l : List Nat, zs = (l.map fun c => [c]).map (fun z => .str (S z)) ∧ (∀ c ∈ l, G c) ∧ l.length = zs.length
  | [], _ => ⟨[], rfl, fun _ h => (List.not_mem_nil h).elim, rfl⟩
  | z :: zs, h => by
    obtain ⟨c, gc, rfl⟩ := h z List.mem_cons_self
    obtain ⟨l, rfl, hl, hn⟩ := signs_of G zs fun y hy => h y (List.mem_cons_of_mem _ hy)
    refine ⟨c :: l, rfl, fun x hx => ?_, by rw [List.length_cons, List.length_cons, hn]⟩
    rcases List.mem_cons.mp hx with rfl | hx
    · exact gc
    · exact hl x hx
theorem joinL_nil : ∀ zs : List (List Nat), TL.joinL [] zs = zs.flatten
  | [] => rfl
  | [x] => by simp [TL.joinL]
  | x :: y :: r => by
    have ih := joinL_nil (y :: r)
    simp only [TL.joinL] at ih ⊢
    rw [ih]; simp
theorem flat_ones (l : List Nat) : (l.map fun c => [c]).flatten = l := by
  induction l with
  | nil => rfl
  | cons c l ih => rw [List.map_cons, List.flatten_cons, ih]; rfl
theorem sum_ones (l : List Nat) : ((l.map fun c => [c]).map (·.length)).sum = l.length := by
  induction l with
  | nil => rfl
  | cons c l ih => rw [List.map_cons, List.map_cons, List.sum_cons, ih, List.length_cons]; simp; omega

/-! ### texts: the first place of a sign -/
open PySem.StrLaws PySem.Builtin.Str in
theorem occ_full (s sub : Str) (hi : Nat) : ∀ (l : List Nat) (st : Array Nat × Nat), ¬ st.fst.size < 1 → (forIn l st (occBody s sub hi 1)).run.fst = st.fst
  | [], _, _ => rfl
  | a :: l, st, h => by
    rw [List.forIn_cons]
    unfold occBody
    rw [if_neg fun z => h z.1.1.1]
    exact occ_full s sub hi l _ h
open PySem.StrLaws PySem.Builtin.Str in
theorem occ_first (s sub : Str) (hi : Nat) : ∀ (l : List Nat) (free : Nat), (∀ i ∈ l, free ≤ i) →
    (forIn l ((#[] : Array Nat), free) (occBody s sub hi 1)).run.fst.toList.head? = l.find? fun i => decide (i + sub.length ≤ hi ∧ subAt s sub i = true)
  | [], _, _ => rfl
  | a :: l, free, hf => by
    rw [List.forIn_cons]
    unfold occBody
    have ha : free ≤ a := hf a List.mem_cons_self
    by_cases hc : a + sub.length ≤ hi ∧ subAt s sub a = true
    · rw [if_pos ⟨⟨⟨by simp, ha⟩, hc.1⟩, hc.2⟩]
      have := occ_full s sub hi l ((#[] : Array Nat).push a, a + sub.length) (by simp)
      show ((forIn l ((#[] : Array Nat).push a, a + sub.length) (occBody s sub hi 1)).run.fst.toList.head?) = _
      rw [this, List.find?_cons_of_pos (by simpa using hc)]
      simp
    · rw [if_neg fun z => hc ⟨z.1.2, z.2⟩, List.find?_cons_of_neg (by simpa using hc)]
      exact occ_first s sub hi l free fun i hi' => hf i (List.mem_cons_of_mem _ hi')
theorem find_range (l : List Nat) (c : Nat) : ∀ (n k : Nat), k + n = l.length + 1 → (∀ i, i < k → l[i]? ≠ some c) → (List.range' k n).find? (fun i => decide (l[i]? = some c)) = if c ∈ l then some (l.idxOf c) else none
  | 0, k, h, hk => by
    have hn : c ∉ l := fun hc => by
      obtain ⟨i, e⟩ := List.mem_iff_getElem?.mp hc
      obtain ⟨hi, _⟩ := List.getElem?_eq_some_iff.mp e
      exact hk i (by omega) e
    rw [if_neg hn]; rfl
  | n + 1, k, h, hk => by
    rw [List.range'_succ]
    by_cases e : l[k]? = some c
    · rw [List.find?_cons_of_pos (by simpa using e)]
      have hm : c ∈ l := List.mem_iff_getElem?.mpr ⟨k, e⟩
      rw [if_pos hm]
      have h1 : l.idxOf c ≤ k := by
        refine Nat.le_of_not_lt fun z => ?_
        obtain ⟨hi, ek⟩ := List.getElem?_eq_some_iff.mp e
        have := List.not_of_lt_findIdx (xs := l) (p := fun x => x == c) (i := k) (by simpa [List.idxOf] using z)
        simp [ek] at this
      have h2 : ¬ l.idxOf c < k := fun z => by
        have hl : l.idxOf c < l.length := List.idxOf_lt_length_iff.mpr hm
        exact hk _ z (by rw [List.getElem?_eq_getElem hl, List.getElem_idxOf])
      congr 1; omega
    · rw [List.find?_cons_of_neg (by simpa using e)]
      refine find_range l c n (k + 1) (by omega) fun i hi => ?_
      by_cases z : i = k
      · subst z; exact e
      · exact hk i (by omega)
open PySem.StrLaws PySem.Builtin.Str in
theorem first_one (l : List Nat) (c : Nat) : (occurrences (S l) (S [c]) 0 (S l).length 1).head? = if c ∈ l then some (l.idxOf c) else none := by
  rw [occ_eq, occ_first _ _ _ _ _ (fun _ _ => Nat.zero_le _), ← find_range l c (l.length + 1) 0 (by omega) (fun i hi => absurd hi (Nat.not_lt_zero _))]
  rw [S_length, Nat.sub_zero]
  congr 1
  funext i
  have := subAt_one (S l) c i
  rw [S_length] at this
  exact decide_eq_decide.mpr this
theorem find_one (l : List Nat) (c : Nat) : Txt.find (S l) (S [c]) = if c ∈ l then (l.idxOf c : Int) else -1 := by
  have h := first_one l c
  unfold Txt.find
  split
  · rename_i i r e
    rw [e, List.head?_cons] at h
    by_cases hc : c ∈ l
    · rw [if_pos hc] at h ⊢
      rw [Option.some.inj h]
    · rw [if_neg hc] at h; cases h
  · rename_i e
    rw [e, List.head?_nil] at h
    by_cases hc : c ∈ l
    · rw [if_pos hc] at h; cases h
    · rw [if_neg hc]
theorem index_one (l : List Nat) (c : Nat) : Txt.index0 (S l) (S [c]) = if c ∈ l then some (l.idxOf c) else none := first_one l c
end N3

namespace N3
open PySem PySem.Spec PyProof.Rows L2

/-! ### how long what is shown may be -/
mutual
def wt : PyData → Nat
  | .none => 4
  | .bool _ => 5
  | .int i => i.natAbs.log2 + 2
  | .str x => 10 * x.length + 2
  | .list xs => wts xs + 2
  | .tuple xs => wts xs + 3
  | .dict kvs => wtk kvs + 2
def wts : List PyData → Nat
  | [] => 0
  | x :: xs => wt x + 2 + wts xs
def wtk : List (PyData × PyData) → Nat
  | [] => 0
  | (k, v) :: r => wt k + wt v + 4 + wtk r
end
mutual
def sigs : PyData → Bool
  | .str x => (cl x).all fun c => decide (c < 16 ^ 8)
  | .list xs => sigsAll xs
  | .tuple xs => sigsAll xs
  | .dict kvs => sigsKv kvs
  | _ => true
def sigsAll : List PyData → Bool
  | [] => true
  | x :: xs => sigs x && sigsAll xs
def sigsKv : List (PyData × PyData) → Bool
  | [] => true
  | (k, v) :: r => sigs k && sigs v && sigsKv r
end
theorem textFrom_le : ∀ (ts : List Str) (k : Nat) (acc : Str), (textFrom k acc ts).length ≤ acc.length + (ts.map fun t => t.length + 2).sum
  | [], k, acc => by simp [textFrom]
  | t :: r, k, acc => by
    have ih := textFrom_le r (k + 1) (acc ++ (if k > 0 then ", " else "" : String) ++ t)
    have e : (acc ++ (if k > 0 then ", " else "" : String) ++ t).length ≤ acc.length + 2 + t.length := by
      rw [strLen_append, strLen_append]
      split
      · exact Nat.le_refl _
      · have : (("" : String) : Str).length = 0 := rfl
        omega
    simp only [List.map_cons, List.sum_cons]
    show (textFrom (k + 1) _ r).length ≤ _
    omega
theorem listText_le (ts : List Str) : (listText ts).length ≤ (ts.map fun t => t.length + 2).sum + 2 := by
  unfold listText
  rw [strLen_append]
  have := textFrom_le ts 0 "["
  have e1 : (("[" : String) : Str).length = 1 := rfl
  have e2 : ("]" : Str).length = 1 := rfl
  omega
theorem tupleText_le (ts : List Str) : (tupleText ts).length ≤ (ts.map fun t => t.length + 2).sum + 3 := by
  unfold tupleText
  rw [strLen_append, strLen_append]
  have e1 : ("(" : Str).length = 1 := rfl
  have e2 : ((if ts.length == 1 then ",)" else ")" : String) : Str).length ≤ 2 := by
    split
    · exact Nat.le_refl _
    · exact Nat.le_succ _
  cases ts with
  | nil =>
    have : (Str.join ", " ([] : List Str)).length = 0 := rfl
    simp only [List.map_nil, List.sum_nil]
    omega
  | cons x r =>
    have := join_length_add (x :: r) (by simp)
    unfold piled at this
    omega
theorem dictText_le (ts : List Str) : (dictText ts).length ≤ (ts.map fun t => t.length + 2).sum + 2 := by
  unfold dictText
  rw [strLen_append, strLen_append]
  have e1 : ("{" : Str).length = 1 := rfl
  have e2 : ("}" : Str).length = 1 := rfl
  cases ts with
  | nil =>
    have : (Str.join ", " ([] : List Str)).length = 0 := rfl
    simp only [List.map_nil, List.sum_nil]
    omega
  | cons x r =>
    have := join_length_add (x :: r) (by simp)
    unfold piled at this
    omega
mutual
theorem shown_le : ∀ d : PyData, sigs d = true → d.shown.length ≤ wt d
  | .none, _ => by simp only [PyData.shown, wt]; decide
  | .bool b, _ => by simp only [PyData.shown, wt]; cases b <;> decide
  | .int i, _ => by
    simp only [PyData.shown, wt]
    have := int_text_length_le (a := i) (k := i.natAbs.log2 + 1) (Nat.succ_pos _) (Nat.lt_succ_self _)
    show (Str.ofString (toString i)).length ≤ _
    rw [PySem.ofString_length]; omega
  | .str x, s => by
    simp only [PyData.shown, wt]
    refine StrLaws.reprText_len x fun c hc => ?_
    simp only [sigs, List.all_eq_true, decide_eq_true_eq] at s
    exact s c hc
  | .list xs, s => by
    simp only [PyData.shown, wt]
    have := shownAll_le xs (by simpa only [sigs] using s)
    have := listText_le (PyData.shownAll xs)
    omega
  | .tuple xs, s => by
    simp only [PyData.shown, wt]
    have := shownAll_le xs (by simpa only [sigs] using s)
    have := tupleText_le (PyData.shownAll xs)
    omega
  | .dict kvs, s => by
    simp only [PyData.shown, wt]
    have := shownKv_le kvs (by simpa only [sigs] using s)
    have := dictText_le (PyData.shownKv kvs)
    omega
theorem shownAll_le : ∀ xs : List PyData, sigsAll xs = true → ((PyData.shownAll xs).map fun t => t.length + 2).sum ≤ wts xs
  | [], _ => by simp [PyData.shownAll, wts]
  | x :: xs, s => by
    simp only [sigsAll, Bool.and_eq_true] at s
    have h1 := shown_le x s.1
    have h2 := shownAll_le xs s.2
    simp only [PyData.shownAll, wts, List.map_cons, List.sum_cons]
    omega
theorem shownKv_le : ∀ xs : List (PyData × PyData), sigsKv xs = true → ((PyData.shownKv xs).map fun t => t.length + 2).sum ≤ wtk xs
  | [], _ => by simp [PyData.shownKv, wtk]
  | (k, v) :: xs, s => by
    simp only [sigsKv, Bool.and_eq_true] at s
    have h1 := shown_le k s.1.1
    have h2 := shown_le v s.1.2
    have h3 := shownKv_le xs s.2
    simp only [PyData.shownKv, wtk, List.map_cons, List.sum_cons]
    rw [strLen_append, strLen_append]
    have e1 : (": " : Str).length = 2 := rfl
    omega
end
/-- what is asked of a value whose repr is taken, put together -/
theorem repr_ok {h : PH} {p : PV} {Q : PK} (f : okR (vwL h p) = true) (hs : (toD (vwL h p)).showable = true) (hd : (toD (vwL h p)).depth ≤ 64) (hg : sigs (toD (vwL h p)) = true) (hw : wt (toD (vwL h p)) ≤ SZ) (q : Q (.str (toD (vwL h p)).shown) h) : rRepr [p] h Q :=
  ⟨⟨f, hs, hd, Nat.le_trans (shown_le _ hg) hw⟩, q⟩
theorem log_lt {i : Int} {k : Nat} (h : i.natAbs < 2 ^ (k + 1)) : i.natAbs.log2 < k + 1 := by
  by_cases z : i.natAbs = 0
  · rw [z]; simp
  · exact (Nat.log2_lt z).mpr h
end N3

/-! what is drawn: texts of few signs, data of few parts -/
namespace N3
open PySem PySem.Spec PyProof.Rows L2

theorem draw_to {D : Dk} {n : Nat} {h : PH} {Q : PK} {many : Int} (ha : D.At n h) (hn : n < 900000000) (h1 : 1 ≤ many) (h2 : many < 100000000000000000000000000000000000000000) (k : ∀ r h', 0 ≤ r → r < many → D.At (n + 1) h' → Q (.int r) h') : spDraw [.ref D.d, .int many] h Q :=
  ⟨D, n, many, rfl, ha, by omega, h1, h2, k⟩
theorem pick_lst {D : Dk} {n : Nat} {h : PH} {Q : PK} {xs : List PV} (ha : D.At n h) (hn : n < 900000000) (h1 : xs ≠ []) (h2 : xs.length ≤ 100000) (k : ∀ v ∈ xs, ∀ h', D.At (n + 1) h' → Q v h') : spPick [.ref D.d, .lst xs] h Q :=
  ⟨D, n, _, xs, rfl, ha, by omega, rfl, h1, by show _ ≤ 16777216; omega, fun v h' hv a => k v hv h' a⟩
theorem pick_tup {D : Dk} {n : Nat} {h : PH} {Q : PK} {xs : List PV} (ha : D.At n h) (hn : n < 900000000) (h1 : xs ≠ []) (h2 : xs.length ≤ 100000) (k : ∀ v ∈ xs, ∀ h', D.At (n + 1) h' → Q v h') : spPick [.ref D.d, .tup xs] h Q :=
  ⟨D, n, _, xs, rfl, ha, by omega, rfl, h1, by show _ ≤ 16777216; omega, fun v h' hv a => k v hv h' a⟩
theorem ones_length (x : Str) : (ones x).length = (cl x).length := by unfold ones; rw [List.length_map]
theorem pick_str {D : Dk} {n : Nat} {h : PH} {Q : PK} {x : Str} (ha : D.At n h) (hn : n < 900000000) (h1 : cl x ≠ []) (h2 : (cl x).length ≤ 100000) (k : ∀ c ∈ cl x, ∀ h', D.At (n + 1) h' → Q (.str (S [c])) h') : spPick [.ref D.d, .str x] h Q := by
  refine ⟨D, n, _, ones x, rfl, ha, by omega, rfl, fun e => h1 (List.map_eq_nil_iff.mp e), by rw [ones_length]; show _ ≤ 16777216; omega, fun v h' hv a => ?_⟩
  obtain ⟨c, hc, rfl⟩ := List.mem_map.mp hv
  exact k c hc h' a
/-- an item, by its place -/
theorem ix_lst {xs : List PV} {r : Int} {h : PH} {Q : PK} (h0 : 0 ≤ r) (h1 : r < xs.length) (k : ∀ v ∈ xs, Q v h) : rIx (.lst xs) (.int r) h Q := by
  obtain ⟨v, hv, e⟩ := atI_nat h0 h1
  simp only [rIx, seqL, e]
  exact k v hv
theorem ix_tup {xs : List PV} {r : Int} {h : PH} {Q : PK} (h0 : 0 ≤ r) (h1 : r < xs.length) (k : ∀ v ∈ xs, Q v h) : rIx (.tup xs) (.int r) h Q := by
  obtain ⟨v, hv, e⟩ := atI_nat h0 h1
  simp only [rIx, e]
  exact k v hv
theorem atI_lst {xs : List PV} {r : Int} {Z : PV → Prop} (h0 : 0 ≤ r) (h1 : r < xs.length) (k : ∀ v ∈ xs, Z v) : (match atI xs r with | some v => Z v | none => False) := by
  obtain ⟨v, hv, e⟩ := atI_nat h0 h1
  rw [e]; exact k v hv

/-- what is not right: nothing -/
theorem none_wrong {τ : PSt} {i : Nat} {sp : SpP} {xs : List PV} {h : PH} {Q : List PV → PH → Prop} (hi : ∀ v, gt (st τ i (some v)) i = some v) (hx : ∀ x ∈ xs, ∀ P : PK, P (.bl true) h → sp [x] h P) (q : Q [] h) :
    lcL (fun _ => True) τ (gN i) (mNotT (mTest (mBlt sp (mCons (mVar i) mNil)))) (mVar i) xs [] h Q := by
  refine lcL_filter (c := fun _ => false) (f := id) trivial _ _ (fun p hp P acc z => ?_) (by rw [show (List.filter (fun _ => false) xs) = [] from by induction xs <;> simp_all]; exact q)
  simp only [gN, mNotT, mTest, mBlt, mCons, mVar, mNil, hi]
  exact hx p hp _ z
theorem okRs_of : ∀ {ps : List PV}, (∀ p ∈ ps, okR p = true) → okRs ps = true
  | [], _ => rfl
  | p :: ps, h => by
    show (okR p && okRs ps) = true
    rw [h p List.mem_cons_self, okRs_of fun q hq => h q (List.mem_cons_of_mem _ hq)]; rfl
theorem eqv_str (x : Str) : PyData.eqv (.str x) (.str x) = true := eqv_self _ rfl
/-! ### objects beside the deck -/
def Dk.wr (D : Dk) (a : Addr) (o : PO) : Dk := { D with h0 := up D.h0 a o }
theorem Dk.wr_hp {D : Dk} {a : Addr} {o : PO} {xs : List Int} {g : Int} (n1 : a ≠ D.d) (n2 : a ≠ D.l) : (D.wr a o).hp xs g = up (D.hp xs g) a o := by
  unfold Dk.hp Dk.wr
  dsimp only
  rw [up_swap n1, up_swap n2]
theorem Dk.At.wr {D : Dk} {n : Nat} {h : PH} {a : Addr} (o : PO) (ha : D.At n h) (n1 : a ≠ D.d) (n2 : a ≠ D.l) : (D.wr a o).At n (up h a o) := by
  obtain ⟨xs, g, h1, h2, h3, rfl⟩ := ha
  exact ⟨xs, g, h1, h2, h3, (Dk.wr_hp n1 n2).symm⟩
theorem Dk.At.ne {D : Dk} {n : Nat} {h : PH} {a : Addr} (ha : D.At n h) (e : h a = none) : a ≠ D.d ∧ a ≠ D.l := by
  obtain ⟨xs, g, h1, h2, h3, rfl⟩ := ha
  refine ⟨fun z => ?_, fun z => ?_⟩
  · rw [z, Dk.at_d] at e; cases e
  · rw [z, Dk.at_l] at e; cases e
theorem Dk.At.rd {D : Dk} {n : Nat} {h : PH} {a : Addr} (ha : D.At n h) (n1 : a ≠ D.d) (n2 : a ≠ D.l) : h a = D.h0 a := by
  obtain ⟨xs, g, h1, h2, h3, rfl⟩ := ha
  unfold Dk.hp
  rw [up_ne n2, up_ne n1]
theorem Dk.wr_wr {D : Dk} {a : Addr} {o u : PO} : (D.wr a o).wr a u = D.wr a u := by
  unfold Dk.wr
  dsimp only
  rw [up_up]
theorem Dk.wr_sw {D : Dk} {a b : Addr} {o u : PO} (e : a ≠ b) : (D.wr a o).wr b u = (D.wr b u).wr a o := by
  unfold Dk.wr
  dsimp only
  rw [up_swap e]
theorem Dk.At.back {D : Dk} {n : Nat} {h : PH} {a : Addr} {o : PO} (ha : (D.wr a o).At n h) (e : D.h0 a = none) (n1 : a ≠ D.d) (n2 : a ≠ D.l) : ∃ h0, sub h0 h ∧ h0 a = .none ∧ D.At n h0 := by
  obtain ⟨xs, g, h1, h2, h3, rfl⟩ := ha
  refine ⟨D.hp xs g, ?_, by unfold Dk.hp; rw [up_ne n2, up_ne n1]; exact e, xs, g, h1, h2, h3, rfl⟩
  rw [Dk.wr_hp n1 n2]
  refine sub_up ?_
  unfold Dk.hp
  rw [up_ne n2, up_ne n1]; exact e
theorem Dk.At.none {D : Dk} {n : Nat} {h : PH} {a : Addr} (ha : D.At n h) (e : h a = none) : D.h0 a = none := by
  obtain ⟨n1, n2⟩ := ha.ne e
  rw [← ha.rd n1 n2]; exact e
theorem ixN_nat {n q : Nat} (h : q < n) : ixN n (q : Int) = some q := by
  unfold ixN
  have h0 : (0 : Int) ≤ q := by omega
  have h1 : (q : Int) < n := by omega
  simp only [h0, h1, if_true, Int.toNat_natCast]
theorem rep_one {α : Type} (n : Nat) (x : α) : (List.replicate n [x]).flatten = List.replicate n x := by
  induction n with
  | zero => rfl
  | succ n ih => rw [List.replicate_succ, List.flatten_cons, ih, List.replicate_succ]; rfl
theorem flats_of {ps : List PV} (h : ∀ p ∈ ps, flat p = true) : flats ps = true := by
  induction ps with
  | nil => rfl
  | cons p ps ih =>
    show (flat p && flats ps) = true
    rw [h p List.mem_cons_self, ih fun q hq => h q (List.mem_cons_of_mem _ hq)]; rfl
theorem sub_lose {h : PH} {a : Addr} {o : PO} (e : h a = none) : sub h (lose (up h a o) a) := fun b u z => by
  have hb : b ≠ a := fun q => by rw [q, e] at z; cases z
  rw [lose_ne hb, up_ne hb]; exact z
theorem sub_lose' {h0 h : PH} {a : Addr} (s : sub h0 h) (e : h0 a = none) : sub h0 (lose h a) := fun b u z => by
  have hb : b ≠ a := fun q => by rw [q, e] at z; cases z
  rw [lose_ne hb]; exact s b u z
theorem eqv_int (x y : Int) : PyData.eqv (.int x) (.int y) = decide (x = y) := by
  show (x == y) = _
  by_cases h : x = y <;> simp [h]
theorem eqv_S (x y : List Nat) : PyData.eqv (.str (S x)) (.str (S y)) = decide (x = y) := by
  show (S x == S y) = _
  by_cases h : x = y
  · subst h; simp
  · rw [decide_eq_false h]
    exact beq_eq_false_iff_ne.mpr fun z => h (by have := congrArg cl z; rwa [cl_S, cl_S] at this)
theorem eqv_nil (xs : List PV) : PyData.eqv (.list (toDs xs)) (.list []) = xs.isEmpty := by cases xs <;> rfl
theorem perm_one {α : Type} {le : α → α → Prop} : ∀ {a b : List α}, a.Perm b → a.Pairwise le → b.Pairwise le → (∀ x ∈ a, ∀ y ∈ a, le x y → le y x → x = y) → a = b
  | [], b, p, _, _, _ => by rw [List.nil_perm.mp p]
  | x :: a, [], p, _, _, _ => by cases p.symm.nil_eq
  | x :: a, y :: b, p, h1, h2, an => by
    have e : x = y := by
      have hx : x ∈ y :: b := p.mem_iff.mp List.mem_cons_self
      have hy : y ∈ x :: a := p.mem_iff.mpr List.mem_cons_self
      rcases List.mem_cons.mp hx with e | hx'
      · exact e
      rcases List.mem_cons.mp hy with e | hy'
      · exact e.symm
      · exact an x List.mem_cons_self y hy ((List.pairwise_cons.mp h1).1 y hy') ((List.pairwise_cons.mp h2).1 x hx')
    subst e
    rw [perm_one (List.perm_cons x |>.mp p) (List.pairwise_cons.mp h1).2 (List.pairwise_cons.mp h2).2 fun z hz w hw => an z (List.mem_cons_of_mem _ hz) w (List.mem_cons_of_mem _ hw)]
/-! ### texts of signs below 128 -/
structure Tx (n : Nat) (l : List Nat) : Prop where
  c : ∀ c ∈ l, c < 128
  n : l.length ≤ n
section
variable {n m : Nat} {l k : List Nat}
theorem Tx.mono (t : Tx n l) (h : n ≤ m) : Tx m l := ⟨t.c, Nat.le_trans t.n h⟩
theorem Tx.nil : Tx n [] := ⟨fun _ h => (List.not_mem_nil h).elim, Nat.zero_le _⟩
theorem Tx.one {c : Nat} (h : c < 128) : Tx 1 [c] := ⟨fun x hx => by rw [List.mem_singleton] at hx; omega, Nat.le_refl _⟩
theorem Tx.app (t : Tx n l) (u : Tx m k) : Tx (n + m) (l ++ k) := ⟨fun c hc => (List.mem_append.mp hc).elim (t.c c) (u.c c), by rw [List.length_append]; have := t.n; have := u.n; omega⟩
theorem mem_cut {α : Type} {xs : List α} {lo hi : Option Int} {x : α} (h : x ∈ cut xs lo hi) : x ∈ xs := by
  unfold cut at h; exact List.mem_of_mem_drop (List.mem_of_mem_take h)
theorem Tx.cut (t : Tx n l) (lo hi : Option Int) : Tx n (cut l lo hi) := ⟨fun c hc => t.c c (mem_cut hc), Nat.le_trans (cut_length _ _ _) t.n⟩
theorem Tx.rev (t : Tx n l) : Tx n l.reverse := ⟨fun c hc => t.c c (List.mem_reverse.mp hc), by rw [List.length_reverse]; exact t.n⟩
theorem len_rep (k : Nat) (l : List Nat) : (List.replicate k l).flatten.length = k * l.length := by
  rw [List.length_flatten, List.map_replicate, List.sum_replicate_nat]
theorem Tx.rep (t : Tx n l) (k : Nat) : Tx (k * n) (List.replicate k l).flatten := ⟨fun c hc => by
  obtain ⟨y, hy, hx⟩ := List.mem_flatten.mp hc
  rw [(List.mem_replicate.mp hy).2] at hx
  exact t.c c hx, by rw [len_rep]; exact Nat.mul_le_mul_left _ t.n⟩
theorem Tx.len (t : Tx n l) (h : n ≤ 1000000) : (S l).length ≤ SZ := by rw [S_length]; have := t.n; show _ ≤ 16777216; omega
end
/-- the text of a number -/
theorem tx_num {i : Int} {k : Nat} (hk : 0 < k) (h : i.natAbs < 10 ^ k) : Tx (k + 1) (cl (Str.ofString (toString i))) := by
  refine ⟨fun c hc => ?_, ?_⟩
  · have := PySem.W.KSb.asc_num i
    exact this c (by simpa [cl] using hc)
  · rw [← cl_length, PySem.ofString_length]
    exact int_text_length_le10 hk h

/-! ### data: how deep, how long its text may be -/
structure TH (n z : Nat) (p : PV) : Prop where
  ok : okR p = true
  sh : (toD p).showable = true
  dp : (toD p).depth ≤ n
  sg : sigs (toD p) = true
  sz : wt (toD p) ≤ z
section
variable {n m z y : Nat} {p : PV} {ps : List PV}
theorem TH.mono (t : TH n z p) (h1 : n ≤ m) (h2 : z ≤ y) : TH m y p := ⟨t.ok, t.sh, Nat.le_trans t.dp h1, t.sg, Nat.le_trans t.sz h2⟩
theorem TH.str {l : List Nat} (t : Tx n l) : TH 0 (10 * n + 2) (.str (S l)) := by
  refine ⟨rfl, rfl, Nat.le_refl _, ?_, ?_⟩
  · show (cl (S l)).all _ = true
    rw [List.all_eq_true]
    intro c hc
    have := t.c c hc
    rw [decide_eq_true_eq]
    exact Nat.lt_of_lt_of_le this (by decide)
  · show 10 * (S l).length + 2 ≤ _
    rw [S_length]; have := t.n; omega
theorem TH.strS {x : Str} (t : Tx n (cl x)) : TH 0 (10 * n + 2) (.str x) := by
  have := TH.str t
  rwa [S_cl] at this
theorem TH.int {i : Int} {k : Nat} (h : i.natAbs < 2 ^ (k + 1)) (hk : k < 1900 := by decide) : TH 0 (k + 3) (.int i) := by
  have := log_lt h
  refine ⟨rfl, ?_, Nat.le_refl _, rfl, ?_⟩
  · show decide (_ < 1920) = true
    rw [decide_eq_true_eq]; omega
  · show i.natAbs.log2 + 2 ≤ _
    omega
theorem TH.non : TH 0 4 .non := ⟨rfl, rfl, Nat.le_refl _, rfl, Nat.le_refl _⟩
theorem TH.bl {b : Bool} : TH 0 5 (.bl b) := ⟨rfl, rfl, Nat.le_refl _, rfl, Nat.le_refl _⟩
theorem TH.all (h : ∀ p ∈ ps, TH n z p) : okRs ps = true ∧ PyData.showableAll (toDs ps) = true ∧ PyData.depthAll (toDs ps) ≤ n ∧ sigsAll (toDs ps) = true ∧ wts (toDs ps) ≤ ps.length * (z + 2) := by
  induction ps with
  | nil => exact ⟨rfl, rfl, Nat.zero_le _, rfl, Nat.zero_le _⟩
  | cons p ps ih =>
    obtain ⟨h1, h2, h3, h4, h5⟩ := ih fun q hq => h q (List.mem_cons_of_mem _ hq)
    have t := h p List.mem_cons_self
    refine ⟨?_, ?_, ?_, ?_, ?_⟩
    · show (okR p && okRs ps) = true; rw [t.ok, h1]; rfl
    · show ((toD p).showable && PyData.showableAll (toDs ps)) = true; rw [t.sh, h2]; rfl
    · show max (toD p).depth (PyData.depthAll (toDs ps)) ≤ n
      exact Nat.max_le.mpr ⟨t.dp, h3⟩
    · show (sigs (toD p) && sigsAll (toDs ps)) = true; rw [t.sg, h4]; rfl
    · show wt (toD p) + 2 + wts (toDs ps) ≤ _
      have := t.sz
      rw [List.length_cons, Nat.add_mul]
      omega
theorem TH.lst (h : ∀ p ∈ ps, TH n z p) : TH (n + 1) (ps.length * (z + 2) + 2) (.lst ps) := by
  obtain ⟨h1, h2, h3, h4, h5⟩ := TH.all h
  refine ⟨h1, h2, ?_, h4, ?_⟩
  · show PyData.depthAll (toDs ps) + 1 ≤ _; omega
  · show wts (toDs ps) + 2 ≤ _; omega
theorem TH.tup (h : ∀ p ∈ ps, TH n z p) : TH (n + 1) (ps.length * (z + 2) + 3) (.tup ps) := by
  obtain ⟨h1, h2, h3, h4, h5⟩ := TH.all h
  refine ⟨h1, h2, ?_, h4, ?_⟩
  · show PyData.depthAll (toDs ps) + 1 ≤ _; omega
  · show wts (toDs ps) + 3 ≤ _; omega
theorem TH.repr {h : PH} {Q : PK} (t : TH n z (vwL h p)) (hn : n ≤ 64) (hz : z ≤ SZ) (q : Q (.str (toD (vwL h p)).shown) h) : rRepr [p] h Q :=
  repr_ok t.ok t.sh (Nat.le_trans t.dp hn) t.sg (Nat.le_trans t.sz hz) q
end
end N3

namespace Wneversaid_k04_rows_written_and_read
open PySem PySem.Spec PyProof.Rows L2 N3
def top (i : Nat) : Stmt := PySem.Challenge.pw_neversaid_k04_rows_written_and_read.main.body.getD i (.Pass ⟨0, 0, 0, 0⟩)
abbrev s_is_name : Stmt := top 12
abbrev s_show_row : Stmt := top 17
abbrev s_are_figures : Stmt := top 18
abbrev s_law_deck : Stmt := top 22
abbrev s_law_draw : Stmt := top 23
abbrev s_law_written : Stmt := top 27
abbrev s_read_worth : Stmt := top 19
abbrev s_law_pick : Stmt := top 24
abbrev s_law_read_word : Stmt := top 28
abbrev s_read_row : Stmt := top 20
abbrev s_law_word : Stmt := top 25
abbrev s_law_read : Stmt := top 29
abbrev s_law_bent : Stmt := top 30
abbrev s_law_worth : Stmt := top 26
abbrev s_law_told : Stmt := top 31
abbrev s_law_right : Stmt := top 32
abbrev s_law : Stmt := top 33
abbrev pat_read_worth_0 : Pat := ⟨1, [], [0], []⟩
abbrev pats_read_worth : List Pat := [pat_read_worth_0]
abbrev pat_read_row_0 : Pat := ⟨1, [], [0], []⟩
abbrev pat_read_row_1 : Pat := ⟨0, ["text"], [0], []⟩
abbrev pats_read_row : List Pat := [pat_read_row_0, pat_read_row_1]
abbrev tbl_0 (Ad_NoText : Addr) : List (Addr × Bool) := [(Ad_NoText, false)]
abbrev tbl_1 (Ad_NoText : Addr) : List (Addr × Bool) := [(Ad_NoText, false)]
abbrev tbl_2 (Ad_NoText : Addr) : List (Addr × Bool) := [(Ad_NoText, true)]
abbrev tblh_SaidError (Ad_NoText : Addr) : List (Addr × Bool) := [(Ad_NoText, true)]
/-! ### is_name -/
abbrev N_is_name : List Str := ["thing", "sign"]
abbrev P_is_name : List Str := ["thing"]
theorem sc_is_name : FnScope N_is_name P_is_name (defScope s_is_name) := ⟨rfl, rfl, rfl, by decide +kernel, rfl, by decide +kernel, by decide +kernel⟩
def m_is_name : MS :=
  mSeq (mIfS (mOrT (mNotT (mTest (mIsI .str (mVar 0)))) (mNotT (mTest (mChn rLe rLe (mC (.int 1)) (mBlt rLen (mCons (mVar 0) (mNil))) (mC (.int 6)))))) (mRet (mC (.bl false))) (mNx))
  (mRet (mBlt rAllB (mCons (mLc (mSeqs (mVar 0)) [1] (gN 1) (mYes) (mB (rInP false) (mVar 1) (mC (.str "abcdefghijklmnopqrstuvwxyz")))) (mNil))))
theorem ok_is_name {P : Program} {w : World} {K : PySem.W.Frag} {mg : Str → Option Value} {base : Heap} {f : Addr} {fd : FuncData} {t_MOST_LETTERS : Tok} {t_LETTERS : Tok} {sp : SpP} (F : Fun K "is_name" "is_name" s_is_name f fd) (z_len : mg "len" = none) (z_isinstance : mg "isinstance" = none) (z_str : mg "str" = none) (z_all : mg "all" = none) (g_MOST_LETTERS : mg "MOST_LETTERS" = some (.int 6 t_MOST_LETTERS)) (g_LETTERS : mg "LETTERS" = some (.str "abcdefghijklmnopqrstuvwxyz" t_LETTERS))
    (hp : ∀ (qs : List PV) (h : PH) (Q : N3.PK), qs.length = P_is_name.length → sp qs h Q → m_is_name (ends Q) (sp0 N_is_name.length qs) h) : FnG P w K mg base (0 + 1) f fd P_is_name sp := by
  refine fn_ok (k := 0) F sc_is_name (m := m_is_name) (fun cdv A outer s H E hr hG => ?_) hp
  have nd := sc_is_name.nd
  exact ls_cons (ls_if (lt_w (lw_or (lt_not (lt_val (le_isi .str z_isinstance z_str (le_var (i := 0))))) (lw_or1 (lt_not (lt_chn op_leA op_leA lf_cmp lf_cmp (le_int) (le_len z_len (la_cons (le_var (i := 0)) (la_nil))) (le_glI g_MOST_LETTERS)))))) (ls_one (ls_ret (le_bl))) (ls_nil))
    (ls_one (ls_ret (le_all rfl z_all (la_cons (le_lc [("sign", 1)] rfl nd (li_seqs (le_var (i := 0))) (blkOk_by (N := N_is_name) (sc := defScope s_is_name) (own := [("sign", 1)]) (by decide +kernel)) (fun _ _ _ _ _ => lg_name (i := 1) nd) (fun _ _ _ _ _ => lts_nil) (fun _ _ _ _ _ => le_cmp (op_inA (hu65 hr)) lf_in (le_var (i := 1)) (le_glS g_LETTERS) (by with_unfolding_all rfl))) (la_nil)))))
/-! ### show_row -/
abbrev N_show_row : List Str := ["row", "worth"]
abbrev P_show_row : List Str := ["row"]
theorem sc_show_row : FnScope N_show_row P_show_row (defScope s_show_row) := ⟨rfl, rfl, rfl, by decide +kernel, rfl, by decide +kernel, by decide +kernel⟩
def m_show_row : MS :=
  mRet (mM1 rJoin (mC (.str " ")) (mCons (mLc (mSeqs (mVar 0)) [1] (gN 1) (mYes) (mBlt rStrA (mCons (mVar 1) (mNil)))) (mNil)))
theorem ok_show_row {P : Program} {w : World} {K : PySem.W.Frag} {mg : Str → Option Value} {base : Heap} {f : Addr} {fd : FuncData} {sp : SpP} (F : Fun K "show_row" "show_row" s_show_row f fd) (z_str : mg "str" = none)
    (hp : ∀ (qs : List PV) (h : PH) (Q : N3.PK), qs.length = P_show_row.length → sp qs h Q → m_show_row (ends Q) (sp0 N_show_row.length qs) h) : FnG P w K mg base (0 + 1) f fd P_show_row sp := by
  refine fn_ok (k := 0) F sc_show_row (m := m_show_row) (fun cdv A outer s H E hr hG => ?_) hp
  have nd := sc_show_row.nd
  exact ls_one (ls_ret (le_join (le_str) (la_cons (le_lc [("worth", 1)] rfl nd (li_seqs (le_var (i := 0))) (blkOk_by (N := N_show_row) (sc := defScope s_show_row) (own := [("worth", 1)]) (by decide +kernel)) (fun _ _ _ _ _ => lg_name (i := 1) nd) (fun _ _ _ _ _ => lts_nil) (fun _ _ _ _ _ => le_strA z_str (la_cons (le_var (i := 1)) (la_nil)))) (la_nil))))
/-! ### are_figures -/
abbrev N_are_figures : List Str := ["word", "sign"]
abbrev P_are_figures : List Str := ["word"]
theorem sc_are_figures : FnScope N_are_figures P_are_figures (defScope s_are_figures) := ⟨rfl, rfl, rfl, by decide +kernel, rfl, by decide +kernel, by decide +kernel⟩
def m_are_figures : MS :=
  mSeq (mIfS (mOrT (mNotT (mTest (mChn rLe rLe (mC (.int 1)) (mBlt rLen (mCons (mVar 0) (mNil))) (mC (.int 40))))) (mNotT (mTest (mBlt rAllB (mCons (mLc (mSeqs (mVar 0)) [1] (gN 1) (mYes) (mB (rInP false) (mVar 1) (mC (.str "0123456789")))) (mNil)))))) (mRet (mC (.bl false))) (mNx))
  (mRet (mOr (mB rEq (mVar 0) (mC (.str "0"))) (mB rNe (mB rIx (mVar 0) (mC (.int 0))) (mC (.str "0")))))
theorem ok_are_figures {P : Program} {w : World} {K : PySem.W.Frag} {mg : Str → Option Value} {base : Heap} {f : Addr} {fd : FuncData} {t_FIGURES : Tok} {t_MOST_FIGURES : Tok} {sp : SpP} (F : Fun K "are_figures" "are_figures" s_are_figures f fd) (z_all : mg "all" = none) (z_len : mg "len" = none) (g_FIGURES : mg "FIGURES" = some (.str "0123456789" t_FIGURES)) (g_MOST_FIGURES : mg "MOST_FIGURES" = some (.int 40 t_MOST_FIGURES))
    (hp : ∀ (qs : List PV) (h : PH) (Q : N3.PK), qs.length = P_are_figures.length → sp qs h Q → m_are_figures (ends Q) (sp0 N_are_figures.length qs) h) : FnG P w K mg base (0 + 1) f fd P_are_figures sp := by
  refine fn_ok (k := 0) F sc_are_figures (m := m_are_figures) (fun cdv A outer s H E hr hG => ?_) hp
  have nd := sc_are_figures.nd
  exact ls_cons (ls_if (lt_w (lw_or (lt_not (lt_chn op_leA op_leA lf_cmp lf_cmp (le_int) (le_len z_len (la_cons (le_var (i := 0)) (la_nil))) (le_glI g_MOST_FIGURES))) (lw_or1 (lt_not (lt_val (le_all rfl z_all (la_cons (le_lc [("sign", 1)] rfl nd (li_seqs (le_var (i := 0))) (blkOk_by (N := N_are_figures) (sc := defScope s_are_figures) (own := [("sign", 1)]) (by decide +kernel)) (fun _ _ _ _ _ => lg_name (i := 1) nd) (fun _ _ _ _ _ => lts_nil) (fun _ _ _ _ _ => le_cmp (op_inA (hu65 hr)) lf_in (le_var (i := 1)) (le_glS g_FIGURES) (by with_unfolding_all rfl))) (la_nil)))))))) (ls_one (ls_ret (le_bl))) (ls_nil))
    (ls_one (ls_ret (le_or (le_cmp (op_eqA (hu64 hr)) lf_eq (le_var (i := 0)) (le_str) (nomark _)) (le_one (le_cmp (op_neA (hu64 hr)) lf_ne (le_ix (hu1 hr) (le_var (i := 0)) (le_int)) (le_str) (nomark _))))))
/-! ### law_deck -/
abbrev N_law_deck : List Str := ["_law_script", "_law_cells", "_law_every", "_law_cell"]
abbrev P_law_deck : List Str := ["_law_script"]
theorem sc_law_deck : FnScope N_law_deck P_law_deck (defScope s_law_deck) := ⟨rfl, rfl, rfl, by decide +kernel, rfl, by decide +kernel, by decide +kernel⟩
def m_law_deck : MS :=
  mSeq (mAsg (mBlt rListA (mCons (mSl (mVar 0) (mNoPart) (mPart (mC (.int 63)))) (mNil))) (gN 1))
  (mSeq (mAsg (mB rAdd (mBlt rSumI (mCons (mLc (mSeqs (mVar 1)) [3] (gN 3) (mYes) (mB rMod (mVar 3) (mC (.int 999983)))) (mNil))) (mB rMul (mC (.int 7919)) (mBlt rLen (mCons (mVar 1) (mNil))))) (gN 2))
  (mRet (mDispM [(mC (.str "left"), mRevM (mVar 1)), (mC (.str "every"), mVar 2), (mC (.str "gone"), mC (.int 0))])))
theorem ok_law_deck {P : Program} {w : World} {K : PySem.W.Frag} {mg : Str → Option Value} {base : Heap} {f : Addr} {fd : FuncData} {sp : SpP} (F : Fun K "_law_deck" "_law_deck" s_law_deck f fd) (z_list : mg "list" = none) (z_sum : mg "sum" = none) (z_len : mg "len" = none)
    (hp : ∀ (qs : List PV) (h : PH) (Q : N3.PK), qs.length = P_law_deck.length → sp qs h Q → m_law_deck (ends Q) (sp0 N_law_deck.length qs) h) : FnG P w K mg base (0 + 1) f fd P_law_deck sp := by
  refine fn_ok (k := 0) F sc_law_deck (m := m_law_deck) (fun cdv A outer s H E hr hG => ?_) hp
  have nd := sc_law_deck.nd
  exact ls_cons (ls_set (i := 1) nd (le_listA rfl z_list (la_cons (le_sl (le_var (i := 0)) (lo_none) (lo_some (le_int))) (la_nil))))
    (ls_cons (ls_set (i := 2) nd (le_op op_addA kf_add (le_sum rfl z_sum (la_cons (le_lc [("_law_cell", 3)] rfl nd (li_seqs (le_var (i := 1))) (blkOk_by (N := N_law_deck) (sc := defScope s_law_deck) (own := [("_law_cell", 3)]) (by decide +kernel)) (fun _ _ _ _ _ => lg_name (i := 3) nd) (fun _ _ _ _ _ => lts_nil) (fun _ _ _ _ _ => le_op op_mod kf_ii (le_var (i := 3)) (le_int))) (la_nil))) (le_op op_mulA kf_mul (le_int) (le_len z_len (la_cons (le_var (i := 1)) (la_nil))))))
    (ls_one (ls_ret (le_dispM (lps_cons (le_str) (le_revM (le_var (i := 1))) (lps_cons (le_str) (le_var (i := 2)) (lps_cons (le_str) (le_int) (lps_nil))))))))
/-! ### law_draw -/
abbrev N_law_draw : List Str := ["_law_deck_here", "_law_many", "_law_cell", "_law_number"]
abbrev P_law_draw : List Str := ["_law_deck_here", "_law_many"]
theorem sc_law_draw : FnScope N_law_draw P_law_draw (defScope s_law_draw) := ⟨rfl, rfl, rfl, by decide +kernel, rfl, by decide +kernel, by decide +kernel⟩
def m_law_draw : MS :=
  mSeq (mDput (mB rAdd (mB rIx (mVar 0) (mC (.str "gone"))) (mC (.int 1))) (mVar 0) (mC (.str "gone")))
  (mSeq (mAsg (mB rIx (mVar 0) (mC (.str "every"))) (gN 2))
  (mSeq (mIfS (mTest (mB rNe (mB rIx (mVar 0) (mC (.str "left"))) (mLst (mNil)))) (mSeq (mAsg (mPop (mB rIx (mVar 0) (mC (.str "left")))) (gN 2))
  (mSeq (mIfS (mTest (mB rGe (mVar 2) (mB rPow (mC (.int 10)) (mC (.int 18))))) (mSeq (mDrop (mAppend (mB rIx (mVar 0) (mC (.str "left"))) (mCons (mB rDivW (mVar 2) (mVar 1)) (mNil))))
  (mRet (mB rMod (mVar 2) (mVar 1)))) (mNx))
  (mAsg (mB rAdd (mVar 2) (mB rIx (mVar 0) (mC (.str "every")))) (gN 2)))) (mNx))
  (mSeq (mAsg (mB rAdd (mB rMod (mVar 2) (mC (.int 2147483587))) (mB rMul (mB rMul (mC (.int 104659)) (mB rIx (mVar 0) (mC (.str "gone")))) (mB rIx (mVar 0) (mC (.str "gone"))))) (gN 3))
  (mSeq (mAsg (mB rMod (mB rMul (mB rAdd (mVar 3) (mC (.int 29))) (mC (.int 48271))) (mC (.int 2147483629))) (gN 3))
  (mSeq (mAsg (mB rMod (mB rAdd (mB rAdd (mB rMul (mVar 3) (mVar 3)) (mB rMul (mC (.int 39373)) (mB rIx (mVar 0) (mC (.str "gone"))))) (mC (.int 7))) (mC (.int 2147483563))) (gN 3))
  (mRet (mB rMod (mB rDiv (mB rMod (mB rMul (mVar 3) (mB rAdd (mB rDiv (mVar 3) (mC (.int 5))) (mC (.int 69621)))) (mC (.int 2147483647))) (mC (.int 32))) (mVar 1))))))))
theorem ok_law_draw {P : Program} {w : World} {K : PySem.W.Frag} {mg : Str → Option Value} {base : Heap} {f : Addr} {fd : FuncData} {sp : SpP} (F : Fun K "_law_draw" "_law_draw" s_law_draw f fd)
    (hp : ∀ (qs : List PV) (h : PH) (Q : N3.PK), qs.length = P_law_draw.length → sp qs h Q → m_law_draw (ends Q) (sp0 N_law_draw.length qs) h) : FnG P w K mg base (0 + 1) f fd P_law_draw sp := by
  refine fn_ok (k := 0) F sc_law_draw (m := m_law_draw) (fun cdv A outer s H E hr hG => ?_) hp
  have nd := sc_law_draw.nd
  exact ls_cons (ls_dput (hu1 hr) (le_var (i := 0)) (le_str) (le_op op_addA kf_add (le_ix (hu1 hr) (le_var (i := 0)) (le_str)) (le_int)))
    (ls_cons (ls_set (i := 2) nd (le_ix (hu1 hr) (le_var (i := 0)) (le_str)))
    (ls_cons (ls_if (lt_cmp (op_neA (hu64 hr)) lf_ne (le_ix (hu1 hr) (le_var (i := 0)) (le_str)) (le_lst (la_nil)) (nomark _)) (ls_cons (ls_set (i := 2) nd (le_pop (le_ix (hu1 hr) (le_var (i := 0)) (le_str))))
    (ls_cons (ls_if (lt_cmp op_geA lf_cmp (le_var (i := 2)) (le_op op_pow kf_ii (le_int) (le_int)) (nomark _)) (ls_cons (ls_expr (le_append (le_ix (hu1 hr) (le_var (i := 0)) (le_str)) (la_cons (le_op op_fdivW kf_ii (le_var (i := 2)) (le_var (i := 1))) (la_nil))))
    (ls_one (ls_ret (le_op op_mod kf_ii (le_var (i := 2)) (le_var (i := 1)))))) (ls_nil))
    (ls_one (ls_set (i := 2) nd (le_op op_addA kf_add (le_var (i := 2)) (le_ix (hu1 hr) (le_var (i := 0)) (le_str))))))) (ls_nil))
    (ls_cons (ls_set (i := 3) nd (le_op op_addA kf_add (le_op op_mod kf_ii (le_var (i := 2)) (le_int)) (le_op op_mulA kf_mul (le_op op_mulA kf_mul (le_int) (le_ix (hu1 hr) (le_var (i := 0)) (le_str))) (le_ix (hu1 hr) (le_var (i := 0)) (le_str)))))
    (ls_cons (ls_set (i := 3) nd (le_op op_mod kf_ii (le_op op_mulA kf_mul (le_op op_addA kf_add (le_var (i := 3)) (le_int)) (le_int)) (le_int)))
    (ls_cons (ls_set (i := 3) nd (le_op op_mod kf_ii (le_op op_addA kf_add (le_op op_addA kf_add (le_op op_mulA kf_mul (le_var (i := 3)) (le_var (i := 3))) (le_op op_mulA kf_mul (le_int) (le_ix (hu1 hr) (le_var (i := 0)) (le_str)))) (le_int)) (le_int)))
    (ls_one (ls_ret (le_op op_mod kf_ii (le_op op_fdiv kf_ii (le_op op_mod kf_ii (le_op op_mulA kf_mul (le_var (i := 3)) (le_op op_addA kf_add (le_op op_fdiv kf_ii (le_var (i := 3)) (le_int)) (le_int))) (le_int)) (le_int)) (le_var (i := 1))))))))))
/-! ### law_written -/
abbrev N_law_written : List Str := ["_law_line", "_law_words", "_law_worth_here", "_law_word_here", "_law_left"]
abbrev P_law_written : List Str := ["_law_line"]
theorem sc_law_written : FnScope N_law_written P_law_written (defScope s_law_written) := ⟨rfl, rfl, rfl, by decide +kernel, rfl, by decide +kernel, by decide +kernel⟩
def m_law_written : MS :=
  mSeq (mAsg (mLstM (mNil)) (gN 1))
  (mSeq (mFor (mSeqs (mVar 0)) (gN 2) (mSeq (mPar 3 4 (mCons (mVar 2) (mCons (mIf (mTest (mIsI .int (mVar 2))) (mBlt rAbs (mCons (mVar 2) (mNil))) (mC (.int 0))) (mNil))))
  (mSeq (mIfS (mTest (mIsI .int (mVar 2))) (mSeq (mAsg (mB rMul (mC (.str "0")) (mBlt rIntT (mCons (mB rEq (mVar 2) (mC (.int 0))) (mNil)))) (gN 3))
  (mSeq (mWhile (mTest (mB rGt (mVar 4) (mC (.int 0)))) (mSeq (mAsg (mB rAdd (mB rIx (mC (.str "0123456789")) (mB rMod (mVar 4) (mC (.int 10)))) (mVar 3)) (gN 3))
  (mAsg (mB rDiv (mVar 4) (mC (.int 10))) (gN 4))))
  (mAsg (mB rAdd (mB rMul (mC (.str "-")) (mBlt rIntT (mCons (mB rLt (mVar 2) (mC (.int 0))) (mNil)))) (mVar 3)) (gN 3)))) (mNx))
  (mDrop (mAppend (mVar 1) (mCons (mVar 3) (mNil)))))))
  (mRet (mM1 rJoin (mC (.str " ")) (mCons (mVar 1) (mNil)))))
theorem ok_law_written {P : Program} {w : World} {K : PySem.W.Frag} {mg : Str → Option Value} {base : Heap} {f : Addr} {fd : FuncData} {sp : SpP} (F : Fun K "_law_written" "_law_written" s_law_written f fd) (z_isinstance : mg "isinstance" = none) (z_int : mg "int" = none) (z_abs : mg "abs" = none)
    (hp : ∀ (qs : List PV) (h : PH) (Q : N3.PK), qs.length = P_law_written.length → sp qs h Q → m_law_written (ends (frg Q)) (sp0 N_law_written.length qs) h) : FnG P w K mg base (0 + 1) f fd P_law_written sp := by
  refine fn_okF (k := 0) F sc_law_written (m := m_law_written) (fun cdv A outer s H E hr hG => ?_) hp
  have nd := sc_law_written.nd
  exact ls_cons (ls_set (i := 1) nd (le_lstM (la_nil)))
    (ls_cons (ls_for (vs := [2]) PassesOwn.never rfl (li_seqs (le_var (i := 0))) (lg_name (i := 2) nd) (ls_cons (ls_par (i := 3) (j := 4) rfl nd (la_cons (le_var (i := 2)) (la_cons (le_if (lt_val (le_isi .int z_isinstance z_int (le_var (i := 2)))) (le_abs z_abs (la_cons (le_var (i := 2)) (la_nil))) (le_int)) (la_nil))))
    (ls_cons (ls_if (lt_val (le_isi .int z_isinstance z_int (le_var (i := 2)))) (ls_cons (ls_set (i := 3) nd (le_op op_mulA kf_mul (le_str) (le_intT z_int (la_cons (le_cmp (op_eqA (hu64 hr)) lf_eq (le_var (i := 2)) (le_int) (nomark _)) (la_nil)))))
    (ls_cons (ls_while PassesOwn.never (lt_cmp op_gtA lf_cmp (le_var (i := 4)) (le_int) (nomark _)) (ls_cons (ls_set (i := 3) nd (le_op op_addA kf_add (le_ix (hu1 hr) (le_str) (le_op op_mod kf_ii (le_var (i := 4)) (le_int))) (le_var (i := 3))))
    (ls_one (ls_set (i := 4) nd (le_op op_fdiv kf_ii (le_var (i := 4)) (le_int))))))
    (ls_one (ls_set (i := 3) nd (le_op op_addA kf_add (le_op op_mulA kf_mul (le_str) (le_intT z_int (la_cons (le_cmp op_ltA lf_cmp (le_var (i := 2)) (le_int) (nomark _)) (la_nil)))) (le_var (i := 3))))))) (ls_nil))
    (ls_one (ls_expr (le_append (le_var (i := 1)) (la_cons (le_var (i := 3)) (la_nil))))))))
    (ls_one (ls_ret (le_join (le_str) (la_cons (le_var (i := 1)) (la_nil))))))
/-! ### read_worth -/
abbrev N_read_worth : List Str := ["word"]
abbrev P_read_worth : List Str := ["word"]
theorem sc_read_worth : FnScope N_read_worth P_read_worth (defScope s_read_worth) := ⟨rfl, rfl, rfl, by decide +kernel, rfl, by decide +kernel, by decide +kernel⟩
def m_read_worth (Ad_NoText : Addr) (sp_is_name : SpP) (sp_are_figures : SpP) : PW → MS :=
  fun w => mSeq (mIfS (mTest (mBlt sp_is_name (mCons (mVar 0) (mNil)))) (mRet (mVar 0)) (mNx))
  (mSeq (mIfS (mTest (mBlt sp_are_figures (mCons (mVar 0) (mNil)))) (mRet (mBlt rIntT (mCons (mVar 0) (mNil)))) (mNx))
  (mSeq (mIfS (mOrT (mTest (mB rNe (mSl (mVar 0) (mNoPart) (mPart (mC (.int 1)))) (mC (.str "-")))) (mOrT (mNotT (mTest (mBlt sp_are_figures (mCons (mSl (mVar 0) (mPart (mC (.int 1))) (mNoPart)) (mNil))))) (mTest (mB rEq (mSl (mVar 0) (mPart (mC (.int 1))) (mNoPart)) (mC (.str "0")))))) (mRaise Ad_NoText w) (mNx))
  (mRet (mB rSub (mC (.int 0)) (mBlt rIntT (mCons (mSl (mVar 0) (mPart (mC (.int 1))) (mNoPart)) (mNil)))))))
theorem ok_read_worth {P : Program} {w : World} {K : PySem.W.Frag} {mg : Str → Option Value} {base : Heap} {f : Addr} {fd : FuncData} {t_LESS : Tok} {Ad_NoText : Addr} {sp_is_name : SpP} {sp_are_figures : SpP} {sp : SpX} (F : Fun K "read_worth" "read_worth" s_read_worth f fd) (c_is_name : Fn P w K mg base 1 "is_name" s_is_name P_is_name sp_is_name) (c_are_figures : Fn P w K mg base 1 "are_figures" s_are_figures P_are_figures sp_are_figures) (X_NoText : ExMk K mg "NoText" Ad_NoText [.type "ValueError", .type "Exception", .type "BaseException", .type "object"] "ValueError.__new__") (z_int : mg "int" = none) (g_LESS : mg "LESS" = some (.str "-" t_LESS))
    (hp : ∀ (qs : List PV) (h : PH) (Q : N3.PK) (wx : PX), qs.length = P_read_worth.length → sp qs h Q wx → m_read_worth Ad_NoText sp_is_name sp_are_figures (fun x _ h1 => frgX wx x h1) (ends (frg Q)) (sp0 N_read_worth.length qs) h) : FnGX P w K mg base (1 + 1) f fd P_read_worth sp := by
  refine fn_okX (k := 1) F sc_read_worth (m := m_read_worth Ad_NoText sp_is_name sp_are_figures) (fun cdv A outer s H E hr hG tk po => ?_) hp
  have nd := sc_read_worth.nd
  exact lssx_cons (lsx_of (ls_if (lt_val (le_fn c_is_name hr (by decide) hG (la_cons (le_var (i := 0)) (la_nil)))) (ls_one (ls_ret (le_var (i := 0)))) (ls_nil)))
    (lssx_cons (lsx_of (ls_if (lt_val (le_fn c_are_figures hr (by decide) hG (la_cons (le_var (i := 0)) (la_nil)))) (ls_one (ls_ret (le_intT z_int (la_cons (le_var (i := 0)) (la_nil))))) (ls_nil)))
    (lssx_cons (lsx_if (lt_w (lw_or (lt_cmp (op_neA (hu64 hr)) lf_ne (le_sl (le_var (i := 0)) (lo_none) (lo_some (le_int))) (le_glS g_LESS) (nomark _)) (lw_or (lt_not (lt_val (le_fn c_are_figures hr (by decide) hG (la_cons (le_sl (le_var (i := 0)) (lo_some (le_int)) (lo_none)) (la_nil))))) (lw_or1 (lt_cmp (op_eqA (hu64 hr)) lf_eq (le_sl (le_var (i := 0)) (lo_some (le_int)) (lo_none)) (le_str) (nomark _)))))) (lssx_one (lsx_raise PySem.F.excBase_ValueError tk rfl X_NoText)) (lssx_nil))
    (lssx_one (lsx_of (ls_ret (le_op op_sub kf_ii0 (le_int) (le_intT z_int (la_cons (le_sl (le_var (i := 0)) (lo_some (le_int)) (lo_none)) (la_nil)))))))))
/-! ### law_pick -/
abbrev N_law_pick : List Str := ["_law_deck_here", "_law_some"]
abbrev P_law_pick : List Str := ["_law_deck_here", "_law_some"]
theorem sc_law_pick : FnScope N_law_pick P_law_pick (defScope s_law_pick) := ⟨rfl, rfl, rfl, by decide +kernel, rfl, by decide +kernel, by decide +kernel⟩
def m_law_pick (sp_law_draw : SpP) : MS :=
  mRet (mB rIx (mVar 1) (mBlt sp_law_draw (mCons (mVar 0) (mCons (mBlt rLen (mCons (mVar 1) (mNil))) (mNil)))))
theorem ok_law_pick {P : Program} {w : World} {K : PySem.W.Frag} {mg : Str → Option Value} {base : Heap} {f : Addr} {fd : FuncData} {sp_law_draw : SpP} {sp : SpP} (F : Fun K "_law_pick" "_law_pick" s_law_pick f fd) (c_law_draw : Fn P w K mg base 1 "_law_draw" s_law_draw P_law_draw sp_law_draw) (z_len : mg "len" = none)
    (hp : ∀ (qs : List PV) (h : PH) (Q : N3.PK), qs.length = P_law_pick.length → sp qs h Q → m_law_pick sp_law_draw (ends Q) (sp0 N_law_pick.length qs) h) : FnG P w K mg base (1 + 1) f fd P_law_pick sp := by
  refine fn_ok (k := 1) F sc_law_pick (m := m_law_pick sp_law_draw) (fun cdv A outer s H E hr hG => ?_) hp
  have nd := sc_law_pick.nd
  exact ls_one (ls_ret (le_ix (hu1 hr) (le_var (i := 1)) (le_fn c_law_draw hr (by decide) hG (la_cons (le_var (i := 0)) (la_cons (le_len z_len (la_cons (le_var (i := 1)) (la_nil))) (la_nil))))))
/-! ### law_read_word -/
abbrev N_law_read_word : List Str := ["_law_word_here", "_law_figures", "_law_number", "_law_sign"]
abbrev P_law_read_word : List Str := ["_law_word_here"]
theorem sc_law_read_word : FnScope N_law_read_word P_law_read_word (defScope s_law_read_word) := ⟨rfl, rfl, rfl, by decide +kernel, rfl, by decide +kernel, by decide +kernel⟩
def m_law_read_word (sp_law_written : SpP) : MS :=
  mSeq (mAsg (mIf (mTest (mB rEq (mSl (mVar 0) (mNoPart) (mPart (mC (.int 1)))) (mC (.str "-")))) (mSl (mVar 0) (mPart (mC (.int 1))) (mNoPart)) (mVar 0)) (gN 1))
  (mSeq (mIfS (mAndT (mTest (mChn rLt rLt (mC (.int 0)) (mBlt rLen (mCons (mVar 0) (mNil))) (mC (.int 7)))) (mTest (mB rEq (mLc (mSeqs (mVar 0)) [3] (gN 3) (mTest (mB (rInP true) (mVar 3) (mC (.str "abcdefghijklmnopqrstuvwxyz")))) (mVar 3)) (mLst (mNil))))) (mRet (mVar 0)) (mNx))
  (mSeq (mIfS (mOrT (mNotT (mTest (mChn rLt rLt (mC (.int 0)) (mBlt rLen (mCons (mVar 1) (mNil))) (mC (.int 41))))) (mTest (mB rNe (mLc (mSeqs (mVar 1)) [3] (gN 3) (mTest (mB (rInP true) (mVar 3) (mC (.str "0123456789")))) (mVar 3)) (mLst (mNil))))) (mRet (mC .non)) (mNx))
  (mSeq (mAsg (mC (.int 0)) (gN 2))
  (mSeq (mFor (mSeqs (mVar 1)) (gN 3) (mAsg (mB rAdd (mB rMul (mVar 2) (mC (.int 10))) (mM1 rIdxS (mC (.str "0123456789")) (mCons (mVar 3) (mNil)))) (gN 2)))
  (mSeq (mAsg (mIf (mTest (mB rEq (mSl (mVar 0) (mNoPart) (mPart (mC (.int 1)))) (mC (.str "-")))) (mB rSub (mC (.int 0)) (mVar 2)) (mVar 2)) (gN 2))
  (mRet (mIf (mTest (mB rEq (mBlt sp_law_written (mCons (mTup (mCons (mVar 2) (mNil))) (mNil))) (mVar 0))) (mVar 2) (mC .non))))))))
theorem ok_law_read_word {P : Program} {w : World} {K : PySem.W.Frag} {mg : Str → Option Value} {base : Heap} {f : Addr} {fd : FuncData} {sp_law_written : SpP} {sp : SpP} (F : Fun K "_law_read_word" "_law_read_word" s_law_read_word f fd) (c_law_written : Fn P w K mg base 1 "_law_written" s_law_written P_law_written sp_law_written) (z_len : mg "len" = none)
    (hp : ∀ (qs : List PV) (h : PH) (Q : N3.PK), qs.length = P_law_read_word.length → sp qs h Q → m_law_read_word sp_law_written (ends Q) (sp0 N_law_read_word.length qs) h) : FnG P w K mg base (1 + 1) f fd P_law_read_word sp := by
  refine fn_ok (k := 1) F sc_law_read_word (m := m_law_read_word sp_law_written) (fun cdv A outer s H E hr hG => ?_) hp
  have nd := sc_law_read_word.nd
  exact ls_cons (ls_set (i := 1) nd (le_if (lt_cmp (op_eqA (hu64 hr)) lf_eq (le_sl (le_var (i := 0)) (lo_none) (lo_some (le_int))) (le_str) (nomark _)) (le_sl (le_var (i := 0)) (lo_some (le_int)) (lo_none)) (le_var (i := 0))))
    (ls_cons (ls_if (lt_w (lw_and (lt_chn op_ltA op_ltA lf_cmp lf_cmp (le_int) (le_len z_len (la_cons (le_var (i := 0)) (la_nil))) (le_int)) (lw_and1 (lt_cmp (op_eqA (hu64 hr)) lf_eq (le_lc [("_law_sign", 3)] rfl nd (li_seqs (le_var (i := 0))) (blkOk_by (N := N_law_read_word) (sc := defScope s_law_read_word) (own := [("_law_sign", 3)]) (by decide +kernel)) (fun _ _ _ _ _ => lg_name (i := 3) nd) (fun _ _ _ _ _ => lts_one (lt_cmp (op_notInA (hu65 hr)) lf_in (le_var (i := 3)) (le_str) (by with_unfolding_all rfl))) (fun _ _ _ _ _ => le_var (i := 3))) (le_lst (la_nil)) (nomark _))))) (ls_one (ls_ret (le_var (i := 0)))) (ls_nil))
    (ls_cons (ls_if (lt_w (lw_or (lt_not (lt_chn op_ltA op_ltA lf_cmp lf_cmp (le_int) (le_len z_len (la_cons (le_var (i := 1)) (la_nil))) (le_int))) (lw_or1 (lt_cmp (op_neA (hu64 hr)) lf_ne (le_lc [("_law_sign", 3)] rfl nd (li_seqs (le_var (i := 1))) (blkOk_by (N := N_law_read_word) (sc := defScope s_law_read_word) (own := [("_law_sign", 3)]) (by decide +kernel)) (fun _ _ _ _ _ => lg_name (i := 3) nd) (fun _ _ _ _ _ => lts_one (lt_cmp (op_notInA (hu65 hr)) lf_in (le_var (i := 3)) (le_str) (by with_unfolding_all rfl))) (fun _ _ _ _ _ => le_var (i := 3))) (le_lst (la_nil)) (nomark _))))) (ls_one (ls_ret (le_non))) (ls_nil))
    (ls_cons (ls_set (i := 2) nd (le_int))
    (ls_cons (ls_for (vs := [3]) PassesOwn.never rfl (li_seqs (le_var (i := 1))) (lg_name (i := 3) nd) (ls_one (ls_set (i := 2) nd (le_op op_addA kf_add (le_op op_mulA kf_mul (le_var (i := 2)) (le_int)) (le_indexS rfl (le_str) (la_cons (le_var (i := 3)) (la_nil)))))))
    (ls_cons (ls_set (i := 2) nd (le_if (lt_cmp (op_eqA (hu64 hr)) lf_eq (le_sl (le_var (i := 0)) (lo_none) (lo_some (le_int))) (le_str) (nomark _)) (le_op op_sub kf_ii0 (le_int) (le_var (i := 2))) (le_var (i := 2))))
    (ls_one (ls_ret (le_if (lt_cmp (op_eqA (hu64 hr)) lf_eq (le_fn c_law_written hr (by decide) hG (la_cons (le_tup (la_cons (le_var (i := 2)) (la_nil))) (la_nil))) (le_var (i := 0)) (nomark _)) (le_var (i := 2)) (le_non)))))))))
/-! ### read_row -/
abbrev N_read_row : List Str := ["text", "word"]
abbrev P_read_row : List Str := ["text"]
theorem sc_read_row : FnScope N_read_row P_read_row (defScope s_read_row) := ⟨rfl, rfl, rfl, by decide +kernel, rfl, by decide +kernel, by decide +kernel⟩
def m_read_row (Ad_NoText : Addr) (sp_read_worth : SpX) : PW → MS :=
  fun w => mSeq (mIfS (mNotT (mTest (mIsI .str (mVar 0)))) (mRaise Ad_NoText w) (mNx))
  (mRet (mBlt rTupOf (mCons (mLcX (mSeqs (mM1 rSplit (mVar 0) (mCons (mC (.str " ")) (mNil)))) [1] (gN 1) (mYes) (fun w => mCallX sp_read_worth pat_read_worth_0 (mCons (mVar 1) (mNil)) (mNil) w) w) mNil)))
theorem ok_read_row {P : Program} {w : World} {K : PySem.W.Frag} {mg : Str → Option Value} {base : Heap} {f : Addr} {fd : FuncData} {Ad_NoText : Addr} {sp_read_worth : SpX} {sp : SpX} (F : Fun K "read_row" "read_row" s_read_row f fd) (c_read_worth : FnPX P w K mg base 2 "read_worth" P_read_worth sp_read_worth pats_read_worth) (X_NoText : ExMk K mg "NoText" Ad_NoText [.type "ValueError", .type "Exception", .type "BaseException", .type "object"] "ValueError.__new__") (z_isinstance : mg "isinstance" = none) (z_str : mg "str" = none) (z_tuple : mg "tuple" = none)
    (hp : ∀ (qs : List PV) (h : PH) (Q : N3.PK) (wx : PX), qs.length = P_read_row.length → sp qs h Q wx → m_read_row Ad_NoText sp_read_worth (fun x _ h1 => frgX wx x h1) (ends (frg Q)) (sp0 N_read_row.length qs) h) : FnGX P w K mg base (2 + 1) f fd P_read_row sp := by
  refine fn_okX (k := 2) F sc_read_row (m := m_read_row Ad_NoText sp_read_worth) (fun cdv A outer s H E hr hG tk po => ?_) hp
  have nd := sc_read_row.nd
  exact lssx_cons (lsx_if (lt_not (lt_val (le_isi .str z_isinstance z_str (le_var (i := 0))))) (lssx_one (lsx_raise PySem.F.excBase_ValueError tk rfl X_NoText)) (lssx_nil))
    (lssx_one (lsx_ret (lx_tuple z_tuple (lxa_cons (lx_lc [("word", 1)] tk rfl nd (li_seqs (le_split (le_var (i := 0)) (la_cons (le_str) (la_nil)))) (blkOk_by (N := N_read_row) (sc := defScope s_read_row) (own := [("word", 1)]) (by decide +kernel)) (fun _ _ _ _ _ _ => lg_name (i := 1) nd) (fun _ _ _ _ _ _ => lts_nil) (fun _ _ _ _ _ _ _ tk => lx_fnPF tk c_read_worth (j := 0) (b := pat_read_worth_0) rfl hr (by decide) hG (la_cons (le_var (i := 1)) (la_nil)) (lk_nil))) lxa_nil))))
/-! ### law_word -/
abbrev N_law_word : List Str := ["_law_deck_here", "_law_letters", "_law_k"]
abbrev P_law_word : List Str := ["_law_deck_here"]
theorem sc_law_word : FnScope N_law_word P_law_word (defScope s_law_word) := ⟨rfl, rfl, rfl, by decide +kernel, rfl, by decide +kernel, by decide +kernel⟩
def m_law_word (sp_law_draw : SpP) (sp_law_pick : SpP) : MS :=
  mSeq (mAsg (mC (.str "abcdefghijklmnopqrstuvwxyz")) (gN 1))
  (mRet (mM1 rJoin (mC (.str "")) (mCons (mLc (mRng1 (mCons (mB rAdd (mC (.int 1)) (mBlt sp_law_draw (mCons (mVar 0) (mCons (mC (.int 6)) (mNil))))) (mNil))) [2] (gN 2) (mYes) (mBlt sp_law_pick (mCons (mVar 0) (mCons (mVar 1) (mNil))))) (mNil))))
theorem ok_law_word {P : Program} {w : World} {K : PySem.W.Frag} {mg : Str → Option Value} {base : Heap} {f : Addr} {fd : FuncData} {sp_law_draw : SpP} {sp_law_pick : SpP} {sp : SpP} (F : Fun K "_law_word" "_law_word" s_law_word f fd) (c_law_draw : Fn P w K mg base 1 "_law_draw" s_law_draw P_law_draw sp_law_draw) (c_law_pick : Fn P w K mg base 2 "_law_pick" s_law_pick P_law_pick sp_law_pick) (z_range : mg "range" = none)
    (hp : ∀ (qs : List PV) (h : PH) (Q : N3.PK), qs.length = P_law_word.length → sp qs h Q → m_law_word sp_law_draw sp_law_pick (ends Q) (sp0 N_law_word.length qs) h) : FnG P w K mg base (2 + 1) f fd P_law_word sp := by
  refine fn_ok (k := 2) F sc_law_word (m := m_law_word sp_law_draw sp_law_pick) (fun cdv A outer s H E hr hG => ?_) hp
  have nd := sc_law_word.nd
  exact ls_cons (ls_set (i := 1) nd (le_str))
    (ls_one (ls_ret (le_join (le_str) (la_cons (le_lc [("_law_k", 2)] rfl nd (li_rng1 z_range (la_cons (le_op op_addA kf_add (le_int) (le_fn c_law_draw hr (by decide) hG (la_cons (le_var (i := 0)) (la_cons (le_int) (la_nil))))) (la_nil))) (blkOk_by (N := N_law_word) (sc := defScope s_law_word) (own := [("_law_k", 2)]) (by decide +kernel)) (fun _ _ _ _ _ => lg_name (i := 2) nd) (fun _ _ _ _ _ => lts_nil) (fun _ _ _ _ _ => le_fn c_law_pick hr (by decide) hG (la_cons (le_var (i := 0)) (la_cons (le_var (i := 1)) (la_nil))))) (la_nil)))))
/-! ### law_read -/
abbrev N_law_read : List Str := ["_law_said", "_law_line", "_law_word_here"]
abbrev P_law_read : List Str := ["_law_said"]
theorem sc_law_read : FnScope N_law_read P_law_read (defScope s_law_read) := ⟨rfl, rfl, rfl, by decide +kernel, rfl, by decide +kernel, by decide +kernel⟩
def m_law_read (sp_law_read_word : SpP) : MS :=
  mSeq (mIfS (mNotT (mTest (mIsI .str (mVar 0)))) (mRet (mC .non)) (mNx))
  (mSeq (mAsg (mLc (mSeqs (mM1 rSplit (mVar 0) (mCons (mC (.str " ")) (mNil)))) [2] (gN 2) (mYes) (mBlt sp_law_read_word (mCons (mVar 2) (mNil)))) (gN 1))
  (mRet (mIf (mTest (mB (rInP false) (mC .non) (mVar 1))) (mC .non) (mBlt rTupOf (mCons (mVar 1) (mNil))))))
theorem ok_law_read {P : Program} {w : World} {K : PySem.W.Frag} {mg : Str → Option Value} {base : Heap} {f : Addr} {fd : FuncData} {sp_law_read_word : SpP} {sp : SpP} (F : Fun K "_law_read" "_law_read" s_law_read f fd) (c_law_read_word : Fn P w K mg base 2 "_law_read_word" s_law_read_word P_law_read_word sp_law_read_word) (z_isinstance : mg "isinstance" = none) (z_str : mg "str" = none) (z_tuple : mg "tuple" = none)
    (hp : ∀ (qs : List PV) (h : PH) (Q : N3.PK), qs.length = P_law_read.length → sp qs h Q → m_law_read sp_law_read_word (ends Q) (sp0 N_law_read.length qs) h) : FnG P w K mg base (2 + 1) f fd P_law_read sp := by
  refine fn_ok (k := 2) F sc_law_read (m := m_law_read sp_law_read_word) (fun cdv A outer s H E hr hG => ?_) hp
  have nd := sc_law_read.nd
  exact ls_cons (ls_if (lt_not (lt_val (le_isi .str z_isinstance z_str (le_var (i := 0))))) (ls_one (ls_ret (le_non))) (ls_nil))
    (ls_cons (ls_setLc (i := 1) [("_law_word_here", 2)] rfl nd (li_seqs (le_split (le_var (i := 0)) (la_cons (le_str) (la_nil)))) (blkOk_by (N := N_law_read) (sc := defScope s_law_read) (own := [("_law_word_here", 2)]) (by decide +kernel)) (fun _ _ _ _ _ => lg_name (i := 2) nd) (fun _ _ _ _ _ => lts_nil) (fun _ _ _ _ _ => le_fn c_law_read_word hr (by decide) hG (la_cons (le_var (i := 2)) (la_nil))))
    (ls_one (ls_ret (le_if (lt_cmp (op_inA (hu65 hr)) lf_in (le_non) (le_var (i := 1)) (by with_unfolding_all rfl)) (le_non) (le_tuple z_tuple (la_cons (le_var (i := 1)) (la_nil)))))))
/-! ### law_bent -/
abbrev N_law_bent : List Str := ["_law_deck_here", "_law_said", "_law_way", "_law_at", "_law_sign", "_law_words", "_law_some"]
abbrev P_law_bent : List Str := ["_law_deck_here", "_law_said"]
theorem sc_law_bent : FnScope N_law_bent P_law_bent (defScope s_law_bent) := ⟨rfl, rfl, rfl, by decide +kernel, rfl, by decide +kernel, by decide +kernel⟩
def m_law_bent (sp_law_draw : SpP) (sp_law_pick : SpP) : MS :=
  mSeq (mPar 2 3 (mCons (mBlt sp_law_draw (mCons (mVar 0) (mCons (mC (.int 6)) (mNil)))) (mCons (mBlt sp_law_draw (mCons (mVar 0) (mCons (mB rAdd (mBlt rLen (mCons (mVar 1) (mNil))) (mC (.int 1))) (mNil)))) (mNil))))
  (mSeq (mAsg (mBlt sp_law_pick (mCons (mVar 0) (mCons (mC (.str "0123456789- -0 abz:A+_.\n~")) (mNil)))) (gN 4))
  (mSeq (mIfS (mTest (mB rLt (mVar 2) (mC (.int 3)))) (mRet (mB rIx (mLst (mCons (mB rAdd (mB rAdd (mSl (mVar 1) (mNoPart) (mPart (mVar 3))) (mVar 4)) (mSl (mVar 1) (mPart (mVar 3)) (mNoPart))) (mCons (mB rAdd (mB rAdd (mSl (mVar 1) (mNoPart) (mPart (mVar 3))) (mVar 4)) (mSl (mVar 1) (mPart (mB rAdd (mVar 3) (mC (.int 1)))) (mNoPart))) (mCons (mB rAdd (mSl (mVar 1) (mNoPart) (mPart (mVar 3))) (mSl (mVar 1) (mPart (mB rAdd (mVar 3) (mC (.int 1)))) (mNoPart))) (mNil))))) (mVar 2))) (mNx))
  (mSeq (mIfS (mTest (mB rEq (mVar 2) (mC (.int 3)))) (mRet (mB rAdd (mB rAdd (mSl (mVar 1) (mNoPart) (mPart (mVar 3))) (mB rMul (mSl (mVar 1) (mPart (mVar 3)) (mPart (mB rAdd (mVar 3) (mC (.int 1))))) (mC (.int 2)))) (mSl (mVar 1) (mPart (mB rAdd (mVar 3) (mC (.int 1)))) (mNoPart)))) (mNx))
  (mSeq (mIfS (mTest (mB rEq (mVar 2) (mC (.int 4)))) (mRet (mB rAdd (mB rAdd (mSl (mVar 1) (mNoPart) (mPart (mVar 3))) (mRev (mSl (mVar 1) (mPart (mVar 3)) (mPart (mB rAdd (mVar 3) (mC (.int 2))))))) (mSl (mVar 1) (mPart (mB rAdd (mVar 3) (mC (.int 2)))) (mNoPart)))) (mNx))
  (mSeq (mAsg (mM1 rSplitM (mVar 1) (mCons (mC (.str " ")) (mNil))) (gN 5))
  (mSeq (mAsg (mBlt sp_law_draw (mCons (mVar 0) (mCons (mBlt rLen (mCons (mVar 5) (mNil))) (mNil)))) (gN 3))
  (mSeq (mAsg (mLst (mCons (mB rAdd (mC (.str "0")) (mB rIx (mVar 5) (mVar 3))) (mCons (mB rAdd (mC (.str "-")) (mB rIx (mVar 5) (mVar 3))) (mCons (mB rAdd (mC (.str "+")) (mB rIx (mVar 5) (mVar 3))) (mCons (mC (.str "")) (mCons (mC (.str "-0")) (mCons (mC (.str "00")) (mCons (mC (.str "-")) (mCons (mB rAdd (mB rIx (mVar 5) (mVar 3)) (mC (.str "a"))) (mCons (mB rMul (mC (.str "1")) (mC (.int 41))) (mNil))))))))))) (gN 6))
  (mSeq (mDput (mBlt sp_law_pick (mCons (mVar 0) (mCons (mB rAdd (mVar 6) (mLst (mCons (mB rMul (mC (.str "9")) (mC (.int 40))) (mCons (mB rAdd (mC (.str "-")) (mB rMul (mC (.str "9")) (mC (.int 40)))) (mCons (mB rAdd (mC (.str "-")) (mB rMul (mC (.str "9")) (mC (.int 41)))) (mCons (mC (.str "abcdefg")) (mCons (mC (.str "A")) (mCons (mC (.str "1.0")) (mCons (mC (.str "1_0")) (mNil)))))))))) (mNil)))) (mVar 5) (mVar 3))
  (mRet (mM1 rJoin (mC (.str " ")) (mCons (mVar 5) (mNil))))))))))))
theorem ok_law_bent {P : Program} {w : World} {K : PySem.W.Frag} {mg : Str → Option Value} {base : Heap} {f : Addr} {fd : FuncData} {sp_law_draw : SpP} {sp_law_pick : SpP} {sp : SpP} (F : Fun K "_law_bent" "_law_bent" s_law_bent f fd) (c_law_draw : Fn P w K mg base 1 "_law_draw" s_law_draw P_law_draw sp_law_draw) (c_law_pick : Fn P w K mg base 2 "_law_pick" s_law_pick P_law_pick sp_law_pick) (z_len : mg "len" = none)
    (hp : ∀ (qs : List PV) (h : PH) (Q : N3.PK), qs.length = P_law_bent.length → sp qs h Q → m_law_bent sp_law_draw sp_law_pick (ends (frg Q)) (sp0 N_law_bent.length qs) h) : FnG P w K mg base (2 + 1) f fd P_law_bent sp := by
  refine fn_okF (k := 2) F sc_law_bent (m := m_law_bent sp_law_draw sp_law_pick) (fun cdv A outer s H E hr hG => ?_) hp
  have nd := sc_law_bent.nd
  exact ls_cons (ls_par (i := 2) (j := 3) rfl nd (la_cons (le_fn c_law_draw hr (by decide) hG (la_cons (le_var (i := 0)) (la_cons (le_int) (la_nil)))) (la_cons (le_fn c_law_draw hr (by decide) hG (la_cons (le_var (i := 0)) (la_cons (le_op op_addA kf_add (le_len z_len (la_cons (le_var (i := 1)) (la_nil))) (le_int)) (la_nil)))) (la_nil))))
    (ls_cons (ls_set (i := 4) nd (le_fn c_law_pick hr (by decide) hG (la_cons (le_var (i := 0)) (la_cons (le_str) (la_nil)))))
    (ls_cons (ls_if (lt_cmp op_ltA lf_cmp (le_var (i := 2)) (le_int) (nomark _)) (ls_one (ls_ret (le_ix (hu1 hr) (le_lst (la_cons (le_op op_addA kf_add (le_op op_addA kf_add (le_sl (le_var (i := 1)) (lo_none) (lo_some (le_var (i := 3)))) (le_var (i := 4))) (le_sl (le_var (i := 1)) (lo_some (le_var (i := 3))) (lo_none))) (la_cons (le_op op_addA kf_add (le_op op_addA kf_add (le_sl (le_var (i := 1)) (lo_none) (lo_some (le_var (i := 3)))) (le_var (i := 4))) (le_sl (le_var (i := 1)) (lo_some (le_op op_addA kf_add (le_var (i := 3)) (le_int))) (lo_none))) (la_cons (le_op op_addA kf_add (le_sl (le_var (i := 1)) (lo_none) (lo_some (le_var (i := 3)))) (le_sl (le_var (i := 1)) (lo_some (le_op op_addA kf_add (le_var (i := 3)) (le_int))) (lo_none))) (la_nil))))) (le_var (i := 2))))) (ls_nil))
    (ls_cons (ls_if (lt_cmp (op_eqA (hu64 hr)) lf_eq (le_var (i := 2)) (le_int) (nomark _)) (ls_one (ls_ret (le_op op_addA kf_add (le_op op_addA kf_add (le_sl (le_var (i := 1)) (lo_none) (lo_some (le_var (i := 3)))) (le_op op_mulA kf_mul (le_sl (le_var (i := 1)) (lo_some (le_var (i := 3))) (lo_some (le_op op_addA kf_add (le_var (i := 3)) (le_int)))) (le_int))) (le_sl (le_var (i := 1)) (lo_some (le_op op_addA kf_add (le_var (i := 3)) (le_int))) (lo_none))))) (ls_nil))
    (ls_cons (ls_if (lt_cmp (op_eqA (hu64 hr)) lf_eq (le_var (i := 2)) (le_int) (nomark _)) (ls_one (ls_ret (le_op op_addA kf_add (le_op op_addA kf_add (le_sl (le_var (i := 1)) (lo_none) (lo_some (le_var (i := 3)))) (le_rev (le_sl (le_var (i := 1)) (lo_some (le_var (i := 3))) (lo_some (le_op op_addA kf_add (le_var (i := 3)) (le_int)))))) (le_sl (le_var (i := 1)) (lo_some (le_op op_addA kf_add (le_var (i := 3)) (le_int))) (lo_none))))) (ls_nil))
    (ls_cons (ls_set (i := 5) nd (le_splitM (le_var (i := 1)) (la_cons (le_str) (la_nil))))
    (ls_cons (ls_set (i := 3) nd (le_fn c_law_draw hr (by decide) hG (la_cons (le_var (i := 0)) (la_cons (le_len z_len (la_cons (le_var (i := 5)) (la_nil))) (la_nil)))))
    (ls_cons (ls_set (i := 6) nd (le_lst (la_cons (le_op op_addA kf_add (le_str) (le_ix (hu1 hr) (le_var (i := 5)) (le_var (i := 3)))) (la_cons (le_op op_addA kf_add (le_str) (le_ix (hu1 hr) (le_var (i := 5)) (le_var (i := 3)))) (la_cons (le_op op_addA kf_add (le_str) (le_ix (hu1 hr) (le_var (i := 5)) (le_var (i := 3)))) (la_cons (le_str) (la_cons (le_str) (la_cons (le_str) (la_cons (le_str) (la_cons (le_op op_addA kf_add (le_ix (hu1 hr) (le_var (i := 5)) (le_var (i := 3))) (le_str)) (la_cons (le_op op_mulA kf_mul (le_str) (le_int)) (la_nil))))))))))))
    (ls_cons (ls_dput (hu1 hr) (le_var (i := 5)) (le_var (i := 3)) (le_fn c_law_pick hr (by decide) hG (la_cons (le_var (i := 0)) (la_cons (le_op op_addA kf_add (le_var (i := 6)) (le_lst (la_cons (le_op op_mulA kf_mul (le_str) (le_int)) (la_cons (le_op op_addA kf_add (le_str) (le_op op_mulA kf_mul (le_str) (le_int))) (la_cons (le_op op_addA kf_add (le_str) (le_op op_mulA kf_mul (le_str) (le_int))) (la_cons (le_str) (la_cons (le_str) (la_cons (le_str) (la_cons (le_str) (la_nil)))))))))) (la_nil)))))
    (ls_one (ls_ret (le_join (le_str) (la_cons (le_var (i := 5)) (la_nil)))))))))))))
/-! ### law_worth -/
abbrev N_law_worth : List Str := ["_law_deck_here", "_law_way", "_law_far", "_law_some"]
abbrev P_law_worth : List Str := ["_law_deck_here"]
theorem sc_law_worth : FnScope N_law_worth P_law_worth (defScope s_law_worth) := ⟨rfl, rfl, rfl, by decide +kernel, rfl, by decide +kernel, by decide +kernel⟩
def m_law_worth (sp_law_pick : SpP) (sp_law_draw : SpP) (sp_law_word : SpP) : MS :=
  mSeq (mPar 1 2 (mCons (mBlt sp_law_draw (mCons (mVar 0) (mCons (mC (.int 6)) (mNil)))) (mCons (mBlt sp_law_pick (mCons (mVar 0) (mCons (mLst (mCons (mC (.int 10)) (mCons (mB rPow (mC (.int 10)) (mC (.int 3))) (mCons (mB rPow (mC (.int 10)) (mC (.int 9))) (mCons (mB rPow (mC (.int 10)) (mC (.int 20))) (mCons (mB rPow (mC (.int 10)) (mC (.int 39))) (mCons (mB rPow (mC (.int 10)) (mC (.int 40))) (mNil)))))))) (mNil)))) (mNil))))
  (mSeq (mAsg (mLst (mCons (mBlt sp_law_draw (mCons (mVar 0) (mCons (mVar 2) (mNil)))) (mCons (mB rSub (mC (.int 0)) (mBlt sp_law_draw (mCons (mVar 0) (mCons (mVar 2) (mNil))))) (mCons (mB rSub (mVar 2) (mC (.int 1))) (mCons (mB rSub (mC (.int 1)) (mVar 2)) (mNil)))))) (gN 3))
  (mRet (mB rIx (mB rAdd (mVar 3) (mLst (mCons (mBlt sp_law_word (mCons (mVar 0) (mNil))) (mCons (mB rSub (mBlt sp_law_draw (mCons (mVar 0) (mCons (mC (.int 21)) (mNil)))) (mC (.int 10))) (mNil))))) (mVar 1))))
theorem ok_law_worth {P : Program} {w : World} {K : PySem.W.Frag} {mg : Str → Option Value} {base : Heap} {f : Addr} {fd : FuncData} {sp_law_pick : SpP} {sp_law_draw : SpP} {sp_law_word : SpP} {sp : SpP} (F : Fun K "_law_worth" "_law_worth" s_law_worth f fd) (c_law_pick : Fn P w K mg base 2 "_law_pick" s_law_pick P_law_pick sp_law_pick) (c_law_draw : Fn P w K mg base 1 "_law_draw" s_law_draw P_law_draw sp_law_draw) (c_law_word : Fn P w K mg base 3 "_law_word" s_law_word P_law_word sp_law_word)
    (hp : ∀ (qs : List PV) (h : PH) (Q : N3.PK), qs.length = P_law_worth.length → sp qs h Q → m_law_worth sp_law_pick sp_law_draw sp_law_word (ends Q) (sp0 N_law_worth.length qs) h) : FnG P w K mg base (3 + 1) f fd P_law_worth sp := by
  refine fn_ok (k := 3) F sc_law_worth (m := m_law_worth sp_law_pick sp_law_draw sp_law_word) (fun cdv A outer s H E hr hG => ?_) hp
  have nd := sc_law_worth.nd
  exact ls_cons (ls_par (i := 1) (j := 2) rfl nd (la_cons (le_fn c_law_draw hr (by decide) hG (la_cons (le_var (i := 0)) (la_cons (le_int) (la_nil)))) (la_cons (le_fn c_law_pick hr (by decide) hG (la_cons (le_var (i := 0)) (la_cons (le_lst (la_cons (le_int) (la_cons (le_op op_pow kf_ii (le_int) (le_int)) (la_cons (le_op op_pow kf_ii (le_int) (le_int)) (la_cons (le_op op_pow kf_ii (le_int) (le_int)) (la_cons (le_op op_pow kf_ii (le_int) (le_int)) (la_cons (le_op op_pow kf_ii (le_int) (le_int)) (la_nil)))))))) (la_nil)))) (la_nil))))
    (ls_cons (ls_set (i := 3) nd (le_lst (la_cons (le_fn c_law_draw hr (by decide) hG (la_cons (le_var (i := 0)) (la_cons (le_var (i := 2)) (la_nil)))) (la_cons (le_op op_sub kf_ii0 (le_int) (le_fn c_law_draw hr (by decide) hG (la_cons (le_var (i := 0)) (la_cons (le_var (i := 2)) (la_nil))))) (la_cons (le_op op_sub kf_ii0 (le_var (i := 2)) (le_int)) (la_cons (le_op op_sub kf_ii0 (le_int) (le_var (i := 2))) (la_nil)))))))
    (ls_one (ls_ret (le_ix (hu1 hr) (le_op op_addA kf_add (le_var (i := 3)) (le_lst (la_cons (le_fn c_law_word hr (by decide) hG (la_cons (le_var (i := 0)) (la_nil))) (la_cons (le_op op_sub kf_ii0 (le_fn c_law_draw hr (by decide) hG (la_cons (le_var (i := 0)) (la_cons (le_int) (la_nil)))) (le_int)) (la_nil))))) (le_var (i := 1))))))
/-! ### law_told -/
abbrev N_law_told : List Str := ["_law_thing", "_law_found", "e", "_law_others"]
abbrev P_law_told : List Str := ["_law_thing"]
theorem sc_law_told : FnScope N_law_told P_law_told (defScope s_law_told) := ⟨rfl, rfl, rfl, by decide +kernel, rfl, by decide +kernel, by decide +kernel⟩
def m_law_told (Ad_SaidError Ad_NoText Ad_NoFit Ad_NoPages Ad_NoWorld Ad_There Ad_Up Ad_Missing : Addr) (sp_read_row : SpX) : MS :=
  mSeq (mAsg (mLst (mCons (mC (.str "none")) (mCons (mC .non) (mNil)))) (gN 1))
  (mSeq (mTry (fun w => mAsg (mLst (mCons (mC (.str "row")) (mCons (mCallX sp_read_row pat_read_row_0 (mCons (mVar 0) (mNil)) (mNil) w) (mNil)))) (gN 1)) [⟨(tblh_SaidError Ad_NoText), some 2, fun a C d => mSeq (mAsg (mIsEs a C d (tbl_0 Ad_NoText) [.ref Ad_NoFit, .ref Ad_NoPages, .ref Ad_NoWorld, .ref Ad_There, .ref Ad_Up] (mVar 2)) (gN 3))
  (mAsg (mLst (mCons (mC (.str "refused")) (mCons (mAnd (mIsE a C d (tbl_2 Ad_NoText) (.ref Ad_NoText) (mVar 2)) (mAnd (mNot (mVar 3)) (mNot (mIsE a C d (tbl_1 Ad_NoText) (.ref Ad_Missing) (mVar 2))))) (mNil)))) (gN 1))⟩] w0)
  (mRet (mVar 1)))
theorem ok_law_told {P : Program} {w : World} {K : PySem.W.Frag} {mg : Str → Option Value} {base : Heap} {f : Addr} {fd : FuncData} {Ad_SaidError Ad_NoText Ad_NoFit Ad_NoPages Ad_NoWorld Ad_There Ad_Up Ad_Missing : Addr} {sp_read_row : SpX} {sp : SpP} (F : Fun K "_law_told" "_law_told" s_law_told f fd) (c_read_row : FnPX P w K mg base 3 "read_row" P_read_row sp_read_row pats_read_row) (a_SaidError : mg "SaidError" = some (.ref Ad_SaidError)) (a_NoFit : mg "NoFit" = some (.ref Ad_NoFit)) (a_NoPages : mg "NoPages" = some (.ref Ad_NoPages)) (a_NoWorld : mg "NoWorld" = some (.ref Ad_NoWorld)) (a_There : mg "There" = some (.ref Ad_There)) (a_Up : mg "Up" = some (.ref Ad_Up)) (a_Missing : mg "Missing" = some (.ref Ad_Missing)) (a_NoText : mg "NoText" = some (.ref Ad_NoText)) (xm_SaidError : ∀ p ∈ (tblh_SaidError Ad_NoText), PySem.W.exmOne K (.ref p.1) (.ref Ad_SaidError) = some p.2) (ki_0 : ∀ q ∈ (tbl_0 Ad_NoText), ExcK K q.1 ∧ PySem.W.kitAny K (.ref q.1) [(.ref Ad_NoFit), (.ref Ad_NoPages), (.ref Ad_NoWorld), (.ref Ad_There), (.ref Ad_Up)] = some q.2) (ki_1 : ∀ q ∈ (tbl_1 Ad_NoText), ExcK K q.1 ∧ PySem.W.kitOne K (.ref q.1) (.ref Ad_Missing) = some q.2) (ki_2 : ∀ q ∈ (tbl_2 Ad_NoText), ExcK K q.1 ∧ PySem.W.kitOne K (.ref q.1) (.ref Ad_NoText) = some q.2) (z_isinstance : mg "isinstance" = none)
    (hp : ∀ (qs : List PV) (h : PH) (Q : N3.PK), qs.length = P_law_told.length → sp qs h Q → m_law_told Ad_SaidError Ad_NoText Ad_NoFit Ad_NoPages Ad_NoWorld Ad_There Ad_Up Ad_Missing sp_read_row (ends Q) (sp0 N_law_told.length qs) h) : FnG P w K mg base (3 + 1) f fd P_law_told sp := by
  refine fn_ok (k := 3) F sc_law_told (m := m_law_told Ad_SaidError Ad_NoText Ad_NoFit Ad_NoPages Ad_NoWorld Ad_There Ad_Up Ad_Missing sp_read_row) (fun cdv A outer s H E hr hG => ?_) hp
  have nd := sc_law_told.nd
  exact ls_cons (ls_set (i := 1) nd (le_lst (la_cons (le_str) (la_cons (le_non) (la_nil)))))
    (ls_cons (ls_try takes0 nd (fun W pn xe tk po => lssx_one (lsx_set (i := 1) nd (lx_lst (lxa_cons (lx_of (le_str)) (lxa_cons (lx_fnP tk c_read_row (j := 0) (b := pat_read_row_0) rfl hr (by decide) hG (la_cons (le_var (i := 0)) (la_nil)) (lk_nil)) (lxa_nil)))))) (HdsX.consN (i := 2) ⟨rfl, by decide, .inl a_SaidError⟩ xm_SaidError rfl rfl (fun a oe C d pn hz hf => ls_cons (ls_set (i := 3) nd (le_isEs hz hf z_isinstance ki_0 (.cons (.own a_NoFit rfl (by decide)) (.cons (.own a_NoPages rfl (by decide)) (.cons (.own a_NoWorld rfl (by decide)) (.cons (.own a_There rfl (by decide)) (.cons (.own a_Up rfl (by decide)) .nil))))) (le_var (i := 2)) (hl := Nat.le_of_ble_eq_true rfl)))
    (ls_one (ls_set (i := 1) nd (le_lst (la_cons (le_str) (la_cons (le_and (le_isE hz hf z_isinstance ki_2 (.own a_NoText rfl (by decide)) (le_var (i := 2))) (le_and (le_not (le_var (i := 3))) (le_one (le_not (le_isE hz hf z_isinstance ki_1 (.own a_Missing rfl (by decide)) (le_var (i := 2))))))) (la_nil))))))) .nil))
    (ls_one (ls_ret (le_var (i := 1)))))
/-! ### law_right -/
abbrev N_law_right : List Str := ["_law_thing", "_law_line", "_law_due"]
abbrev P_law_right : List Str := ["_law_thing"]
theorem sc_law_right : FnScope N_law_right P_law_right (defScope s_law_right) := ⟨rfl, rfl, rfl, by decide +kernel, rfl, by decide +kernel, by decide +kernel⟩
def m_law_right (sp_law_read : SpP) (sp_law_told : SpP) : MS :=
  mSeq (mAsg (mBlt sp_law_read (mCons (mVar 0) (mNil))) (gN 1))
  (mSeq (mAsg (mIf (mTest (mB rIsN (mVar 1) (mC .non))) (mLst (mCons (mC (.str "refused")) (mCons (mC (.bl true)) (mNil)))) (mLst (mCons (mC (.str "row")) (mCons (mVar 1) (mNil))))) (gN 2))
  (mRet (mB rEq (mBlt rRepr (mCons (mBlt sp_law_told (mCons (mVar 0) (mNil))) (mNil))) (mBlt rRepr (mCons (mVar 2) (mNil))))))
theorem ok_law_right {P : Program} {w : World} {K : PySem.W.Frag} {mg : Str → Option Value} {base : Heap} {f : Addr} {fd : FuncData} {sp_law_read : SpP} {sp_law_told : SpP} {sp : SpP} (F : Fun K "_law_right" "_law_right" s_law_right f fd) (c_law_read : Fn P w K mg base 3 "_law_read" s_law_read P_law_read sp_law_read) (c_law_told : Fn P w K mg base 4 "_law_told" s_law_told P_law_told sp_law_told) (z_repr : mg "repr" = none)
    (hp : ∀ (qs : List PV) (h : PH) (Q : N3.PK), qs.length = P_law_right.length → sp qs h Q → m_law_right sp_law_read sp_law_told (ends Q) (sp0 N_law_right.length qs) h) : FnG P w K mg base (4 + 1) f fd P_law_right sp := by
  refine fn_ok (k := 4) F sc_law_right (m := m_law_right sp_law_read sp_law_told) (fun cdv A outer s H E hr hG => ?_) hp
  have nd := sc_law_right.nd
  exact ls_cons (ls_set (i := 1) nd (le_fn c_law_read hr (by decide) hG (la_cons (le_var (i := 0)) (la_nil))))
    (ls_cons (ls_set (i := 2) nd (le_if (lt_cmp op_isN lf_isN (le_var (i := 1)) (le_non) (nomark _)) (le_lst (la_cons (le_str) (la_cons (le_bl) (la_nil)))) (le_lst (la_cons (le_str) (la_cons (le_var (i := 1)) (la_nil))))))
    (ls_one (ls_ret (le_cmp (op_eqA (hu64 hr)) lf_eq (le_repr hG (hu66 hr) z_repr (la_cons (le_fn c_law_told hr (by decide) hG (la_cons (le_var (i := 0)) (la_nil))) (la_nil))) (le_repr hG (hu66 hr) z_repr (la_cons (le_var (i := 2)) (la_nil))) (nomark _)))))
/-! ### law -/
abbrev N_law : List Str := ["_law_script", "_law_deck_here", "_law_rows", "_law_kept", "_law_line", "_law_said", "_law_some", "_law_k", "_law_once", "_law_far", "_law_text_far", "_law_turn", "_law_thing"]
abbrev P_law : List Str := ["_law_script"]
theorem sc_law : FnScope N_law P_law (defScope s_law) := ⟨rfl, rfl, rfl, by decide +kernel, rfl, by decide +kernel, by decide +kernel⟩
def m_law (sp_law_deck : SpP) (sp_law_draw : SpP) (sp_law_worth : SpP) (sp_law_written : SpP) (sp_show_row : SpP) (sp_law_bent : SpP) (sp_law_right : SpP) (sp_law_pick : SpP) (sp_read_row : SpX) : MS :=
  mSeq (mAsg (mBlt sp_law_deck (mCons (mVar 0) (mNil))) (gN 1))
  (mSeq (mAsg (mLc (mRng1 (mCons (mC (.int 8)) (mNil))) [11] (gN 11) (mYes) (mBlt rTupOf (mCons (mLc (mRng1 (mCons (mB rAdd (mC (.int 1)) (mBlt sp_law_draw (mCons (mVar 1) (mCons (mC (.int 7)) (mNil))))) (mNil))) [7] (gN 7) (mYes) (mBlt sp_law_worth (mCons (mVar 1) (mNil)))) (mNil)))) (gN 2))
  (mSeq (mAsg (mBlt rRepr (mCons (mVar 2) (mNil))) (gN 3))
  (mSeq (mFor (mSeqs (mVar 2)) (gN 4) (mSeq (mAsg (mBlt sp_law_written (mCons (mVar 4) (mNil))) (gN 5))
  (mSeq (mIfS (mOrT (mTest (mB rNe (mBlt sp_show_row (mCons (mVar 4) (mNil))) (mVar 5))) (mOrT (mTest (mB rNe (mKw sp_show_row cat2 mNil (mCons (mVar 4) (mNil))) (mVar 5))) (mTest (mB rNe (mBlt rRepr (mCons (mCallX sp_read_row pat_read_row_1 mNil (mCons (mVar 5) (mNil)) w0) (mNil))) (mBlt rRepr (mCons (mVar 4) (mNil))))))) (mRet (mC (.bl false))) (mNx))
  (mSeq (mAsg (mLst (mCons (mVar 5) (mCons (mB rAdd (mC (.str " ")) (mVar 5)) (mCons (mB rAdd (mVar 5) (mC (.str " "))) (mCons (mB rAdd (mVar 5) (mC (.str "\n"))) (mCons (mB rAdd (mVar 5) (mC (.str "  a"))) (mCons (mRepl " " "\n" (mVar 5)) (mCons (mVar 4) (mCons (mLst (mCons (mVar 5) (mNil))) (mCons (mTup (mCons (mVar 5) (mNil))) (mNil))))))))))) (gN 6))
  (mSeq (mFor (mRng1 (mCons (mC (.int 5)) (mNil))) (gN 7) (mSeq (mAsg (mBlt sp_law_bent (mCons (mVar 1) (mCons (mVar 5) (mNil)))) (gN 8))
  (mAsg (mB rAdd (mVar 6) (mLst (mCons (mVar 8) (mCons (mBlt sp_law_bent (mCons (mVar 1) (mCons (mVar 8) (mNil)))) (mNil))))) (gN 6))))
  (mIfS (mTest (mB rNe (mLc (mSeqs (mB rAdd (mVar 6) (mLst (mCons (mVar 5) (mNil))))) [12] (gN 12) (mNotT (mTest (mBlt sp_law_right (mCons (mVar 12) (mNil))))) (mVar 12)) (mLst (mNil)))) (mRet (mC (.bl false))) (mNx)))))))
  (mSeq (mAsg (mB rMulT (mBlt rTupOf (mCons (mLc (mRng1 (mCons (mC (.int 5)) (mNil))) [7] (gN 7) (mYes) (mBlt sp_law_pick (mCons (mVar 1) (mCons (mLst (mCons (mC (.str "ab")) (mCons (mC (.int 7)) (mCons (mU rNeg (mC (.int 3))) (mCons (mC (.int 0)) (mCons (mC (.str "z")) (mNil))))))) (mNil))))) (mNil))) (mC (.int 180))) (gN 9))
  (mSeq (mAsg (mBlt sp_law_written (mCons (mVar 9) (mNil))) (gN 10))
  (mSeq (mIfS (mOrT (mTest (mB rNe (mBlt sp_show_row (mCons (mVar 9) (mNil))) (mVar 10))) (mTest (mB rNe (mLc (mSeqs (mLst (mCons (mVar 10) (mCons (mB rAdd (mVar 10) (mC (.str " "))) (mNil))))) [12] (gN 12) (mNotT (mTest (mBlt sp_law_right (mCons (mVar 12) (mNil))))) (mVar 12)) (mLst (mNil))))) (mRet (mC (.bl false))) (mNx))
  (mSeq (mAsg (mLst (mCons (mC (.str "")) (mCons (mC (.str " ")) (mCons (mC (.str "-")) (mCons (mC (.str "0")) (mCons (mC (.str "-0")) (mCons (mC (.str "a")) (mCons (mC (.str "1 2")) (mCons (mC .non) (mCons (mC (.int 0)) (mCons (mU rNeg (mC (.int 1))) (mCons (mC (.bl true)) (mCons (mTup (mNil)) (mCons (mLst (mNil)) (mCons (mDct0) (mCons (mTup (mCons (mC (.str "a")) (mCons (mC (.int 1)) (mNil)))) (mCons (mC (.str "a\nb")) (mCons (mC (.str "0 0")) (mCons (mC (.str "00")) (mNil)))))))))))))))))))) (gN 6))
  (mRet (mAnd (mB rEq (mLc (mSeqs (mVar 6)) [12] (gN 12) (mNotT (mTest (mBlt sp_law_right (mCons (mVar 12) (mNil))))) (mVar 12)) (mLst (mNil))) (mB rEq (mBlt rRepr (mCons (mVar 2) (mNil))) (mVar 3)))))))))))
theorem ok_law {P : Program} {w : World} {K : PySem.W.Frag} {mg : Str → Option Value} {base : Heap} {f : Addr} {fd : FuncData} {sp_law_deck : SpP} {sp_law_draw : SpP} {sp_law_worth : SpP} {sp_law_written : SpP} {sp_show_row : SpP} {sp_law_bent : SpP} {sp_law_right : SpP} {sp_law_pick : SpP} {sp_read_row : SpX} {sp : SpP} (F : Fun K "law" "law" s_law f fd) (c_law_deck : Fn P w K mg base 1 "_law_deck" s_law_deck P_law_deck sp_law_deck) (c_law_draw : Fn P w K mg base 1 "_law_draw" s_law_draw P_law_draw sp_law_draw) (c_law_worth : Fn P w K mg base 4 "_law_worth" s_law_worth P_law_worth sp_law_worth) (c_law_written : Fn P w K mg base 1 "_law_written" s_law_written P_law_written sp_law_written) (c_show_row : Fn P w K mg base 1 "show_row" s_show_row P_show_row sp_show_row) (c_law_bent : Fn P w K mg base 3 "_law_bent" s_law_bent P_law_bent sp_law_bent) (c_law_right : Fn P w K mg base 5 "_law_right" s_law_right P_law_right sp_law_right) (c_law_pick : Fn P w K mg base 2 "_law_pick" s_law_pick P_law_pick sp_law_pick) (c_read_row : FnPX P w K mg base 3 "read_row" P_read_row sp_read_row pats_read_row) (z_range : mg "range" = none) (z_tuple : mg "tuple" = none) (z_repr : mg "repr" = none)
    (hp : ∀ (qs : List PV) (h : PH) (Q : N3.PK), qs.length = P_law.length → sp qs h Q → m_law sp_law_deck sp_law_draw sp_law_worth sp_law_written sp_show_row sp_law_bent sp_law_right sp_law_pick sp_read_row (ends Q) (sp0 N_law.length qs) h) : FnG P w K mg base (5 + 1) f fd P_law sp := by
  refine fn_ok (k := 5) F sc_law (m := m_law sp_law_deck sp_law_draw sp_law_worth sp_law_written sp_show_row sp_law_bent sp_law_right sp_law_pick sp_read_row) (fun cdv A outer s H E hr hG => ?_) hp
  have nd := sc_law.nd
  exact ls_cons (ls_set (i := 1) nd (le_fn c_law_deck hr (by decide) hG (la_cons (le_var (i := 0)) (la_nil))))
    (ls_cons (ls_setLc (i := 2) [("_law_turn", 11)] rfl nd (li_rng1 z_range (la_cons (le_int) (la_nil))) (blkOk_by (N := N_law) (sc := defScope s_law) (own := [("_law_turn", 11)]) (by decide +kernel)) (fun _ _ _ _ _ => lg_name (i := 11) nd) (fun _ _ _ _ _ => lts_nil) (fun _ _ _ _ _ => le_tuple z_tuple (la_cons (le_lc [("_law_k", 7)] rfl nd (li_rng1 z_range (la_cons (le_op op_addA kf_add (le_int) (le_fn c_law_draw hr (by decide) hG (la_cons (le_var (i := 1)) (la_cons (le_int) (la_nil))))) (la_nil))) (blkOk_by (N := N_law) (own := [("_law_k", 7)]) (by first | decide +kernel | (dsimp only; decide +kernel) | (simp only [Cx.blk, compEnvC]; decide +kernel) | rfl)) (fun _ _ _ _ _ => lg_name (i := 7) nd) (fun _ _ _ _ _ => lts_nil) (fun _ _ _ _ _ => le_fn c_law_worth hr (by decide) hG (la_cons (le_var (i := 1)) (la_nil)))) (la_nil))))
    (ls_cons (ls_set (i := 3) nd (le_repr hG (hu66 hr) z_repr (la_cons (le_var (i := 2)) (la_nil))))
    (ls_cons (ls_for (vs := [4]) PassesOwn.never rfl (li_seqs (le_var (i := 2))) (lg_name (i := 4) nd) (ls_cons (ls_set (i := 5) nd (le_fn c_law_written hr (by decide) hG (la_cons (le_var (i := 4)) (la_nil))))
    (ls_cons (ls_if (lt_w (lw_or (lt_cmp (op_neA (hu64 hr)) lf_ne (le_fn c_show_row hr (by decide) hG (la_cons (le_var (i := 4)) (la_nil))) (le_var (i := 5)) (nomark _)) (lw_or (lt_cmp (op_neA (hu64 hr)) lf_ne (le_fnK0 (c_show_row) hr (by decide) hG (ks := ["row"]) rfl (fun _ _ _ _ _ _ us ws h1 h2 => match us, ws, h1, h2 with | [], [_], _, _ => rfl) (lk_cons (le_var (i := 4)) (lk_nil))) (le_var (i := 5)) (nomark _)) (lw_or1 (lt_cmp (op_neA (hu64 hr)) lf_ne (le_repr hG (hu66 hr) z_repr (la_cons (le_ofX (lx_fnP0 takes0 c_read_row (j := 1) (b := pat_read_row_1) rfl hr (by decide) hG (lk_cons (le_var (i := 5)) (lk_nil)))) (la_nil))) (le_repr hG (hu66 hr) z_repr (la_cons (le_var (i := 4)) (la_nil))) (nomark _)))))) (ls_one (ls_ret (le_bl))) (ls_nil))
    (ls_cons (ls_set (i := 6) nd (le_lst (la_cons (le_var (i := 5)) (la_tok (le1_op op_addA kf_add (le_var (i := 5))) (lat_cons (let_of (le_op op_addA kf_add (le_var (i := 5)) (le_str))) (lat_cons (let_of (le_op op_addA kf_add (le_var (i := 5)) (le_str))) (lat_cons (let_of (le_op op_addA kf_add (le_var (i := 5)) (le_str))) (lat_cons (let_repl (le_var (i := 5))) (lat_cons (let_of (le_var (i := 4))) (lat_cons (let_of (le_lst (la_cons (le_var (i := 5)) (la_nil)))) (lat_cons (let_of (le_tup (la_cons (le_var (i := 5)) (la_nil)))) (lat_nil))))))))))))
    (ls_cons (ls_for (vs := [7]) PassesOwn.never rfl (li_rng1 z_range (la_cons (le_int) (la_nil))) (lg_name (i := 7) nd) (ls_cons (ls_set (i := 8) nd (le_fn c_law_bent hr (by decide) hG (la_cons (le_var (i := 1)) (la_cons (le_var (i := 5)) (la_nil)))))
    (ls_one (ls_set (i := 6) nd (le_op op_addA kf_add (le_var (i := 6)) (le_lst (la_cons (le_var (i := 8)) (la_cons (le_fn c_law_bent hr (by decide) hG (la_cons (le_var (i := 1)) (la_cons (le_var (i := 8)) (la_nil)))) (la_nil)))))))))
    (ls_one (ls_if (lt_cmp (op_neA (hu64 hr)) lf_ne (le_lc [("_law_thing", 12)] rfl nd (li_seqs (le_op op_addA kf_add (le_var (i := 6)) (le_lst (la_cons (le_var (i := 5)) (la_nil))))) (blkOk_by (N := N_law) (sc := defScope s_law) (own := [("_law_thing", 12)]) (by decide +kernel)) (fun _ _ _ _ _ => lg_name (i := 12) nd) (fun _ _ _ _ _ => lts_one (lt_not (lt_val (le_fn c_law_right hr (by decide) hG (la_cons (le_var (i := 12)) (la_nil)))))) (fun _ _ _ _ _ => le_var (i := 12))) (le_lst (la_nil)) (nomark _)) (ls_one (ls_ret (le_bl))) (ls_nil))))))))
    (ls_cons (ls_set (i := 9) nd (le_op op_mulT kf_mulT (le_tuple z_tuple (la_cons (le_lc [("_law_k", 7)] rfl nd (li_rng1 z_range (la_cons (le_int) (la_nil))) (blkOk_by (N := N_law) (sc := defScope s_law) (own := [("_law_k", 7)]) (by decide +kernel)) (fun _ _ _ _ _ => lg_name (i := 7) nd) (fun _ _ _ _ _ => lts_nil) (fun _ _ _ _ _ => le_fn c_law_pick hr (by decide) hG (la_cons (le_var (i := 1)) (la_cons (le_lst (la_cons (le_str) (la_cons (le_int) (la_cons (le_un un_neg lf_neg (le_int)) (la_cons (le_int) (la_cons (le_str) (la_nil))))))) (la_nil))))) (la_nil))) (le_int)))
    (ls_cons (ls_set (i := 10) nd (le_fn c_law_written hr (by decide) hG (la_cons (le_var (i := 9)) (la_nil))))
    (ls_cons (ls_if (lt_w (lw_or (lt_cmp (op_neA (hu64 hr)) lf_ne (le_fn c_show_row hr (by decide) hG (la_cons (le_var (i := 9)) (la_nil))) (le_var (i := 10)) (nomark _)) (lw_or1 (lt_cmp (op_neA (hu64 hr)) lf_ne (le_lc [("_law_thing", 12)] rfl nd (li_seqs (le_lst (la_cons (le_var (i := 10)) (la_cons (le_op op_addA kf_add (le_var (i := 10)) (le_str)) (la_nil))))) (blkOk_by (N := N_law) (sc := defScope s_law) (own := [("_law_thing", 12)]) (by decide +kernel)) (fun _ _ _ _ _ => lg_name (i := 12) nd) (fun _ _ _ _ _ => lts_one (lt_not (lt_val (le_fn c_law_right hr (by decide) hG (la_cons (le_var (i := 12)) (la_nil)))))) (fun _ _ _ _ _ => le_var (i := 12))) (le_lst (la_nil)) (nomark _))))) (ls_one (ls_ret (le_bl))) (ls_nil))
    (ls_cons (ls_set (i := 6) nd (le_lst (la_cons (le_str) (la_cons (le_str) (la_cons (le_str) (la_cons (le_str) (la_cons (le_str) (la_cons (le_str) (la_cons (le_str) (la_cons (le_non) (la_cons (le_int) (la_cons (le_un un_neg lf_neg (le_int)) (la_cons (le_bl) (la_cons (le_tup (la_nil)) (la_cons (le_lst (la_nil)) (la_cons (le_dct0) (la_cons (le_tup (la_cons (le_str) (la_cons (le_int) (la_nil)))) (la_cons (le_str) (la_cons (le_str) (la_cons (le_str) (la_nil)))))))))))))))))))))
    (ls_one (ls_ret (le_and (le_cmp (op_eqA (hu64 hr)) lf_eq (le_lc [("_law_thing", 12)] rfl nd (li_seqs (le_var (i := 6))) (blkOk_by (N := N_law) (sc := defScope s_law) (own := [("_law_thing", 12)]) (by decide +kernel)) (fun _ _ _ _ _ => lg_name (i := 12) nd) (fun _ _ _ _ _ => lts_one (lt_not (lt_val (le_fn c_law_right hr (by decide) hG (la_cons (le_var (i := 12)) (la_nil)))))) (fun _ _ _ _ _ => le_var (i := 12))) (le_lst (la_nil)) (nomark _)) (le_one (le_cmp (op_eqA (hu64 hr)) lf_eq (le_repr hG (hu66 hr) z_repr (la_cons (le_var (i := 2)) (la_nil))) (le_var (i := 3)) (nomark _)))))))))))))
/-! ### the head -/
section
variable {l : PySem.W.OpenLaw} {w : World} {K : PySem.W.Frag} {h : Heap} {mg : Str → Option Value} {fa : Addr}
theorem all_mk {sp_is_name sp_show_row sp_are_figures sp_law_deck sp_law_draw sp_law_written sp_law_pick sp_law_read_word sp_law_word sp_law_read sp_law_bent sp_law_worth sp_law_told sp_law_right : SpP} {sp_read_worth sp_read_row : SpX} (X : K.In h) (G : h.Ns mainGlobals mg) (hfa : mg "law" = some (.ref fa))
    {f_is_name f_show_row f_are_figures f_law_deck f_law_draw f_law_written f_read_worth f_law_pick f_law_read_word f_read_row f_law_word f_law_read f_law_bent f_law_worth f_law_told f_law_right f_law : Addr}
    {od_is_name an_is_name od_show_row an_show_row od_are_figures an_are_figures od_law_deck an_law_deck od_law_draw an_law_draw od_law_written an_law_written od_read_worth an_read_worth od_law_pick an_law_pick od_law_read_word an_law_read_word od_read_row an_read_row od_law_word an_law_word od_law_read an_law_read od_law_bent an_law_bent od_law_worth an_law_worth od_law_told an_law_told od_law_right an_law_right od_law an_law : Option Addr}
    {sl_is_name sl_show_row sl_are_figures sl_law_deck sl_law_draw sl_law_written sl_read_worth sl_law_pick sl_law_read_word sl_read_row sl_law_word sl_law_read sl_law_bent sl_law_worth sl_law_told sl_law_right sl_law : Array (Option Value)}
    {oc_is_name dc_is_name pm_is_name cd_is_name ct_is_name kV_is_name oc_show_row dc_show_row pm_show_row cd_show_row ct_show_row kV_show_row oc_are_figures dc_are_figures pm_are_figures cd_are_figures ct_are_figures kV_are_figures oc_law_deck dc_law_deck pm_law_deck cd_law_deck ct_law_deck kV_law_deck oc_law_draw dc_law_draw pm_law_draw cd_law_draw ct_law_draw kV_law_draw oc_law_written dc_law_written pm_law_written cd_law_written ct_law_written kV_law_written oc_read_worth dc_read_worth pm_read_worth cd_read_worth ct_read_worth kV_read_worth oc_law_pick dc_law_pick pm_law_pick cd_law_pick ct_law_pick kV_law_pick oc_law_read_word dc_law_read_word pm_law_read_word cd_law_read_word ct_law_read_word kV_law_read_word oc_read_row dc_read_row pm_read_row cd_read_row ct_read_row kV_read_row oc_law_word dc_law_word pm_law_word cd_law_word ct_law_word kV_law_word oc_law_read dc_law_read pm_law_read cd_law_read ct_law_read kV_law_read oc_law_bent dc_law_bent pm_law_bent cd_law_bent ct_law_bent kV_law_bent oc_law_worth dc_law_worth pm_law_worth cd_law_worth ct_law_worth kV_law_worth oc_law_told dc_law_told pm_law_told cd_law_told ct_law_told kV_law_told oc_law_right dc_law_right pm_law_right cd_law_right ct_law_right kV_law_right oc_law dc_law pm_law cd_law ct_law kV_law : Value}
    {t_MOST_LETTERS t_LETTERS t_FIGURES t_MOST_FIGURES t_LESS : Tok}
    {Ad_NoText Ad_SaidError Ad_NoFit Ad_NoPages Ad_NoWorld Ad_There Ad_Up Ad_Missing : Addr}
    {cdx_NoText : ClassData}
    (a_is_name : PySem.W.nsIn K mainGlobals "is_name" = some (some (.ref f_is_name)))
    (l_is_name : K.lookup f_is_name = some ⟨oc_is_name, od_is_name, .func (PySem.W.fnOf "is_name" "is_name" (defArgs s_is_name) (defBody s_is_name) (defScope s_is_name) .none kV_is_name dc_is_name pm_is_name an_is_name cd_is_name ct_is_name), sl_is_name⟩)
    (c_is_name : PySem.W.codeIn K cd_is_name "is_name" = true)
    (k_is_name : PySem.W.keepIn K (.ref f_is_name) = true)
    (a_show_row : PySem.W.nsIn K mainGlobals "show_row" = some (some (.ref f_show_row)))
    (l_show_row : K.lookup f_show_row = some ⟨oc_show_row, od_show_row, .func (PySem.W.fnOf "show_row" "show_row" (defArgs s_show_row) (defBody s_show_row) (defScope s_show_row) .none kV_show_row dc_show_row pm_show_row an_show_row cd_show_row ct_show_row), sl_show_row⟩)
    (c_show_row : PySem.W.codeIn K cd_show_row "show_row" = true)
    (k_show_row : PySem.W.keepIn K (.ref f_show_row) = true)
    (a_are_figures : PySem.W.nsIn K mainGlobals "are_figures" = some (some (.ref f_are_figures)))
    (l_are_figures : K.lookup f_are_figures = some ⟨oc_are_figures, od_are_figures, .func (PySem.W.fnOf "are_figures" "are_figures" (defArgs s_are_figures) (defBody s_are_figures) (defScope s_are_figures) .none kV_are_figures dc_are_figures pm_are_figures an_are_figures cd_are_figures ct_are_figures), sl_are_figures⟩)
    (c_are_figures : PySem.W.codeIn K cd_are_figures "are_figures" = true)
    (k_are_figures : PySem.W.keepIn K (.ref f_are_figures) = true)
    (a_law_deck : PySem.W.nsIn K mainGlobals "_law_deck" = some (some (.ref f_law_deck)))
    (l_law_deck : K.lookup f_law_deck = some ⟨oc_law_deck, od_law_deck, .func (PySem.W.fnOf "_law_deck" "_law_deck" (defArgs s_law_deck) (defBody s_law_deck) (defScope s_law_deck) .none kV_law_deck dc_law_deck pm_law_deck an_law_deck cd_law_deck ct_law_deck), sl_law_deck⟩)
    (c_law_deck : PySem.W.codeIn K cd_law_deck "_law_deck" = true)
    (k_law_deck : PySem.W.keepIn K (.ref f_law_deck) = true)
    (a_law_draw : PySem.W.nsIn K mainGlobals "_law_draw" = some (some (.ref f_law_draw)))
    (l_law_draw : K.lookup f_law_draw = some ⟨oc_law_draw, od_law_draw, .func (PySem.W.fnOf "_law_draw" "_law_draw" (defArgs s_law_draw) (defBody s_law_draw) (defScope s_law_draw) .none kV_law_draw dc_law_draw pm_law_draw an_law_draw cd_law_draw ct_law_draw), sl_law_draw⟩)
    (c_law_draw : PySem.W.codeIn K cd_law_draw "_law_draw" = true)
    (k_law_draw : PySem.W.keepIn K (.ref f_law_draw) = true)
    (a_law_written : PySem.W.nsIn K mainGlobals "_law_written" = some (some (.ref f_law_written)))
    (l_law_written : K.lookup f_law_written = some ⟨oc_law_written, od_law_written, .func (PySem.W.fnOf "_law_written" "_law_written" (defArgs s_law_written) (defBody s_law_written) (defScope s_law_written) .none kV_law_written dc_law_written pm_law_written an_law_written cd_law_written ct_law_written), sl_law_written⟩)
    (c_law_written : PySem.W.codeIn K cd_law_written "_law_written" = true)
    (k_law_written : PySem.W.keepIn K (.ref f_law_written) = true)
    (a_read_worth : PySem.W.nsIn K mainGlobals "read_worth" = some (some (.ref f_read_worth)))
    (l_read_worth : K.lookup f_read_worth = some ⟨oc_read_worth, od_read_worth, .func (PySem.W.fnOf "read_worth" "read_worth" (defArgs s_read_worth) (defBody s_read_worth) (defScope s_read_worth) .none kV_read_worth dc_read_worth pm_read_worth an_read_worth cd_read_worth ct_read_worth), sl_read_worth⟩)
    (c_read_worth : PySem.W.codeIn K cd_read_worth "read_worth" = true)
    (k_read_worth : PySem.W.keepIn K (.ref f_read_worth) = true)
    (a_law_pick : PySem.W.nsIn K mainGlobals "_law_pick" = some (some (.ref f_law_pick)))
    (l_law_pick : K.lookup f_law_pick = some ⟨oc_law_pick, od_law_pick, .func (PySem.W.fnOf "_law_pick" "_law_pick" (defArgs s_law_pick) (defBody s_law_pick) (defScope s_law_pick) .none kV_law_pick dc_law_pick pm_law_pick an_law_pick cd_law_pick ct_law_pick), sl_law_pick⟩)
    (c_law_pick : PySem.W.codeIn K cd_law_pick "_law_pick" = true)
    (k_law_pick : PySem.W.keepIn K (.ref f_law_pick) = true)
    (a_law_read_word : PySem.W.nsIn K mainGlobals "_law_read_word" = some (some (.ref f_law_read_word)))
    (l_law_read_word : K.lookup f_law_read_word = some ⟨oc_law_read_word, od_law_read_word, .func (PySem.W.fnOf "_law_read_word" "_law_read_word" (defArgs s_law_read_word) (defBody s_law_read_word) (defScope s_law_read_word) .none kV_law_read_word dc_law_read_word pm_law_read_word an_law_read_word cd_law_read_word ct_law_read_word), sl_law_read_word⟩)
    (c_law_read_word : PySem.W.codeIn K cd_law_read_word "_law_read_word" = true)
    (k_law_read_word : PySem.W.keepIn K (.ref f_law_read_word) = true)
    (a_read_row : PySem.W.nsIn K mainGlobals "read_row" = some (some (.ref f_read_row)))
    (l_read_row : K.lookup f_read_row = some ⟨oc_read_row, od_read_row, .func (PySem.W.fnOf "read_row" "read_row" (defArgs s_read_row) (defBody s_read_row) (defScope s_read_row) .none kV_read_row dc_read_row pm_read_row an_read_row cd_read_row ct_read_row), sl_read_row⟩)
    (c_read_row : PySem.W.codeIn K cd_read_row "read_row" = true)
    (k_read_row : PySem.W.keepIn K (.ref f_read_row) = true)
    (a_law_word : PySem.W.nsIn K mainGlobals "_law_word" = some (some (.ref f_law_word)))
    (l_law_word : K.lookup f_law_word = some ⟨oc_law_word, od_law_word, .func (PySem.W.fnOf "_law_word" "_law_word" (defArgs s_law_word) (defBody s_law_word) (defScope s_law_word) .none kV_law_word dc_law_word pm_law_word an_law_word cd_law_word ct_law_word), sl_law_word⟩)
    (c_law_word : PySem.W.codeIn K cd_law_word "_law_word" = true)
    (k_law_word : PySem.W.keepIn K (.ref f_law_word) = true)
    (a_law_read : PySem.W.nsIn K mainGlobals "_law_read" = some (some (.ref f_law_read)))
    (l_law_read : K.lookup f_law_read = some ⟨oc_law_read, od_law_read, .func (PySem.W.fnOf "_law_read" "_law_read" (defArgs s_law_read) (defBody s_law_read) (defScope s_law_read) .none kV_law_read dc_law_read pm_law_read an_law_read cd_law_read ct_law_read), sl_law_read⟩)
    (c_law_read : PySem.W.codeIn K cd_law_read "_law_read" = true)
    (k_law_read : PySem.W.keepIn K (.ref f_law_read) = true)
    (a_law_bent : PySem.W.nsIn K mainGlobals "_law_bent" = some (some (.ref f_law_bent)))
    (l_law_bent : K.lookup f_law_bent = some ⟨oc_law_bent, od_law_bent, .func (PySem.W.fnOf "_law_bent" "_law_bent" (defArgs s_law_bent) (defBody s_law_bent) (defScope s_law_bent) .none kV_law_bent dc_law_bent pm_law_bent an_law_bent cd_law_bent ct_law_bent), sl_law_bent⟩)
    (c_law_bent : PySem.W.codeIn K cd_law_bent "_law_bent" = true)
    (k_law_bent : PySem.W.keepIn K (.ref f_law_bent) = true)
    (a_law_worth : PySem.W.nsIn K mainGlobals "_law_worth" = some (some (.ref f_law_worth)))
    (l_law_worth : K.lookup f_law_worth = some ⟨oc_law_worth, od_law_worth, .func (PySem.W.fnOf "_law_worth" "_law_worth" (defArgs s_law_worth) (defBody s_law_worth) (defScope s_law_worth) .none kV_law_worth dc_law_worth pm_law_worth an_law_worth cd_law_worth ct_law_worth), sl_law_worth⟩)
    (c_law_worth : PySem.W.codeIn K cd_law_worth "_law_worth" = true)
    (k_law_worth : PySem.W.keepIn K (.ref f_law_worth) = true)
    (a_law_told : PySem.W.nsIn K mainGlobals "_law_told" = some (some (.ref f_law_told)))
    (l_law_told : K.lookup f_law_told = some ⟨oc_law_told, od_law_told, .func (PySem.W.fnOf "_law_told" "_law_told" (defArgs s_law_told) (defBody s_law_told) (defScope s_law_told) .none kV_law_told dc_law_told pm_law_told an_law_told cd_law_told ct_law_told), sl_law_told⟩)
    (c_law_told : PySem.W.codeIn K cd_law_told "_law_told" = true)
    (k_law_told : PySem.W.keepIn K (.ref f_law_told) = true)
    (a_law_right : PySem.W.nsIn K mainGlobals "_law_right" = some (some (.ref f_law_right)))
    (l_law_right : K.lookup f_law_right = some ⟨oc_law_right, od_law_right, .func (PySem.W.fnOf "_law_right" "_law_right" (defArgs s_law_right) (defBody s_law_right) (defScope s_law_right) .none kV_law_right dc_law_right pm_law_right an_law_right cd_law_right ct_law_right), sl_law_right⟩)
    (c_law_right : PySem.W.codeIn K cd_law_right "_law_right" = true)
    (k_law_right : PySem.W.keepIn K (.ref f_law_right) = true)
    (a_law : PySem.W.nsIn K mainGlobals "law" = some (some (.ref f_law)))
    (l_law : K.lookup f_law = some ⟨oc_law, od_law, .func (PySem.W.fnOf "law" "law" (defArgs s_law) (defBody s_law) (defScope s_law) .none kV_law dc_law pm_law an_law cd_law ct_law), sl_law⟩)
    (c_law : PySem.W.codeIn K cd_law "law" = true)
    (k_law : PySem.W.keepIn K (.ref f_law) = true)
    (A_NoText : PySem.W.nsIn K mainGlobals "NoText" = some (some (.ref Ad_NoText)))
    (A_SaidError : PySem.W.nsIn K mainGlobals "SaidError" = some (some (.ref Ad_SaidError)))
    (A_NoFit : PySem.W.nsIn K mainGlobals "NoFit" = some (some (.ref Ad_NoFit)))
    (A_NoPages : PySem.W.nsIn K mainGlobals "NoPages" = some (some (.ref Ad_NoPages)))
    (A_NoWorld : PySem.W.nsIn K mainGlobals "NoWorld" = some (some (.ref Ad_NoWorld)))
    (A_There : PySem.W.nsIn K mainGlobals "There" = some (some (.ref Ad_There)))
    (A_Up : PySem.W.nsIn K mainGlobals "Up" = some (some (.ref Ad_Up)))
    (A_Missing : PySem.W.nsIn K mainGlobals "Missing" = some (some (.ref Ad_Missing)))
    (ec_NoText : PySem.W.clsIn K Ad_NoText = some cdx_NoText)
    (eg_NoText : PySem.W.findIn K (.ref Ad_NoText) "__getattribute__" = some (some (.builtin "BaseException.__getattribute__")))
    (eh_NoText : PySem.W.findIn K (.ref Ad_NoText) "__getattr__" = some none)
    (es_NoText : PySem.W.subIn K (.ref Ad_NoText) (.type "BaseException") = some true)
    (ek_NoText : PySem.W.findIn K (.ref Ad_NoText) "__class__" = some (some (.builtin "object.__class__")))
    (em_NoText : PySem.W.mroIn K Ad_NoText (.type "object") = some true)
    (og_c : PySem.W.specialIn K (.builtin "object.__class__") "__get__" = some (some (.builtin "getset_descriptor.__get__")))
    (ot_c : PySem.W.takesIn K (.builtin "object.__class__") = some true)
    (ko_0_NoText : PySem.W.kitAny K (.ref Ad_NoText) [(.ref Ad_NoFit), (.ref Ad_NoPages), (.ref Ad_NoWorld), (.ref Ad_There), (.ref Ad_Up)] = some false)
    (ko_1_NoText : PySem.W.kitOne K (.ref Ad_NoText) (.ref Ad_Missing) = some false)
    (ko_2_NoText : PySem.W.kitOne K (.ref Ad_NoText) (.ref Ad_NoText) = some true)
    (xb_SaidError : PySem.W.subIn K (.ref Ad_SaidError) (.type "BaseException") = some true)
    (xh_SaidError : PySem.W.hasDictIn K Ad_SaidError = true)
    (xt_SaidError : PySem.W.typeIn K (.ref Ad_SaidError) = some (.type "type"))
    (xs_SaidError_NoText : PySem.W.subIn K (.ref Ad_NoText) (.ref Ad_SaidError) = some true)
    (mb_NoText : PySem.W.subIn K (.ref Ad_NoText) (.type "BaseException") = some true)
    (my_NoText : PySem.W.typeIn K (.ref Ad_NoText) = some (.type "type"))
    (mc_NoText : PySem.W.keepIn K (.ref Ad_NoText) = true)
    (me_NoText : PySem.W.excIn K Ad_NoText [.type "ValueError", .type "Exception", .type "BaseException", .type "object"] "ValueError.__new__" = true)
    (z_len : PySem.W.nsIn K mainGlobals "len" = some none)
    (z_isinstance : PySem.W.nsIn K mainGlobals "isinstance" = some none)
    (z_str : PySem.W.nsIn K mainGlobals "str" = some none)
    (z_all : PySem.W.nsIn K mainGlobals "all" = some none)
    (z_list : PySem.W.nsIn K mainGlobals "list" = some none)
    (z_sum : PySem.W.nsIn K mainGlobals "sum" = some none)
    (z_int : PySem.W.nsIn K mainGlobals "int" = some none)
    (z_abs : PySem.W.nsIn K mainGlobals "abs" = some none)
    (z_tuple : PySem.W.nsIn K mainGlobals "tuple" = some none)
    (z_range : PySem.W.nsIn K mainGlobals "range" = some none)
    (z_repr : PySem.W.nsIn K mainGlobals "repr" = some none)
    (g_MOST_LETTERS : PySem.W.nsIn K mainGlobals "MOST_LETTERS" = some (some (.int 6 t_MOST_LETTERS)))
    (g_LETTERS : PySem.W.nsIn K mainGlobals "LETTERS" = some (some (.str "abcdefghijklmnopqrstuvwxyz" t_LETTERS)))
    (g_FIGURES : PySem.W.nsIn K mainGlobals "FIGURES" = some (some (.str "0123456789" t_FIGURES)))
    (g_MOST_FIGURES : PySem.W.nsIn K mainGlobals "MOST_FIGURES" = some (some (.int 40 t_MOST_FIGURES)))
    (g_LESS : PySem.W.nsIn K mainGlobals "LESS" = some (some (.str "-" t_LESS)))
    (p_is_name : ∀ (qs : List PV) (h : PH) (Q : N3.PK), qs.length = P_is_name.length → sp_is_name qs h Q → m_is_name (ends Q) (sp0 N_is_name.length qs) h)
    (p_show_row : ∀ (qs : List PV) (h : PH) (Q : N3.PK), qs.length = P_show_row.length → sp_show_row qs h Q → m_show_row (ends Q) (sp0 N_show_row.length qs) h)
    (p_are_figures : ∀ (qs : List PV) (h : PH) (Q : N3.PK), qs.length = P_are_figures.length → sp_are_figures qs h Q → m_are_figures (ends Q) (sp0 N_are_figures.length qs) h)
    (p_law_deck : ∀ (qs : List PV) (h : PH) (Q : N3.PK), qs.length = P_law_deck.length → sp_law_deck qs h Q → m_law_deck (ends Q) (sp0 N_law_deck.length qs) h)
    (p_law_draw : ∀ (qs : List PV) (h : PH) (Q : N3.PK), qs.length = P_law_draw.length → sp_law_draw qs h Q → m_law_draw (ends Q) (sp0 N_law_draw.length qs) h)
    (p_law_written : ∀ (qs : List PV) (h : PH) (Q : N3.PK), qs.length = P_law_written.length → sp_law_written qs h Q → m_law_written (ends (frg Q)) (sp0 N_law_written.length qs) h)
    (p_read_worth : ∀ (qs : List PV) (h : PH) (Q : N3.PK) (wx : PX), qs.length = P_read_worth.length → sp_read_worth qs h Q wx → m_read_worth Ad_NoText sp_is_name sp_are_figures (fun x _ h1 => frgX wx x h1) (ends (frg Q)) (sp0 N_read_worth.length qs) h)
    (p_law_pick : ∀ (qs : List PV) (h : PH) (Q : N3.PK), qs.length = P_law_pick.length → sp_law_pick qs h Q → m_law_pick sp_law_draw (ends Q) (sp0 N_law_pick.length qs) h)
    (p_law_read_word : ∀ (qs : List PV) (h : PH) (Q : N3.PK), qs.length = P_law_read_word.length → sp_law_read_word qs h Q → m_law_read_word sp_law_written (ends Q) (sp0 N_law_read_word.length qs) h)
    (p_read_row : ∀ (qs : List PV) (h : PH) (Q : N3.PK) (wx : PX), qs.length = P_read_row.length → sp_read_row qs h Q wx → m_read_row Ad_NoText sp_read_worth (fun x _ h1 => frgX wx x h1) (ends (frg Q)) (sp0 N_read_row.length qs) h)
    (p_law_word : ∀ (qs : List PV) (h : PH) (Q : N3.PK), qs.length = P_law_word.length → sp_law_word qs h Q → m_law_word sp_law_draw sp_law_pick (ends Q) (sp0 N_law_word.length qs) h)
    (p_law_read : ∀ (qs : List PV) (h : PH) (Q : N3.PK), qs.length = P_law_read.length → sp_law_read qs h Q → m_law_read sp_law_read_word (ends Q) (sp0 N_law_read.length qs) h)
    (p_law_bent : ∀ (qs : List PV) (h : PH) (Q : N3.PK), qs.length = P_law_bent.length → sp_law_bent qs h Q → m_law_bent sp_law_draw sp_law_pick (ends (frg Q)) (sp0 N_law_bent.length qs) h)
    (p_law_worth : ∀ (qs : List PV) (h : PH) (Q : N3.PK), qs.length = P_law_worth.length → sp_law_worth qs h Q → m_law_worth sp_law_pick sp_law_draw sp_law_word (ends Q) (sp0 N_law_worth.length qs) h)
    (p_law_told : ∀ (qs : List PV) (h : PH) (Q : N3.PK), qs.length = P_law_told.length → sp_law_told qs h Q → m_law_told Ad_SaidError Ad_NoText Ad_NoFit Ad_NoPages Ad_NoWorld Ad_There Ad_Up Ad_Missing sp_read_row (ends Q) (sp0 N_law_told.length qs) h)
    (p_law_right : ∀ (qs : List PV) (h : PH) (Q : N3.PK), qs.length = P_law_right.length → sp_law_right qs h Q → m_law_right sp_law_read sp_law_told (ends Q) (sp0 N_law_right.length qs) h)
    (p_law : ∀ (qs : List PV) (h : PH) (Q : N3.PK), qs.length = P_law.length → spLaw 63 qs h Q → m_law sp_law_deck sp_law_draw sp_law_worth sp_law_written sp_show_row sp_law_bent sp_law_right sp_law_pick sp_read_row (ends Q) (sp0 N_law.length qs) h)
    : ∃ fd : FuncData, (∀ (s : Shared) (v : Value), BindsTo s fd ⟨[v], []⟩ [("_law_script", v)]) ∧ ∀ base : Heap, K.In base → base.Ns mainGlobals mg → FnG l.prog w K mg base 6 fa fd ["_law_script"] (spLaw 63) := by
  have e := hfa.symm.trans (PySem.W.mg_of X G a_law)
  cases e
  have EK_NoText : ExcK K Ad_NoText := ⟨by rw [ec_NoText]; rfl, eg_NoText, eh_NoText, es_NoText, ek_NoText, og_c, ot_c, em_NoText⟩
  have KI_0 : ∀ q ∈ (tbl_0 Ad_NoText), ExcK K q.1 ∧ PySem.W.kitAny K (.ref q.1) [(.ref Ad_NoFit), (.ref Ad_NoPages), (.ref Ad_NoWorld), (.ref Ad_There), (.ref Ad_Up)] = some q.2 := (List.forall_mem_cons.mpr ⟨⟨EK_NoText, ko_0_NoText⟩, (fun _ h => nomatch h)⟩)
  have KI_1 : ∀ q ∈ (tbl_1 Ad_NoText), ExcK K q.1 ∧ PySem.W.kitOne K (.ref q.1) (.ref Ad_Missing) = some q.2 := (List.forall_mem_cons.mpr ⟨⟨EK_NoText, ko_1_NoText⟩, (fun _ h => nomatch h)⟩)
  have KI_2 : ∀ q ∈ (tbl_2 Ad_NoText), ExcK K q.1 ∧ PySem.W.kitOne K (.ref q.1) (.ref Ad_NoText) = some q.2 := (List.forall_mem_cons.mpr ⟨⟨EK_NoText, ko_2_NoText⟩, (fun _ h => nomatch h)⟩)
  have XM_SaidError : ∀ p ∈ (tblh_SaidError Ad_NoText), PySem.W.exmOne K (.ref p.1) (.ref Ad_SaidError) = some p.2 := (List.forall_mem_cons.mpr ⟨PySem.W.exm_ref xb_SaidError xh_SaidError xt_SaidError xs_SaidError_NoText, (fun _ h => nomatch h)⟩)
  have X_NoText : ExMk K mg "NoText" Ad_NoText [.type "ValueError", .type "Exception", .type "BaseException", .type "object"] "ValueError.__new__" := ⟨PySem.W.mg_of X G A_NoText, me_NoText, mc_NoText, mb_NoText, my_NoText⟩
  have F_is_name := fun_mk (st := s_is_name) l_is_name c_is_name k_is_name
  have b_is_name := F_is_name.binds (ps := P_is_name) fun _ _ _ _ _ _ us hl => match us, hl with | [_], _ => rfl
  have F_show_row := fun_mk (st := s_show_row) l_show_row c_show_row k_show_row
  have b_show_row := F_show_row.binds (ps := P_show_row) fun _ _ _ _ _ _ us hl => match us, hl with | [_], _ => rfl
  have F_are_figures := fun_mk (st := s_are_figures) l_are_figures c_are_figures k_are_figures
  have b_are_figures := F_are_figures.binds (ps := P_are_figures) fun _ _ _ _ _ _ us hl => match us, hl with | [_], _ => rfl
  have F_law_deck := fun_mk (st := s_law_deck) l_law_deck c_law_deck k_law_deck
  have b_law_deck := F_law_deck.binds (ps := P_law_deck) fun _ _ _ _ _ _ us hl => match us, hl with | [_], _ => rfl
  have F_law_draw := fun_mk (st := s_law_draw) l_law_draw c_law_draw k_law_draw
  have b_law_draw := F_law_draw.binds (ps := P_law_draw) fun _ _ _ _ _ _ us hl => match us, hl with | [_, _], _ => rfl
  have F_law_written := fun_mk (st := s_law_written) l_law_written c_law_written k_law_written
  have b_law_written := F_law_written.binds (ps := P_law_written) fun _ _ _ _ _ _ us hl => match us, hl with | [_], _ => rfl
  have F_read_worth := fun_mk (st := s_read_worth) l_read_worth c_read_worth k_read_worth
  have F_law_pick := fun_mk (st := s_law_pick) l_law_pick c_law_pick k_law_pick
  have b_law_pick := F_law_pick.binds (ps := P_law_pick) fun _ _ _ _ _ _ us hl => match us, hl with | [_, _], _ => rfl
  have F_law_read_word := fun_mk (st := s_law_read_word) l_law_read_word c_law_read_word k_law_read_word
  have b_law_read_word := F_law_read_word.binds (ps := P_law_read_word) fun _ _ _ _ _ _ us hl => match us, hl with | [_], _ => rfl
  have F_read_row := fun_mk (st := s_read_row) l_read_row c_read_row k_read_row
  have F_law_word := fun_mk (st := s_law_word) l_law_word c_law_word k_law_word
  have b_law_word := F_law_word.binds (ps := P_law_word) fun _ _ _ _ _ _ us hl => match us, hl with | [_], _ => rfl
  have F_law_read := fun_mk (st := s_law_read) l_law_read c_law_read k_law_read
  have b_law_read := F_law_read.binds (ps := P_law_read) fun _ _ _ _ _ _ us hl => match us, hl with | [_], _ => rfl
  have F_law_bent := fun_mk (st := s_law_bent) l_law_bent c_law_bent k_law_bent
  have b_law_bent := F_law_bent.binds (ps := P_law_bent) fun _ _ _ _ _ _ us hl => match us, hl with | [_, _], _ => rfl
  have F_law_worth := fun_mk (st := s_law_worth) l_law_worth c_law_worth k_law_worth
  have b_law_worth := F_law_worth.binds (ps := P_law_worth) fun _ _ _ _ _ _ us hl => match us, hl with | [_], _ => rfl
  have F_law_told := fun_mk (st := s_law_told) l_law_told c_law_told k_law_told
  have b_law_told := F_law_told.binds (ps := P_law_told) fun _ _ _ _ _ _ us hl => match us, hl with | [_], _ => rfl
  have F_law_right := fun_mk (st := s_law_right) l_law_right c_law_right k_law_right
  have b_law_right := F_law_right.binds (ps := P_law_right) fun _ _ _ _ _ _ us hl => match us, hl with | [_], _ => rfl
  have F_law := fun_mk (st := s_law) l_law c_law k_law
  have b_law := F_law.binds (ps := P_law) fun _ _ _ _ _ _ us hl => match us, hl with | [_], _ => rfl
  refine ⟨PySem.W.fnOf "law" "law" (defArgs s_law) (defBody s_law) (defScope s_law) .none kV_law dc_law pm_law an_law cd_law ct_law, fun s v => .of_eq rfl, fun base _ _ => ?_⟩
  have C_is_name : Fn l.prog w K mg base 1 "is_name" s_is_name P_is_name sp_is_name := ⟨_, _, PySem.W.mg_of X G a_is_name, F_is_name, b_is_name, ok_is_name F_is_name (PySem.W.mg_none_of X G z_len) (PySem.W.mg_none_of X G z_isinstance) (PySem.W.mg_none_of X G z_str) (PySem.W.mg_none_of X G z_all) (PySem.W.mg_of X G g_MOST_LETTERS) (PySem.W.mg_of X G g_LETTERS) p_is_name⟩
  have C_show_row : Fn l.prog w K mg base 1 "show_row" s_show_row P_show_row sp_show_row := ⟨_, _, PySem.W.mg_of X G a_show_row, F_show_row, b_show_row, ok_show_row F_show_row (PySem.W.mg_none_of X G z_str) p_show_row⟩
  have C_are_figures : Fn l.prog w K mg base 1 "are_figures" s_are_figures P_are_figures sp_are_figures := ⟨_, _, PySem.W.mg_of X G a_are_figures, F_are_figures, b_are_figures, ok_are_figures F_are_figures (PySem.W.mg_none_of X G z_all) (PySem.W.mg_none_of X G z_len) (PySem.W.mg_of X G g_FIGURES) (PySem.W.mg_of X G g_MOST_FIGURES) p_are_figures⟩
  have C_law_deck : Fn l.prog w K mg base 1 "_law_deck" s_law_deck P_law_deck sp_law_deck := ⟨_, _, PySem.W.mg_of X G a_law_deck, F_law_deck, b_law_deck, ok_law_deck F_law_deck (PySem.W.mg_none_of X G z_list) (PySem.W.mg_none_of X G z_sum) (PySem.W.mg_none_of X G z_len) p_law_deck⟩
  have C_law_draw : Fn l.prog w K mg base 1 "_law_draw" s_law_draw P_law_draw sp_law_draw := ⟨_, _, PySem.W.mg_of X G a_law_draw, F_law_draw, b_law_draw, ok_law_draw F_law_draw p_law_draw⟩
  have C_law_written : Fn l.prog w K mg base 1 "_law_written" s_law_written P_law_written sp_law_written := ⟨_, _, PySem.W.mg_of X G a_law_written, F_law_written, b_law_written, ok_law_written F_law_written (PySem.W.mg_none_of X G z_isinstance) (PySem.W.mg_none_of X G z_int) (PySem.W.mg_none_of X G z_abs) p_law_written⟩
  have C_read_worth : FnPX l.prog w K mg base 2 "read_worth" P_read_worth sp_read_worth pats_read_worth := ⟨_, _, PySem.W.mg_of X G a_read_worth, ⟨k_read_worth, (List.forall_mem_cons.mpr ⟨(kb_all (st := s_read_worth) (b := pat_read_worth_0) rfl (fun us ws h1 h2 => match us, ws, h1, h2 with | [_], [], _, _ => rfl) (fun l hl => match l, hl with | [_], _ => rfl)), (fun _ h => nomatch h)⟩), ok_read_worth F_read_worth C_is_name C_are_figures X_NoText (PySem.W.mg_none_of X G z_int) (PySem.W.mg_of X G g_LESS) p_read_worth⟩⟩
  have C_law_pick : Fn l.prog w K mg base 2 "_law_pick" s_law_pick P_law_pick sp_law_pick := ⟨_, _, PySem.W.mg_of X G a_law_pick, F_law_pick, b_law_pick, ok_law_pick F_law_pick C_law_draw (PySem.W.mg_none_of X G z_len) p_law_pick⟩
  have C_law_read_word : Fn l.prog w K mg base 2 "_law_read_word" s_law_read_word P_law_read_word sp_law_read_word := ⟨_, _, PySem.W.mg_of X G a_law_read_word, F_law_read_word, b_law_read_word, ok_law_read_word F_law_read_word C_law_written (PySem.W.mg_none_of X G z_len) p_law_read_word⟩
  have C_read_row : FnPX l.prog w K mg base 3 "read_row" P_read_row sp_read_row pats_read_row := ⟨_, _, PySem.W.mg_of X G a_read_row, ⟨k_read_row, (List.forall_mem_cons.mpr ⟨(kb_all (st := s_read_row) (b := pat_read_row_0) rfl (fun us ws h1 h2 => match us, ws, h1, h2 with | [_], [], _, _ => rfl) (fun l hl => match l, hl with | [_], _ => rfl)), (List.forall_mem_cons.mpr ⟨(kb_all (st := s_read_row) (b := pat_read_row_1) rfl (fun us ws h1 h2 => match us, ws, h1, h2 with | [], [_], _, _ => rfl) (fun l hl => match l, hl with | [_], _ => rfl)), (fun _ h => nomatch h)⟩)⟩), ok_read_row F_read_row C_read_worth X_NoText (PySem.W.mg_none_of X G z_isinstance) (PySem.W.mg_none_of X G z_str) (PySem.W.mg_none_of X G z_tuple) p_read_row⟩⟩
  have C_law_word : Fn l.prog w K mg base 3 "_law_word" s_law_word P_law_word sp_law_word := ⟨_, _, PySem.W.mg_of X G a_law_word, F_law_word, b_law_word, ok_law_word F_law_word C_law_draw C_law_pick (PySem.W.mg_none_of X G z_range) p_law_word⟩
  have C_law_read : Fn l.prog w K mg base 3 "_law_read" s_law_read P_law_read sp_law_read := ⟨_, _, PySem.W.mg_of X G a_law_read, F_law_read, b_law_read, ok_law_read F_law_read C_law_read_word (PySem.W.mg_none_of X G z_isinstance) (PySem.W.mg_none_of X G z_str) (PySem.W.mg_none_of X G z_tuple) p_law_read⟩
  have C_law_bent : Fn l.prog w K mg base 3 "_law_bent" s_law_bent P_law_bent sp_law_bent := ⟨_, _, PySem.W.mg_of X G a_law_bent, F_law_bent, b_law_bent, ok_law_bent F_law_bent C_law_draw C_law_pick (PySem.W.mg_none_of X G z_len) p_law_bent⟩
  have C_law_worth : Fn l.prog w K mg base 4 "_law_worth" s_law_worth P_law_worth sp_law_worth := ⟨_, _, PySem.W.mg_of X G a_law_worth, F_law_worth, b_law_worth, ok_law_worth F_law_worth C_law_pick C_law_draw C_law_word p_law_worth⟩
  have C_law_told : Fn l.prog w K mg base 4 "_law_told" s_law_told P_law_told sp_law_told := ⟨_, _, PySem.W.mg_of X G a_law_told, F_law_told, b_law_told, ok_law_told F_law_told C_read_row (PySem.W.mg_of X G A_SaidError) (PySem.W.mg_of X G A_NoFit) (PySem.W.mg_of X G A_NoPages) (PySem.W.mg_of X G A_NoWorld) (PySem.W.mg_of X G A_There) (PySem.W.mg_of X G A_Up) (PySem.W.mg_of X G A_Missing) (PySem.W.mg_of X G A_NoText) XM_SaidError KI_0 KI_1 KI_2 (PySem.W.mg_none_of X G z_isinstance) p_law_told⟩
  have C_law_right : Fn l.prog w K mg base 5 "_law_right" s_law_right P_law_right sp_law_right := ⟨_, _, PySem.W.mg_of X G a_law_right, F_law_right, b_law_right, ok_law_right F_law_right C_law_read C_law_told (PySem.W.mg_none_of X G z_repr) p_law_right⟩
  exact ok_law F_law C_law_deck C_law_draw C_law_worth C_law_written C_show_row C_law_bent C_law_right C_law_pick C_read_row (PySem.W.mg_none_of X G z_range) (PySem.W.mg_none_of X G z_tuple) (PySem.W.mg_none_of X G z_repr) p_law
end
end Wneversaid_k04_rows_written_and_read

namespace Wneversaid_k04_rows_written_and_read
open PySem PySem.Spec PyProof.Rows L2 N3
def dg (i : Nat) : List Nat := cl (Str.ofString (toString (i : Int)))
def digit (c : Nat) : Prop := 48 ≤ c ∧ c ≤ 57
theorem dg_digits (i : Nat) : ∀ c ∈ dg i, digit c := by
  intro c hc
  have e : dg i = (Nat.toDigits 10 i).map Char.toNat := PySem.W.KIN.signs_num i
  rw [e] at hc
  obtain ⟨ch, hm, rfl⟩ := List.mem_map.mp hc
  have := Nat.isDigit_of_mem_toDigits (b := 10) (by decide) (by decide) hm
  unfold Char.isDigit at this
  simp only [Bool.and_eq_true, decide_eq_true_eq] at this
  exact ⟨UInt32.le_iff_toNat_le.mp this.1, UInt32.le_iff_toNat_le.mp this.2⟩
theorem dg_read {i : Nat} (h : i < 10 ^ 10) : PySem.intText? (S (dg i)) = some (i : Int) := by
  unfold dg
  rw [S_cl]
  exact PySem.W.KIN.num_reads (by omega) (by omega)
theorem dg_inj {i j : Nat} (hi : i < 10 ^ 10) (hj : j < 10 ^ 10) (e : dg i = dg j) : i = j := by
  have h1 := dg_read hi
  rw [e, dg_read hj] at h1
  have := Option.some.inj h1
  omega
theorem dg_ne (i : Nat) : dg i ≠ [] := fun e => by
  have h : (dg i) = (Nat.toDigits 10 i).map Char.toNat := PySem.W.KIN.signs_num i
  rw [e] at h
  exact Nat.toDigits_ne_nil (List.map_eq_nil_iff.mp h.symm)
theorem dg_tx {i : Nat} (h : i < 10 ^ 5) : Tx 6 (dg i) := tx_num (by decide) (by omega)
def letter (c : Nat) : Prop := 97 ≤ c ∧ c ≤ 122
/-! ### texts cut at a sign -/
abbrev Ln := List Nat
abbrev stz (ks : List Ln) : List PV := ks.map fun k => PV.str (S k)
def tupS (ks : List Ln) : PV := .tup (stz ks)
def lstS (ks : List Ln) : PV := .lst (stz ks)
theorem stz_app (a b : List Ln) : stz (a ++ b) = stz a ++ stz b := by simp [stz]
def splc (c : Nat) : Ln → List Ln
  | [] => [[]]
  | x :: r => if x = c then [] :: splc c r else (match splc c r with | p :: ps => (x :: p) :: ps | [] => [[x]])
theorem splc_ne (c : Nat) : ∀ l, splc c l ≠ []
  | [] => by simp [splc]
  | x :: r => by
    unfold splc
    split
    · simp
    · split <;> simp
theorem splc_cons {c x : Nat} {r : Ln} (h : x ≠ c) : ∃ p ps, splc c r = p :: ps ∧ splc c (x :: r) = (x :: p) :: ps := by
  cases e : splc c r with
  | nil => exact absurd e (splc_ne c r)
  | cons p ps => exact ⟨p, ps, rfl, by simp [splc, h, e]⟩
theorem splc_hit {c : Nat} {r : Ln} : splc c (c :: r) = [] :: splc c r := by simp [splc]
theorem spl_eq (c : Nat) : ∀ (l acc : Ln), TL.spl [c] 0 acc l = (match splc c l with | p :: ps => (acc ++ p) :: ps | [] => [])
  | [], acc => by rw [TL.spl_nil]; simp [splc]
  | x :: r, acc => by
    by_cases h : x = c
    · subst h
      rw [TL.spl_hit (by simp [TL.pre]), splc_hit]
      have := spl_eq x r []
      simp only [List.length_singleton, Nat.sub_self, this, List.append_nil]
      cases e : splc x r with
      | nil => exact absurd e (splc_ne x r)
      | cons p ps => simp
    · obtain ⟨p, ps, e1, e2⟩ := splc_cons (r := r) h
      rw [TL.spl_miss (by simp [TL.pre, h]), spl_eq c r, e1, e2]
      simp
theorem split_S {c : Nat} (hc : c < 128) (l : Ln) {y : Str} (hy : cl y = [c]) : Txt.split (S l) y = (splc c l).map S := by
  have e := TL.split_spl (S l) y (by show cl y ≠ []; rw [hy]; simp) (TL.kind_ok (by
    have : y = S [c] := cl_inj (by rw [hy, cl_S])
    rw [this]; simp [S]; omega))
  have e2 : TL.spl (TL.tl y) 0 [] (TL.tl (S l)) = splc c l := by
    rw [show TL.tl y = [c] from hy, show TL.tl (S l) = l from cl_S l, spl_eq]
    cases e : splc c l with
    | nil => exact absurd e (splc_ne c l)
    | cons p ps => simp
  rw [e2] at e
  rw [← e, List.map_map]
  refine (List.map_id _).symm.trans (List.map_congr_left fun z _ => ?_)
  show z = S (cl z)
  rw [S_cl]
theorem splc_mem {c : Nat} : ∀ (l : Ln), ∀ p ∈ splc c l, c ∉ p ∧ (∀ x ∈ p, x ∈ l) ∧ p.length ≤ l.length
  | [], p, hp => by simp [splc] at hp; subst hp; simp
  | x :: r, p, hp => by
    by_cases h : x = c
    · subst h
      rw [splc_hit] at hp
      rcases List.mem_cons.mp hp with rfl | hp
      · simp
      · obtain ⟨h1, h2, h3⟩ := splc_mem r p hp
        exact ⟨h1, fun y hy => List.mem_cons_of_mem _ (h2 y hy), by simp; omega⟩
    · obtain ⟨q, qs, e1, e2⟩ := splc_cons (r := r) h
      rw [e2] at hp
      rcases List.mem_cons.mp hp with rfl | hp
      · obtain ⟨h1, h2, h3⟩ := splc_mem r q (by rw [e1]; simp)
        refine ⟨?_, fun y hy => ?_, by simp; omega⟩
        · rw [List.mem_cons]; exact fun z => z.elim (fun z => h z.symm) h1
        · rcases List.mem_cons.mp hy with rfl | hy
          · simp
          · exact List.mem_cons_of_mem _ (h2 y hy)
      · obtain ⟨h1, h2, h3⟩ := splc_mem r p (by rw [e1]; simp [hp])
        exact ⟨h1, fun y hy => List.mem_cons_of_mem _ (h2 y hy), by simp; omega⟩
theorem splc_few {c : Nat} : ∀ l : Ln, (splc c l).length ≤ l.length + 1
  | [] => by simp [splc]
  | x :: r => by
    have ih := splc_few (c := c) r
    by_cases h : x = c
    · subst h; rw [splc_hit]; simp; omega
    · obtain ⟨q, qs, e1, e2⟩ := splc_cons (r := r) h
      rw [e2]; rw [e1] at ih; simp at ih ⊢; omega
theorem join2 (sep x y : Ln) (r : List Ln) : TL.joinL sep (x :: y :: r) = x ++ (sep ++ TL.joinL sep (y :: r)) := rfl
theorem joinL_splc {c : Nat} : ∀ l : Ln, TL.joinL [c] (splc c l) = l
  | [] => by simp [splc, TL.joinL]
  | x :: r => by
    have ih := joinL_splc (c := c) r
    by_cases h : x = c
    · subst h; rw [splc_hit]
      cases e : splc x r with
      | nil => exact absurd e (splc_ne x r)
      | cons p ps => rw [join2, ← e, ih]; rfl
    · obtain ⟨q, qs, e1, e2⟩ := splc_cons (r := r) h
      rw [e2]; rw [e1] at ih
      cases qs with
      | nil => simpa [TL.joinL] using ih
      | cons z qs => rw [join2] at ih ⊢; rw [List.cons_append, ih]
theorem splc_app {c : Nat} : ∀ (p r : Ln), c ∉ p → splc c (p ++ c :: r) = p :: splc c r
  | [], r, _ => splc_hit
  | x :: p, r, h => by
    have hx : x ≠ c := fun z => h (by simp [z])
    obtain ⟨q, qs, e1, e2⟩ := splc_cons (r := p ++ c :: r) hx
    rw [splc_app p r fun z => h (List.mem_cons_of_mem _ z)] at e1
    injection e1 with e3 e4
    rw [List.cons_append, e2, ← e3, ← e4]
theorem splc_one {c : Nat} : ∀ (p : Ln), c ∉ p → splc c p = [p]
  | [], _ => rfl
  | x :: p, h => by
    have hx : x ≠ c := fun z => h (by simp [z])
    obtain ⟨q, qs, e1, e2⟩ := splc_cons (r := p) hx
    rw [splc_one p fun z => h (List.mem_cons_of_mem _ z)] at e1
    injection e1 with e3 e4
    rw [e2, ← e3, ← e4]
theorem splc_joinL {c : Nat} : ∀ ps : List Ln, ps ≠ [] → (∀ p ∈ ps, c ∉ p) → splc c (TL.joinL [c] ps) = ps
  | [], h, _ => absurd rfl h
  | [p], _, h => splc_one p (h p List.mem_cons_self)
  | p :: q :: r, _, h => by
    rw [join2]
    show splc c (p ++ c :: TL.joinL [c] (q :: r)) = _
    rw [splc_app p _ (h p List.mem_cons_self), splc_joinL (q :: r) (by simp) fun z hz => h z (List.mem_cons_of_mem _ hz)]
theorem joinL_mem {c : Nat} : ∀ (ps : List Ln) (x : Nat), x ∈ TL.joinL [c] ps → x = c ∨ ∃ p ∈ ps, x ∈ p
  | [], x, h => by simp [TL.joinL] at h
  | [p], x, h => .inr ⟨p, List.mem_cons_self, h⟩
  | p :: q :: r, x, h => by
    rw [join2] at h
    rcases List.mem_append.mp h with h | h
    · exact .inr ⟨p, List.mem_cons_self, h⟩
    · rcases List.mem_append.mp h with h | h
      · exact .inl (by simpa using h)
      · rcases joinL_mem (q :: r) x h with h | ⟨z, hz, h⟩
        · exact .inl h
        · exact .inr ⟨z, List.mem_cons_of_mem _ hz, h⟩
theorem joinL_len {c n : Nat} : ∀ (ps : List Ln), (∀ p ∈ ps, p.length ≤ n) → (TL.joinL [c] ps).length ≤ ps.length * (n + 1)
  | [], _ => by simp [TL.joinL]
  | [p], h => by have := h p List.mem_cons_self; simp [TL.joinL]; omega
  | p :: q :: r, h => by
    have h1 := h p List.mem_cons_self
    have h2 := joinL_len (c := c) (q :: r) fun z hz => h z (List.mem_cons_of_mem _ hz)
    rw [join2]
    simp only [List.length_append, List.length_cons, List.length_nil, Nat.add_mul] at h2 ⊢
    omega
theorem joinL_end {c : Nat} : ∀ ps : List Ln, ps ≠ [] → TL.joinL [c] ps ++ [c] = (ps.map (· ++ [c])).flatten
  | [], h => absurd rfl h
  | [p], _ => by simp [TL.joinL]
  | p :: q :: r, _ => by
    rw [join2, List.map_cons, List.flatten_cons, ← joinL_end (q :: r) (by simp)]
    simp
theorem sum_len {n : Nat} : ∀ (ps : List Ln), (∀ p ∈ ps, p.length ≤ n) → (ps.map (·.length)).sum ≤ ps.length * n
  | [], _ => by simp
  | p :: ps, h => by
    have := h p List.mem_cons_self
    have := sum_len ps fun z hz => h z (List.mem_cons_of_mem _ hz)
    simp only [List.map_cons, List.sum_cons, List.length_cons, Nat.add_mul] at *
    omega
theorem flat_stz (ks : List Ln) : flats (stz ks) = true := flats_of fun p hp => by
  obtain ⟨r, -, rfl⟩ := List.mem_map.mp hp
  rfl
theorem depth_stz : ∀ ks : List Ln, PyData.depthAll (toDs (stz ks)) = 0
  | [] => rfl
  | k :: ks => by
    have := depth_stz ks
    simp only [stz] at this
    simp only [stz, List.map_cons, toDs, toD, PyData.depthAll, PyData.depth, this]; rfl
/-- a comprehension over items that stand for others -/
theorem lcL_on {α : Type} {gd : PH → Prop} {τ : PSt} {g : MG} {t : MT} {m : ME} {h : PH} {Q : List PV → PH → Prop} (φ : α → PV) (c : α → Bool) (f : α → PV) (hg : gd h) :
    ∀ (ps : List α) (acc : List PV), (∀ p ∈ ps, ∀ P : List PV → PH → Prop, ∀ acc, (if c p = true then P (acc ++ [f p]) h else P acc h) → g (φ p) τ h fun τ1 h1 => t τ1 h1 fun b h2 => if b = true then m τ1 h2 fun v h3 => P (acc ++ [v]) h3 else P acc h2) →
      Q (acc ++ (ps.filter c).map f) h → lcL gd τ g t m (ps.map φ) acc h Q
  | [], acc, _, q => ⟨hg, by simpa using q⟩
  | p :: ps, acc, hs, q => by
    refine ⟨hg, hs p List.mem_cons_self (fun acc h3 => lcL gd τ g t m (ps.map φ) acc h3 Q) acc ?_⟩
    cases hc : c p with
    | true => exact lcL_on φ c f hg ps _ (fun x hx => hs x (List.mem_cons_of_mem _ hx)) (by simpa [List.filter_cons, hc] using q)
    | false => exact lcL_on φ c f hg ps _ (fun x hx => hs x (List.mem_cons_of_mem _ hx)) (by simpa [List.filter_cons, hc] using q)
theorem lcL_all {α : Type} {gd : PH → Prop} {τ : PSt} {g : MG} {m : ME} {h : PH} {Q : List PV → PH → Prop} (φ f : α → PV) (hg : gd h) (ps : List α)
    (hs : ∀ p ∈ ps, ∀ P : PK, P (f p) h → g (φ p) τ h fun τ1 h1 => m τ1 h1 P) (q : Q (ps.map f) h) : lcL gd τ g mYes m (ps.map φ) [] h Q := by
  refine lcL_on φ (fun _ => true) f hg ps [] (fun p hp P acc z => ?_) ?_
  · simp only [if_true] at z
    simp only [mYes, if_true]
    exact hs p hp _ z
  · rw [show ps.filter (fun _ => true) = ps from List.filter_eq_self.mpr fun _ _ => rfl]; exact q
/-! ### numbers in words -/
theorem dg_num (n : Nat) : dg n = TL.numL n := TL.tl_num n
theorem dg_val (n : Nat) : NumText.digitsVal (dg n) = n := by rw [dg_num, TL.numL_val]
theorem numL_head : ∀ n : Nat, 0 < n → (TL.numL n).headD 0 ≠ 48
  | n, h0 => by
    by_cases h : n < 10
    · rw [TL.numL_lt h]; simp; omega
    · have hd := numL_head (n / 10) (by omega)
      rw [TL.numL_step (by omega)]
      cases e : TL.numL (n / 10) with
      | nil => exact absurd e (TL.numL_ne _)
      | cons x r => rw [e] at hd; simpa using hd
  termination_by n => n
theorem dg_zero : dg 0 = [48] := by rw [dg_num, TL.numL_lt (by decide)]
theorem dg_head {n : Nat} (h : (dg n).headD 0 = 48) : dg n = [48] := by
  by_cases e : n = 0
  · subst e; exact dg_zero
  · rw [dg_num] at h; exact absurd h (numL_head n (by omega))
theorem dg_len10 {n k : Nat} (hk : 0 < k) (h : n < 10 ^ k) : (dg n).length ≤ k := by rw [dg_num]; exact TL.numL_len hk h
instance (c : Nat) : Decidable (digit c) := inferInstanceAs (Decidable (_ ∧ _))
def canon (w : Ln) : Prop := w ≠ [] ∧ w.length ≤ 10 ∧ (∀ c ∈ w, digit c) ∧ (w.headD 0 = 48 → w = [48])
instance (w : Ln) : Decidable (canon w) := inferInstanceAs (Decidable (_ ∧ _ ∧ _ ∧ _))
def numIn (w : Ln) : Option Nat := if canon w then some (NumText.digitsVal w) else none
theorem numIn_dg {n : Nat} (h : n < 10 ^ 10) : numIn (dg n) = some n := by
  unfold numIn
  rw [if_pos ⟨dg_ne n, dg_len10 (by decide) h, dg_digits n, dg_head⟩, dg_val]
theorem int_digits {w : Ln} (h : ∀ c ∈ w, digit c) (hne : w ≠ []) (hl : w.length ≤ 10) : PySem.intText? (S w) = some ((NumText.digitsVal w : Nat) : Int) := by
  refine SX.int_S ?_ hne (by omega)
  rw [List.all_eq_true]
  intro c hc
  have := h c hc
  simp only [Bool.and_eq_true, decide_eq_true_eq]
  exact this
def numP : Option Nat → PV
  | some n => .int (n : Nat)
  | none => .non
/-! ### worths, and what words write -/
def lt26 : List Nat := cl "abcdefghijklmnopqrstuvwxyz"
def nameB (l : Ln) : Bool := decide (1 ≤ l.length) && decide (l.length ≤ 6) && l.all fun c => decide (c ∈ lt26)
theorem lt26_let {c : Nat} : c ∈ lt26 ↔ letter c := by
  have e : lt26 = (List.range 26).map fun i => 97 + i := by decide +kernel
  rw [e, List.mem_map]
  constructor
  · rintro ⟨i, h, rfl⟩
    rw [List.mem_range] at h
    exact ⟨by omega, by omega⟩
  · rintro ⟨h1, h2⟩
    exact ⟨c - 97, by rw [List.mem_range]; omega, by omega⟩
theorem nameB_iff {l : Ln} : nameB l = true ↔ (1 ≤ l.length ∧ l.length ≤ 6) ∧ ∀ c ∈ l, letter c := by
  unfold nameB
  rw [Bool.and_eq_true, Bool.and_eq_true, decide_eq_true_eq, decide_eq_true_eq, List.all_eq_true]
  simp only [decide_eq_true_eq, lt26_let]
inductive Wt where
  | n (i : Int)
  | w (l : Ln)
def wP : Wt → PV
  | .n i => .int i
  | .w l => .str (S l)
/-- an int's text -/
def itx (i : Int) : Ln := cl (Str.ofString (toString i))
def wT : Wt → Ln
  | .n i => itx i
  | .w l => l
theorem itx_nat (n : Nat) : itx (n : Int) = dg n := rfl
theorem itx_neg {n : Nat} (h : 0 < n) : itx (-(n : Int)) = 45 :: dg n := by
  obtain ⟨m, rfl⟩ : ∃ m, n = m + 1 := ⟨n - 1, by omega⟩
  show (Str.ofString ("-" ++ toString (m + 1))).cps.toList = 45 :: (Str.ofString (toString (((m + 1 : Nat)) : Int))).cps.toList
  rw [PyProof.Rows.signs_ofString, PyProof.Rows.signs_ofString, String.toList_append, List.map_append]
  rfl
def figB (w : Ln) : Bool := (decide (1 ≤ w.length) && decide (w.length ≤ 40)) && ((w.all fun c => decide (digit c)) && (decide (w = [48]) || !decide (w.headD 0 = 48)))
theorem figB_iff {w : Ln} : figB w = true ↔ (1 ≤ w.length ∧ w.length ≤ 40) ∧ (∀ c ∈ w, digit c) ∧ (w.headD 0 = 48 → w = [48]) := by
  unfold figB
  simp only [Bool.and_eq_true, decide_eq_true_eq, List.all_eq_true, Bool.or_eq_true, Bool.not_eq_true', decide_eq_false_iff_not]
  constructor
  · rintro ⟨h1, h2, h3⟩
    exact ⟨h1, h2, fun z => h3.resolve_right fun y => y z⟩
  · rintro ⟨h1, h2, h3⟩
    refine ⟨h1, h2, ?_⟩
    by_cases z : w.headD 0 = 48
    · exact .inl (h3 z)
    · exact .inr z
/-- figures without noughts ahead are what their number is written by -/
theorem dg_back {w : Ln} (hne : w ≠ []) (hd : ∀ c ∈ w, digit c) (h0 : w.headD 0 = 48 → w = [48]) : dg (NumText.digitsVal w) = w := by
  rw [dg_num]
  show (Nat.toDigits 10 (NumText.digitsVal w)).map Char.toNat = w
  cases w with
  | nil => exact absurd rfl hne
  | cons c r =>
    have ad : NumText.AllDigits (c :: r) := fun x hx => hd x hx
    have alt : r.length = 0 ∨ ∃ c' r', c :: r = c' :: r' ∧ 49 ≤ c' := by
      by_cases e : c = 48
      · have := h0 (by simp [e])
        simp only [List.cons.injEq] at this
        exact .inl (by rw [this.2]; rfl)
      · have := hd c List.mem_cons_self
        exact .inr ⟨c, r, rfl, by unfold digit at this; omega⟩
    rw [NumText.toDigits_digitsVal r.length (c :: r) rfl ad alt, List.map_map]
    refine (List.map_congr_left fun x hx => ?_).trans (List.map_id _)
    have := hd x hx
    show (Char.ofNat x).toNat = x
    unfold digit at this
    have z : ∀ i, i < 10 → (Char.ofNat (48 + i)).toNat = 48 + i := by decide
    have := z (x - 48) (by omega)
    rwa [show 48 + (x - 48) = x by omega] at this
theorem val_lt : ∀ (w : Ln) (a : Nat), (∀ c ∈ w, digit c) → w.foldl (fun acc c => acc * 10 + (c - 48)) a < (a + 1) * 10 ^ w.length
  | [], a, _ => by simp
  | c :: r, a, h => by
    have ih := val_lt r (a * 10 + (c - 48)) fun x hx => h x (List.mem_cons_of_mem _ hx)
    have hc := h c List.mem_cons_self
    unfold digit at hc
    rw [List.foldl_cons, List.length_cons, Nat.pow_succ]
    refine Nat.lt_of_lt_of_le ih ?_
    rw [Nat.mul_comm (10 ^ r.length) 10, ← Nat.mul_assoc]
    exact Nat.mul_le_mul_right _ (by omega)
theorem val_40 {w : Ln} (h : ∀ c ∈ w, digit c) (hl : w.length ≤ 40) : NumText.digitsVal w < 10 ^ 40 := by
  have := val_lt w 0 h
  have e : 10 ^ w.length ≤ 10 ^ 40 := Nat.pow_le_pow_right (by decide) hl
  show w.foldl _ 0 < _
  omega
def readW (w : Ln) : Option Wt := if nameB w = true then some (.w w) else if figB w = true then some (.n (NumText.digitsVal w : Nat)) else if w.headD 0 = 45 ∧ figB w.tail = true ∧ w.tail ≠ [48] then some (.n (-((NumText.digitsVal w.tail : Nat) : Int))) else none
def WOk : Wt → Prop
  | .n i => i.natAbs < 10 ^ 40
  | .w l => nameB l = true
theorem dg_let {n : Nat} {c : Nat} (h : c ∈ dg n) : ¬ letter c := fun z => by
  have := dg_digits n c h
  unfold digit at this
  unfold letter at z
  omega
theorem dg_nm (n : Nat) : nameB (dg n) = false := by
  cases e : nameB (dg n) with
  | false => rfl
  | true =>
    obtain ⟨⟨h1, -⟩, h2⟩ := nameB_iff.mp e
    cases z : dg n with
    | nil => rw [z] at h1; simp at h1
    | cons c r => exact absurd (h2 c (by rw [z]; simp)) (dg_let (n := n) (by rw [z]; simp))
theorem dg_fig {n : Nat} (h : n < 10 ^ 40) : figB (dg n) = true := figB_iff.mpr ⟨⟨List.length_pos_iff.mpr (dg_ne n), dg_len10 (by decide) h⟩, dg_digits n, dg_head⟩
/-- a worth's text is read to it -/
theorem readW_T : ∀ {k : Wt}, WOk k → readW (wT k) = some k
  | .w l, h => if_pos h
  | .n i, h => by
    have h : i.natAbs < 10 ^ 40 := h
    by_cases s : 0 ≤ i
    · obtain ⟨n, rfl⟩ : ∃ n : Nat, i = (n : Int) := ⟨i.toNat, by omega⟩
      show readW (dg n) = _
      unfold readW
      rw [dg_nm, if_neg (by decide), if_pos (dg_fig (by omega)), dg_val]
    · obtain ⟨n, rfl, hp⟩ : ∃ n : Nat, i = -(n : Int) ∧ 0 < n := ⟨i.natAbs, by omega, by omega⟩
      show readW (itx _) = _
      rw [itx_neg hp]
      have n45 : nameB (45 :: dg n) = false := by
        cases e : nameB (45 :: dg n) with
        | false => rfl
        | true =>
          have := (nameB_iff.mp e).2 45 List.mem_cons_self
          unfold letter at this; omega
      have f45 : figB (45 :: dg n) = false := by
        cases e : figB (45 :: dg n) with
        | false => rfl
        | true =>
          have := (figB_iff.mp e).2.1 45 List.mem_cons_self
          unfold digit at this; omega
      have nz : dg n ≠ [48] := fun z => by
        have := congrArg NumText.digitsVal z
        rw [dg_val] at this
        rw [this] at hp
        exact absurd hp (by decide)
      unfold readW
      rw [n45, f45, if_neg (by decide), if_neg (by decide), if_pos ⟨rfl, dg_fig (by omega), nz⟩, List.tail_cons, dg_val]
/-- what a word writes is written by it -/
theorem readW_back {w : Ln} {k : Wt} (h : readW w = some k) : wT k = w ∧ WOk k := by
  unfold readW at h
  split at h
  · rename_i c; cases h; exact ⟨rfl, c⟩
  split at h
  · rename_i c
    cases h
    obtain ⟨⟨h1, h2⟩, h3, h4⟩ := figB_iff.mp c
    refine ⟨dg_back (fun z => by rw [z] at h1; simp at h1) h3 h4, ?_⟩
    show ((NumText.digitsVal w : Nat) : Int).natAbs < 10 ^ 40
    have := val_40 h3 h2
    omega
  split at h
  · rename_i c
    cases h
    obtain ⟨h0, c1, c2⟩ := c
    obtain ⟨⟨h1, h2⟩, h3, h4⟩ := figB_iff.mp c1
    have e := dg_back (fun z => by rw [z] at h1; simp at h1) h3 h4
    have hp : 0 < NumText.digitsVal w.tail := by
      refine Nat.pos_of_ne_zero fun z => c2 ?_
      rw [← e, z, dg_zero]
    refine ⟨?_, ?_⟩
    · show itx _ = w
      rw [itx_neg hp, e]
      cases w with
      | nil => simp at h1
      | cons c r => rw [List.tail_cons]; simp at h0; rw [h0]
    · show (-((NumText.digitsVal w.tail : Nat) : Int)).natAbs < 10 ^ 40
      have := val_40 h3 h2
      omega
  · cases h
/-- the words of a text that are all worths -/
def readL : List Ln → Option (List Wt)
  | [] => some []
  | w :: ws => match readW w, readL ws with
    | some k, some ks => some (k :: ks)
    | _, _ => none
theorem readL_T : ∀ {ks : List Wt}, (∀ k ∈ ks, WOk k) → readL (ks.map wT) = some ks
  | [], _ => rfl
  | k :: ks, h => by
    rw [List.map_cons, readL, readW_T (h k List.mem_cons_self), readL_T fun x hx => h x (List.mem_cons_of_mem _ hx)]
def rowT (ks : List Wt) : Ln := TL.joinL [32] (ks.map wT)
theorem wT_no {k : Wt} (h : WOk k) : 32 ∉ wT k := by
  intro z
  cases k with
  | w l =>
    have := (nameB_iff.mp h).2 32 z
    unfold letter at this; omega
  | n i =>
    by_cases s : 0 ≤ i
    · obtain ⟨n, rfl⟩ : ∃ n : Nat, i = (n : Int) := ⟨i.toNat, by omega⟩
      have := dg_digits n 32 z
      unfold digit at this; omega
    · obtain ⟨n, rfl, hp⟩ : ∃ n : Nat, i = -(n : Int) ∧ 0 < n := ⟨i.natAbs, by omega, by omega⟩
      have z : 32 ∈ itx (-(n : Int)) := z
      rw [itx_neg hp] at z
      rcases List.mem_cons.mp z with z | z
      · cases z
      · have := dg_digits n 32 z
        unfold digit at this; omega
/-- a row's text is read to it -/
theorem read_row {ks : List Wt} (h : ∀ k ∈ ks, WOk k) (hne : ks ≠ []) : readL (splc 32 (rowT ks)) = some ks := by
  unfold rowT
  rw [splc_joinL _ (by simpa using hne) fun p hp => by
    obtain ⟨k, hk, rfl⟩ := List.mem_map.mp hp
    exact wT_no (h k hk)]
  exact readL_T h
end Wneversaid_k04_rows_written_and_read

namespace Wneversaid_k04_rows_written_and_read
open PySem PySem.Spec PyProof.Rows L2 N3
/-! ### names, figures, a worth read, a row read -/
theorem cut_nat {α : Type} (xs : List α) (i : Int) (h : 0 ≤ i) : cut xs none (some i) = xs.take i.toNat := by
  unfold N3.cut HT.sIx
  simp only [if_neg (show ¬ i < 0 by omega), Nat.sub_zero, List.drop_zero]
  rw [List.take_eq_take_iff]
  omega
theorem cut_up {α : Type} (xs : List α) (i : Int) (h : 0 ≤ i) : cut xs (some i) none = xs.drop i.toNat := by
  unfold N3.cut HT.sIx
  simp only [if_neg (show ¬ i < 0 by omega)]
  by_cases c : i.toNat ≤ xs.length
  · rw [Nat.min_eq_left (by omega)]
    exact List.take_of_length_le (by rw [List.length_drop]; omega)
  · rw [Nat.min_eq_right (by omega), List.drop_of_length_le (by omega), List.drop_of_length_le (by omega), List.take_nil]
def spIsName : SpP := fun ps h Q => ∃ l : Ln, ps = [.str (S l)] ∧ l.length ≤ 1000000 ∧ Q (.bl (nameB l)) h
def spFigs : SpP := fun ps h Q => ∃ l : Ln, ps = [.str (S l)] ∧ l.length ≤ 1000000 ∧ Q (.bl (figB l)) h
/-- whether all signs of a text stand in another one -/
theorem all_in {i : Nat} {x : Str} {al : List Nat} {τ : PSt} {l : Ln} {h : PH} {Q : List PV → PH → Prop} (hx : cl x = al) (hi : ∀ v, gt (st τ i (some v)) i = some v) (q : Q ((l.map fun c => decide (c ∈ al)).map PV.bl) h) :
    lcL (fun _ => True) τ (gN i) mYes (mB (rInP false) (mVar i) (mC (.str x))) (ones (S l)) [] h Q := by
  have e : ones (S l) = l.map fun c => PV.str (S [c]) := by
    unfold ones; rw [cl_S]
  rw [e]
  refine lcL_all (fun c => PV.str (S [c])) (fun c => .bl (decide (c ∈ al))) trivial l (fun c _ P z => ?_) ?_
  · simp only [gN, mB, mVar, mC, hi, rInP]
    exact ⟨c, rfl, by rw [hx, Bool.bne_false]; exact z⟩
  · rw [List.map_map] at q; exact q
theorem pure_is_name : ∀ qs h Q, qs.length = 1 → spIsName qs h Q → m_is_name (ends Q) (sp0 2 qs) h := by
  rintro _ h Q - ⟨l, rfl, hl, q⟩
  unfold m_is_name
  refine seq_step fun P hP => ?_
  simp only [N3.mDput, N3.mB, N3.mU, N3.mVar, N3.mC, N3.sp0, N3.gt, N3.st, N3.rIx, N3.seqL, N3.dctL, N3.kOf, N3.rAdd, N3.mAsg, N3.gN, N3.mIfS, N3.mTest, N3.mPop, N3.mAppend, N3.mDrop, N3.mRet, N3.mRetN, N3.mNx, N3.mBrk, N3.mCnt, N3.mLst, N3.mLstM, N3.mCons, N3.mNil, N3.mTup, N3.mBlt, N3.mKw, N3.cat2, N3.cat2r, N3.gS, N3.gL, N3.mSlM, N3.rSlM, N3.mM1, N3.mSl, N3.mRev, N3.mStep, N3.mRevM, N3.mPart, N3.mNoPart, N3.rII, N3.rII0, N3.rIB, N3.rCmp, N3.rLt, N3.rLe, N3.rGt, N3.rGe, N3.mIsI, N3.tn, N3.isI, N3.mDisp, N3.mDct0, N3.mDct0M, N3.mPar3, N3.mAug, N3.rIAdd, N3.mExtend, N3.mInsert, N3.mPopAt, N3.rMin2, N3.rMax2, N3.rIntT, N3.rSplit, N3.rSplitM, N3.rAddM, N3.gPut, N3.mFmt, N3.mJs, N3.mJoin, N3.rDictP, N3.mRepM, N3.rListA, N3.rSortA, N3.mLc2, N3.lcI, N3.lcO, N3.rAllB, N3.rAnyB, N3.rStrI, N3.rIntO, N3.vwL, N3.rMul, N3.rMulT, N3.rNeg, N3.rSub, N3.rDiv, N3.rMod, N3.rPow, N3.mPar, N3.mAndT, N3.mOrT, N3.mNotT, N3.mAnd, N3.mOr, N3.mOrV, N3.mAndV, N3.trv, N3.mNot, N3.mIf, N3.mChn, N3.mKeep, N3.mRep, N3.mDispM, N3.mPs, N3.ends, N3.rLen, N3.rListOf, N3.rListOfM, N3.rTupOf, N3.rSumI, N3.listed, N3.rSl, N3.rRev, N3.rEq, N3.rNe, N3.rIsN, N3.rNotN, N3.isNon, N3.vw, N3.mYes, N3.gT, N3.gsCons, N3.gsNil, N3.mFor, N3.mSeqs, N3.mLc, N3.mLcM, N3.mRng1, N3.mRng2, N3.mEnum, N3.mEnumA, N3.mZip, N3.wp, N3.rJoin, N3.rSS, N3.rIdxS, N3.rRepr, N3.flat, N3.flats, N3.toD, N3.toDs, List.length_cons, List.length_nil, List.append_eq, List.cons_append, List.nil_append, List.map_cons, List.map_nil, if_true, if_false, Bool.false_eq_true, decide_eq_true_eq, Option.some.injEq, true_and, and_true, Bool.not_true, Bool.not_false, reduceCtorEq, Bool.and_self, Bool.and_true, Bool.true_and, ite_true, ite_false]
  rw [S_length]
  refine ⟨by show _ ≤ 16777216; omega, ?_⟩
  refine ite2 (fun h1 => ite2 (fun h2 => ?_) (fun h2 => ?_)) (fun h1 => ?_)
  · have : ¬ l.length ≤ 6 := by simp at h2; omega
    unfold nameB at q
    rw [decide_eq_false this, Bool.and_false, Bool.false_and] at q
    exact q
  · have h6 : l.length ≤ 6 := by simp at h2; omega
    subst hP
    simp only [mRet, mBlt, mCons, mNil, mLc, mSeqs, mVar, gt]
    refine ⟨by rw [S_length]; show _ ≤ 16777216; omega, ?_⟩
    refine all_in (al := lt26) rfl (fun _ => rfl) ?_
    refine ⟨l.map fun c => decide (c ∈ lt26), rfl, ?_⟩
    unfold nameB at q
    rw [decide_eq_true (by omega : 1 ≤ l.length), decide_eq_true h6, Bool.true_and, Bool.true_and] at q
    rw [List.all_map]; exact q
  · have : ¬ 1 ≤ l.length := by omega
    unfold nameB at q
    rw [decide_eq_false this, Bool.false_and, Bool.false_and] at q
    exact q
theorem ne_S {x : Ln} {y : Str} {l : Ln} (e : y = S l) {h : PH} {Q : PK} (q : Q (.bl (!decide (x = l))) h) : N3.rNe (.str (S x)) (.str y) h Q := by
  subst e
  refine ⟨rfl, rfl, by simp [vw, toD, PyData.depth], ?_⟩
  rw [show PyData.eqv (toD (vw h (.str (S x)))) (toD (vw h (.str (S l)))) = decide (x = l) from eqv_S x l]
  exact q
theorem eq_S {x : Ln} {y : Str} {l : Ln} (e : y = S l) {h : PH} {Q : PK} (q : Q (.bl (decide (x = l))) h) : N3.rEq (.str (S x)) (.str y) h Q := by
  subst e
  refine ⟨rfl, rfl, by simp [vw, toD, PyData.depth], ?_⟩
  rw [show PyData.eqv (toD (vw h (.str (S x)))) (toD (vw h (.str (S l)))) = decide (x = l) from eqv_S x l]
  exact q
theorem cut_1 {α : Type} (xs : List α) : cut xs (some 1) none = xs.tail := by
  rw [cut_up xs 1 (by decide)]
  cases xs <;> rfl
theorem figs (c : Nat) : decide (c ∈ cl ("0123456789" : Str)) = decide (digit c) := by
  have e : cl ("0123456789" : Str) = [48, 49, 50, 51, 52, 53, 54, 55, 56, 57] := by decide +kernel
  rw [e]
  refine decide_eq_decide.mpr ?_
  unfold digit
  simp only [List.mem_cons, List.not_mem_nil, or_false]
  omega
theorem cut_0 {α : Type} (xs : List α) : cut xs none (some 1) = xs.take 1 := by rw [cut_nat xs 1 (by decide)]; rfl
theorem atI_hd {w : Ln} (h : 1 ≤ w.length) : atI w 0 = some (w.headD 0) := by
  cases w with
  | nil => simp at h
  | cons x r => unfold atI ixN; simp
theorem pure_are_figures : ∀ qs h Q, qs.length = 1 → spFigs qs h Q → m_are_figures (ends Q) (sp0 2 qs) h := by
  rintro _ h Q - ⟨l, rfl, hl, q⟩
  have sl : (S l).length ≤ SZ := by rw [S_length]; show _ ≤ 16777216; omega
  unfold m_are_figures
  refine seq_step fun P hP => ?_
  simp only [mIfS, mOrT, mNotT, mTest, mChn, mBlt, mCons, mNil, mVar, mC, gt, N3.sp0, N3.rLe, rCmp, N3.rLen, S_length]
  refine ⟨by rw [S_length] at sl; exact sl, ?_⟩
  by_cases c1 : 1 ≤ l.length
  · rw [decide_eq_true (show (1 : Int) ≤ ((l.length : Nat) : Int) by omega), if_pos rfl]
    by_cases c2 : l.length ≤ 40
    · rw [decide_eq_true (show ((l.length : Nat) : Int) ≤ 40 by omega)]
      simp only [Bool.not_true, Bool.false_eq_true, if_false, mLc, mSeqs, mVar, gt, N3.wp, N3.st]
      refine ⟨sl, ?_⟩
      refine all_in (al := cl "0123456789") rfl (fun _ => rfl) ?_
      refine ⟨l.map fun c => decide (c ∈ cl "0123456789"), rfl, ?_⟩
      rw [List.all_map]
      have ea : (l.all (id ∘ fun c => decide (c ∈ cl "0123456789"))) = l.all fun c => decide (digit c) := by
        congr 1; funext c; exact figs c
      rw [ea]
      unfold figB at q
      rw [decide_eq_true c1, decide_eq_true c2, Bool.and_self, Bool.true_and] at q
      cases c3 : l.all fun c => decide (digit c) with
      | false =>
        rw [c3] at q
        simp only [Bool.not_false, if_true, mRet, mC]
        exact q
      | true =>
        rw [c3, Bool.true_and] at q
        simp only [Bool.not_true, Bool.false_eq_true, if_false, mNx]
        subst hP
        simp only [mRet, mOr, mB, mVar, mC, gt, N3.sp0]
        refine eq_S (y := "0") (l := [48]) (by decide +kernel) ?_
        by_cases c4 : l = [48]
        · rw [decide_eq_true c4] at q ⊢
          exact q
        · rw [decide_eq_false c4] at q ⊢
          simp only [N3.rIx, cl_S, atI_hd c1]
          refine ⟨sl, ?_⟩
          refine ne_S (y := "0") (l := [48]) (by decide +kernel) ?_
          have : decide ([l.headD 0] = [48]) = decide (l.headD 0 = 48) := by simp
          rw [this]
          exact q
    · unfold figB at q
      rw [decide_eq_false c2, Bool.and_false, Bool.false_and] at q
      rw [decide_eq_false (show ¬ ((l.length : Nat) : Int) ≤ 40 by omega)]
      simp only [Bool.not_false, if_true, mRet, mC]
      exact q
  · unfold figB at q
    rw [decide_eq_false c1, Bool.false_and, Bool.false_and] at q
    rw [decide_eq_false (show ¬ (1 : Int) ≤ ((l.length : Nat) : Int) by omega), if_neg (by decide)]
    simp only [Bool.not_false, if_true, mRet, mC]
    exact q
theorem int_figs {w : Ln} (h : ∀ c ∈ w, digit c) (hne : w ≠ []) (hl : w.length ≤ 640) : PySem.intText? (S w) = some ((NumText.digitsVal w : Nat) : Int) := by
  refine SX.int_S ?_ hne (by omega)
  rw [List.all_eq_true]
  intro c hc
  have := h c hc
  simp only [Bool.and_eq_true, decide_eq_true_eq]
  exact this
theorem rInt_figs {w : Ln} {h : PH} {Q : PK} (c : figB w = true) (q : Q (.int (NumText.digitsVal w : Nat)) h) : rIntT [.str (S w)] h Q := by
  obtain ⟨⟨h1, h2⟩, h3, -⟩ := figB_iff.mp c
  simp only [rIntT, int_figs h3 (fun z => by rw [z] at h1; simp at h1) (by omega)]
  exact ⟨by rw [S_length]; omega, q⟩
abbrev exN (Ad : Addr) : Ex := ⟨Ad, none⟩
def spReadWorth (Ad : Addr) : SpX := fun ps h Q w => ∃ l : Ln, ps = [.str (S l)] ∧ l.length ≤ 1000000 ∧ match readW l with
  | some k => Q (wP k) h
  | none => w (exN Ad) h
theorem frgX_of {w : PX} {x : Ex} {h : PH} (q : w x h) : frgX w x h := ⟨h, sub_refl h, q⟩
theorem pure_read_worth {Ad : Addr} : ∀ (qs : List PV) (h : PH) (Q : N3.PK) (wx : PX), qs.length = 1 → spReadWorth Ad qs h Q wx → m_read_worth Ad spIsName spFigs (fun x _ h1 => frgX wx x h1) (ends (frg Q)) (sp0 1 qs) h := by
  rintro _ h Q wx - ⟨l, rfl, hl, q⟩
  have sl : (S l).length ≤ SZ := by rw [S_length]; show _ ≤ 16777216; omega
  unfold m_read_worth
  refine seq_step fun P hP => ?_
  simp only [N3.mDput, N3.mB, N3.mU, N3.mVar, N3.mC, N3.sp0, N3.gt, N3.st, N3.rIx, N3.seqL, N3.dctL, N3.kOf, N3.rAdd, N3.mAsg, N3.gN, N3.mIfS, N3.mTest, N3.mPop, N3.mAppend, N3.mDrop, N3.mRet, N3.mRetN, N3.mNx, N3.mBrk, N3.mCnt, N3.mLst, N3.mLstM, N3.mCons, N3.mNil, N3.mTup, N3.mBlt, N3.mKw, N3.cat2, N3.cat2r, N3.gS, N3.gL, N3.mSlM, N3.rSlM, N3.mM1, N3.mSl, N3.mRev, N3.mStep, N3.mRevM, N3.mPart, N3.mNoPart, N3.rII, N3.rII0, N3.rIB, N3.rCmp, N3.rLt, N3.rLe, N3.rGt, N3.rGe, N3.mIsI, N3.tn, N3.isI, N3.mDisp, N3.mDct0, N3.mDct0M, N3.mPar3, N3.mAug, N3.rIAdd, N3.mExtend, N3.mInsert, N3.mPopAt, N3.rMin2, N3.rMax2, N3.rIntT, N3.rSplit, N3.rSplitM, N3.rAddM, N3.gPut, N3.mFmt, N3.mJs, N3.mJoin, N3.rDictP, N3.mRepM, N3.rListA, N3.rSortA, N3.mLc2, N3.lcI, N3.lcO, N3.rAllB, N3.rAnyB, N3.rStrI, N3.rIntO, N3.vwL, N3.rMul, N3.rMulT, N3.rNeg, N3.rSub, N3.rDiv, N3.rMod, N3.rPow, N3.mPar, N3.mAndT, N3.mOrT, N3.mNotT, N3.mAnd, N3.mOr, N3.mOrV, N3.mAndV, N3.trv, N3.mNot, N3.mIf, N3.mChn, N3.mKeep, N3.mRep, N3.mDispM, N3.mPs, N3.ends, N3.rLen, N3.rListOf, N3.rListOfM, N3.rTupOf, N3.rSumI, N3.listed, N3.rSl, N3.rRev, N3.rEq, N3.rNe, N3.rIsN, N3.rNotN, N3.isNon, N3.vw, N3.mYes, N3.gT, N3.gsCons, N3.gsNil, N3.mFor, N3.mSeqs, N3.mLc, N3.mLcM, N3.mRng1, N3.mRng2, N3.mEnum, N3.mEnumA, N3.mZip, N3.wp, N3.rJoin, N3.rSS, N3.rIdxS, N3.rRepr, N3.flat, N3.flats, N3.toD, N3.toDs, List.length_cons, List.length_nil, List.append_eq, List.cons_append, List.nil_append, List.map_cons, List.map_nil, if_true, if_false, Bool.false_eq_true, decide_eq_true_eq, Option.some.injEq, true_and, and_true, Bool.not_true, Bool.not_false, reduceCtorEq, Bool.and_self, Bool.and_true, Bool.true_and, ite_true, ite_false]
  refine ⟨l, rfl, hl, ?_⟩
  unfold readW at q
  refine ite2 (fun c1 => ?_) (fun c1 => ?_)
  · rw [if_pos c1] at q
    exact frg_of q
  rw [if_neg c1] at q
  subst hP
  refine seq_step fun P hP => ?_
  simp only [N3.mDput, N3.mB, N3.mU, N3.mVar, N3.mC, N3.sp0, N3.gt, N3.st, N3.rIx, N3.seqL, N3.dctL, N3.kOf, N3.rAdd, N3.mAsg, N3.gN, N3.mIfS, N3.mTest, N3.mPop, N3.mAppend, N3.mDrop, N3.mRet, N3.mRetN, N3.mNx, N3.mBrk, N3.mCnt, N3.mLst, N3.mLstM, N3.mCons, N3.mNil, N3.mTup, N3.mBlt, N3.mKw, N3.cat2, N3.cat2r, N3.gS, N3.gL, N3.mSlM, N3.rSlM, N3.mM1, N3.mSl, N3.mRev, N3.mStep, N3.mRevM, N3.mPart, N3.mNoPart, N3.rII, N3.rII0, N3.rIB, N3.rCmp, N3.rLt, N3.rLe, N3.rGt, N3.rGe, N3.mIsI, N3.tn, N3.isI, N3.mDisp, N3.mDct0, N3.mDct0M, N3.mPar3, N3.mAug, N3.rIAdd, N3.mExtend, N3.mInsert, N3.mPopAt, N3.rMin2, N3.rMax2, N3.rIntT, N3.rSplit, N3.rSplitM, N3.rAddM, N3.gPut, N3.mFmt, N3.mJs, N3.mJoin, N3.rDictP, N3.mRepM, N3.rListA, N3.rSortA, N3.mLc2, N3.lcI, N3.lcO, N3.rAllB, N3.rAnyB, N3.rStrI, N3.rIntO, N3.vwL, N3.rMul, N3.rMulT, N3.rNeg, N3.rSub, N3.rDiv, N3.rMod, N3.rPow, N3.mPar, N3.mAndT, N3.mOrT, N3.mNotT, N3.mAnd, N3.mOr, N3.mOrV, N3.mAndV, N3.trv, N3.mNot, N3.mIf, N3.mChn, N3.mKeep, N3.mRep, N3.mDispM, N3.mPs, N3.ends, N3.rLen, N3.rListOf, N3.rListOfM, N3.rTupOf, N3.rSumI, N3.listed, N3.rSl, N3.rRev, N3.rEq, N3.rNe, N3.rIsN, N3.rNotN, N3.isNon, N3.vw, N3.mYes, N3.gT, N3.gsCons, N3.gsNil, N3.mFor, N3.mSeqs, N3.mLc, N3.mLcM, N3.mRng1, N3.mRng2, N3.mEnum, N3.mEnumA, N3.mZip, N3.wp, N3.rJoin, N3.rSS, N3.rIdxS, N3.rRepr, N3.flat, N3.flats, N3.toD, N3.toDs, List.length_cons, List.length_nil, List.append_eq, List.cons_append, List.nil_append, List.map_cons, List.map_nil, if_true, if_false, Bool.false_eq_true, decide_eq_true_eq, Option.some.injEq, true_and, and_true, Bool.not_true, Bool.not_false, reduceCtorEq, Bool.and_self, Bool.and_true, Bool.true_and, ite_true, ite_false]
  refine ⟨l, rfl, hl, ?_⟩
  refine ite2 (fun c2 => ?_) (fun c2 => ?_)
  · rw [if_pos c2] at q
    exact rInt_figs c2 (frg_of q)
  rw [if_neg c2] at q
  subst hP
  refine seq_step fun P hP => ?_
  simp only [mIfS, mOrT, mNotT, mTest, mB, mSl, mNoPart, mPart, mVar, mC, gt, N3.sp0, mBlt, mCons, mNil, N3.rSl, cl_S, cut_0, cut_1]
  refine ⟨sl, ne_S (y := "-") (l := [45]) (by decide +kernel) ?_⟩
  have e1 : (l.take 1 = [45]) ↔ l.headD 0 = 45 := by
    cases l with
    | nil => simp
    | cons c r => simp
  by_cases d1 : l.headD 0 = 45
  · rw [decide_eq_true (e1.mpr d1)]
    simp only [Bool.not_true, Bool.false_eq_true, if_false]
    refine ⟨sl, l.tail, rfl, by rw [List.length_tail]; omega, ?_⟩
    cases c3 : figB l.tail with
    | false =>
      rw [c3, if_neg (fun z => by cases z.2.1)] at q
      simp only [Bool.not_false, if_true, mRaise]
      exact frgX_of q
    | true =>
      rw [c3] at q
      simp only [Bool.not_true, Bool.false_eq_true, if_false]
      refine ⟨sl, eq_S (y := "0") (l := [48]) (by decide +kernel) ?_⟩
      by_cases c4 : l.tail = [48]
      · rw [if_neg (fun z => z.2.2 c4)] at q
        rw [decide_eq_true c4]
        simp only [if_true, mRaise]
        exact frgX_of q
      · rw [if_pos ⟨d1, rfl, c4⟩] at q
        rw [decide_eq_false c4]
        simp only [Bool.false_eq_true, if_false, mNx]
        subst hP
        simp only [mRet, mB, mSl, mNoPart, mPart, mVar, mC, gt, N3.sp0, mBlt, mCons, mNil, N3.rSl, cl_S, cut_1]
        refine ⟨sl, rInt_figs c3 ?_⟩
        simp only [N3.rSub, rII0]
        rw [Int.zero_sub]
        exact frg_of q
  · rw [if_neg (fun z => d1 z.1)] at q
    rw [decide_eq_false (fun z => d1 (e1.mp z))]
    simp only [Bool.not_false, if_true, mRaise]
    exact frgX_of q
end Wneversaid_k04_rows_written_and_read

namespace Wneversaid_k04_rows_written_and_read
open PySem PySem.Spec PyProof.Rows L2 N3
/-! ### rows read, shown, written -/
theorem tn_str {h : PH} {x : Str} : tn h (.str x) = some .str := rfl
def spReadRow (Ad : Addr) : SpX := fun ps h Q w => ∃ p, ps = [p] ∧ ((∃ l : Ln, p = .str (S l) ∧ l.length ≤ 1000000 ∧ match readL (splc 32 l) with
  | some ks => Q (.tup (ks.map wP)) h
  | none => w (exN Ad) h) ∨ (∃ t, tn h p = some t ∧ isI t .str = false ∧ w (exN Ad) h))
theorem lcL_rd {Ad : Addr} {gd : PH → Prop} {τ : PSt} {g : MG} {m : ME} {h : PH} {Q : List PV → PH → Prop} {w : PX} (hg : gd h) (hm : ∀ (c : Ln) (P : PK), c.length ≤ 1000000 → (match readW c with | some k => P (wP k) h | none => w (exN Ad) h) → g (.str (S c)) τ h fun τ1 h1 => m τ1 h1 P) :
    ∀ (cs : List Ln) (acc : List PV), (∀ c ∈ cs, c.length ≤ 1000000) → (match readL cs with | some ks => Q (acc ++ ks.map wP) h | none => w (exN Ad) h) → lcL gd τ g mYes m (cs.map fun c => PV.str (S c)) acc h Q
  | [], acc, _, q => ⟨hg, by simpa [readL] using q⟩
  | c :: cs, acc, hl, q => by
    refine ⟨hg, ?_⟩
    have key := hm c (fun v h3 => lcL gd τ g mYes m (cs.map fun c => PV.str (S c)) (acc ++ [v]) h3 Q) (hl c List.mem_cons_self)
    simp only [mYes, if_true]
    refine key ?_
    rw [readL] at q
    cases e : readW c with
    | none => rw [e] at q; exact q
    | some k =>
      rw [e] at q
      refine lcL_rd hg hm cs (acc ++ [wP k]) (fun x hx => hl x (List.mem_cons_of_mem _ hx)) ?_
      cases e2 : readL cs with
      | none => rw [e2] at q; exact q
      | some ks =>
        rw [e2] at q
        show Q (acc ++ [wP k] ++ ks.map wP) h
        rw [List.append_assoc]; exact q
theorem pure_read_row {Ad : Addr} : ∀ (qs : List PV) (h : PH) (Q : N3.PK) (wx : PX), qs.length = 1 → spReadRow Ad qs h Q wx → m_read_row Ad (spReadWorth Ad) (fun x _ h1 => frgX wx x h1) (ends (frg Q)) (sp0 2 qs) h := by
  rintro _ h Q wx - ⟨p, rfl, q⟩
  unfold m_read_row
  refine seq_step fun P hP => ?_
  simp only [mIfS, mNotT, mTest, mIsI, mVar, gt, N3.sp0]
  rcases q with ⟨l, rfl, hl, q⟩ | ⟨t, et, ht, q⟩
  · simp only [tn_str, N3.isI, Bool.not_true, Bool.false_eq_true, if_false]
    simp only [mNx]
    subst hP
    simp only [mRet, mBlt, mCons, mNil, mLcX, mLc, mSeqs, mM1, mVar, mC, gt, N3.sp0, N3.rSplit, mCallX, N3.wp, N3.st]
    refine ⟨⟨_, rfl⟩, by decide +kernel, by rw [S_length]; show _ + 2 ≤ 16777216; omega, ?_⟩
    rw [split_S (c := 32) (by decide) l (by decide +kernel), List.map_map]
    refine lcL_rd (Ad := Ad) (w := frgX wx) trivial (fun c P hc z => ?_) (splc 32 l) [] (fun c hc => ?_) ?_
    · simp only [gN, mVar, gt, N3.st, mCons, mNil]
      refine ⟨c, ?_, hc, z⟩
      rfl
    · have := (splc_mem (c := 32) l c hc).2.2; omega
    · cases e : readL (splc 32 l) with
      | none => rw [e] at q; exact frgX_of q
      | some ks =>
        rw [e] at q
        simp only [N3.rTupOf, listed, seqL, List.nil_append]
        exact frg_of q
  · rw [et]
    simp only [ht, Bool.not_false, if_true, mRaise]
    exact frgX_of q
def spShowRow : SpP := fun ps h Q => ∃ ks : List Wt, ps = [.tup (ks.map wP)] ∧ (∀ k ∈ ks, WOk k) ∧ ks.length ≤ 10000 ∧ Q (.str (S (rowT ks))) h
theorem itx_len {i : Int} (h : i.natAbs < 10 ^ 40) : (itx i).length ≤ 41 := by
  by_cases s : 0 ≤ i
  · obtain ⟨n, rfl⟩ : ∃ n : Nat, i = (n : Int) := ⟨i.toNat, by omega⟩
    have := dg_len10 (n := n) (k := 40) (by decide) (by omega)
    show (dg n).length ≤ 41
    omega
  · obtain ⟨n, rfl, hp⟩ : ∃ n : Nat, i = -(n : Int) ∧ 0 < n := ⟨i.natAbs, by omega, by omega⟩
    have := dg_len10 (n := n) (k := 40) (by decide) (by omega)
    rw [itx_neg hp, List.length_cons]
    omega
theorem wT_len {k : Wt} (h : WOk k) : (wT k).length ≤ 41 := by
  cases k with
  | n i => exact itx_len h
  | w l => have := (nameB_iff.mp h).1.2; show l.length ≤ 41; omega
theorem row_sum {ks : List Wt} (h : ∀ k ∈ ks, WOk k) (hl : ks.length ≤ 10000) : ((ks.map wT).map (·.length)).sum + (ks.map wT).length * 1 ≤ SZ := by
  have := sum_len (n := 41) (ks.map wT) fun p hp => by
    obtain ⟨k, hk, rfl⟩ := List.mem_map.mp hp
    exact wT_len (h k hk)
  rw [List.length_map] at this ⊢
  show _ ≤ 16777216
  omega
theorem rowT_len {ks : List Wt} (h : ∀ k ∈ ks, WOk k) : (rowT ks).length ≤ ks.length * 42 := by
  have := joinL_len (c := 32) (n := 41) (ks.map wT) fun p hp => by
    obtain ⟨k, hk, rfl⟩ := List.mem_map.mp hp
    exact wT_len (h k hk)
  rwa [List.length_map] at this
theorem pow40 {i : Int} (h : i.natAbs < 10 ^ 40) : i.natAbs.log2 < 1920 := by
  have := log_lt (i := i) (k := 139) (Nat.lt_of_lt_of_le h (by decide))
  omega
theorem pure_show_row : ∀ qs h Q, qs.length = 1 → spShowRow qs h Q → m_show_row (ends Q) (sp0 2 qs) h := by
  rintro _ h Q - ⟨ks, rfl, hk, hl, q⟩
  unfold m_show_row
  simp only [mRet, mM1, mCons, mNil, mLc, mSeqs, mVar, mC, gt, N3.sp0, N3.wp, N3.st, seqL]
  refine ⟨⟨_, rfl⟩, ?_⟩
  refine lcL_all wP (fun k => PV.str (S (wT k))) trivial ks (fun k hm P z => ?_) ?_
  · simp only [gN, mBlt, mCons, mNil, mVar, gt, N3.st]
    cases k with
    | n i =>
      refine ⟨pow40 (hk _ hm), ?_⟩
      have z : P (.str (S (itx i))) h := z
      unfold itx at z
      rw [S_cl] at z
      exact z
    | w l => exact z
  · simp only [N3.rJoin, seqL]
    refine ⟨ks.map wT, by rw [List.map_map]; rfl, row_sum hk hl, ?_⟩
    exact q
/-! ### written by the law -/
def spWritten : SpP := fun ps h Q => ∃ ks : List Wt, ps = [.tup (ks.map wP)] ∧ (∀ k ∈ ks, WOk k) ∧ ks.length ≤ 10000 ∧ Q (.str (S (rowT ks))) h
def dgs (n : Nat) : Ln := if n = 0 then [] else dg n
theorem dgs_step {n : Nat} (h : 0 < n) : dgs n = dgs (n / 10) ++ [48 + n % 10] := by
  unfold dgs
  rw [if_neg (by omega)]
  by_cases s : n < 10
  · rw [if_pos (by omega), dg_num, TL.numL_lt s, Nat.mod_eq_of_lt s]; rfl
  · rw [if_neg (by omega), dg_num, dg_num, TL.numL_step (by omega)]
theorem digit_at (n : Nat) : atI (cl ("0123456789" : Str)) (((n % 10 : Nat)) : Int) = some (48 + n % 10) := by
  have e : cl ("0123456789" : Str) = [48, 49, 50, 51, 52, 53, 54, 55, 56, 57] := by decide +kernel
  have hm : n % 10 < 10 := Nat.mod_lt n (by decide)
  rw [e]
  generalize n % 10 = m at hm
  have : ∀ m, m < 10 → atI [48, 49, 50, 51, 52, 53, 54, 55, 56, 57] ((m : Nat) : Int) = some (48 + m) := by decide +kernel
  exact this m hm
theorem itx_of (i : Int) : itx i = (if i < 0 then [45] else []) ++ (dgs i.natAbs ++ (if i = 0 then [48] else [])) := by
  by_cases s : 0 ≤ i
  · obtain ⟨n, rfl⟩ : ∃ n : Nat, i = (n : Int) := ⟨i.toNat, by omega⟩
    rw [if_neg (by omega), itx_nat, List.nil_append, Int.natAbs_natCast]
    unfold dgs
    by_cases z : n = 0
    · subst z; rw [if_pos rfl, dg_zero]; rfl
    · rw [if_neg z, if_neg (by omega), List.append_nil]
  · obtain ⟨n, rfl, hp⟩ : ∃ n : Nat, i = -(n : Int) ∧ 0 < n := ⟨i.natAbs, by omega, by omega⟩
    rw [if_pos (by omega), if_neg (by omega), itx_neg hp, Int.natAbs_neg, Int.natAbs_natCast, List.append_nil]
    unfold dgs
    rw [if_neg (by omega)]; rfl
theorem pure_law_written : ∀ qs h Q, qs.length = 1 → spWritten qs h Q → m_law_written (ends (frg Q)) (sp0 5 qs) h := by
  rintro _ h Q - ⟨ks, rfl, hk, hl, q⟩
  unfold m_law_written
  refine seq_step fun P hP => ?_
  simp only [N3.mDput, N3.mB, N3.mU, N3.mVar, N3.mC, N3.sp0, N3.gt, N3.st, N3.rIx, N3.seqL, N3.dctL, N3.kOf, N3.rAdd, N3.mAsg, N3.gN, N3.mIfS, N3.mTest, N3.mPop, N3.mAppend, N3.mDrop, N3.mRet, N3.mRetN, N3.mNx, N3.mBrk, N3.mCnt, N3.mLst, N3.mLstM, N3.mCons, N3.mNil, N3.mTup, N3.mBlt, N3.mKw, N3.cat2, N3.cat2r, N3.gS, N3.gL, N3.mSlM, N3.rSlM, N3.mM1, N3.mSl, N3.mRev, N3.mStep, N3.mRevM, N3.mPart, N3.mNoPart, N3.rII, N3.rII0, N3.rIB, N3.rCmp, N3.rLt, N3.rLe, N3.rGt, N3.rGe, N3.mIsI, N3.tn, N3.isI, N3.mDisp, N3.mDct0, N3.mDct0M, N3.mPar3, N3.mAug, N3.rIAdd, N3.mExtend, N3.mInsert, N3.mPopAt, N3.rMin2, N3.rMax2, N3.rIntT, N3.rSplit, N3.rSplitM, N3.rAddM, N3.gPut, N3.mFmt, N3.mJs, N3.mJoin, N3.rDictP, N3.mRepM, N3.rListA, N3.rSortA, N3.mLc2, N3.lcI, N3.lcO, N3.rAllB, N3.rAnyB, N3.rStrI, N3.rIntO, N3.vwL, N3.rMul, N3.rMulT, N3.rNeg, N3.rSub, N3.rDiv, N3.rMod, N3.rPow, N3.mPar, N3.mAndT, N3.mOrT, N3.mNotT, N3.mAnd, N3.mOr, N3.mOrV, N3.mAndV, N3.trv, N3.mNot, N3.mIf, N3.mChn, N3.mKeep, N3.mRep, N3.mDispM, N3.mPs, N3.ends, N3.rLen, N3.rListOf, N3.rListOfM, N3.rTupOf, N3.rSumI, N3.listed, N3.rSl, N3.rRev, N3.rEq, N3.rNe, N3.rIsN, N3.rNotN, N3.isNon, N3.vw, N3.mYes, N3.gT, N3.gsCons, N3.gsNil, N3.mFor, N3.mSeqs, N3.mLc, N3.mLcM, N3.mRng1, N3.mRng2, N3.mEnum, N3.mEnumA, N3.mZip, N3.wp, N3.rJoin, N3.rSS, N3.rIdxS, N3.rRepr, N3.flat, N3.flats, N3.toD, N3.toDs, List.length_cons, List.length_nil, List.append_eq, List.cons_append, List.nil_append, List.map_cons, List.map_nil, if_true, if_false, Bool.false_eq_true, decide_eq_true_eq, Option.some.injEq, true_and, and_true, Bool.not_true, Bool.not_false, reduceCtorEq, Bool.and_self, Bool.and_true, Bool.true_and, ite_true, ite_false]
  intro a ha
  subst hP
  refine seq_step fun P hP => ?_
  simp only [mFor, mSeqs, mVar, gt, N3.st, N3.gN, seqL]
  refine forL_of (W := fun ps τ h' => ∃ (dn td : List Wt) (v2 v3 v4 : Option PV), ps = td.map wP ∧ ks = dn ++ td ∧ τ = [some (.tup (ks.map wP)), some (.ref a), v2, v3, v4] ∧ h' = up h a (.lst (dn.map fun k => PV.str (S (wT k))))) ?_ ?_ _ _ _ ⟨[], ks, none, none, none, rfl, rfl, rfl, rfl⟩
  · rintro p ps τ h' ⟨dn, td, v2, v3, v4, ep, ek, rfl, rfl⟩
    cases td with
    | nil => cases ep
    | cons k td =>
      injection ep with e1 e2
      subst e1 e2
      have okk : WOk k := hk k (by rw [ek]; simp)
      refine ⟨trivial, fun P' hP' => ?_⟩
      simp only [gN, N3.st, List.set]
      have ldn : dn.length ≤ 10000 := by rw [ek, List.length_append] at hl; omega
      -- appended
      have fin : ∀ v4' : Option PV, mDrop (mAppend (mVar 1) (mCons (mVar 3) (mNil))) { nx := P', rt := (ends (frg Q)).rt, bk := P, ct := P' } [some (.tup (ks.map wP)), some (.ref a), some (wP k), some (.str (S (wT k))), v4'] (up h a (.lst (dn.map fun k => PV.str (S (wT k))))) := fun v4' => by
        simp only [mDrop, mAppend, mVar, mCons, mNil, gt, up_same]
        refine ⟨⟨_, _, rfl, up_same⟩, by rw [List.length_map]; show _ < 16777216; omega, ?_⟩
        rw [up_up]
        exact hP' _ _ ⟨dn ++ [k], td, _, _, _, rfl, by rw [ek]; simp, rfl, by simp⟩
      cases k with
      | w l =>
        refine seq_step fun P2 hP2 => ?_
        simp only [mPar, mCons, mNil, mVar, mIf, mTest, mIsI, mC, gt, N3.st, wP, tn_str, N3.isI, Bool.false_eq_true, if_false, List.set]
        subst hP2
        refine seq_step fun P2 hP2 => ?_
        simp only [mIfS, mVar, mTest, mIsI, gt, tn_str, N3.isI, Bool.false_eq_true, if_false, mNx]
        subst hP2
        exact fin _
      | n i =>
        refine seq_step fun P2 hP2 => ?_
        simp only [mPar, mCons, mNil, mVar, mIf, mTest, mIsI, mBlt, mC, gt, N3.st, wP, N3.tn, N3.isI, if_true, rAbs, List.set]
        subst hP2
        refine seq_step fun P2 hP2 => ?_
        simp only [mIfS, mVar, mTest, mIsI, gt, N3.tn, N3.isI, if_true]
        refine seq_step fun P3 hP3 => ?_
        simp only [mAsg, mB, mBlt, mCons, mNil, mVar, mC, gt, N3.gN, N3.st, List.set]
        refine ⟨rfl, rfl, by simp [vw, toD, PyData.depth], ?_⟩
        simp only [vw, toD, eqv_int]
        have m1 : ∀ (b : Bool) (x : Str), (cl x).length = 1 → (if b = true then (1 : Int) else 0) < 16777216 ∧ x.length * (if b = true then (1 : Int) else 0).toNat ≤ SZ ∧ -16777216 ≤ (if b = true then (1 : Int) else 0) ∧ (List.replicate (if b = true then (1 : Int) else 0).toNat (cl x)).flatten = if b = true then cl x else [] := by
          intro b x hx
          have hx : x.length = 1 := hx
          cases b
          · exact ⟨by decide, by simp, by decide, rfl⟩
          · exact ⟨by decide, by rw [hx]; decide, by decide, by simp⟩
        obtain ⟨z1, z2, z3, z4⟩ := m1 (decide (i = 0)) "0" rfl
        refine ⟨z1, z2, z3, ?_⟩
        rw [z4, show (cl ("0" : Str)) = [48] by decide +kernel]
        subst hP3
        refine seq_step fun P3 hP3 => ?_
        have bi : i.natAbs < 10 ^ 40 := okk
        have bl : (dgs i.natAbs ++ (if decide (i = 0) = true then [48] else [])).length ≤ 42 := by
          have h1 : (dgs i.natAbs).length ≤ 40 := by
            unfold dgs
            split
            · simp
            · exact dg_len10 (by decide) bi
          have h2 : (if decide (i = 0) = true then [48] else ([] : Ln)).length ≤ 1 := by split <;> simp
          rw [List.length_append]; omega
        refine ⟨fun m τ h2 => ∃ (n : Nat) (w : Ln), m = n ∧ τ = [some (.tup (ks.map wP)), some (.ref a), some (.int i), some (.str (S w)), some (.int (n : Nat))] ∧ h2 = up h a (.lst (dn.map fun k => PV.str (S (wT k)))) ∧ dgs n ++ w = dgs i.natAbs ++ (if decide (i = 0) = true then [48] else []), ⟨i.natAbs, i.natAbs, _, rfl, ?_, rfl, rfl⟩, ?_⟩
        · have : (if i < 0 then -i else i) = ((i.natAbs : Nat) : Int) := by split <;> omega
          rw [this]
        · rintro m τ h2 ⟨n, w, rfl, rfl, rfl, e⟩
          have lw : w.length ≤ 42 := by
            have := congrArg List.length e
            rw [List.length_append] at this
            omega
          simp only [mTest, mB, mVar, mC, gt, N3.rGt, rCmp]
          by_cases c : 0 < m
          · rw [decide_eq_true (show (0 : Int) < ((m : Nat) : Int) by omega), if_pos rfl]
            refine seq_step fun P4 hP4 => ?_
            simp only [mAsg, mB, mVar, mC, gt, N3.gN, N3.st, N3.rMod, rII, List.set]
            refine ⟨by decide, ?_⟩
            rw [show ((m : Nat) : Int) % 10 = ((m % 10 : Nat) : Int) by omega]
            simp only [N3.rIx, digit_at]
            refine ⟨by decide +kernel, ?_⟩
            simp only [N3.rAdd]
            refine ⟨by rw [S_length, S_length]; show _ ≤ 16777216; simp; omega, ?_⟩
            subst hP4
            simp only [mAsg, mB, mVar, mC, gt, N3.gN, N3.st, N3.rDiv, rII, List.set]
            refine ⟨by unfold CDiv; decide, ?_⟩
            have ed : ((m : Nat) : Int) / 10 = ((m / 10 : Nat) : Int) := by omega
            refine ⟨m / 10, by omega, m / 10, (48 + m % 10) :: w, ?_⟩
            simp only [ed, true_and, and_true]
            rw [← e, dgs_step c, List.append_assoc]
            refine ⟨?_, rfl⟩
            rw [show S [48 + m % 10] ++ S w = S ((48 + m % 10) :: w) from S_append _ _]
          · rw [decide_eq_false (show ¬ (0 : Int) < ((m : Nat) : Int) by omega), if_neg (by decide)]
            obtain rfl : m = 0 := by omega
            have ew : w = dgs i.natAbs ++ (if decide (i = 0) = true then [48] else []) := by rw [← e]; rfl
            subst hP3
            simp only [mAsg, mB, mBlt, mCons, mNil, mVar, mC, gt, N3.gN, N3.st, N3.rLt, rCmp, rIntT, N3.rMul, List.set]
            obtain ⟨z1, z2, z3, z4⟩ := m1 (decide (i < 0)) "-" rfl
            refine ⟨z1, z2, z3, ?_⟩
            rw [z4, show (cl ("-" : Str)) = [45] by decide +kernel]
            have lm : (if decide (i < 0) = true then [45] else ([] : Ln)).length ≤ 1 := by split <;> simp
            simp only [N3.rAdd]
            refine ⟨by rw [S_length, S_length]; show _ ≤ 16777216; omega, ?_⟩
            subst hP2
            have et : S (if decide (i < 0) = true then [45] else []) ++ S w = S (wT (.n i)) := by
              show _ = S (itx i)
              rw [itx_of, ew]
              simp only [decide_eq_true_eq]
              exact S_append _ _
            rw [et]
            exact fin _
  · rintro τ h' ⟨dn, td, v2, v3, v4, ep, ek, rfl, rfl⟩
    refine ⟨trivial, ?_⟩
    subst hP
    have et : td = [] := by cases td with | nil => rfl | cons x r => cases ep
    subst et
    rw [List.append_nil] at ek
    subst ek
    simp only [mRet, mM1, mCons, mNil, mVar, mC, gt, N3.rJoin, seqL, up_same]
    refine ⟨⟨_, rfl⟩, ks.map wT, by rw [List.map_map]; rfl, row_sum hk hl, ?_⟩
    exact ⟨h, fun b u z => by
      by_cases e : b = a
      · rw [e, ha] at z; cases z
      · rw [up_ne e]; exact z, q⟩
end Wneversaid_k04_rows_written_and_read

namespace Wneversaid_k04_rows_written_and_read
open PySem PySem.Spec PyProof.Rows L2 N3
/-! ### the law's own reading -/
theorem filt_in {i : Nat} {x : Str} {al : List Nat} {τ : PSt} {l : Ln} {h : PH} {Q : List PV → PH → Prop} (hx : cl x = al) (hi : ∀ v, gt (st τ i (some v)) i = some v) (q : Q ((l.filter fun c => !decide (c ∈ al)).map fun c => PV.str (S [c])) h) :
    lcL (fun _ => True) τ (gN i) (mTest (mB (rInP true) (mVar i) (mC (.str x)))) (mVar i) (ones (S l)) [] h Q := by
  have e : ones (S l) = l.map fun c => PV.str (S [c]) := by
    unfold ones; rw [cl_S]
  rw [e]
  refine lcL_on (fun c => PV.str (S [c])) (fun c => !decide (c ∈ al)) (fun c => PV.str (S [c])) trivial l [] (fun c hc P acc z => ?_) (by rw [List.nil_append]; exact q)
  simp only [gN, mTest, mB, mVar, mC, hi, rInP]
  refine ⟨c, rfl, ?_⟩
  rw [hx, Bool.bne_true]
  exact z
theorem map_one (ls : Ln) : ls.map (fun c => PV.str (S [c])) = stz (ls.map fun c => [c]) := by simp [stz]
theorem eq_nil1 {ls : Ln} {h : PH} {Q : PK} (q : Q (.bl ls.isEmpty) h) : N3.rEq (.lst (ls.map fun c => PV.str (S [c]))) (.lst []) h Q := by
  rw [map_one]
  refine ⟨flat_stz _, rfl, by show PyData.depthAll (toDs (stz _)) + 1 ≤ 64; rw [depth_stz]; decide, ?_⟩
  rw [show PyData.eqv (toD (vw h (.lst (stz (ls.map fun c => [c]))))) (toD (vw h (.lst []))) = (stz (ls.map fun c => [c])).isEmpty from eqv_nil _, stz, List.isEmpty_map, List.isEmpty_map]
  exact q
theorem ne_nil1 {ls : Ln} {h : PH} {Q : PK} (q : Q (.bl (!ls.isEmpty)) h) : N3.rNe (.lst (ls.map fun c => PV.str (S [c]))) (.lst []) h Q := by
  rw [map_one]
  refine ⟨flat_stz _, rfl, by show PyData.depthAll (toDs (stz _)) + 1 ≤ 64; rw [depth_stz]; decide, ?_⟩
  rw [show PyData.eqv (toD (vw h (.lst (stz (ls.map fun c => [c]))))) (toD (vw h (.lst []))) = (stz (ls.map fun c => [c])).isEmpty from eqv_nil _, stz, List.isEmpty_map, List.isEmpty_map]
  exact q
theorem filt_all (l : Ln) (f : Nat → Bool) : (l.filter fun c => !f c).isEmpty = l.all f := by
  rw [Bool.eq_iff_iff, List.isEmpty_iff, List.filter_eq_nil_iff, List.all_eq_true]
  simp
theorem dig_idx {c : Nat} (h : digit c) : Txt.index0 ("0123456789" : Str) (S [c]) = some (c - 48) := by
  have e : ("0123456789" : Str) = S [48, 49, 50, 51, 52, 53, 54, 55, 56, 57] := cl_inj (by decide +kernel)
  rw [e, index_one]
  have z : ∀ i, i < 10 → (if 48 + i ∈ ([48, 49, 50, 51, 52, 53, 54, 55, 56, 57] : List Nat) then some (([48, 49, 50, 51, 52, 53, 54, 55, 56, 57] : List Nat).idxOf (48 + i)) else none) = some i := by decide +kernel
  unfold digit at h
  have := z (c - 48) (by omega)
  rwa [show 48 + (c - 48) = c by omega] at this
def optP : Option Wt → PV
  | some k => wP k
  | none => .non
def spReadWord : SpP := fun ps h Q => ∃ l : Ln, ps = [.str (S l)] ∧ l.length ≤ 1000000 ∧ Q (optP (readW l)) h
/-- figures without noughts ahead, by what is written back -/
theorem read_own {l : Ln} (hn : nameB l = false) : readW l = (let f := if l.headD 0 = 45 then l.tail else l
    if (1 ≤ f.length ∧ f.length ≤ 40) ∧ (∀ c ∈ f, digit c) then (let v : Int := if l.headD 0 = 45 then -((NumText.digitsVal f : Nat) : Int) else (NumText.digitsVal f : Nat)
      if itx v = l then some (.n v) else none) else none) := by
  unfold readW
  rw [hn, if_neg (by decide)]
  dsimp only
  by_cases d : l.headD 0 = 45
  · have nf : figB l = false := by
      cases e : figB l with
      | false => rfl
      | true =>
        obtain ⟨⟨h1, -⟩, h2, -⟩ := figB_iff.mp e
        cases l with
        | nil => simp at h1
        | cons c r =>
          have := h2 c List.mem_cons_self
          simp at d
          unfold digit at this; omega
    have el : l = 45 :: l.tail := by
      cases l with
      | nil => simp at d
      | cons c r => simp at d; rw [d]; rfl
    rw [nf, if_neg (by decide), if_pos d, if_pos d]
    by_cases c : (1 ≤ l.tail.length ∧ l.tail.length ≤ 40) ∧ ∀ c ∈ l.tail, digit c
    · rw [if_pos c]
      have hne : l.tail ≠ [] := fun z => by rw [z] at c; simp at c
      by_cases f : figB l.tail = true ∧ l.tail ≠ [48]
      · rw [if_pos ⟨d, f⟩]
        have e := dg_back hne c.2 (figB_iff.mp f.1).2.2
        have hp : 0 < NumText.digitsVal l.tail := Nat.pos_of_ne_zero fun z => f.2 (by rw [← e, z, dg_zero])
        rw [if_pos (by rw [itx_neg hp, e, ← el])]
      · rw [if_neg (fun z => f z.2)]
        rw [if_neg (fun z => f ?_)]
        by_cases hp : 0 < NumText.digitsVal l.tail
        · rw [itx_neg hp, el, List.tail_cons] at z
          have z := (List.cons.inj z).2
          refine ⟨figB_iff.mpr ⟨c.1, c.2, fun y => ?_⟩, fun y => ?_⟩
          · rw [← z] at y ⊢
            exact dg_head y
          · rw [y] at hp; exact absurd hp (by decide)
        · rw [show NumText.digitsVal l.tail = 0 by omega] at z
          have z : dg 0 = l := z
          rw [dg_zero] at z
          rw [← z] at d
          simp at d
    · rw [if_neg c, if_neg (fun z => c ?_)]
      obtain ⟨h1, h2, -⟩ := figB_iff.mp z.2.1
      exact ⟨h1, h2⟩
  · rw [if_neg d, if_neg d]
    by_cases c : (1 ≤ l.length ∧ l.length ≤ 40) ∧ ∀ c ∈ l, digit c
    · rw [if_pos c]
      have hne : l ≠ [] := fun z => by rw [z] at c; simp at c
      by_cases f : figB l = true
      · rw [if_pos f, if_pos (show itx ((NumText.digitsVal l : Nat) : Int) = l from dg_back hne c.2 (figB_iff.mp f).2.2)]
      · rw [if_neg f, if_neg (fun z => d z.1), if_neg (fun z => f ?_)]
        refine figB_iff.mpr ⟨c.1, c.2, fun y => ?_⟩
        have z : dg (NumText.digitsVal l) = l := z
        rw [← z] at y ⊢
        exact dg_head y
    · rw [if_neg c, if_neg (fun z => c ?_), if_neg (fun z => d z.1)]
      obtain ⟨h1, h2, -⟩ := figB_iff.mp z
      exact ⟨h1, h2⟩
theorem pure_law_read_word : ∀ qs h Q, qs.length = 1 → spReadWord qs h Q → m_law_read_word spWritten (ends Q) (sp0 4 qs) h := by
  rintro _ h Q - ⟨l, rfl, hl, q⟩
  have sl : (S l).length ≤ SZ := by rw [S_length]; show _ ≤ 16777216; omega
  have e1 : (l.take 1 = [45]) ↔ l.headD 0 = 45 := by
    cases l with
    | nil => simp
    | cons c r => simp
  unfold m_law_read_word
  refine seq_step fun P hP => ?_
  simp only [mAsg, mIf, mTest, mB, mSl, mNoPart, mPart, mVar, mC, gt, N3.sp0, N3.rSl, cl_S, cut_0, cut_1, N3.gN, N3.st, List.set]
  refine ⟨sl, eq_S (y := "-") (l := [45]) (by decide +kernel) ?_⟩
  have go : ∀ f : Ln, f = (if l.headD 0 = 45 then l.tail else l) → P [some (.str (S l)), some (.str (S f)), none, none] h := by
    intro f hf
    have lf : f.length ≤ 1000000 := by
      rw [hf]; split
      · rw [List.length_tail]; omega
      · exact hl
    have sf : (S f).length ≤ SZ := by rw [S_length]; show _ ≤ 16777216; omega
    subst hP
    refine seq_step fun P hP => ?_
    simp only [mIfS, mAndT, mTest, mChn, mBlt, mCons, mNil, mVar, mC, gt, N3.rLt, rCmp, N3.rLen, S_length]
    refine ⟨by rw [S_length] at sl; exact sl, ?_⟩
    -- no name
    have next : nameB l = false → P [some (.str (S l)), some (.str (S f)), none, none] h := by
      intro hn
      rw [read_own hn, ← hf] at q
      dsimp only at q
      subst hP
      refine seq_step fun P hP => ?_
      simp only [mIfS, mOrT, mNotT, mTest, mChn, mBlt, mCons, mNil, mVar, mC, gt, N3.rLt, rCmp, N3.rLen, S_length]
      refine ⟨by rw [S_length] at sf; exact sf, ?_⟩
      by_cases c1 : 0 < f.length
      · rw [decide_eq_true (show (0 : Int) < ((f.length : Nat) : Int) by omega), if_pos rfl]
        by_cases c2 : f.length < 41
        · rw [decide_eq_true (show ((f.length : Nat) : Int) < 41 by omega)]
          simp only [Bool.not_true, Bool.false_eq_true, if_false, mB, mLc, mSeqs, mLst, mNil, mVar, gt, N3.wp, N3.st, List.set]
          refine ⟨sf, filt_in (al := cl "0123456789") rfl (fun _ => rfl) (ne_nil1 ?_)⟩
          rw [filt_all]
          have ea : (f.all fun c => decide (c ∈ cl "0123456789")) = f.all fun c => decide (digit c) := by
            congr 1; funext c; exact figs c
          rw [ea]
          cases c3 : f.all fun c => decide (digit c) with
          | false =>
            simp only [Bool.not_false, if_true, mRet, mC]
            rw [if_neg (fun z => by
              have : (f.all fun c => decide (digit c)) = true := List.all_eq_true.mpr fun c hc => decide_eq_true (z.2 c hc)
              rw [c3] at this; cases this)] at q
            exact q
          | true =>
            have hd : ∀ c ∈ f, digit c := fun c hc => of_decide_eq_true (List.all_eq_true.mp c3 c hc)
            have cc : (1 ≤ f.length ∧ f.length ≤ 40) ∧ ∀ c ∈ f, digit c := ⟨⟨c1, by omega⟩, hd⟩
            rw [if_pos cc] at q
            simp only [Bool.not_true, Bool.false_eq_true, if_false, mNx]
            subst hP
            refine seq_step fun P hP => ?_
            simp only [mAsg, mC, N3.gN, N3.st, List.set]
            subst hP
            refine seq_step fun P hP => ?_
            simp only [mFor, mSeqs, mVar, gt]
            refine ⟨sf, ?_⟩
            rw [show ones (S f) = f.map (fun c => PV.str (S [c])) from by unfold ones; rw [cl_S]]
            refine forL_of (W := fun ps τ h' => ∃ (dn td : Ln) (v3 : Option PV), ps = td.map (fun c => PV.str (S [c])) ∧ f = dn ++ td ∧ τ = [some (.str (S l)), some (.str (S f)), some (.int (NumText.digitsVal dn : Nat)), v3] ∧ h' = h) ?_ ?_ _ _ _ ⟨[], f, none, rfl, rfl, rfl, rfl⟩
            · rintro p ps τ h' ⟨dn, td, v3, ep, ef, rfl, rfl⟩
              cases td with
              | nil => cases ep
              | cons c td =>
                injection ep with e3 e4
                subst e3 e4
                have dc : digit c := hd c (by rw [ef]; simp)
                refine ⟨trivial, fun P' hP' => ?_⟩
                simp only [mAsg, mB, mM1, mCons, mNil, mVar, mC, gt, N3.gN, N3.st, List.set, N3.rMul, rIdxS, dig_idx dc, N3.rAdd]
                refine ⟨.inr (by decide), ⟨_, rfl⟩, ?_⟩
                refine hP' _ _ ⟨dn ++ [c], td, some (.str (S [c])), rfl, by rw [ef]; simp, ?_, rfl⟩
                rw [NumText.digitsVal_snoc]
                have : ((NumText.digitsVal dn : Nat) : Int) * 10 + ((c - 48 : Nat) : Int) = ((NumText.digitsVal dn * 10 + (c - 48) : Nat) : Int) := by push_cast; rfl
                rw [this]
            · rintro τ h' ⟨dn, td, v3, ep, ef, rfl, rfl⟩
              have et : td = [] := by cases td with | nil => rfl | cons x r => cases ep
              subst et
              rw [List.append_nil] at ef
              subst ef
              refine ⟨trivial, ?_⟩
              show P _ _
              subst hP
              refine seq_step fun P hP => ?_
              simp only [mAsg, mIf, mTest, mB, mSl, mNoPart, mPart, mVar, mC, gt, N3.rSl, cl_S, cut_0, N3.gN, N3.st, List.set]
              refine ⟨sl, eq_S (y := "-") (l := [45]) (by decide +kernel) ?_⟩
              clear sf
              have fin : ∀ v : Int, v = (if l.headD 0 = 45 then -((NumText.digitsVal f : Nat) : Int) else (NumText.digitsVal f : Nat)) → P [some (.str (S l)), some (.str (S f)), some (.int v), v3] h' := by
                intro v hv
                rw [← hv] at q
                have bv : v.natAbs < 10 ^ 40 := by
                  have := val_40 hd (by omega)
                  rw [hv]; split <;> omega
                subst hP
                simp only [mRet, mIf, mTest, mB, mBlt, mCons, mNil, mTup, mVar, mC, gt]
                refine ⟨[.n v], rfl, fun k hk => ?_, by simp, ?_⟩
                · rw [List.mem_singleton] at hk; subst hk; exact bv
                · refine eq_S (y := S l) (l := l) rfl ?_
                  have er : rowT [.n v] = itx v := rfl
                  rw [er]
                  by_cases c4 : itx v = l
                  · rw [if_pos c4] at q
                    rw [decide_eq_true c4]
                    exact q
                  · rw [if_neg c4] at q
                    rw [decide_eq_false c4]
                    exact q
              by_cases d : l.headD 0 = 45
              · rw [decide_eq_true (e1.mpr d)]
                simp only [if_true, N3.rSub, rII0]
                exact fin _ (by rw [if_pos d]; omega)
              · rw [decide_eq_false (fun z => d (e1.mp z))]
                simp only [Bool.false_eq_true, if_false]
                exact fin _ (by rw [if_neg d])
        · rw [decide_eq_false (show ¬ ((f.length : Nat) : Int) < 41 by omega)]
          simp only [Bool.not_false, if_true, mRet, mC]
          rw [if_neg (fun z => c2 (by have := z.1.2; omega))] at q
          exact q
      · rw [decide_eq_false (show ¬ (0 : Int) < ((f.length : Nat) : Int) by omega), if_neg (by decide)]
        simp only [Bool.not_false, if_true, mRet, mC]
        rw [if_neg (fun z => c1 z.1.1)] at q
        exact q
    by_cases c1 : 0 < l.length
    · rw [decide_eq_true (show (0 : Int) < ((l.length : Nat) : Int) by omega), if_pos rfl]
      by_cases c2 : l.length < 7
      · rw [decide_eq_true (show ((l.length : Nat) : Int) < 7 by omega)]
        simp only [if_true, mB, mLc, mSeqs, mLst, mNil, mVar, gt, N3.wp, N3.st, List.set]
        refine ⟨sl, filt_in (al := lt26) rfl (fun _ => rfl) (eq_nil1 ?_)⟩
        rw [filt_all]
        have en : nameB l = l.all fun c => decide (c ∈ lt26) := by
          unfold nameB
          rw [decide_eq_true (show 1 ≤ l.length from c1), decide_eq_true (by omega : l.length ≤ 6)]; rfl
        rw [← en]
        cases hn : nameB l with
        | false =>
          simp only [Bool.false_eq_true, if_false, mNx]
          exact next hn
        | true =>
          simp only [if_true, mRet, mVar, gt]
          unfold readW at q
          rw [if_pos hn] at q
          exact q
      · rw [decide_eq_false (show ¬ ((l.length : Nat) : Int) < 7 by omega)]
        simp only [Bool.false_eq_true, if_false, mNx]
        refine next ?_
        cases hn : nameB l with
        | false => rfl
        | true => have := (nameB_iff.mp hn).1.2; omega
    · rw [decide_eq_false (show ¬ (0 : Int) < ((l.length : Nat) : Int) by omega)]
      simp only [Bool.false_eq_true, if_false, mNx]
      refine next ?_
      cases hn : nameB l with
      | false => rfl
      | true => have := (nameB_iff.mp hn).1.1; omega
  by_cases d : l.headD 0 = 45
  · rw [decide_eq_true (e1.mpr d)]
    simp only [if_true]
    exact ⟨sl, go _ (by rw [if_pos d])⟩
  · rw [decide_eq_false (fun z => d (e1.mp z))]
    simp only [Bool.false_eq_true, if_false]
    exact go _ (by rw [if_neg d])
end Wneversaid_k04_rows_written_and_read

namespace Wneversaid_k04_rows_written_and_read
open PySem PySem.Spec PyProof.Rows L2 N3
/-! ### read by the law, told, right -/
theorem depth_opts : ∀ os : List (Option Wt), PyData.depthAll (toDs (os.map optP)) = 0
  | [] => rfl
  | o :: os => by
    have ih := depth_opts os
    simp only [List.map_cons, toDs, PyData.depthAll, ih]
    rcases o with _ | (i | l) <;> simp [optP, wP, toD, PyData.depth]
theorem flat_opts (os : List (Option Wt)) : flats (os.map optP) = true := flats_of fun p hp => by
  obtain ⟨r, -, rfl⟩ := List.mem_map.mp hp
  rcases r with _ | (i | l) <;> rfl
theorem any_opts : ∀ os : List (Option Wt), ((toDs (os.map optP)).any fun d => PyData.eqv d .none) = os.any Option.isNone
  | [] => rfl
  | none :: os => by simp [toDs, toD, optP, PyData.eqv]
  | some k :: os => by
    have ih := any_opts os
    have e : PyData.eqv (toD (optP (some k))) .none = false := by rcases k with i | l <;> rfl
    simp only [List.map_cons, toDs, List.any_cons, ih, e, Bool.false_or, Option.isNone_some]
theorem any_none {os : List (Option Wt)} (h : none ∈ os) : os.any Option.isNone = true := List.any_eq_true.mpr ⟨_, h, rfl⟩
theorem any_some {os : List (Option Wt)} (h : none ∉ os) : os.any Option.isNone = false := by
  cases e : os.any Option.isNone with
  | false => rfl
  | true =>
    obtain ⟨x, hx, z⟩ := List.any_eq_true.mp e
    cases x with
    | none => exact absurd hx h
    | some k => cases z
theorem readL_os : ∀ cs : List Ln, (none ∈ cs.map readW ∧ readL cs = none) ∨ (none ∉ cs.map readW ∧ ∃ ks, readL cs = some ks ∧ (cs.map readW).map optP = ks.map wP ∧ ks.length = cs.length ∧ ∀ k ∈ ks, WOk k)
  | [] => .inr ⟨by simp, [], rfl, rfl, rfl, fun _ h => (List.not_mem_nil h).elim⟩
  | c :: cs => by
    have ih := readL_os cs
    cases e : readW c with
    | none => exact .inl ⟨by simp [e], by rw [readL, e]⟩
    | some k =>
      rcases ih with ⟨h1, h2⟩ | ⟨h1, ks, h2, h3, h4, h5⟩
      · exact .inl ⟨by rw [List.map_cons]; exact List.mem_cons_of_mem _ h1, by rw [readL, e, h2]⟩
      · refine .inr ⟨?_, k :: ks, by rw [readL, e, h2], ?_, by simp [h4], fun x hx => ?_⟩
        · rw [List.map_cons, e]
          intro z
          rcases List.mem_cons.mp z with z | z
          · cases z
          · exact h1 z
        · rw [List.map_cons, List.map_cons, e, h3]; rfl
        · rcases List.mem_cons.mp hx with rfl | hx
          · exact (readW_back e).2
          · exact h5 x hx
def rowO : Option (List Wt) → PV
  | some ks => .tup (ks.map wP)
  | none => .non
/-- a text, or what is none -/
inductive Thg (h : PH) : PV → Option (List Wt) → Prop
  | s (l : Ln) (hl : l.length ≤ 40000) : Thg h (.str (S l)) (readL (splc 32 l))
  | o (p : PV) (t : Tn) (e : tn h p = some t) (n : isI t .str = false) : Thg h p none
def spRead : SpP := fun ps h Q => ∃ p r, ps = [p] ∧ Thg h p r ∧ Q (rowO r) h
theorem pure_law_read : ∀ qs h Q, qs.length = 1 → spRead qs h Q → m_law_read spReadWord (ends Q) (sp0 3 qs) h := by
  rintro _ h Q - ⟨p, r, rfl, T, q⟩
  unfold m_law_read
  refine seq_step fun P hP => ?_
  simp only [mIfS, mNotT, mTest, mIsI, mVar, gt, N3.sp0]
  cases T with
  | o p t e n =>
    rw [e]
    simp only [n, Bool.not_false, if_true, mRet, mC]
    exact q
  | s l hl =>
    simp only [tn_str, N3.isI, Bool.not_true, Bool.false_eq_true, if_false, mNx]
    subst hP
    refine seq_step fun P hP => ?_
    simp only [mAsg, mLc, mSeqs, mM1, mBlt, mCons, mNil, mVar, mC, gt, N3.sp0, N3.rSplit, N3.wp, N3.st, seqL]
    refine ⟨⟨_, rfl⟩, by decide +kernel, by rw [S_length]; show _ + 2 ≤ 16777216; omega, ?_⟩
    rw [split_S (c := 32) (by decide) l (by decide +kernel), List.map_map]
    refine lcL_all (fun k => PV.str (S k)) (fun k => optP (readW k)) trivial (splc 32 l) (fun c hc P z => ?_) ?_
    · simp only [gN, mBlt, mCons, mNil, mVar, gt, N3.st]
      have := (splc_mem (c := 32) l c hc).2.2
      exact ⟨c, rfl, by omega, z⟩
    · simp only [gN, N3.st]
      subst hP
      have em : List.map (fun k => optP (readW k)) (splc 32 l) = ((splc 32 l).map readW).map optP := by rw [List.map_map]; rfl
      simp only [mRet, mIf, mTest, mB, mVar, mC, mBlt, mCons, mNil, gt, em, rInP, listed, seqL, vw, toD]
      refine ⟨rfl, flat_opts _, by rw [depth_opts]; decide, ?_⟩
      rw [any_opts, Bool.bne_false]
      rcases readL_os (splc 32 l) with ⟨h1, h2⟩ | ⟨h1, ks, h2, h3, -, -⟩
      · rw [h2] at q
        rw [any_none h1]
        simp only [if_true]
        exact q
      · rw [h2] at q
        rw [any_some h1]
        simp only [Bool.false_eq_true, if_false, N3.rTupOf, listed, seqL]
        rw [h3]
        exact q
def toldP : Option (List Wt) → PV
  | some ks => .lst [.str "row", .tup (ks.map wP)]
  | none => .lst [.str "refused", .bl true]
def spTold : SpP := fun ps h Q => ∃ p r, ps = [p] ∧ Thg h p r ∧ Q (toldP r) h
theorem pure_law_told {Ad_NoText Ad_SaidError Ad_NoFit Ad_NoPages Ad_NoWorld Ad_There Ad_Up Ad_Missing : Addr} : ∀ qs h Q, qs.length = 1 → spTold qs h Q → m_law_told Ad_SaidError Ad_NoText Ad_NoFit Ad_NoPages Ad_NoWorld Ad_There Ad_Up Ad_Missing (spReadRow Ad_NoText) (ends Q) (sp0 4 qs) h := by
  rintro _ h Q - ⟨p, r, rfl, T, q⟩
  unfold m_law_told
  refine seq_step fun P hP => ?_
  simp only [mAsg, mLst, mCons, mNil, mC, N3.gN, N3.st, N3.sp0, List.set]
  subst hP
  refine seq_step fun P hP => ?_
  simp only [mTry, mAsg, mLst, mCallX, mCons, mNil, mVar, mC, gt, N3.gN, N3.st, List.set]
  have ref : toldP none = toldP r → mHds w0 { nx := P, rt := (ends Q).rt, bk := fun _ _ => False, ct := fun _ _ => False } [⟨(tblh_SaidError Ad_NoText), some 2, fun a C d => mSeq (mAsg (mIsEs a C d (tbl_0 Ad_NoText) [.ref Ad_NoFit, .ref Ad_NoPages, .ref Ad_NoWorld, .ref Ad_There, .ref Ad_Up] (mVar 2)) (gN 3))
  (mAsg (mLst (mCons (mC (.str "refused")) (mCons (mAnd (mIsE a C d (tbl_2 Ad_NoText) (.ref Ad_NoText) (mVar 2)) (mAnd (mNot (mVar 3)) (mNot (mIsE a C d (tbl_1 Ad_NoText) (.ref Ad_Missing) (mVar 2))))) (mNil)))) (gN 1))⟩] (exN Ad_NoText) [some p, some (.lst [.str "none", .non]), none, none] h := by
    intro er
    simp only [mHds]
    refine ⟨true, by simp [tblh_SaidError], fun _ b hb => ⟨fun _ => ?_, fun ns vs dd2 e => by cases e⟩, fun e => by cases e⟩
    refine seq_step fun P2 hP2 => ?_
    simp only [offP, onP, outP, loseO, mIsE, mIsEs, mCs, mAsg, mTup, mNx, N3.mDput, N3.mB, N3.mU, N3.mVar, N3.mC, N3.sp0, N3.gt, N3.st, N3.rIx, N3.seqL, N3.dctL, N3.kOf, N3.rAdd, N3.mAsg, N3.gN, N3.mIfS, N3.mTest, N3.mPop, N3.mAppend, N3.mDrop, N3.mRet, N3.mRetN, N3.mNx, N3.mBrk, N3.mCnt, N3.mLst, N3.mLstM, N3.mCons, N3.mNil, N3.mTup, N3.mBlt, N3.mKw, N3.cat2, N3.cat2r, N3.gS, N3.gL, N3.mSlM, N3.rSlM, N3.mM1, N3.mSl, N3.mRev, N3.mStep, N3.mRevM, N3.mPart, N3.mNoPart, N3.rII, N3.rII0, N3.rIB, N3.rCmp, N3.rLt, N3.rLe, N3.rGt, N3.rGe, N3.mIsI, N3.tn, N3.isI, N3.mDisp, N3.mDct0, N3.mDct0M, N3.mPar3, N3.mAug, N3.rIAdd, N3.mExtend, N3.mInsert, N3.mPopAt, N3.rMin2, N3.rMax2, N3.rIntT, N3.rSplit, N3.rSplitM, N3.rAddM, N3.gPut, N3.mFmt, N3.mJs, N3.mJoin, N3.rDictP, N3.mRepM, N3.rListA, N3.rSortA, N3.mLc2, N3.lcI, N3.lcO, N3.rAllB, N3.rAnyB, N3.rStrI, N3.rIntO, N3.vwL, N3.rMul, N3.rMulT, N3.rNeg, N3.rSub, N3.rDiv, N3.rMod, N3.rPow, N3.mPar, N3.mAndT, N3.mOrT, N3.mNotT, N3.mAnd, N3.mOr, N3.mOrV, N3.mAndV, N3.trv, N3.mNot, N3.mIf, N3.mChn, N3.mKeep, N3.mRep, N3.mDispM, N3.mPs, N3.ends, N3.rLen, N3.rListOf, N3.rListOfM, N3.rTupOf, N3.rSumI, N3.listed, N3.rSl, N3.rRev, N3.rEq, N3.rNe, N3.rIsN, N3.rNotN, N3.isNon, N3.vw, N3.mYes, N3.gT, N3.gsCons, N3.gsNil, N3.mFor, N3.mSeqs, N3.mLc, N3.mLcM, N3.mRng1, N3.mRng2, N3.mEnum, N3.mEnumA, N3.mZip, N3.wp, N3.rJoin, N3.rSS, N3.rIdxS, N3.rRepr, N3.flat, N3.flats, N3.toD, N3.toDs, List.length_cons, List.length_nil, List.append_eq, List.cons_append, List.nil_append, List.map_cons, List.map_nil, if_true, if_false, Bool.false_eq_true, decide_eq_true_eq, Option.some.injEq, true_and, and_true, Bool.not_true, Bool.not_false, reduceCtorEq, Bool.and_self, Bool.and_true, Bool.true_and, ite_true, ite_false, N3.rIsE, rIsEs, held, up_same]
    refine ⟨false, by simp [tbl_0], ?_⟩
    subst hP2
    simp only [offP, onP, outP, loseO, mIsE, mIsEs, mCs, mAsg, mTup, mLst, mAnd, mNot, mNx, N3.mDput, N3.mB, N3.mU, N3.mVar, N3.mC, N3.sp0, N3.gt, N3.st, N3.rIx, N3.seqL, N3.dctL, N3.kOf, N3.rAdd, N3.mAsg, N3.gN, N3.mIfS, N3.mTest, N3.mPop, N3.mAppend, N3.mDrop, N3.mRet, N3.mRetN, N3.mNx, N3.mBrk, N3.mCnt, N3.mLst, N3.mLstM, N3.mCons, N3.mNil, N3.mTup, N3.mBlt, N3.mKw, N3.cat2, N3.cat2r, N3.gS, N3.gL, N3.mSlM, N3.rSlM, N3.mM1, N3.mSl, N3.mRev, N3.mStep, N3.mRevM, N3.mPart, N3.mNoPart, N3.rII, N3.rII0, N3.rIB, N3.rCmp, N3.rLt, N3.rLe, N3.rGt, N3.rGe, N3.mIsI, N3.tn, N3.isI, N3.mDisp, N3.mDct0, N3.mDct0M, N3.mPar3, N3.mAug, N3.rIAdd, N3.mExtend, N3.mInsert, N3.mPopAt, N3.rMin2, N3.rMax2, N3.rIntT, N3.rSplit, N3.rSplitM, N3.rAddM, N3.gPut, N3.mFmt, N3.mJs, N3.mJoin, N3.rDictP, N3.mRepM, N3.rListA, N3.rSortA, N3.mLc2, N3.lcI, N3.lcO, N3.rAllB, N3.rAnyB, N3.rStrI, N3.rIntO, N3.vwL, N3.rMul, N3.rMulT, N3.rNeg, N3.rSub, N3.rDiv, N3.rMod, N3.rPow, N3.mPar, N3.mAndT, N3.mOrT, N3.mNotT, N3.mAnd, N3.mOr, N3.mOrV, N3.mAndV, N3.trv, N3.mNot, N3.mIf, N3.mChn, N3.mKeep, N3.mRep, N3.mDispM, N3.mPs, N3.ends, N3.rLen, N3.rListOf, N3.rListOfM, N3.rTupOf, N3.rSumI, N3.listed, N3.rSl, N3.rRev, N3.rEq, N3.rNe, N3.rIsN, N3.rNotN, N3.isNon, N3.vw, N3.mYes, N3.gT, N3.gsCons, N3.gsNil, N3.mFor, N3.mSeqs, N3.mLc, N3.mLcM, N3.mRng1, N3.mRng2, N3.mEnum, N3.mEnumA, N3.mZip, N3.wp, N3.rJoin, N3.rSS, N3.rIdxS, N3.rRepr, N3.flat, N3.flats, N3.toD, N3.toDs, List.length_cons, List.length_nil, List.append_eq, List.cons_append, List.nil_append, List.map_cons, List.map_nil, if_true, if_false, Bool.false_eq_true, decide_eq_true_eq, Option.some.injEq, true_and, and_true, Bool.not_true, Bool.not_false, reduceCtorEq, Bool.and_self, Bool.and_true, Bool.true_and, ite_true, ite_false, N3.rIsE, rIsEs, held, up_same]
    refine ⟨true, by simp [tbl_2], ?_⟩
    rw [if_pos rfl]
    refine ⟨false, by simp [tbl_1], ?_⟩
    subst hP
    simp only [mRet, mVar, gt, Bool.not_false]
    have q' : Q (toldP none) h := er ▸ q
    exact q'
  cases T with
  | o p t e n =>
    refine ⟨p, rfl, .inr ⟨t, e, n, ?_⟩⟩
    exact ref rfl
  | s l hl =>
    refine ⟨_, rfl, .inl ⟨l, rfl, by omega, ?_⟩⟩
    cases e : readL (splc 32 l) with
    | some ks =>
      subst hP
      rw [e] at q
      simp only [mRet, mVar, gt]
      exact q
    | none => exact ref (by rw [e])
theorem let_tx {l : Ln} (h : nameB l = true) : Tx 6 l := ⟨fun c hc => by
  have := (nameB_iff.mp h).2 c hc
  unfold letter at this; omega, (nameB_iff.mp h).1.2⟩
theorem th_wt {k : Wt} (h : WOk k) : TH 0 150 (wP k) := by
  cases k with
  | n i => exact (TH.int (k := 139) (Nat.lt_of_lt_of_le h (by decide))).mono (Nat.le_refl _) (by decide)
  | w l => exact (TH.str (let_tx h)).mono (Nat.le_refl _) (by decide)
theorem th_row {ks : List Wt} {n : Nat} (h : ∀ k ∈ ks, WOk k) (hl : ks.length ≤ n) : TH 1 (n * 152 + 3) (.tup (ks.map wP)) := by
  refine (TH.tup (n := 0) (z := 150) fun p hp => ?_).mono (Nat.le_refl _) ?_
  · obtain ⟨k, hk, rfl⟩ := List.mem_map.mp hp
    exact th_wt (h k hk)
  · rw [List.length_map]
    have := Nat.mul_le_mul_right 152 hl
    omega
theorem th_told {r : Option (List Wt)} (h : ∀ ks, r = some ks → (∀ k ∈ ks, WOk k) ∧ ks.length ≤ 40001) : TH 2 12160320 (toldP r) := by
  cases r with
  | none => exact (TH.lst (n := 1) (z := 6080155) (by
      intro p hp
      simp only [List.mem_cons, List.not_mem_nil, or_false] at hp
      rcases hp with rfl | rfl
      · exact (TH.strS (n := 7) (x := "refused") ⟨by decide +kernel, by decide +kernel⟩).mono (by decide) (by decide)
      · exact TH.bl.mono (by decide) (by decide))).mono (Nat.le_refl _) (by decide)
  | some ks =>
    obtain ⟨h1, h2⟩ := h ks rfl
    exact (TH.lst (n := 1) (z := 6080155) (by
      intro p hp
      simp only [List.mem_cons, List.not_mem_nil, or_false] at hp
      rcases hp with rfl | rfl
      · exact (TH.strS (n := 7) (x := "row") ⟨by decide +kernel, by decide +kernel⟩).mono (by decide) (by decide)
      · exact (th_row h1 h2).mono (Nat.le_refl _) (by decide))).mono (Nat.le_refl _) (by simp)
theorem Thg.ok {h : PH} {p : PV} {r : Option (List Wt)} (T : Thg h p r) : ∀ ks, r = some ks → (∀ k ∈ ks, WOk k) ∧ ks.length ≤ 40001 := by
  intro ks e
  cases T with
  | o p t e' n => cases e
  | s l hl =>
    rcases readL_os (splc 32 l) with ⟨h1, h2⟩ | ⟨h1, ks', h2, h3, h4, h5⟩
    · rw [h2] at e; cases e
    · rw [h2] at e; cases e
      have := splc_few (c := 32) l
      exact ⟨h5, by omega⟩
def spRight : SpP := fun ps h Q => ∃ p r, ps = [p] ∧ Thg h p r ∧ Q (.bl true) h
theorem vwL_told (h : PH) (r : Option (List Wt)) : vwL h (toldP r) = toldP r := by cases r <;> rfl
theorem pure_law_right : ∀ qs h Q, qs.length = 1 → spRight qs h Q → m_law_right spRead spTold (ends Q) (sp0 3 qs) h := by
  rintro _ h Q - ⟨p, r, rfl, T, q⟩
  unfold m_law_right
  refine seq_step fun P hP => ?_
  simp only [mAsg, mBlt, mCons, mNil, mVar, gt, N3.gN, N3.st, N3.sp0, List.set]
  refine ⟨p, r, rfl, T, ?_⟩
  subst hP
  refine seq_step fun P hP => ?_
  have t := th_told T.ok
  have fin : P [some p, some (rowO r), some (toldP r)] h := by
    subst hP
    simp only [mRet, mB, mBlt, mCons, mNil, mVar, gt]
    refine ⟨p, r, rfl, T, ?_⟩
    refine TH.repr (n := 2) (z := 12160320) (by rw [vwL_told]; exact t) (by decide) (by decide) ?_
    refine TH.repr (n := 2) (z := 12160320) (by rw [vwL_told]; exact t) (by decide) (by decide) ?_
    refine ⟨rfl, rfl, by simp [vw, toD, PyData.depth], ?_⟩
    simp only [vw, toD, eqv_str]
    exact q
  cases r with
  | none =>
    simp only [mAsg, mIf, mTest, mB, mLst, mCons, mNil, mVar, mC, gt, N3.gN, N3.st, List.set, rowO, N3.rIsN, N3.isNon]
    exact fin
  | some ks =>
    simp only [mAsg, mIf, mTest, mB, mLst, mCons, mNil, mVar, mC, gt, N3.gN, N3.st, List.set, rowO, N3.rIsN, N3.isNon]
    exact fin
end Wneversaid_k04_rows_written_and_read

namespace Wneversaid_k04_rows_written_and_read
open PySem PySem.Spec PyProof.Rows L2 N3
/-! ### worths drawn, texts bent -/
theorem pure_law_draw : ∀ qs h Q, qs.length = 2 → spDraw qs h Q → m_law_draw (ends Q) (sp0 4 qs) h := pure_draw
theorem pure_law_deck : ∀ qs h Q, qs.length = 1 → spDeck qs h Q → m_law_deck (ends Q) (sp0 4 qs) h := pure_deck
theorem pure_law_pick : ∀ qs h Q, qs.length = 2 → spPick qs h Q → m_law_pick spDraw (ends Q) (sp0 2 qs) h := pure_pick
def spWord : SpP := fun ps h Q => ∃ (D : Dk) (n : Nat), ps = [.ref D.d] ∧ D.At n h ∧ n < 800000000 ∧ ∀ l h', nameB l = true → D.At (n + 10) h' → Q (.str (S l)) h'
theorem pure_law_word : ∀ qs h Q, qs.length = 1 → spWord qs h Q → m_law_word spDraw spPick (ends Q) (sp0 3 qs) h := by
  rintro _ h Q - ⟨D, n, rfl, d, hn, k⟩
  unfold m_law_word
  refine seq_step fun P hP => ?_
  simp only [mAsg, mC, N3.gN, N3.st, N3.sp0, List.set]
  subst hP
  simp only [mRet, mM1, mC, mCons, mLc, mRng1, mB, mBlt, mVar, mNil, gt]
  refine ⟨⟨_, rfl⟩, ?_⟩
  refine draw_to (many := 6) d (by omega) (by decide) (by decide) fun r h1 r0 r1 d1 => ?_
  simp only [N3.rAdd]
  refine ⟨by omega, ?_⟩
  have hl : (rng 0 (1 + r).toNat).length = (1 + r).toNat := rng_len
  refine runs (cost := 1) (fun v => ∃ c, letter c ∧ v = .str (S [c])) _ (fun p hp n' h' Q' d' hn1 hn2 kk => ?_) d1 fun zs h2 hz hzl d2 => ?_
  · refine pick_str d' (by rw [hl] at hn2; omega) (by decide +kernel) (by decide +kernel) fun c hc h3 d3 => kk _ h3 ⟨c, ?_, rfl⟩ d3
    exact lt26_let.mp hc
  · obtain ⟨l, rfl, hc, hl2⟩ := signs_of letter zs hz
    rw [hzl, hl] at hl2
    simp only [rJoin, seqL]
    refine ⟨l.map fun c => [c], rfl, ?_, ?_⟩
    · rw [sum_ones, List.length_map, show ("" : Str).length = 0 from rfl]
      show _ ≤ 16777216
      omega
    · rw [show cl ("" : Str) = [] by decide +kernel, joinL_nil, flat_ones]
      exact k l h2 (nameB_iff.mpr ⟨⟨by omega, by omega⟩, hc⟩) (d2.mono (by rw [hl]; omega))
def spWorth : SpP := fun ps h Q => ∃ (D : Dk) (n : Nat), ps = [.ref D.d] ∧ D.At n h ∧ n < 700000000 ∧ ∀ w h', WOk w → D.At (n + 20) h' → Q (wP w) h'
theorem pure_law_worth : ∀ qs h Q, qs.length = 1 → spWorth qs h Q → m_law_worth spPick spDraw spWord (ends Q) (sp0 4 qs) h := by
  rintro _ h Q - ⟨D, n, rfl, d, hn, k⟩
  unfold m_law_worth
  refine seq_step fun P hP => ?_
  simp only [mPar, mBlt, mLst, mB, mCons, mNil, mVar, mC, gt, N3.st, N3.sp0, List.set]
  refine draw_to (many := 6) d (by omega) (by decide) (by decide) fun w h1 w0 w1 d1 => ?_
  simp only [N3.rPow, rII]
  refine ⟨by unfold CPow; decide, by unfold CPow; decide, by unfold CPow; decide, by unfold CPow; decide, by unfold CPow; decide, ?_⟩
  refine pick_lst d1 (by omega) (by simp) (by simp) fun v hv h2 d2 => ?_
  have ex : ∃ far : Int, v = .int far ∧ 10 ≤ far ∧ far ≤ 10 ^ 40 := by
    simp only [List.mem_cons, List.not_mem_nil, or_false] at hv
    rcases hv with rfl | rfl | rfl | rfl | rfl | rfl
    · exact ⟨10, rfl, by decide, by decide⟩
    · exact ⟨_, rfl, by decide, by decide⟩
    · exact ⟨_, rfl, by decide, by decide⟩
    · exact ⟨_, rfl, by decide, by decide⟩
    · exact ⟨_, rfl, by decide, by decide⟩
    · exact ⟨_, rfl, by decide, by decide⟩
  obtain ⟨far, rfl, f0, f1⟩ := ex
  subst hP
  refine seq_step fun P hP => ?_
  simp only [mAsg, mBlt, mLst, mB, mCons, mNil, mVar, mC, gt, N3.gN, N3.st, List.set]
  refine draw_to (many := far) d2 (by omega) (by omega) (by omega) fun a h3 a0 a1 d3 => ?_
  refine draw_to (many := far) d3 (by omega) (by omega) (by omega) fun b h4 b0 b1 d4 => ?_
  simp only [N3.rSub, rII0]
  subst hP
  simp only [mRet, mBlt, mLst, mB, mCons, mNil, mVar, mC, gt]
  refine ⟨D, _, rfl, d4, by omega, fun l h5 nm d5 => ?_⟩
  refine draw_to (many := 21) d5 (by omega) (by decide) (by decide) fun c h6 c0 c1 d6 => ?_
  simp only [N3.rSub, rII0, N3.rAdd, seqL, List.cons_append, List.nil_append]
  refine ⟨by show _ ≤ 16777216; simp, ?_⟩
  refine ix_lst w0 (by simp; omega) fun v hv => ?_
  have big : (10 : Int) ^ 40 = 10000000000000000000000000000000000000000 := by decide
  have bigN : (10 : Nat) ^ 40 = 10000000000000000000000000000000000000000 := by decide
  have dd := d6.mono (show _ ≤ n + 20 by omega)
  rw [big] at f1
  simp only [List.mem_cons, List.not_mem_nil, or_false] at hv
  rcases hv with rfl | rfl | rfl | rfl | rfl | rfl
  · exact k (.n a) h6 (show a.natAbs < 10 ^ 40 by omega) dd
  · exact k (.n (0 - b)) h6 (show (0 - b).natAbs < 10 ^ 40 by omega) dd
  · exact k (.n (far - 1)) h6 (show (far - 1).natAbs < 10 ^ 40 by omega) dd
  · exact k (.n (1 - far)) h6 (show (1 - far).natAbs < 10 ^ 40 by omega) dd
  · exact k (.w l) h6 nm dd
  · exact k (.n (c - 10)) h6 (show (c - 10).natAbs < 10 ^ 40 by omega) dd
theorem join_set {c : Nat} : ∀ (ws : List Ln) (j : Nat) (p : Ln), (TL.joinL [c] (ws.set j p)).length ≤ (TL.joinL [c] ws).length + p.length
  | [], j, p => by simp [TL.joinL]
  | [w], 0, p => by simp [TL.joinL]
  | [w], j + 1, p => by simp [TL.joinL]
  | w :: v :: r, 0, p => by
    rw [List.set_cons_zero, join2, join2]
    simp only [List.length_append]; omega
  | w :: v :: r, j + 1, p => by
    have ih := join_set (c := c) (v :: r) j p
    rw [List.set_cons_succ]
    cases e : (v :: r).set j p with
    | nil =>
      have := congrArg List.length e
      simp at this
    | cons x y =>
      rw [e] at ih
      rw [join2, join2]
      simp only [List.length_append] at ih ⊢
      omega
theorem tx_mem {n : Nat} {l : Ln} (h : ∀ c ∈ l, c < 128) (hl : l.length ≤ n) : Tx n l := ⟨h, hl⟩
def spBent : SpP := fun ps h Q => ∃ (D : Dk) (n N : Nat) (l : Ln), ps = [.ref D.d, .str (S l)] ∧ D.At n h ∧ n < 800000000 ∧ Tx N l ∧ N ≤ 2000 ∧ ∀ l' h', Tx (4 * N + 100) l' → D.At (n + 10) h' → Q (.str (S l')) h'
theorem tx_rd {N : Nat} {l : Ln} (t : Tx N l) (h : N ≤ 100000) : (S l).length ≤ SZ := t.len (by omega)
theorem pure_law_bent : ∀ qs h Q, qs.length = 2 → spBent qs h Q → m_law_bent spDraw spPick (ends (frg Q)) (sp0 7 qs) h := by
  rintro _ h Q - ⟨D, n, N, l, rfl, d, hn, tl, hN, k⟩
  have sl : (S l).length ≤ SZ := tl.len (by omega)
  have ll := tl.n
  unfold m_law_bent
  refine seq_step fun P hP => ?_
  simp only [mPar, mBlt, mB, mCons, mNil, mVar, mC, gt, N3.st, N3.sp0, N3.rLen, S_length, List.set]
  refine draw_to (many := 6) d (by omega) (by decide) (by decide) fun way h1 w0 w1 d1 => ?_
  simp only [N3.rAdd]
  refine ⟨by rw [S_length] at sl; exact sl, draw_to (many := ((l.length : Nat) : Int) + 1) d1 (by omega) (by omega) (by omega) fun at_ h2 a0 a1 d2 => ?_⟩
  subst hP
  refine seq_step fun P hP => ?_
  simp only [mAsg, mBlt, mCons, mNil, mVar, mC, gt, N3.gN, N3.st, List.set]
  refine pick_str d2 (by omega) (by decide +kernel) (by decide +kernel) fun c hc h3 d3 => ?_
  have tc : Tx 1 [c] := Tx.one (by
    have : ∀ c ∈ cl ("0123456789- -0 abz:A+_.\n~" : Str), c < 128 := by decide +kernel
    exact this c hc)
  have cut1 : ∀ lo hi, Tx N (cut l lo hi) := fun lo hi => tl.cut lo hi
  have fin : ∀ l', Tx (4 * N + 100) l' → (ends (frg Q)).rt (.str (S l')) h3 := fun l' t => frg_of (k l' h3 t (d3.mono (by omega)))
  subst hP
  refine seq_step fun P hP => ?_
  simp only [mIfS, mTest, mB, mVar, mC, gt, N3.rLt, rCmp]
  refine ite2 (fun c1 => ?_) (fun c1 => ?_)
  · have c1 : way < 3 := of_decide_eq_true c1
    simp only [mRet, mB, mLst, mCons, mNil, mSl, mNoPart, mPart, mVar, mC, gt, N3.rSl, N3.rAdd, cl_S, S_length, S_append, rII, rII0]
    have cz : ∀ lo hi, (cut l lo hi).length ≤ N := fun lo hi => (cut1 lo hi).n
    have z1 := cz none (some at_)
    have z2 := cz (some at_) none
    have z3 := cz (some (at_ + 1)) none
    have sl' : List.length l ≤ SZ := by rw [S_length] at sl; exact sl
    have hz : SZ = 16777216 := rfl
    simp only [List.length_append, List.length_singleton]
    refine ⟨sl', by omega, sl', by omega, sl', by omega, sl', by omega, sl', sl', by omega, ?_⟩
    refine ix_lst w0 (by simp; omega) fun v hv => ?_
    simp only [List.mem_cons, List.not_mem_nil, or_false] at hv
    rcases hv with rfl | rfl | rfl
    · exact fin _ (((cut1 _ _).app tc).app (cut1 _ _) |>.mono (by omega))
    · exact fin _ (((cut1 _ _).app tc).app (cut1 _ _) |>.mono (by omega))
    · exact fin _ ((cut1 _ _).app (cut1 _ _) |>.mono (by omega))
  simp only [mNx]
  have sl' : List.length l ≤ SZ := by rw [S_length] at sl; exact sl
  have hz : SZ = 16777216 := rfl
  have cz : ∀ lo hi, (cut l lo hi).length ≤ N := fun lo hi => (cut1 lo hi).n
  subst hP
  refine seq_step fun P hP => ?_
  simp only [mIfS, mTest, mB, mVar, mC, gt]
  refine ⟨rfl, rfl, by simp [vw, toD, PyData.depth], ?_⟩
  simp only [vw, toD, eqv_int]
  refine ite2 (fun c2 => ?_) (fun c2 => ?_)
  · simp only [mRet, mB, mSl, mNoPart, mPart, mVar, mC, gt, N3.rSl, N3.rAdd, N3.rMul, cl_S, S_length, S_append]
    have z1 := cz none (some at_)
    have z2 := cz (some at_) (some (at_ + 1))
    have z3 := cz (some (at_ + 1)) none
    have er : (List.replicate ((2 : Int)).toNat (cut l (some at_) (some (at_ + 1)))).flatten.length ≤ 2 * N := by
      rw [len_rep]; exact Nat.mul_le_mul_left 2 z2
    refine ⟨sl', sl', by decide, by show _ * 2 ≤ _; omega, by decide, by omega, sl', by rw [List.length_append]; omega, ?_⟩
    refine fin _ (((cut1 _ _).app ((cut1 _ _).rep 2)).app (cut1 _ _) |>.mono (by omega))
  simp only [mNx]
  subst hP
  refine seq_step fun P hP => ?_
  simp only [mIfS, mTest, mB, mVar, mC, gt]
  refine ⟨rfl, rfl, by simp [vw, toD, PyData.depth], ?_⟩
  simp only [vw, toD, eqv_int]
  refine ite2 (fun c3 => ?_) (fun c3 => ?_)
  · simp only [mRet, mB, mRev, mSl, mNoPart, mPart, mVar, mC, gt, N3.rRev, N3.rSl, N3.rAdd, cl_S, S_length, S_append]
    have z1 := cz none (some at_)
    have z2 := cz (some at_) (some (at_ + 2))
    have z3 := cz (some (at_ + 2)) none
    refine ⟨sl', sl', by omega, by rw [List.length_reverse]; omega, sl', by rw [List.length_append, List.length_reverse]; omega, ?_⟩
    exact fin _ (((cut1 _ _).app (cut1 _ _).rev).app (cut1 _ _) |>.mono (by omega))
  simp only [mNx]
  subst hP
  refine seq_step fun P hP => ?_
  simp only [mAsg, mM1, mCons, mNil, mVar, mC, gt, N3.rSplitM, N3.gN, N3.st, List.set]
  refine ⟨⟨_, rfl⟩, by decide +kernel, by rw [S_length]; omega, ?_⟩
  intro a ha
  rw [split_S (c := 32) (by decide) l (by decide +kernel), List.map_map]
  obtain ⟨n1, n2⟩ := d3.ne ha
  have ha0 := d3.none ha
  generalize hws : splc 32 l = ws
  have wne : ws ≠ [] := by rw [← hws]; exact splc_ne 32 l
  have wle : ws.length ≤ l.length + 1 := by rw [← hws]; exact splc_few l
  have wm : ∀ w ∈ ws, Tx N w := fun w hw => by
    rw [← hws] at hw
    obtain ⟨-, h2, h3⟩ := splc_mem l w hw
    exact ⟨fun c hc => tl.c c (h2 c hc), by omega⟩
  have jl : (TL.joinL [32] ws).length ≤ N := by rw [← hws, joinL_splc]; exact ll
  have d4 := d3.wr (.lst (ws.map (PV.str ∘ S))) n1 n2
  have rd : ∀ {m : Nat} {h' : PH}, (D.wr a (.lst (ws.map (PV.str ∘ S)))).At m h' → h' a = some (.lst (ws.map (PV.str ∘ S))) := fun {m h'} d' => by
    rw [d'.rd n1 n2]; exact up_same
  subst hP
  refine seq_step fun P hP => ?_
  simp only [mAsg, mBlt, mCons, mNil, mVar, mC, gt, N3.rLen, N3.gN, N3.st, seqL, rd d4, List.length_map, List.set]
  refine draw_to (D := D.wr a (.lst (ws.map (PV.str ∘ S)))) (many := ((ws.length : Nat) : Int)) d4 (by omega) (by have := List.length_pos_iff.mpr wne; omega) (by omega) fun r h5 r0 r1 d5 => ?_
  obtain ⟨j, rfl⟩ : ∃ j : Nat, r = (j : Int) := ⟨r.toNat, by omega⟩
  have hj : j < ws.length := by omega
  have ew : atI (ws.map (PV.str ∘ S)) (j : Int) = some (.str (S ws[j])) := by
    unfold atI
    rw [ixN_nat (by rw [List.length_map]; exact hj)]
    simp [List.getElem?_eq_getElem hj]
  have tw := wm _ (List.getElem_mem hj)
  have swl : (S ws[j]).length ≤ 2000 := by rw [S_length]; have := tw.n; omega
  subst hP
  refine seq_step fun P hP => ?_
  simp only [mAsg, mLst, mB, mCons, mNil, mVar, mC, gt, N3.rIx, N3.rAdd, N3.rMul, N3.gN, N3.st, seqL, rd d5, ew, List.set]
  have o1 : ∀ x : Str, (cl x).length ≤ 5 → x.length + (S ws[j]).length ≤ SZ := fun x hx => by
    have hx : x.length ≤ 5 := hx
    omega
  refine ⟨o1 _ (by decide +kernel), o1 _ (by decide +kernel), o1 _ (by decide +kernel), by rw [Nat.add_comm]; exact o1 _ (by decide +kernel), by decide, by decide +kernel, by decide, ?_⟩
  have lit : ∀ (x : Str) (m : Nat), ((cl x).all fun c => decide (c < 128)) = true → (cl x).length ≤ m → ∃ p, Tx m p ∧ PV.str x = .str (S p) := fun x m h1 h2 =>
    ⟨cl x, ⟨fun c hc => of_decide_eq_true (List.all_eq_true.mp h1 c hc), h2⟩, by rw [S_cl]⟩
  have catL : ∀ (x : Str), ((cl x).all fun c => decide (c < 128)) = true → (cl x).length ≤ 1 → ∃ p, Tx (N + 44) p ∧ PV.str (x ++ S ws[j]) = .str (S p) := fun x h1 h2 =>
    ⟨cl x ++ ws[j], ((show Tx 1 (cl x) from ⟨fun c hc => of_decide_eq_true (List.all_eq_true.mp h1 c hc), h2⟩).app tw).mono (by omega), by rw [← S_append, S_cl]⟩
  have catR : ∀ (x : Str), ((cl x).all fun c => decide (c < 128)) = true → (cl x).length ≤ 1 → ∃ p, Tx (N + 44) p ∧ PV.str (S ws[j] ++ x) = .str (S p) := fun x h1 h2 =>
    ⟨ws[j] ++ cl x, (tw.app (show Tx 1 (cl x) from ⟨fun c hc => of_decide_eq_true (List.all_eq_true.mp h1 c hc), h2⟩)).mono (by omega), by rw [← S_append, S_cl]⟩
  have lit2 : ∀ (x : Str), ((cl x).all fun c => decide (c < 128)) = true → (cl x).length ≤ 44 → ∃ p, Tx (N + 44) p ∧ PV.str x = .str (S p) := fun x h1 h2 => by
    obtain ⟨p, t, e⟩ := lit x 44 h1 h2
    exact ⟨p, t.mono (by omega), e⟩
  have rep : ∀ (x : Str) (m : Nat), (cl x).length = 1 → ((cl x).all fun c => decide (c < 128)) = true → m ≤ 42 → ∃ p, Tx (N + 44) p ∧ PV.str (S (List.replicate m (cl x)).flatten) = .str (S p) := fun x m h1 h2 h3 =>
    ⟨_, ⟨fun c hc => by
      obtain ⟨z, hz, hc⟩ := List.mem_flatten.mp hc
      rw [List.eq_of_mem_replicate hz] at hc
      exact of_decide_eq_true (List.all_eq_true.mp h2 c hc), by rw [len_rep, h1]; omega⟩, rfl⟩
  have repM : ∀ (x : Str) (m : Nat), (cl x).length = 1 → ((cl x).all fun c => decide (c < 128)) = true → m ≤ 42 → ∃ p, Tx (N + 44) p ∧ PV.str (("-" : Str) ++ S (List.replicate m (cl x)).flatten) = .str (S p) := fun x m h1 h2 h3 =>
    ⟨cl ("-" : Str) ++ (List.replicate m (cl x)).flatten, ⟨fun c hc => by
      rcases List.mem_append.mp hc with hc | hc
      · have : ∀ c ∈ cl ("-" : Str), c < 128 := by decide +kernel
        exact this c hc
      · obtain ⟨z, hz, hc⟩ := List.mem_flatten.mp hc
        rw [List.eq_of_mem_replicate hz] at hc
        exact of_decide_eq_true (List.all_eq_true.mp h2 c hc), by
      rw [List.length_append, len_rep, h1, show (cl ("-" : Str)).length = 1 by decide +kernel]; omega⟩, by rw [← S_append, S_cl]⟩
  generalize h6 : [PV.str (("0" : Str) ++ S ws[j]), PV.str (("-" : Str) ++ S ws[j]), PV.str (("+" : Str) ++ S ws[j]), PV.str "", PV.str "-0", PV.str "00", PV.str "-", PV.str (S ws[j] ++ ("a" : Str)), PV.str (S (List.replicate (Int.toNat 41) (cl ("1" : Str))).flatten)] = xs6
  have g6 : ∀ v ∈ xs6, ∃ p, Tx (N + 44) p ∧ v = .str (S p) := by
    intro v hv
    rw [← h6] at hv
    simp only [List.mem_cons, List.not_mem_nil, or_false] at hv
    rcases hv with rfl | rfl | rfl | rfl | rfl | rfl | rfl | rfl | rfl
    · exact catL _ (by decide +kernel) (by decide +kernel)
    · exact catL _ (by decide +kernel) (by decide +kernel)
    · exact catL _ (by decide +kernel) (by decide +kernel)
    · exact lit2 _ (by decide +kernel) (by decide +kernel)
    · exact lit2 _ (by decide +kernel) (by decide +kernel)
    · exact lit2 _ (by decide +kernel) (by decide +kernel)
    · exact lit2 _ (by decide +kernel) (by decide +kernel)
    · exact catR _ (by decide +kernel) (by decide +kernel)
    · exact rep _ _ (by decide +kernel) (by decide +kernel) (by decide)
  have l6 : xs6.length = 9 := by rw [← h6]; rfl
  subst hP
  refine seq_step fun P hP => ?_
  simp only [mDput, mBlt, mLst, mB, mCons, mNil, mVar, mC, gt, N3.rAdd, N3.rMul, seqL]
  refine ⟨by decide, by decide +kernel, by decide, by decide, by decide +kernel, by decide, by decide +kernel, by decide, by decide +kernel, by decide, by decide +kernel, ?_⟩
  refine ⟨by rw [l6]; show _ ≤ 16777216; simp, ?_⟩
  refine pick_lst (D := D.wr a (.lst (ws.map (PV.str ∘ S)))) d5 (by omega) (fun z => by
    have := congrArg List.length z
    rw [List.length_append, l6] at this
    simp at this) (by rw [List.length_append, l6]; simp) fun v hv h6' d6 => ?_
  have gv : ∃ p, Tx (N + 44) p ∧ v = .str (S p) := by
    rcases List.mem_append.mp hv with hv | hv
    · exact g6 v hv
    · simp only [List.mem_cons, List.not_mem_nil, or_false] at hv
      rcases hv with rfl | rfl | rfl | rfl | rfl | rfl | rfl
      · exact rep _ _ (by decide +kernel) (by decide +kernel) (by decide)
      · exact repM _ _ (by decide +kernel) (by decide +kernel) (by decide)
      · exact repM _ _ (by decide +kernel) (by decide +kernel) (by decide)
      · exact lit2 _ (by decide +kernel) (by decide +kernel)
      · exact lit2 _ (by decide +kernel) (by decide +kernel)
      · exact lit2 _ (by decide +kernel) (by decide +kernel)
      · exact lit2 _ (by decide +kernel) (by decide +kernel)
  obtain ⟨p, tp, rfl⟩ := gv
  simp only [rd d6, ixN_nat (show j < (ws.map (PV.str ∘ S)).length by rw [List.length_map]; exact hj)]
  have es : (ws.map (PV.str ∘ S)).set j (.str (S p)) = (ws.set j p).map (PV.str ∘ S) := by rw [List.map_set]; rfl
  rw [es]
  have d7 := d6.wr (.lst ((ws.set j p).map (PV.str ∘ S))) n1 n2
  rw [Dk.wr_wr] at d7
  subst hP
  simp only [mRet, mM1, mCons, mNil, mVar, mC, gt, N3.rJoin, seqL, up_same]
  have wm2 : ∀ w ∈ ws.set j p, Tx (N + 44) w := fun w hw => by
    rcases List.mem_or_eq_of_mem_set hw with hw | rfl
    · exact (wm w hw).mono (by omega)
    · exact tp
  have jl2 := join_set (c := 32) ws j p
  have tpl := tp.n
  refine ⟨⟨_, rfl⟩, ws.set j p, rfl, ?_, ?_⟩
  · have := sum_len (n := N + 44) (ws.set j p) fun w hw => (wm2 w hw).n
    refine Nat.le_trans (Nat.add_le_add this (Nat.le_refl _)) ?_
    rw [List.length_set]
    have h3 : ws.length * (N + 44) ≤ 2001 * 2044 := Nat.mul_le_mul (by omega) (by omega)
    show _ + _ * 1 ≤ 16777216
    omega
  · obtain ⟨h0, sb, -, d0⟩ := d7.back ha0 n1 n2
    refine ⟨h0, sb, k _ h0 ⟨fun c hc => ?_, ?_⟩ (d0.mono (by omega))⟩
    · rw [show cl (" " : Str) = [32] by decide +kernel] at hc
      rcases joinL_mem _ _ hc with rfl | ⟨w, hw, hc⟩
      · decide
      · exact (wm2 w hw).c c hc
    · rw [show cl (" " : Str) = [32] by decide +kernel]
      omega
end Wneversaid_k04_rows_written_and_read

namespace Wneversaid_k04_rows_written_and_read
open PySem PySem.Spec PyProof.Rows L2 N3
/-! ### the law -/
def GT (v : PV) : Prop := ∀ h, ∃ r, Thg h v r
theorem gt_s {l : Ln} (hl : l.length ≤ 40000) : GT (.str (S l)) := fun h => ⟨_, .s l hl⟩
theorem gt_str {x : Str} (hl : (cl x).length ≤ 40000) : GT (.str x) := by
  have := gt_s hl
  rwa [S_cl] at this
theorem gt_o {v : PV} {t : Tn} (e : ∀ h, tn h v = some t) (n : isI t .str = false) : GT v := fun h => ⟨_, .o v t (e h) n⟩
theorem right_of {v : PV} (g : GT v) {h : PH} {P : PK} (q : P (.bl true) h) : spRight [v] h P := by
  obtain ⟨r, t⟩ := g h
  exact ⟨v, r, rfl, t, q⟩
def RowG (v : PV) : Prop := ∃ ks : List Wt, (∀ k ∈ ks, WOk k) ∧ 1 ≤ ks.length ∧ ks.length ≤ 7 ∧ v = .tup (ks.map wP)
theorem wts_of : ∀ zs : List PV, (∀ z ∈ zs, ∃ w, WOk w ∧ z = wP w) → ∃ ks : List Wt, zs = ks.map wP ∧ (∀ k ∈ ks, WOk k) ∧ ks.length = zs.length
  | [], _ => ⟨[], rfl, fun _ h => (List.not_mem_nil h).elim, rfl⟩
  | z :: zs, h => by
    obtain ⟨w, gw, rfl⟩ := h z List.mem_cons_self
    obtain ⟨ks, rfl, hl, hn⟩ := wts_of zs fun y hy => h y (List.mem_cons_of_mem _ hy)
    refine ⟨w :: ks, rfl, fun x hx => ?_, by rw [List.length_cons, List.length_cons, hn]⟩
    rcases List.mem_cons.mp hx with rfl | hx
    · exact gw
    · exact hl x hx
theorem th_rows {zs : List PV} (h : ∀ z ∈ zs, RowG z) (hl : zs.length = 8) : TH 2 10000 (.lst zs) := by
  refine (TH.lst (n := 1) (z := 1067) fun p hp => ?_).mono (Nat.le_refl _) (by rw [hl]; decide)
  obtain ⟨ks, h1, h2, h3, rfl⟩ := h p hp
  exact th_row h1 h3
theorem tx_itx {i : Int} (h : i.natAbs < 10 ^ 40) : Tx 41 (itx i) := tx_num (by decide) h
theorem tx_wt {k : Wt} (h : WOk k) : Tx 42 (wT k) := by
  cases k with
  | n i => exact (tx_itx h).mono (by decide)
  | w l => exact (let_tx h).mono (by decide)
theorem tx_row {ks : List Wt} {m : Nat} (h : ∀ k ∈ ks, WOk k) (hl : ks.length ≤ m) : Tx (m * 42) (rowT ks) := ⟨fun c hc => by
  rcases joinL_mem _ _ hc with rfl | ⟨w, hw, hc⟩
  · decide
  · obtain ⟨k, hk, rfl⟩ := List.mem_map.mp hw
    exact (tx_wt (h k hk)).c c hc, Nat.le_trans (rowT_len h) (Nat.mul_le_mul_right _ hl)⟩
theorem ne_same {x : Str} {h : PH} {Q : PK} (q : Q (.bl false) h) : N3.rNe (.str x) (.str x) h Q := by
  refine ⟨rfl, rfl, by simp [vw, toD, PyData.depth], ?_⟩
  simp only [vw, toD, eqv_str]
  exact q
theorem ne_empty {h : PH} {Q : PK} (q : Q (.bl false) h) : N3.rNe (.lst []) (.lst []) h Q := ⟨rfl, rfl, by show 0 + 1 ≤ 64; decide, q⟩
theorem eq_empty {h : PH} {Q : PK} (q : Q (.bl true) h) : N3.rEq (.lst []) (.lst []) h Q := ⟨rfl, rfl, by show 0 + 1 ≤ 64; decide, q⟩
theorem pure_law {Ad : Addr} : ∀ qs h Q, qs.length = 1 → spLaw 63 qs h Q → m_law spDeck spDraw spWorth spWritten spShowRow spBent spRight spPick (spReadRow Ad) (ends Q) (sp0 13 qs) h := by
  rintro _ h Q - ⟨ns, rfl, hn, -, rfl, k⟩
  unfold m_law
  refine seq_step fun P hP => ?_
  simp only [mAsg, mBlt, mCons, mNil, mVar, gt, N3.gN, N3.st, N3.sp0, List.set]
  refine ⟨ns, rfl, hn, fun D h1 e a1 => ?_⟩
  subst hP
  refine seq_step fun P hP => ?_
  simp only [mAsg, mLc, mRng1, mCons, mNil, mC, N3.gN, N3.st, N3.wp, List.set]
  refine ⟨⟨by decide, by decide⟩, ?_⟩
  refine runs (cost := 141) RowG _ (fun p _ n' h' Q' d' hn1 hn2 kk => ?_) a1 fun zs h2 hz hzl a2 => ?_
  · rw [rng_len] at hn2
    have e8 : (8 : Int).toNat = 8 := rfl
    simp only [mBlt, mCons, mNil, mLc, mRng1, mB, mVar, mC, gt, N3.gN, N3.st, N3.wp, List.set]
    refine draw_to (many := 7) d' (by omega) (by decide) (by decide) fun r h3 r0 r1 d3 => ?_
    simp only [N3.rAdd]
    refine ⟨by omega, ?_⟩
    have hl : (rng 0 (1 + r).toNat).length = (1 + r).toNat := rng_len
    refine runs (cost := 20) (fun v => ∃ w, WOk w ∧ v = wP w) _ (fun p hp n2 h4 Q2 d4 hn3 hn4 kk2 => ?_) d3 fun ws h5 hw hwl d5 => ?_
    · simp only [mBlt, mCons, mNil, mVar, gt, N3.st, List.set]
      exact ⟨D, n2, rfl, d4, by rw [hl] at hn4; omega, fun w h6 ok d6 => kk2 _ h6 ⟨w, ok, rfl⟩ d6⟩
    · obtain ⟨ks, rfl, hk, hkl⟩ := wts_of ws hw
      rw [hwl, hl] at hkl
      simp only [N3.rTupOf, listed, seqL]
      exact kk _ h5 ⟨ks, hk, by omega, by omega, rfl⟩ (d5.mono (by rw [hl]; omega))
  rw [rng_len] at hzl a2
  have hzl : zs.length = 8 := hzl
  have a2 : D.At 1128 h2 := a2
  have tz := th_rows hz hzl
  subst hP
  refine seq_step fun P hP => ?_
  simp only [mAsg, mBlt, mCons, mNil, mVar, gt, N3.gN, N3.st, List.set]
  refine TH.repr (n := 2) (z := 10000) (show TH 2 10000 (.lst zs) from tz) (by decide) (by decide) ?_
  obtain ⟨kept, ekept⟩ : ∃ x, (toD (vwL h2 (.lst zs))).shown = x := ⟨_, rfl⟩
  rw [ekept]
  subst hP
  refine seq_step fun P hP => ?_
  simp only [mFor, mSeqs, mVar, gt, seqL]
  refine forL_of (W := fun ps τ h' => ∃ (n : Nat) (v4 v5 v6 v7 v8 : Option PV), D.At n h' ∧ n + 200 * ps.length ≤ 2728 ∧ (∀ z ∈ ps, RowG z) ∧ τ = [some (.lst (ns.map PV.int)), some (.ref D.d), some (.lst zs), some (.str kept), v4, v5, v6, v7, v8, none, none, none, none]) ?_ ?_ _ _ _ ⟨1128, none, none, none, none, none, a2, by omega, hz, rfl⟩
  · rintro p ps τ h' ⟨n, v4, v5, v6, v7, v8, a3, hn3, hr, rfl⟩
    refine ⟨trivial, fun P' hP' => ?_⟩
    obtain ⟨ks, hk, k1, k7, rfl⟩ := hr p List.mem_cons_self
    rw [List.length_cons] at hn3
    simp only [N3.gN, N3.st, List.set]
    have tr := tx_row hk k7
    have lr : (rowT ks).length ≤ 294 := tr.n
    refine seq_step fun P2 hP2 => ?_
    simp only [mAsg, mBlt, mCons, mNil, mVar, gt, N3.gN, N3.st, List.set]
    refine ⟨ks, rfl, hk, by omega, ?_⟩
    subst hP2
    refine seq_step fun P2 hP2 => ?_
    simp only [mIfS, mOrT, mTest, mB, mBlt, mKw, cat2, mCallX, mCons, mNil, mVar, gt, List.nil_append]
    refine ⟨ks, rfl, hk, by omega, ne_same ?_⟩
    simp only [Bool.false_eq_true, if_false]
    refine ⟨ks, rfl, hk, by omega, ne_same ?_⟩
    simp only [Bool.false_eq_true, if_false]
    refine ⟨_, rfl, .inl ⟨rowT ks, rfl, by omega, ?_⟩⟩
    rw [read_row hk (fun z => by rw [z] at k1; simp at k1)]
    dsimp only
    have tk := (th_row hk k7).mono (m := 2) (y := 10000) (by decide) (by decide)
    refine TH.repr (n := 2) (z := 10000) (show TH 2 10000 (.tup (ks.map wP)) from tk) (by decide) (by decide) ?_
    refine TH.repr (n := 2) (z := 10000) (show TH 2 10000 (.tup (ks.map wP)) from tk) (by decide) (by decide) (ne_same ?_)
    simp only [Bool.false_eq_true, if_false, mNx]
    subst hP2
    refine seq_step fun P2 hP2 => ?_
    simp only [mAsg, mLst, mTup, mRepl, mB, mCons, mNil, mVar, mC, gt, N3.gN, N3.st, N3.rAdd, List.set, S_length]
    have sz : SZ = 16777216 := rfl
    have o1 : ∀ x : Str, (cl x).length ≤ 3 → x.length ≤ 3 := fun x hx => hx
    have l1 := o1 " " (by decide +kernel)
    have l2 := o1 "\n" (by decide +kernel)
    have l3 := o1 "  a" (by decide +kernel)
    have m1 : (rowT ks).length + ((rowT ks).length + 1) * ("\n" : Str).length ≤ 10000 := by
      have : ((rowT ks).length + 1) * ("\n" : Str).length ≤ 295 * 3 := Nat.mul_le_mul (by omega) l2
      omega
    refine ⟨by omega, by omega, by omega, by omega, by omega, ?_⟩
    have catR : ∀ (x : Str), (cl x).length ≤ 3 → GT (.str (S (rowT ks) ++ x)) := fun x hx => by
      have : S (rowT ks) ++ x = S (rowT ks ++ cl x) := by rw [← S_append, S_cl]
      rw [this]
      exact gt_s (by rw [List.length_append]; omega)
    have catL : GT (.str ((" " : Str) ++ S (rowT ks))) := by
      have : (" " : Str) ++ S (rowT ks) = S (cl (" " : Str) ++ rowT ks) := by rw [← S_append, S_cl]
      rw [this]
      exact gt_s (by rw [List.length_append]; have : (cl (" " : Str)).length ≤ 3 := by decide +kernel
                     omega)
    have rpl : GT (.str (Txt.replace (S (rowT ks)) " " "\n")) := by
      refine gt_str ?_
      have := TK.replace_len (S (rowT ks)) " " "\n"
      rw [S_length] at this
      exact Nat.le_trans this (by omega)
    generalize hx6 : [PV.str (S (rowT ks)), PV.str ((" " : Str) ++ S (rowT ks)), PV.str (S (rowT ks) ++ (" " : Str)), PV.str (S (rowT ks) ++ ("\n" : Str)), PV.str (S (rowT ks) ++ ("  a" : Str)), PV.str (Txt.replace (S (rowT ks)) " " "\n"), PV.tup (List.map wP ks), PV.lst [PV.str (S (rowT ks))], PV.tup [PV.str (S (rowT ks))]] = xs6
    have g6 : ∀ v ∈ xs6, GT v := by
      intro v hv
      rw [← hx6] at hv
      simp only [List.mem_cons, List.not_mem_nil, or_false] at hv
      rcases hv with rfl | rfl | rfl | rfl | rfl | rfl | rfl | rfl | rfl
      · exact gt_s (by omega)
      · exact catL
      · exact catR _ (by decide +kernel)
      · exact catR _ (by decide +kernel)
      · exact catR _ (by decide +kernel)
      · exact rpl
      · exact gt_o (fun _ => rfl) rfl
      · exact gt_o (fun _ => rfl) rfl
      · exact gt_o (fun _ => rfl) rfl
    have len6 : xs6.length = 9 := by rw [← hx6]; rfl
    subst hP2
    refine seq_step fun P2 hP2 => ?_
    simp only [mFor, mRng1, mCons, mNil, mC]
    refine ⟨⟨by decide, by decide⟩, ?_⟩
    refine forL_of (W := fun ps τ h4 => ∃ (n4 : Nat) (xs : List PV) (v7 v8 : Option PV), D.At n4 h4 ∧ n4 + 20 * ps.length ≤ n + 100 ∧ (∀ v ∈ xs, GT v) ∧ xs.length + 2 * ps.length ≤ 19 ∧ τ = [some (.lst (ns.map PV.int)), some (.ref D.d), some (.lst zs), some (.str kept), some (.tup (ks.map wP)), some (.str (S (rowT ks))), some (.lst xs), v7, v8, none, none, none, none]) ?_ ?_ _ _ _ ⟨n, xs6, v7, v8, a3, by rw [rng_len]; show n + 20 * 5 ≤ _; omega, g6, by rw [rng_len, len6]; decide, rfl⟩
    · rintro p ps τ h4 ⟨n4, xs, v7, v8, a4, hn4, gx, lx, rfl⟩
      rw [List.length_cons] at hn4 lx
      refine ⟨trivial, fun P3 hP3 => ?_⟩
      simp only [N3.gN, N3.st, List.set]
      refine seq_step fun P4 hP4 => ?_
      simp only [mAsg, mBlt, mCons, mNil, mVar, gt, N3.gN, N3.st, List.set]
      refine ⟨D, n4, 294, rowT ks, rfl, a4, by omega, tr.mono (by decide), by decide, fun l5 h5 t5 a5 => ?_⟩
      subst hP4
      simp only [mAsg, mB, mLst, mBlt, mCons, mNil, mVar, gt, N3.gN, N3.st, N3.rAdd, seqL, List.set]
      refine ⟨D, n4 + 10, 4 * 294 + 100, l5, rfl, a5, by omega, t5, by decide, fun l6 h6 t6 a6 => ?_⟩
      refine ⟨by show _ ≤ 16777216; simp; omega, ?_⟩
      refine hP3 _ _ ⟨n4 + 10 + 10, xs ++ [.str (S l5), .str (S l6)], some p, some (.str (S l5)), a6, by omega, fun v hv => ?_, by rw [List.length_append]; simp; omega, rfl⟩
      rcases List.mem_append.mp hv with hv | hv
      · exact gx v hv
      · simp only [List.mem_cons, List.not_mem_nil, or_false] at hv
        rcases hv with rfl | rfl
        · exact gt_s (by have := t5.n; omega)
        · exact gt_s (by have := t6.n; omega)
    · rintro τ h4 ⟨n4, xs, v7, v8, a4, hn4, gx, lx, rfl⟩
      refine ⟨trivial, ?_⟩
      show P2 _ _
      subst hP2
      simp only [mIfS, mTest, mB, mLc, mSeqs, mLst, mCons, mNil, mVar, gt, N3.rAdd, N3.wp, N3.st, seqL, List.set]
      refine ⟨by show _ ≤ 16777216; simp at lx ⊢; omega, ?_⟩
      refine none_wrong (fun _ => rfl) (fun x hx P q => ?_) ?_
      · refine right_of ?_ q
        rcases List.mem_append.mp hx with hx | hx
        · exact gx x hx
        · rw [List.mem_singleton] at hx
          subst hx
          exact gt_s (by omega)
      · refine ne_empty ?_
        simp only [Bool.false_eq_true, if_false, mNx]
        refine hP' _ _ ⟨n4, _, _, _, _, _, a4, by simp at hn4; omega, fun z hz' => hr z (List.mem_cons_of_mem _ hz'), rfl⟩
  · rintro τ h' ⟨n, v4, v5, v6, v7, v8, a3, hn3, hr, rfl⟩
    refine ⟨trivial, ?_⟩
    show P _ _
    subst hP
    refine seq_step fun P hP => ?_
    simp only [mAsg, mB, mBlt, mLc, mRng1, mCons, mNil, mC, N3.gN, N3.st, N3.wp, List.set]
    refine ⟨⟨by decide, by decide⟩, ?_⟩
    refine runs (cost := 1) (fun v => ∃ w, WOk w ∧ v = wP w) _ (fun p _ n' h4 Q' d' hn1 hn2 kk => ?_) a3 fun ws h4 hw hwl a4 => ?_
    · rw [rng_len] at hn2
      simp only [mBlt, mLst, mU, mCons, mNil, mVar, mC, gt, N3.st, N3.rNeg, List.set]
      refine pick_lst d' (by simp at hn3; have : (5 : Int).toNat = 5 := rfl; omega) (by simp) (by simp) fun v hv h5 d5 => kk v h5 ?_ d5
      simp only [List.mem_cons, List.not_mem_nil, or_false] at hv
      rcases hv with rfl | rfl | rfl | rfl | rfl
      · exact ⟨.w (cl "ab"), by show nameB _ = true; decide +kernel, by show _ = PV.str _; rw [S_cl]⟩
      · exact ⟨.n 7, by show Int.natAbs _ < _; decide, rfl⟩
      · exact ⟨.n (-3), by show Int.natAbs _ < _; decide, rfl⟩
      · exact ⟨.n 0, by show Int.natAbs _ < _; decide, rfl⟩
      · exact ⟨.w (cl "z"), by show nameB _ = true; decide +kernel, by show _ = PV.str _; rw [S_cl]⟩
    rw [rng_len] at hwl
    have hwl : ws.length = 5 := hwl
    obtain ⟨fs, rfl, hf, hfl⟩ := wts_of ws hw
    rw [hwl] at hfl
    simp only [N3.rTupOf, listed, seqL, rMulT]
    refine ⟨by decide, by decide, fun z => (by rw [z] at hwl; simp at hwl), by rw [hwl]; decide, ?_⟩
    have ef : (List.replicate (180 : Int).toNat (fs.map wP)).flatten = ((List.replicate 180 fs).flatten).map wP := by
      show (List.replicate 180 (fs.map wP)).flatten = _
      rw [List.map_flatten, List.map_replicate]
    rw [ef]
    generalize hff : (List.replicate 180 fs).flatten = ff
    have okf : ∀ k ∈ ff, WOk k := fun k hk => by
      rw [← hff] at hk
      obtain ⟨z, hz', hk⟩ := List.mem_flatten.mp hk
      rw [List.eq_of_mem_replicate hz'] at hk
      exact hf k hk
    have lf : ff.length = 900 := by rw [← hff, List.length_flatten, List.map_replicate, List.sum_replicate_nat, hfl]
    have tf := tx_row okf (Nat.le_of_eq lf)
    have lr := tf.n
    subst hP
    refine seq_step fun P hP => ?_
    simp only [mAsg, mBlt, mCons, mNil, mVar, gt, N3.gN, N3.st, List.set]
    refine ⟨ff, rfl, okf, by omega, ?_⟩
    subst hP
    refine seq_step fun P hP => ?_
    simp only [mIfS, mOrT, mTest, mB, mBlt, mCons, mNil, mVar, gt]
    refine ⟨ff, rfl, okf, by omega, ne_same ?_⟩
    simp only [Bool.false_eq_true, if_false, mLc, mSeqs, mLst, mB, mCons, mNil, mVar, mC, gt, N3.rAdd, N3.wp, N3.st, seqL, List.set, S_length]
    have sz : SZ = 16777216 := rfl
    have l1 : (" " : Str).length ≤ 3 := show (cl (" " : Str)).length ≤ 3 by decide +kernel
    refine ⟨by omega, ?_⟩
    refine none_wrong (fun _ => rfl) (fun x hx P q => ?_) ?_
    · refine right_of ?_ q
      simp only [List.mem_cons, List.not_mem_nil, or_false] at hx
      rcases hx with rfl | rfl
      · exact gt_s (by omega)
      · have : S (rowT ff) ++ (" " : Str) = S (rowT ff ++ cl (" " : Str)) := by rw [← S_append, S_cl]
        rw [this]
        exact gt_s (by rw [List.length_append]; have : (cl (" " : Str)).length ≤ 3 := l1
                       omega)
    · refine ne_empty ?_
      simp only [Bool.false_eq_true, if_false, mNx]
      subst hP
      refine seq_step fun P hP => ?_
      simp only [mAsg, mLst, mTup, mDct0, mU, mCons, mNil, mC, N3.gN, N3.st, N3.rNeg, List.set]
      subst hP
      simp only [mRet, mAnd, mB, mBlt, mLc, mSeqs, mLst, mCons, mNil, mVar, gt, N3.wp, N3.st, seqL, List.set]
      refine none_wrong (fun _ => rfl) (fun x hx P q => ?_) ?_
      · refine right_of ?_ q
        simp only [List.mem_cons, List.not_mem_nil, or_false] at hx
        rcases hx with rfl | rfl | rfl | rfl | rfl | rfl | rfl | rfl | rfl | rfl | rfl | rfl | rfl | rfl | rfl | rfl | rfl | rfl
        · exact gt_str (by decide +kernel)
        · exact gt_str (by decide +kernel)
        · exact gt_str (by decide +kernel)
        · exact gt_str (by decide +kernel)
        · exact gt_str (by decide +kernel)
        · exact gt_str (by decide +kernel)
        · exact gt_str (by decide +kernel)
        · exact gt_o (fun _ => rfl) rfl
        · exact gt_o (fun _ => rfl) rfl
        · exact gt_o (fun _ => rfl) rfl
        · exact gt_o (fun _ => rfl) rfl
        · exact gt_o (fun _ => rfl) rfl
        · exact gt_o (fun _ => rfl) rfl
        · exact gt_o (fun _ => rfl) rfl
        · exact gt_o (fun _ => rfl) rfl
        · exact gt_str (by decide +kernel)
        · exact gt_str (by decide +kernel)
        · exact gt_str (by decide +kernel)
      · refine eq_empty ?_
        simp only [if_true]
        refine TH.repr (n := 2) (z := 10000) (show TH 2 10000 (.lst zs) from tz) (by decide) (by decide) ?_
        have ek2 : (toD (vwL h4 (.lst zs))).shown = kept := ekept
        rw [ek2]
        refine ⟨rfl, rfl, by simp [vw, toD, PyData.depth], ?_⟩
        simp only [vw, toD, eqv_str]
        exact k h4
end Wneversaid_k04_rows_written_and_read

open PySem PySem.W PyProof.Rows
set_option maxRecDepth 100000 in
set_option maxHeartbeats 0 in
theorem PySem.Challenge.cw_neversaid_k04_rows_written_and_read_holds : PySem.Challenge.rw_neversaid_k04_rows_written_and_read.Holds := by
  w_on; o_law; k_head; (case hw => w_witness2)
  k_fill
  refine N3.walk_g (l := PySem.Challenge.rw_neversaid_k04_rows_written_and_read) (k := 6) (x := "_law_script") rfl (by decide) rfl ⟨rfl, by decide, by decide⟩ (fun w h Y => PySem.W.kIn_of Y) ?F
  case F =>
    intro w mg fa h KX G hmg
    refine' Wneversaid_k04_rows_written_and_read.all_mk KX G hmg ?a_is_name ?l_is_name ?c_is_name ?k_is_name ?a_show_row ?l_show_row ?c_show_row ?k_show_row ?a_are_figures ?l_are_figures ?c_are_figures ?k_are_figures ?a_law_deck ?l_law_deck ?c_law_deck ?k_law_deck ?a_law_draw ?l_law_draw ?c_law_draw ?k_law_draw ?a_law_written ?l_law_written ?c_law_written ?k_law_written ?a_read_worth ?l_read_worth ?c_read_worth ?k_read_worth ?a_law_pick ?l_law_pick ?c_law_pick ?k_law_pick ?a_law_read_word ?l_law_read_word ?c_law_read_word ?k_law_read_word ?a_read_row ?l_read_row ?c_read_row ?k_read_row ?a_law_word ?l_law_word ?c_law_word ?k_law_word ?a_law_read ?l_law_read ?c_law_read ?k_law_read ?a_law_bent ?l_law_bent ?c_law_bent ?k_law_bent ?a_law_worth ?l_law_worth ?c_law_worth ?k_law_worth ?a_law_told ?l_law_told ?c_law_told ?k_law_told ?a_law_right ?l_law_right ?c_law_right ?k_law_right ?a_law ?l_law ?c_law ?k_law ?A_NoText ?A_SaidError ?A_NoFit ?A_NoPages ?A_NoWorld ?A_There ?A_Up ?A_Missing ?ec_NoText ?eg_NoText ?eh_NoText ?es_NoText ?ek_NoText ?em_NoText ?og_c ?ot_c ?ko_0_NoText ?ko_1_NoText ?ko_2_NoText ?xb_SaidError ?xh_SaidError ?xt_SaidError ?xs_SaidError_NoText ?mb_NoText ?my_NoText ?mc_NoText ?me_NoText ?z_len ?z_isinstance ?z_str ?z_all ?z_list ?z_sum ?z_int ?z_abs ?z_tuple ?z_range ?z_repr ?g_MOST_LETTERS ?g_LETTERS ?g_FIGURES ?g_MOST_FIGURES ?g_LESS Wneversaid_k04_rows_written_and_read.pure_is_name Wneversaid_k04_rows_written_and_read.pure_show_row Wneversaid_k04_rows_written_and_read.pure_are_figures Wneversaid_k04_rows_written_and_read.pure_law_deck Wneversaid_k04_rows_written_and_read.pure_law_draw Wneversaid_k04_rows_written_and_read.pure_law_written Wneversaid_k04_rows_written_and_read.pure_read_worth Wneversaid_k04_rows_written_and_read.pure_law_pick Wneversaid_k04_rows_written_and_read.pure_law_read_word Wneversaid_k04_rows_written_and_read.pure_read_row Wneversaid_k04_rows_written_and_read.pure_law_word Wneversaid_k04_rows_written_and_read.pure_law_read Wneversaid_k04_rows_written_and_read.pure_law_bent Wneversaid_k04_rows_written_and_read.pure_law_worth Wneversaid_k04_rows_written_and_read.pure_law_told Wneversaid_k04_rows_written_and_read.pure_law_right Wneversaid_k04_rows_written_and_read.pure_law
    (case a_is_name => k_is)
    (case l_is_name => k_is)
    (case c_is_name => k_is)
    (case k_is_name => k_is)
    (case a_show_row => k_is)
    (case l_show_row => k_is)
    (case c_show_row => k_is)
    (case k_show_row => k_is)
    (case a_are_figures => k_is)
    (case l_are_figures => k_is)
    (case c_are_figures => k_is)
    (case k_are_figures => k_is)
    (case a_law_deck => k_is)
    (case l_law_deck => k_is)
    (case c_law_deck => k_is)
    (case k_law_deck => k_is)
    (case a_law_draw => k_is)
    (case l_law_draw => k_is)
    (case c_law_draw => k_is)
    (case k_law_draw => k_is)
    (case a_law_written => k_is)
    (case l_law_written => k_is)
    (case c_law_written => k_is)
    (case k_law_written => k_is)
    (case a_read_worth => k_is)
    (case l_read_worth => k_is)
    (case c_read_worth => k_is)
    (case k_read_worth => k_is)
    (case a_law_pick => k_is)
    (case l_law_pick => k_is)
    (case c_law_pick => k_is)
    (case k_law_pick => k_is)
    (case a_law_read_word => k_is)
    (case l_law_read_word => k_is)
    (case c_law_read_word => k_is)
    (case k_law_read_word => k_is)
    (case a_read_row => k_is)
    (case l_read_row => k_is)
    (case c_read_row => k_is)
    (case k_read_row => k_is)
    (case a_law_word => k_is)
    (case l_law_word => k_is)
    (case c_law_word => k_is)
    (case k_law_word => k_is)
    (case a_law_read => k_is)
    (case l_law_read => k_is)
    (case c_law_read => k_is)
    (case k_law_read => k_is)
    (case a_law_bent => k_is)
    (case l_law_bent => k_is)
    (case c_law_bent => k_is)
    (case k_law_bent => k_is)
    (case a_law_worth => k_is)
    (case l_law_worth => k_is)
    (case c_law_worth => k_is)
    (case k_law_worth => k_is)
    (case a_law_told => k_is)
    (case l_law_told => k_is)
    (case c_law_told => k_is)
    (case k_law_told => k_is)
    (case a_law_right => k_is)
    (case l_law_right => k_is)
    (case c_law_right => k_is)
    (case k_law_right => k_is)
    (case a_law => k_is)
    (case l_law => k_is)
    (case c_law => k_is)
    (case k_law => k_is)
    (case A_NoText => k_is)
    (case A_SaidError => k_is)
    (case A_NoFit => k_is)
    (case A_NoPages => k_is)
    (case A_NoWorld => k_is)
    (case A_There => k_is)
    (case A_Up => k_is)
    (case A_Missing => k_is)
    (case ec_NoText => k_is)
    (case eg_NoText => k_is)
    (case eh_NoText => k_is)
    (case es_NoText => k_is)
    (case ek_NoText => k_is)
    (case em_NoText => k_is)
    (case og_c => k_is)
    (case ot_c => k_is)
    (case ko_0_NoText => kit_is)
    (case ko_1_NoText => kit_is)
    (case ko_2_NoText => kit_is)
    (case xb_SaidError => k_is)
    (case xh_SaidError => k_is)
    (case xt_SaidError => k_is)
    (case xs_SaidError_NoText => k_is)
    (case mb_NoText => k_is)
    (case my_NoText => k_is)
    (case mc_NoText => k_is)
    (case me_NoText => k_exc)
    (case z_len => k_is)
    (case z_isinstance => k_is)
    (case z_str => k_is)
    (case z_all => k_is)
    (case z_list => k_is)
    (case z_sum => k_is)
    (case z_int => k_is)
    (case z_abs => k_is)
    (case z_tuple => k_is)
    (case z_range => k_is)
    (case z_repr => k_is)
    (case g_MOST_LETTERS => k_is)
    (case g_LETTERS => k_is)
    (case g_FIGURES => k_is)
    (case g_MOST_FIGURES => k_is)
    (case g_LESS => k_is)

