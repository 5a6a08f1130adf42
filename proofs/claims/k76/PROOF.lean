import PyProof.Rows.All
import Wide.All
import OpenK.AllK
import Wide.FinOn
import HandS.ForMost
import HandS.ForExc
import HandS.Conv
import HandS.SortRule
import HandS.More
import HandS.SetKeys
import HandS.TupLen
import HandS.TupMul
import HandS.Style
import HandS.IsInst
import HandS.TryMany
import KE.KDictKeyed
import KE.SortData
import KE.KTryMore
import HandS.SortKw
import KE.KMinKey
import PyProof.NeKinds
import PySem.Challenge.RW_formgrove_k76_whole_safe_or_spoiled
import HandS.SetFor
set_option Elab.async false
set_option linter.all false
set_option maxRecDepth 100000
set_option maxHeartbeats 4000000
namespace K76
open PySem PySem.Spec PyProof.Rows L2

/-! ### immutable data over the abstract heap -/
abbrev D := NestedKey
mutual
/-- the value v is the datum (None, int, text, tuple of data) -/
def Is (H : Hp) : D → V → Prop
  | .none, v => v = .non
  | .num i, v => v = .int i
  | .text x, v => v = .str x
  | .tup ks, v => ∃ a xs, v = .ref a ∧ H a = some (.tup xs) ∧ IsAll H ks xs
def IsAll (H : Hp) : List D → List V → Prop
  | [], xs => xs = []
  | k :: ks, xs => ∃ x r, xs = x :: r ∧ Is H k x ∧ IsAll H ks r
end
/-- all tuples stand -/
def Tp (H H' : Hp) : Prop := ∀ a xs, H a = some (.tup xs) → H' a = some (.tup xs)
theorem Tp.refl (H : Hp) : Tp H H := fun _ _ h => h
theorem Tp.trans {H H1 H2 : Hp} (a : Tp H H1) (b : Tp H1 H2) : Tp H H2 := fun c o h => b c o (a c o h)
theorem Tp.of {H H' : Hp} (s : Same H H') : Tp H H' := fun a xs h => s a _ h
theorem Tp.new {H : Hp} {p : Addr} {o : HO} (h : H p = none) : Tp H (upd H p o) := fun a xs e => by
  rw [upd_ne (ne_of_none e h)]; exact e
theorem Tp.mut {H : Hp} {p : Addr} {o u : HO} (h : H p = some u) (hu : ∀ xs, u ≠ .tup xs) : Tp H (upd H p o) := fun a xs e => by
  rw [upd_ne (ne_of e h (fun z => hu xs z.symm))]; exact e
mutual
theorem Is.mono {H H' : Hp} (t : Tp H H') : ∀ (k : D) {v : V}, Is H k v → Is H' k v
  | .none, _, h => h
  | .num _, _, h => h
  | .text _, _, h => h
  | .tup ks, _, ⟨a, xs, e, ha, hk⟩ => ⟨a, xs, e, t _ _ ha, IsAll.mono t ks hk⟩
theorem IsAll.mono {H H' : Hp} (t : Tp H H') : ∀ (ks : List D) {xs : List V}, IsAll H ks xs → IsAll H' ks xs
  | [], _, h => h
  | k :: ks, _, ⟨x, r, e, h1, h2⟩ => ⟨x, r, e, Is.mono t k h1, IsAll.mono t ks h2⟩
end
theorem IsAll.nil {H : Hp} : IsAll H [] [] := rfl
theorem IsAll.cons {H : Hp} {k : D} {ks : List D} {x : V} {xs : List V} (h : Is H k x) (t : IsAll H ks xs) : IsAll H (k :: ks) (x :: xs) := ⟨x, xs, rfl, h, t⟩
theorem Is.tup {H : Hp} {ks : List D} {a : Addr} {xs : List V} (h : H a = some (.tup xs)) (t : IsAll H ks xs) : Is H (.tup ks) (.ref a) := ⟨a, xs, rfl, h, t⟩
theorem IsAll.length {H : Hp} : ∀ {ks : List D} {xs : List V}, IsAll H ks xs → xs.length = ks.length
  | [], _, h => by subst h; rfl
  | _ :: ks, _, ⟨_, r, e, _, h⟩ => by subst e; simp [IsAll.length h]
theorem IsAll.get {H : Hp} : ∀ {ks : List D} {xs : List V} {i : Nat} {k : D}, IsAll H ks xs → ks[i]? = some k → ∃ x, xs[i]? = some x ∧ Is H k x
  | [], _, _, _, _, e => by simp at e
  | k :: ks, _, 0, k', ⟨x, r, e, h1, _⟩, q => by subst e; cases q; exact ⟨x, rfl, h1⟩
  | k :: ks, _, i + 1, k', ⟨x, r, e, _, h2⟩, q => by
    subst e
    obtain ⟨y, e1, e2⟩ := IsAll.get (i := i) h2 (by simpa using q)
    exact ⟨y, by simpa using e1, e2⟩
theorem IsAll.get' {H : Hp} : ∀ {ks : List D} {xs : List V} {i : Nat} {x : V}, IsAll H ks xs → xs[i]? = some x → ∃ k, ks[i]? = some k ∧ Is H k x
  | [], _, _, _, h, e => by subst h; simp at e
  | k :: ks, _, 0, x', ⟨x, r, e, h1, _⟩, q => by subst e; cases q; exact ⟨k, rfl, h1⟩
  | k :: ks, _, i + 1, x', ⟨x, r, e, _, h2⟩, q => by
    subst e
    obtain ⟨y, e1, e2⟩ := IsAll.get' (i := i) h2 (by simpa using q)
    exact ⟨y, by simpa using e1, e2⟩
theorem IsAll.append {H : Hp} : ∀ {ks ls : List D} {xs ys : List V}, IsAll H ks xs → IsAll H ls ys → IsAll H (ks ++ ls) (xs ++ ys)
  | [], _, _, _, h, t => by subst h; exact t
  | _ :: ks, _, _, _, ⟨x, r, e, h1, h2⟩, t => by subst e; exact ⟨x, _, rfl, h1, IsAll.append h2 t⟩
theorem IsAll.split {H : Hp} : ∀ {ks ls : List D} {xs : List V}, IsAll H (ks ++ ls) xs → ∃ ys zs, xs = ys ++ zs ∧ IsAll H ks ys ∧ IsAll H ls zs
  | [], _, xs, h => ⟨[], xs, rfl, rfl, h⟩
  | k :: ks, _, _, ⟨x, r, e, h1, h2⟩ => by
    obtain ⟨ys, zs, e2, h3, h4⟩ := IsAll.split h2
    subst e e2
    exact ⟨x :: ys, zs, rfl, ⟨x, ys, rfl, h1, h3⟩, h4⟩
theorem IsAll.snoc {H : Hp} {ks : List D} {xs : List V} {k : D} {x : V} (h : IsAll H ks xs) (t : Is H k x) : IsAll H (ks ++ [k]) (xs ++ [x]) := h.append ⟨x, [], rfl, t, rfl⟩
theorem IsAll.ints {H : Hp} : ∀ {l : List Int} {xs : List V}, IsAll H (l.map .num) xs → xs = l.map V.int
  | [], _, h => h
  | i :: l, _, ⟨x, r, e, h1, h2⟩ => by
    have := IsAll.ints h2
    have h1' : x = V.int i := h1
    rw [e, h1', this]; rfl
theorem IsAll.of_ints {H : Hp} : ∀ (l : List Int), IsAll H (l.map .num) (l.map V.int)
  | [] => rfl
  | i :: l => ⟨_, _, rfl, rfl, IsAll.of_ints l⟩
theorem IsAll.take {H : Hp} : ∀ {ks : List D} {xs : List V} (n : Nat), IsAll H ks xs → IsAll H (ks.take n) (xs.take n)
  | _, _, 0, _ => by simp [IsAll]
  | [], _, n + 1, h => by subst h; rfl
  | k :: ks, _, n + 1, ⟨x, r, e, h1, h2⟩ => by subst e; exact ⟨x, _, rfl, h1, IsAll.take n h2⟩
theorem IsAll.drop {H : Hp} : ∀ {ks : List D} {xs : List V} (n : Nat), IsAll H ks xs → IsAll H (ks.drop n) (xs.drop n)
  | _, _, 0, h => h
  | [], _, n + 1, h => by subst h; rfl
  | k :: ks, _, n + 1, ⟨x, r, e, h1, h2⟩ => by subst e; exact IsAll.drop n h2

mutual
theorem Is.nested {P : Program} {w : World} {H : Hp} {h : Heap} (ok : HOk P w H h) : ∀ (k : D) {v : V} {u : Value}, Is H k v → RelV v u → NestedIs h k u
  | .none, _, _, e, r => by cases e; cases r; exact .none
  | .num i, _, _, e, r => by cases e; obtain ⟨t, rfl⟩ := r; exact .int _ _
  | .text x, _, _, e, r => by cases e; obtain ⟨t, rfl⟩ := r; exact .text _ _
  | .tup ks, _, _, ⟨a, xs, e, ha, hk⟩, r => by
    cases e
    cases r
    obtain ⟨_, its, rv, o, h1, h2, n, h3⟩ := (show ObjOk P w H h a (.tup xs) from ok a _ ha)
    exact .tup h1 h2 h3 (by simpa using IsAll.nested ok ks hk rv)
theorem IsAll.nested {P : Program} {w : World} {H : Hp} {h : Heap} (ok : HOk P w H h) : ∀ (ks : List D) {xs : List V} {us : List Value}, IsAll H ks xs → Vals xs us → NestedAll h ks us
  | [], _, _, e, r => by cases e; cases r; exact .nil
  | k :: ks, _, _, ⟨x, r, e, h1, h2⟩, rv => by
    subst e
    cases rv with
    | cons r1 r2 => exact .cons (Is.nested ok k h1 r1) (IsAll.nested ok ks h2 r2)
end
mutual
theorem Is.reads {P : Program} {w : World} {H : Hp} {h : Heap} (ok : HOk P w H h) : ∀ (k : D) {v : V} {u : Value}, Is H k v → RelV v u → Reads h u k.data []
  | .none, _, _, e, r => by cases e; cases r; exact .none
  | .num i, _, _, e, r => by cases e; obtain ⟨t, rfl⟩ := r; exact .int _ _
  | .text x, _, _, e, r => by cases e; obtain ⟨t, rfl⟩ := r; exact .str _ _
  | .tup ks, _, _, ⟨a, xs, e, ha, hk⟩, r => by
    cases e
    cases r
    obtain ⟨_, its, rv, o, h1, h2, n, h3⟩ := (show ObjOk P w H h a (.tup xs) from ok a _ ha)
    exact .tuple h1 h2 h3 (by simpa using IsAll.reads ok ks hk rv)
theorem IsAll.reads {P : Program} {w : World} {H : Hp} {h : Heap} (ok : HOk P w H h) : ∀ (ks : List D) {xs : List V} {us : List Value}, IsAll H ks xs → Vals xs us → ReadsAll h us (NestedKey.datas ks) []
  | [], _, _, e, r => by cases e; cases r; exact .nil
  | k :: ks, _, _, ⟨x, r, e, h1, h2⟩, rv => by
    subst e
    cases rv with
    | cons r1 r2 => exact ReadsAll.cons (as := []) (bs := []) (Is.reads ok k h1 r1) (IsAll.reads ok ks h2 r2)
end
mutual
theorem Is.inj {H : Hp} : ∀ (k l : D) {v : V}, Is H k v → Is H l v → k = l
  | .none, l, _, h, h' => by
    cases h
    cases l with
    | none => rfl
    | num => exact nomatch h'
    | text => exact nomatch h'
    | tup => obtain ⟨_, _, e, _⟩ := h'; exact nomatch e
  | .num i, l, _, h, h' => by
    cases h
    cases l with
    | none => exact nomatch h'
    | num j => have e : V.int i = V.int j := h'; injection e with e; rw [e]
    | text => exact nomatch h'
    | tup => obtain ⟨_, _, e, _⟩ := h'; exact nomatch e
  | .text i, l, _, h, h' => by
    cases h
    cases l with
    | none => exact nomatch h'
    | num => exact nomatch h'
    | text j => have e : V.str i = V.str j := h'; injection e with e; rw [e]
    | tup => obtain ⟨_, _, e, _⟩ := h'; exact nomatch e
  | .tup ks, l, _, ⟨a, xs, e, ha, hk⟩, h' => by
    cases e
    cases l with
    | none => exact nomatch h'
    | num => exact nomatch h'
    | text => exact nomatch h'
    | tup ls =>
      obtain ⟨a', xs', e', ha', hk'⟩ := h'
      cases e'
      rw [ha] at ha'
      cases ha'
      rw [IsAll.inj ks ls hk hk']
theorem IsAll.inj {H : Hp} : ∀ (ks ls : List D) {xs : List V}, IsAll H ks xs → IsAll H ls xs → ks = ls
  | [], ls, _, h, h' => by
    cases h
    cases ls with
    | nil => rfl
    | cons => obtain ⟨_, _, e, _⟩ := h'; exact nomatch e
  | k :: ks, ls, _, ⟨x, r, e, h1, h2⟩, h' => by
    subst e
    cases ls with
    | nil => exact nomatch (show x :: r = [] from h')
    | cons l ls =>
      obtain ⟨x', r', e', h1', h2'⟩ := h'
      cases e'
      rw [Is.inj k l h1 h1', IsAll.inj ks ls h2 h2']
end

/-! ### dicts whose keys are nested tuples -/
def NPair (p : D × Addr × V) (q : D × Addr × Value) : Prop := p.1 = q.1 ∧ p.2.1 = q.2.1 ∧ RelV p.2.2 q.2.2
abbrev NP : List (D × Addr × V) → List (D × Addr × Value) → Prop := Paired NPair
def NRaw (P : Program) (w : World) (d : Addr) (xs : List (D × Addr × Value)) (h : Heap) : Prop :=
  ∃ o es ep, h.get? d = some o ∧ o.ExactDict ∧ o.data = .dict es ep ∧ es.toList = xs.map (entryOfKey (nestedKind P w)) ∧ (xs.map (·.1)).Nodup
def NDφ (P : Program) (w : World) (d : Addr) (kvs : List (D × Addr × V)) (h : Heap) : Prop :=
  (d == sysModules) = false ∧ kvs.length ≤ sizeLine ∧ ∃ xs, NP kvs xs ∧ NRaw P w d xs h
def ND (P : Program) (w : World) (d : Addr) (kvs : List (D × Addr × V)) : HO := .ext (NDφ P w d kvs)
def pairN (xs : List (D × Addr × V)) : List (D × V) := xs.map fun x => (x.1, x.2.2)
/-- a datum that may be a key -/
def KeyOk (k : D) : Prop := (∃ ks, k = .tup ks) ∧ k.depth ≤ 8
def NKeys (H : Hp) (xs : List (D × Addr × V)) : Prop := ∀ p ∈ xs, Is H p.1 (.ref p.2.1) ∧ KeyOk p.1
/-- at d a dict of kvs -/
def NAt (P : Program) (w : World) (H : Hp) (d : Addr) (kvs : List (D × V)) : Prop := ∃ xs, kvs = pairN xs ∧ H d = some (ND P w d xs) ∧ NKeys H xs
/-- .. to be read (locked or not) -/
def NR (P : Program) (w : World) (H : Hp) (d : Addr) (kvs : List (D × V)) : Prop := ∃ xs, kvs = pairN xs ∧ Rd H d (ND P w d xs) ∧ NKeys H xs
theorem NAt.r {P : Program} {w : World} {H : Hp} {d : Addr} {kvs : List (D × V)} (h : NAt P w H d kvs) : NR P w H d kvs := by
  obtain ⟨xs, e1, e2, e3⟩ := h
  exact ⟨xs, e1, .inl e2, e3⟩
theorem NKeys.mono {H H' : Hp} (t : Tp H H') {xs : List (D × Addr × V)} (h : NKeys H xs) : NKeys H' xs := fun p m => ⟨Is.mono t _ (h p m).1, (h p m).2⟩
theorem NAt.mono {P : Program} {w : World} {H H' : Hp} {d : Addr} {kvs : List (D × V)} (h : NAt P w H d kvs) (t : Tp H H') (e : H' d = H d) : NAt P w H' d kvs := by
  obtain ⟨xs, e1, e2, e3⟩ := h
  exact ⟨xs, e1, e.trans e2, e3.mono t⟩
theorem NAt.same {P : Program} {w : World} {H H' : Hp} {d : Addr} {kvs : List (D × V)} (h : NAt P w H d kvs) (t : Same H H') : NAt P w H' d kvs := by
  obtain ⟨xs, e1, e2, e3⟩ := h
  exact ⟨xs, e1, t _ _ e2, e3.mono (Tp.of t)⟩
theorem NAt.some {P : Program} {w : World} {H : Hp} {d : Addr} {kvs : List (D × V)} (h : NAt P w H d kvs) : ∃ φ, H d = some (.ext φ) := by
  obtain ⟨xs, _, e2, _⟩ := h
  exact ⟨_, e2⟩

theorem NRaw.at {P : Program} {w : World} {d : Addr} {xs : List (D × Addr × Value)} {h1 h2 : Heap} (x : NRaw P w d xs h1) (k : ∀ o, h1.get? d = some o → h2.get? d = some o) : NRaw P w d xs h2 := by
  obtain ⟨o, es, ep, e, r⟩ := x
  exact ⟨o, es, ep, k o e, r⟩
theorem NDφ.at {P : Program} {w : World} {d : Addr} {kvs : List (D × Addr × V)} {h1 h2 : Heap} (x : NDφ P w d kvs h1) (k : ∀ o, h1.get? d = some o → h2.get? d = some o) : NDφ P w d kvs h2 := by
  obtain ⟨a, b, xs, r, n⟩ := x
  exact ⟨a, b, xs, r, n.at k⟩
theorem nd_new {P : Program} {w : World} {H : Hp} {h : Heap} {d : Addr} {kvs : List (D × Addr × V)} (x : NDφ P w d kvs h) : ObjOk P w H h d (ND P w d kvs) := by
  have ⟨_, _, _, _, o, _, _, e, _⟩ := x
  exact ⟨x, ⟨o, e⟩, fun h1 h2 p k => p.at k⟩

section
variable {X : Cx} {pins : List (Addr × Obj)} {σ : L2.St} {H : Hp} {s : Shared} {d : Addr} {kvs : List (D × Addr × V)} {k : D} {y v : V} {u r : Value} {A : Around} {E : Value → Shared → Prop}
theorem nd_rd (I : Inv X pins σ H s) (h : Rd H d (ND X.prog X.w d kvs)) (hk : NKeys H kvs) :
    (d == sysModules) = false ∧ kvs.length ≤ sizeLine ∧ ∃ xs, NP kvs xs ∧ s.heap.DictOfH (nestedKind X.prog X.w) d xs := by
  have z : ObjOk X.prog X.w H s.heap d (ND X.prog X.w d kvs) := h.ok I.hok
  obtain ⟨⟨a, b, xs, r, o, es, ep, h1, h2, h3, h4, h5⟩, _⟩ := z
  refine ⟨a, b, xs, r, o, es, ep, h1, h2, h3, h4, fun x hx => ?_, h5⟩
  have all : ∀ {l : List (D × Addr × V)} {m : List (D × Addr × Value)}, NP l m → NKeys H l → ∀ x ∈ m, (nestedKind X.prog X.w).is s.heap x.1 x.2.1 := by
    intro l m q
    induction q with
    | nil => intro _ x hx; exact nomatch hx
    | @cons p q ps qs hq t ih =>
      intro hl x hx
      rcases List.mem_cons.mp hx with e | hx
      · subst e
        have z := hl p List.mem_cons_self
        rw [hq.1, hq.2.1] at z
        exact ⟨Is.nested I.hok _ z.1 rfl, z.2.2⟩
      · exact ih (fun p hp => hl p (List.mem_cons_of_mem _ hp)) x hx
  exact all r hk x hx
theorem NP.val {kvs : List (D × Addr × V)} {xs : List (D × Addr × Value)} (r : NP kvs xs) (k : D) : RelO (valV (pairN kvs) k) ((atKey xs k).map (·.2)) := by
  induction r with
  | nil => exact True.intro
  | @cons p q ps qs h t ih =>
    obtain ⟨h1, _, h2⟩ := h
    show RelO (valV ((p.1, p.2.2) :: pairN ps) k) _
    by_cases e : p.1 = k
    · have e' : q.1 = k := h1.symm.trans e
      have b : atKey (q :: qs) k = some q.2 := by simp [atKey, List.find?_cons, e']
      rw [valV_pos (p := (p.1, p.2.2)) e, b]; exact h2
    · have e' : ¬ q.1 = k := fun z => e (h1.trans z)
      have b : atKey (q :: qs) k = atKey qs k := by simp [atKey, List.find?_cons, e']
      rw [valV_neg (p := (p.1, p.2.2)) e, b]; exact ih
/-- stored with the key's address -/
def putN (xs : List (D × Addr × V)) (k : D) (a : Addr) (v : V) : List (D × Addr × V) :=
  if (xs.any fun x => decide (x.1 = k)) = true then xs.map (fun x => if x.1 = k then (x.1, x.2.1, v) else x) else xs ++ [(k, a, v)]
theorem any_pairN (xs : List (D × Addr × V)) (k : D) : ((pairN xs).any fun kv => decide (kv.1 = k)) = (xs.any fun x => decide (x.1 = k)) := by
  unfold pairN
  rw [List.any_map]
  rfl
theorem pairN_put (xs : List (D × Addr × V)) (k : D) (a : Addr) (v : V) : pairN (putN xs k a v) = putK (pairN xs) k v := by
  unfold putN putK
  rw [any_pairN]
  split
  · unfold pairN
    rw [List.map_map, List.map_map]
    refine List.map_congr_left fun x _ => ?_
    by_cases h : x.1 = k <;> simp [h]
  · simp [pairN]
theorem pairN_drop (xs : List (D × Addr × V)) (k : D) : pairN (xs.filter fun x => decide (x.1 ≠ k)) = dropK (pairN xs) k := by
  unfold pairN dropK
  rw [List.filter_map]
  rfl
theorem NP.put {kvs : List (D × Addr × V)} {xs : List (D × Addr × Value)} (r : NP kvs xs) (k : D) (a : Addr) {y : V} {u : Value} (ry : RelV y u) : NP (putN kvs k a y) (storedH xs k a u) := by
  have e : (kvs.any fun kv => decide (kv.1 = k)) = (atKey xs k).isSome := by
    rw [← any_pairN, valV_any, (NP.val r k).isSome_eq, Option.isSome_map]
  unfold putN storedH
  rw [e]
  by_cases q : (atKey xs k).isSome = true
  · rw [if_pos q, if_pos q]
    clear e q
    induction r with
    | nil => exact .nil
    | @cons p q ps qs h t ih =>
      rw [List.map_cons, List.map_cons]
      refine .cons ?_ ih
      obtain ⟨h1, h2, h3⟩ := h
      unfold putAt
      by_cases e : p.1 = k
      · rw [if_pos e, if_pos (h1.symm.trans e)]; exact ⟨h1, h2, ry⟩
      · rw [if_neg e, if_neg (fun z => e (h1.trans z))]; exact ⟨h1, h2, h3⟩
  · rw [if_neg q, if_neg q]; exact Paired.snoc r ⟨rfl, rfl, ry⟩
theorem NP.drop {kvs : List (D × Addr × V)} {xs : List (D × Addr × Value)} (r : NP kvs xs) (k : D) : NP (kvs.filter fun x => decide (x.1 ≠ k)) (withoutH xs k) := by
  unfold withoutH
  induction r with
  | nil => exact .nil
  | @cons p q ps qs h t ih =>
    rw [List.filter_cons, List.filter_cons]
    have h1 := h.1
    by_cases e : p.1 = k
    · have a : ¬ decide (p.1 ≠ k) = true := by simp [e]
      have b : ¬ decide (q.1 ≠ k) = true := by simp [h1.symm.trans e]
      rw [if_neg a, if_neg b]; exact ih
    · have e' : ¬ q.1 = k := fun z => e (h1.trans z)
      have a : decide (p.1 ≠ k) = true := by simp [e]
      have b : decide (q.1 ≠ k) = true := by simp [e']
      rw [if_pos a, if_pos b]; exact .cons h ih
theorem key_is (I : Inv X pins σ H s) (hk : KeyOk k) (hy : Is H k y) (ry : RelV y u) : ∃ b, u = .ref b ∧ y = .ref b ∧ (nestedKind X.prog X.w).is s.heap k b := by
  obtain ⟨⟨ks, rfl⟩, hd⟩ := hk
  obtain ⟨a, xs, rfl, ha, hxs⟩ := id hy
  obtain rfl : u = Value.ref a := ry
  exact ⟨a, rfl, rfl, Is.nested I.hok _ hy rfl, hd⟩
theorem n_room (hu : A.units + 64 < cLine) : (nestedKind X.prog X.w).room A.in1 := by
  show A.units + 1 + 8 < cLine
  omega
/-- what the dict at d holds at y -/
def NGet (P : Program) (w : World) (H : Hp) (d : Addr) (y : V) (o : Option V) : Prop := ∃ kvs k, NR P w H d kvs ∧ KeyOk k ∧ Is H k y ∧ o = valV kvs k
theorem n_getItem {Q : Value → Shared → Prop} (hu : A.units + 64 < cLine) (I : Inv X pins σ H s) (g : NGet X.prog X.w H d y (some v)) (ry : RelV y u) (h : ∀ w' s', Inv X pins σ H s' → RelV v w' → Q w' s') :
    wpAny (model X.prog X.w) A (getItem (.ref d) u) Q E s := by
  obtain ⟨kvs, k, ⟨xs, rfl, hd, hk⟩, ok, hy, l⟩ := g
  obtain ⟨b, rfl, rfl, hb⟩ := key_is I ok hy ry
  obtain ⟨lo, z, ys, r, dd⟩ := nd_rd I hd hk
  obtain ⟨w', hw, rw'⟩ := RelO.some_of (v := v) (o := (atKey ys k).map (·.2)) (by rw [l]; exact NP.val r k)
  obtain ⟨p, hp, hp2⟩ := Option.map_eq_some_iff.mp hw
  refine wpAny_getItem_heap (n_room hu) hb dd hp ?_
  rw [hp2]
  exact h w' _ (I.tok _) rw'
theorem n_in {Q : Value → Shared → Prop} {o : Option V} (hu : A.units + 64 < cLine) (I : Inv X pins σ H s) (g : NGet X.prog X.w H d y o) (ry : RelV y u) (h : ∀ s', Inv X pins σ H s' → Q (.bool o.isSome) s') :
    wpAny (model X.prog X.w) A (compareOp .In u (.ref d)) Q E s := by
  obtain ⟨kvs, k, ⟨xs, rfl, hd, hk⟩, ok, hy, l⟩ := g
  obtain ⟨b, rfl, rfl, hb⟩ := key_is I ok hy ry
  obtain ⟨lo, z, ys, r, dd⟩ := nd_rd I hd hk
  refine wpAny_in_heap (n_room hu) hb lo dd ?_
  have q := (NP.val r k).isSome_eq
  rw [Option.isSome_map] at q
  rw [← q, ← l]
  exact h _ (I.tok _)
theorem n_notIn {Q : Value → Shared → Prop} {o : Option V} (hu : A.units + 64 < cLine) (I : Inv X pins σ H s) (g : NGet X.prog X.w H d y o) (ry : RelV y u) (h : ∀ s', Inv X pins σ H s' → Q (.bool (!o.isSome)) s') :
    wpAny (model X.prog X.w) A (compareOp .NotIn u (.ref d)) Q E s := by
  obtain ⟨kvs, k, ⟨xs, rfl, hd, hk⟩, ok, hy, l⟩ := g
  obtain ⟨b, rfl, rfl, hb⟩ := key_is I ok hy ry
  obtain ⟨lo, z, ys, r, dd⟩ := nd_rd I hd hk
  refine wpAny_notIn_heap (n_room hu) hb lo dd ?_
  have q := (NP.val r k).isSome_eq
  rw [Option.isSome_map] at q
  rw [← q, ← l]
  exact h _ (I.tok _)
/-- the heap behind d[y] = v -/
def NPut (P : Program) (w : World) (H : Hp) (d : Addr) (y v : V) (H' : Hp) : Prop := ∃ xs k b, H d = some (ND P w d xs) ∧ NKeys H xs ∧ KeyOk k ∧ y = .ref b ∧ Is H k y ∧ xs.length < sizeLine ∧ H' = upd H d (ND P w d (putN xs k b v))
theorem putN_length (xs : List (D × Addr × V)) (k : D) (a : Addr) (v : V) : (putN xs k a v).length ≤ xs.length + 1 := by
  unfold putN
  split
  · rw [List.length_map]; omega
  · simp
theorem n_setItem {H' : Hp} {Q : Unit → Shared → Prop} (hu : A.units + 64 < cLine) (I : Inv X pins σ H s) (g : NPut X.prog X.w H d y v H') (ry : RelV y u) (rv : RelV v r) (h : ∀ s', Inv X pins σ H' s' → Q () s') :
    wpAny (model X.prog X.w) A (setItem (.ref d) u r) Q E s := by
  obtain ⟨xs, k, b, hd, hk, ok, rfl, hy, hl, rfl⟩ := g
  obtain ⟨b', rfl, e, hb⟩ := key_is I ok hy ry
  cases e
  obtain ⟨lo, z, ys, rl, dd⟩ := nd_rd I (.inl hd) hk
  have hz : ys.length ≤ sizeLine := by rw [← Paired.length rl]; exact z
  have hl2 : (putN xs k b v).length ≤ sizeLine := by have := putN_length xs k b v; omega
  refine wpAny_setItem_heap (hsz := hz) (n_room hu) hb dd fun h' dd' hs => h _ ?_
  obtain ⟨q, es, ep, hq, h2, h3, h4, _, h5⟩ := dd'
  exact d_write I (by rw [hd]; exact True.intro) hs ⟨q, hq⟩ (nd_new ⟨lo, hl2, _, NP.put rl k b rv, q, es, ep, hq, h2, h3, h4, h5⟩)
theorem n_pop {Q : Value → Shared → Prop} (hu : A.units + 64 < cLine) (I : Inv X pins σ H s) (hd : H d = some (ND X.prog X.w d kvs)) (hk : NKeys H kvs) (ok : KeyOk k) (hy : Is H k y) (ry : RelV y u) (l : valV (pairN kvs) k = some v)
    (h : ∀ w' s', Inv X pins σ (upd H d (ND X.prog X.w d (kvs.filter fun x => decide (x.1 ≠ k)))) s' → RelV v w' → Q w' s') : wpAny (model X.prog X.w) A (call (.builtin "dict.pop") [.ref d, u]) Q E s := by
  obtain ⟨b, rfl, rfl, hb⟩ := key_is I ok hy ry
  obtain ⟨lo, z, ys, rl, dd⟩ := nd_rd I (.inl hd) hk
  obtain ⟨w', hw, rw'⟩ := RelO.some_of (v := v) (o := (atKey ys k).map (·.2)) (by rw [← l]; exact NP.val rl k)
  obtain ⟨p, hp, hp2⟩ := Option.map_eq_some_iff.mp hw
  subst hp2
  refine call_pop_heap (more := []) (hsz := by rw [← Paired.length rl]; exact z) (.inl rfl) (PySem.F.args_dict_pop_2 _ _) (n_room hu) hb lo dd hp fun h' dd' hs => h _ _ ?_ rw'
  obtain ⟨q, es, ep, hq, h2, h3, h4, _, h5⟩ := dd'
  exact d_write I (by rw [hd]; exact True.intro) hs ⟨q, hq⟩ (nd_new ⟨lo, Nat.le_trans (List.length_filter_le _ _) z, _, NP.drop rl k, q, es, ep, hq, h2, h3, h4, h5⟩)
end
end K76
set_option Elab.async false
set_option linter.all false
set_option maxRecDepth 100000
set_option maxHeartbeats 4000000
namespace K76
open PySem PySem.Spec PyProof.Rows L2
/-! ### rules for dicts with nested keys -/
def tNNew (P : Program) (w : World) : TE := fun _ H Q => ∀ p, H p = none → Q (.ref p) (upd H p (ND P w p []))
def tNGet (P : Program) (w : World) (td ty : TE) : TE := fun σ H Q => td σ H fun x H1 => ty σ H1 fun y H2 => ∃ a v, x = .ref a ∧ NGet P w H2 a y (some v) ∧ Q v H2
def tNIn (P : Program) (w : World) (ty td : TE) : TE := fun σ H Q => ty σ H fun y H1 => td σ H1 fun x H2 => ∃ a o, x = .ref a ∧ NGet P w H2 a y o ∧ Q (.bl o.isSome) H2
def tNNotIn (P : Program) (w : World) (ty td : TE) : TE := fun σ H Q => ty σ H fun y H1 => td σ H1 fun x H2 => ∃ a o, x = .ref a ∧ NGet P w H2 a y o ∧ Q (.bl (!o.isSome)) H2
def sNPut (P : Program) (w : World) (td ty tv : TE) : TS := fun D σ H => tv σ H fun v H1 => td σ H1 fun x H2 => ty σ H2 fun y H3 => ∃ a H4, x = .ref a ∧ NPut P w H3 a y v H4 ∧ D.nx σ H4
def tNPop (P : Program) (w : World) (td ty : TE) : TE := fun σ H Q => td σ H fun x H1 => ∃ a xs, x = .ref a ∧ H1 a = some (ND P w a xs) ∧ ty σ H1 fun y H2 => ∃ kvs k v, H2 a = some (ND P w a kvs) ∧ NKeys H2 kvs ∧ KeyOk k ∧ Is H2 k y ∧ valV (pairN kvs) k = some v ∧ Q v (upd H2 a (ND P w a (kvs.filter fun x => decide (x.1 ≠ k))))
theorem nd_typeIs {X : Cx} {pins : List (Addr × Obj)} {σ : L2.St} {H : Hp} {s : Shared} {d : Addr} {xs : List (D × Addr × V)} (I : Inv X pins σ H s) (h : Rd H d (ND X.prog X.w d xs)) :
    s.TypeIs (.ref d) "dict" ∧ (∀ b, Value.ref d = .ref b → ∃ ob, s.heap.get? b = some ob ∧ ob.dict = none) := by
  obtain ⟨⟨_, _, _, _, o, es, ep, h1, h2, _⟩, _⟩ := (show ObjOk X.prog X.w H s.heap d (ND X.prog X.w d xs) from h.ok I.hok)
  exact ⟨⟨o, h1, h2.1⟩, fun b e => by cases e; exact ⟨o, h1, h2.2.1⟩⟩
section
variable {X : Cx} {o i e value : Expr} {pos pos' apos cpos : Pos} {td ty tv : TE}
theorem pe_nnew : PE X (.Dict [] [] pos) (tNNew X.prog X.w) := ⟨fun pins s σ H Q I h =>
  wpAny_Dict_empty ⟨.ref s.heap.objs.size, _, I.laid (a := s.heap.objs.size) (o := ND X.prog X.w s.heap.objs.size []) (t' := s.toks) (fun _ _ q => Heap.get?_push_of_some _ q) (Nat.le_refl _)
    (nd_new ⟨beq_eq_false_iff_ne.mpr (Ne.symm (Nat.ne_of_lt I.big)), Nat.zero_le _, [], .nil, _, #[], 0, Heap.get?_push_size _ rfl, ⟨rfl, rfl, rfl⟩, rfl, rfl, List.nodup_nil⟩), rfl, h _ (I.hok.fresh (Nat.le_refl _))⟩⟩
theorem pe_nget (hu : X.A.units + 64 < cLine) (ho : PE X o td) (hi : PE X i ty) (hs : NoSl i) : PE X (.Subscript o i pos) (tNGet X.prog X.w td ty) := by
  refine ⟨fun pins s σ H Q I h => ?_⟩
  refine subD_of PySem.F.slot_dict_getitem.lookup hs (thn (ho.run pins s σ H _ I h) fun u s1 ⟨x, H1, I1, rx, q1⟩ => thn (hi.run pins s1 σ H1 _ I1 q1) fun iv s2 ⟨y, H2, I2, ry, a, v, ex, g, q2⟩ => ?_)
  subst ex
  obtain rfl : u = Value.ref a := rx
  have ⟨_, _, ⟨_, _, hd, _⟩, _⟩ := g
  exact ⟨(nd_typeIs I2 hd).1, n_getItem hu I2 g ry fun w' s3 I3 rw' => ⟨v, H2, I3, rw', q2⟩⟩
theorem pc_nin (hu : X.A.units + 64 < cLine) (hi : PE X i ty) (ho : PE X o td) : PC X .In i o (tNIn X.prog X.w ty td) := by
  refine ⟨fun pins s σ H Q I h => ?_⟩
  refine thn (hi.run pins s σ H _ I h) fun iv s1 ⟨y, H1, I1, ry, q1⟩ => thn (ho.run pins s1 σ H1 _ I1 q1) fun u s2 ⟨x, H2, I2, rx, a, ov, ex, g, q2⟩ => ?_
  subst ex
  obtain rfl : u = Value.ref a := rx
  exact n_in hu I2 g ry fun s3 I3 => ⟨.bl ov.isSome, H2, I3, rfl, q2⟩
theorem pc_nnotin (hu : X.A.units + 64 < cLine) (hi : PE X i ty) (ho : PE X o td) : PC X .NotIn i o (tNNotIn X.prog X.w ty td) := by
  refine ⟨fun pins s σ H Q I h => ?_⟩
  refine thn (hi.run pins s σ H _ I h) fun iv s1 ⟨y, H1, I1, ry, q1⟩ => thn (ho.run pins s1 σ H1 _ I1 q1) fun u s2 ⟨x, H2, I2, rx, a, ov, ex, g, q2⟩ => ?_
  subst ex
  obtain rfl : u = Value.ref a := rx
  exact n_notIn hu I2 g ry fun s3 I3 => ⟨.bl (!ov.isSome), H2, I3, rfl, q2⟩
theorem ps_nput (hu : X.A.units + 64 < cLine) (ho : PE X o td) (hi : PE X i ty) (hv : PE X value tv) (hs : swapsWith value (some (.Subscript o i pos')) pos.line X.env = pure false) :
    PS X (.Assign [.Subscript o i pos'] value pos) (sNPut X.prog X.w td ty tv) := by
  refine ⟨fun pins s σ H D I h => ?_⟩
  refine wpAny_Assign_Subscript (thn (hv.run pins s σ H _ I h) fun r s1 ⟨v, H1, I1, rv, q1⟩ => thn (ho.run pins s1 σ H1 _ I1 q1) fun u s2 ⟨x, H2, I2, rx, q2⟩ => thn (hi.run pins s2 σ H2 _ I2 q2) fun iv s3 ⟨y, H3, I3, ry, a, H4, ex, g, q3⟩ => ?_) hs
  subst ex
  obtain rfl : u = Value.ref a := rx
  exact n_setItem hu I3 g ry rv fun s4 I4 => ⟨σ, H4, I4, q3⟩
theorem pe_npop (hu : X.A.units + 64 < cLine) (ho : PE X o td) (he : PE X e ty) (m : M1 X o "pop" apos e cpos) : PE X (.Call (.Attribute o "pop" apos) [e] [] cpos) (tNPop X.prog X.w td ty) := by
  refine ⟨fun pins s σ H Q I h => ?_⟩
  refine wpAny_Call_method m.base m.few m.line PySem.F.plainAttrs_dict PySem.F.slot_dict_pop PySem.F.type_dict_pop (thn (ho.run pins s σ H _ I h) fun u s1 ⟨x, H1, I1, rx, a, xs, ex, d, q1⟩ => ?_)
  subst ex
  obtain rfl : u = Value.ref a := rx
  obtain ⟨t1, t2⟩ := nd_typeIs I1 (.inl d)
  refine ⟨t1, t2, ?_⟩
  rw [m.trees]
  refine Calls.callWith_builtin rfl (Calls.evalArgs_plain (Calls.spliced_cons (thn (he.run pins s1 σ H1 _ I1 q1) fun iv s2 ⟨y, H2, I2, ry, kvs, k, v, ea, ek, ok, ey, l, q2⟩ => Calls.spliced_nil ?_)))
  exact n_pop hu I2 ea ek ok ey ry l fun w' s3 I3 rw' => ⟨v, _, I3, rw', q2⟩
def rLenN (P : Program) (w : World) : List V → Hp → VK → Prop := fun xs H Q => ∃ (p : Addr) (kvs : List (D × V)), xs = [.ref p] ∧ NAt P w H p kvs ∧ Q (.int ((kvs.length : Nat) : Int)) H
theorem call_len_N : CallR X (.builtin "len") (rLenN X.prog X.w) := by
  intro pins s σ H xs us Q I r h
  obtain ⟨p, kvs, rfl, ⟨ys, rfl, hp, hk⟩, q⟩ := h
  obtain ⟨u, rfl, rx⟩ := vals1 r
  obtain rfl : u = .ref p := rx
  obtain ⟨hd, z, zs, rel, dd⟩ := nd_rd I (.inl hp) hk
  have hl : ys.length = zs.length := Paired.length rel
  refine call_len_dictH hd dd (by rw [← hl]; rw [sizeLine_eq] at z; omega) ?_
  rw [← hl]
  refine ⟨.int ((ys.length : Nat) : Int), H, I.tok _, ⟨_, rfl⟩, ?_⟩
  have e : (pairN ys).length = ys.length := by simp [pairN]
  rw [e] at q
  exact q
/-- the keys' tuples, in order -/
def nRefs (xs : List (D × Addr × V)) : List V := xs.map fun x => V.ref x.2.1
theorem np_refs : ∀ {kvs : List (D × Addr × V)} {xs : List (D × Addr × Value)}, NP kvs xs → (xs.map fun x => x.2.1) = kvs.map fun x => x.2.1
  | _, _, .nil => rfl
  | _, _, .cons h t => by rw [List.map_cons, List.map_cons, np_refs t, h.2.1]
/-- list(d) -/
def rListN (P : Program) (w : World) : List V → Hp → VK → Prop := fun vs H Q => ∃ d xs, vs = [V.ref d] ∧ H d = some (ND P w d xs) ∧ NKeys H xs ∧ ∀ p, H p = none → Q (.ref p) (upd H p (.lst (nRefs xs)))
theorem nd_raw {pins : List (Addr × Obj)} {σ : L2.St} {H : Hp} {s : Shared} {d : Addr} {xs : List (D × Addr × V)} (I : Inv X pins σ H s) (hd : Rd H d (ND X.prog X.w d xs)) :
    (d == sysModules) = false ∧ ∃ (ks : List (D × Addr × Value)) (o : Obj) (es : Array DictEntry) (ep : Nat), NP xs ks ∧ s.heap.get? d = some o ∧ o.ExactDict ∧ o.data = .dict es ep ∧ es.toList = ks.map (entryOfKey (nestedKind X.prog X.w)) ∧ xs.length ≤ sizeLine ∧ es.size = xs.length := by
  have z : ObjOk X.prog X.w H s.heap d (ND X.prog X.w d xs) := hd.ok I.hok
  obtain ⟨⟨a, b, ks, r, o, es, ep, h1, h2, h3, h4, h5⟩, _⟩ := z
  exact ⟨a, ks, o, es, ep, r, h1, h2, h3, h4, b, by rw [size_of_entries h4, Paired.length r]⟩
theorem items_refs {es : Array DictEntry} {ks : List (D × Addr × Value)} (he : es.toList = ks.map (entryOfKey (nestedKind X.prog X.w))) {acc : Array Value}
    (it : ItemsOf (fun i v => ∃ en : DictEntry, es[i]? = some en ∧ v = en.key) acc es.size) : acc.toList = (ks.map fun x => x.2.1).map Value.ref := by
  have l1 : es.size = ks.length := size_of_entries he
  have hl : acc.toList.length = ks.length := by rw [Array.length_toList, it.1]; exact l1
  apply List.ext_getElem?
  intro j
  rw [List.getElem?_map, List.getElem?_map]
  cases hj : acc.toList[j]? with
  | none =>
    have h1 := List.getElem?_eq_none_iff.mp hj
    rw [List.getElem?_eq_none (by omega)]
    all_goals rfl
  | some v =>
    obtain ⟨en, hen, hv⟩ := it.2 j v (by rw [← Array.getElem?_toList]; exact hj)
    have qe := entry_at he j
    rw [hen] at qe
    cases hb : ks[j]? with
    | none =>
      rw [hb] at qe
      exact nomatch (show some en = none from qe)
    | some b =>
      rw [hb] at qe
      have e2 : en = entryOfKey (nestedKind X.prog X.w) b := Option.some.inj qe
      rw [hv, e2]
      all_goals rfl
theorem call_list_N (hc : X.calm = true) : CallR X (.type "list") (rListN X.prog X.w) := by
  intro pins s σ H vs us Q I r h
  obtain ⟨d, xs, rfl, hd, hk, q⟩ := h
  obtain ⟨u, rfl, rx⟩ := vals1 r
  obtain rfl : u = .ref d := rx
  obtain ⟨hs, ks, o, es, ep, pr, ho, hx, hdt, he, z, l⟩ := nd_raw I (.inl hd)
  refine PySem.W.kdl_call (kdl_raw hs hx hdt) (I.ok.hd hc) ho (by omega) fun h' tk acc' c' kp e it => ?_
  have eb := items_refs he it
  rw [np_refs pr] at eb
  have e3 : nRefs xs = (xs.map fun x => x.2.1).map V.ref := by rw [List.map_map]; rfl
  have rv : Vals (nRefs xs) acc'.toList := by rw [eb, e3]; exact vals_refs _
  have hz : (nRefs xs).length ≤ sizeLine := by unfold nRefs; rw [List.length_map]; exact z
  refine ⟨.ref s.heap.objs.size, _, I.laid (t' := tk) (o := .lst (nRefs xs)) kp (Nat.le_refl _) ?_, rfl, q _ (I.hok.fresh (Nat.le_refl _))⟩
  exact ⟨hz, acc'.toList, c', rv, by rw [Array.toArray_toList]; exact e⟩
end

/-! ### for k in d (d locked) -/
def Itkn (P : Program) (w : World) (d : Addr) (o : Obj) (xs : List (D × Addr × V)) : It :=
  ⟨fun i H => H d = some (.frz o (ND P w d xs)) ∧ i < xs.length, fun i H x H' => H' = H ∧ ∃ e, xs[i]? = some e ∧ x = .ref e.2.1, fun i H => H d = some (.frz o (ND P w d xs)) ∧ xs.length ≤ i⟩
theorem frzN {X : Cx} {pins : List (Addr × Obj)} {σ : L2.St} {H : Hp} {s : Shared} {d : Addr} {o : Obj} {xs : List (D × Addr × V)} (I : Inv X pins σ H s) (h : H d = some (.frz o (ND X.prog X.w d xs))) :
    (d == sysModules) = false ∧ s.heap.get? d = some o ∧ o.ExactDict ∧ ∃ (es : Array DictEntry) (ep : Nat), o.data = .dict es ep ∧ es.size = xs.length ∧
      ∀ (i : Nat) (e : D × Addr × V), xs[i]? = some e → ∃ en : DictEntry, es[i]? = some en ∧ en.key = .ref e.2.1 := by
  obtain ⟨hs, ks, o', es, ep, pr, ho, hx, hdt, he, z, l⟩ := nd_raw I (.inr ⟨o, h⟩)
  obtain ⟨hd, _⟩ := I.hok d _ h
  rw [hd] at ho
  cases ho
  refine ⟨hs, hd, hx, es, ep, hdt, l, fun i e q => ?_⟩
  obtain ⟨b, hb, e1, e2, _⟩ := paired_get pr q
  have q := entry_at he i
  rw [hb] at q
  exact ⟨_, q, by show Value.ref b.2.1 = _; rw [e2]⟩
theorem turn_keysN {P : Program} {w : World} {K : PySem.W.Frag} {tg : Expr} {d : Addr} {o : Obj} {es : Array DictEntry} {ep : Nat} {xs : List (D × Addr × V)} (it : Addr) (hod : o.data = .dict es ep) :
    Turn P w K tg (Itkn P w d o xs) [it] it (fun i h => h.IsKeyIter it d i xs.length ep) where
  mem := by simp
  obj := fun i h st b hb => by
    have e : b = it := by simpa using hb
    subst e
    obtain ⟨oi, e, c, dd⟩ := st
    exact ⟨oi, e, fun v z => by rw [dd] at z; cases z⟩
  keep := fun i h h' st k => st.at fun oi e => k it (by simp) oi e
  item := by
    intro X hP hw hK hc i pins s σ H E I hf st hg
    subst hP hw hK
    obtain ⟨hd, hi⟩ := hg
    obtain ⟨f0, f1, f2, f3, f4, f5⟩ := hf it (by simp)
    obtain ⟨hs, hgd, hx, es', ep', hdt, hsz, ent⟩ := frzN I hd
    obtain ⟨rfl, rfl⟩ := dict_ep hod hdt
    obtain ⟨e, hkv⟩ : ∃ p, xs[i]? = some p := ⟨xs[i], List.getElem?_eq_getElem hi⟩
    obtain ⟨en, hen, hkey⟩ := ent i e hkv
    refine next_key_item st hgd hdt hsz hen fun h' st' sb => ?_
    have I1 : Inv X pins σ H { s with heap := h' } := I.turned (t' := s.toks) (fun b ob hb e => (sb.2 b hb).trans e) f0 f1 f3 f4 f5
    obtain ⟨oi, e', c, dd⟩ := id st'
    exact ⟨en.key, rfl, go_of (s := { s with heap := h' }) e' c dd (by decide) ⟨.ref e.2.1, H, I1, hkey, ⟨rfl, e, hkv, rfl⟩, st', fun b hb => (hf b hb).1⟩⟩
  done := by
    intro X hP hw hK hc i pins s σ H E I hf st hg
    subst hP hw hK
    obtain ⟨hd, hi⟩ := hg
    obtain ⟨f0, f1, f2, f3, f4, f5⟩ := hf it (by simp)
    obtain ⟨hs, hgd, hx, es', ep', hdt, hsz, ent⟩ := frzN I hd
    obtain ⟨rfl, rfl⟩ := dict_ep hod hdt
    exact next_key_end (I.ok.hd hc) st hgd hdt hsz hi fun h' eb => ⟨rfl, I.turned (t' := s.toks) (fun b ob hb e => eb b ob hb e) f0 f1 f3 f4 f5⟩
  self := fun A i s Q E st h => by
    refine wpAny_pyIter_slot st.typeIs PySem.F.slot_dict_keyiterator_iter (wpAny_call_entry PySem.F.slot_dict_keyiterator_iter st.typeIs PySem.F.entry_dict_keyiterator_iter ?_ (PySem.F.args_dict_keyiterator_iter_1 _))
    show wpAny _ _ (ret (.ref it)) _ _ s
    exact wpAny_pure ⟨_, rfl, "dict_keyiterator", _, st.typeIs, PySem.F.slot_dict_keyiterator_next.lookup, h⟩
def iKeysN (P : Program) (w : World) (td : TE) : TI := fun σ H R => td σ H fun x H1 => ∃ d o xs, x = .ref d ∧ H1 d = some (.frz o (ND P w d xs)) ∧ R (Itkn P w d o xs) H1
theorem pi_nkeys {X : Cx} {tg e : Expr} {td : TE} (he : PE X e td) : PI X tg e (iKeysN X.prog X.w td) := by
  refine ⟨fun pins s σ H R I h => ?_⟩
  refine thn (he.run pins s σ H _ I h) fun u s1 ⟨x, H1, I1, rx, d, o, xs, ex, hd, q⟩ => ?_
  subst ex
  obtain rfl : u = Value.ref d := rx
  obtain ⟨hs, hgd, hx, es, ep, hdt, hsz, ent⟩ := frzN I1 hd
  refine iter_keys hs hgd hx hdt (pi_one (tk := s1.toks) I1 _ (turn_keysN _ hdt) ⟨_, Heap.get?_push_size _ rfl, rfl, ?_⟩ q)
  rw [hsz] <;> rfl
end K76
set_option Elab.async false
set_option linter.all false
set_option maxRecDepth 100000
set_option maxHeartbeats 4000000
namespace K76
open PySem PySem.Spec PyProof.Rows L2

/-! ### sorted of data: a rearrangement -/
theorem sortVals_perm {κ : PyProof.Rows.KeyKind} {vs : List Value} : (PySem.W.sortVals κ false vs vs).Perm vs := by
  unfold PySem.W.sortVals
  have h1 := (List.mergeSort_perm (vs.zip vs) (PySem.W.sortLe κ.toKeyOrd false fun p : Keyed => PySem.W.keyD κ p.1)).map Prod.snd
  have h2 : (vs.zip vs).map Prod.snd = vs := by
    rw [List.map_snd_zip]
    exact Nat.le_refl _
  rw [h2] at h1
  exact h1
/-- alike, and tuples with an item at least -/
def Srtbl (ds : List D) : Prop := (∀ d ∈ ds, ∀ e ∈ ds, PySem.W.alike d.data e.data = true) ∧ ∀ d ∈ ds, (∃ k ks, d = .tup (k :: ks)) ∧ d.depth ≤ 8
mutual
theorem depth_data : ∀ d : D, d.data.depth = d.depth
  | .none => rfl
  | .num _ => rfl
  | .text _ => rfl
  | .tup ks => by
    show PyData.depthAll (NestedKey.datas ks) + 1 = NestedKey.depthAll ks + 1
    rw [depth_datas ks]
theorem depth_datas : ∀ ks : List D, PyData.depthAll (NestedKey.datas ks) = NestedKey.depthAll ks
  | [] => rfl
  | k :: ks => by
    show max k.data.depth (PyData.depthAll (NestedKey.datas ks)) = max k.depth (NestedKey.depthAll ks)
    rw [depth_data k, depth_datas ks]
end
theorem srt_all {ds : List D} (h : Srtbl ds) : PySem.W.AllAlike (ds.map NestedKey.data) := by
  intro a ha b hb
  obtain ⟨d, hd, rfl⟩ := List.mem_map.mp ha
  obtain ⟨e, he, rfl⟩ := List.mem_map.mp hb
  exact h.1 d hd e he
theorem srt_able {ds : List D} (h : Srtbl ds) : PySem.W.Sortable (ds.map NestedKey.data) := .inl fun a ha => by
  obtain ⟨d, hd, rfl⟩ := List.mem_map.mp ha
  obtain ⟨⟨k, ks, rfl⟩, _⟩ := h.2 d hd
  exact ⟨_, _, rfl⟩
theorem srt_deep {ds : List D} (h : Srtbl ds) : ∀ a ∈ ds.map NestedKey.data, a.depth ≤ 8 := fun a ha => by
  obtain ⟨d, hd, rfl⟩ := List.mem_map.mp ha
  rw [depth_data]
  exact (h.2 d hd).2
theorem each_reads {P : Program} {w : World} {H : Hp} {h : Heap} (ok : HOk P w H h) : ∀ {ds : List D} {xs : List V} {us : List Value}, IsAll H ds xs → Vals xs us → PySem.W.EachIs (fun v d => ∃ as, Reads h v d as) us (ds.map NestedKey.data)
  | [], _, _, e, r => by cases e; cases r; exact .nil
  | k :: ks, _, _, ⟨x, r, e, h1, h2⟩, rv => by
    subst e
    cases rv with
    | cons r1 r2 => exact .cons ⟨_, Is.reads ok k h1 r1⟩ (each_reads ok h2 r2)
theorem IsAll.keep_reads {h h' : Heap} (k : ∀ b o, h.get? b = some o → h'.get? b = some o) {us : List Value} {ds : List PyData} (e : PySem.W.EachIs (fun v d => ∃ as, Reads h v d as) us ds) : PySem.W.EachIs (fun v d => ∃ as, Reads h' v d as) us ds :=
  e.mono fun _ _ ⟨as, r⟩ => ⟨as, PyProof.Rows.Reads.keeps k r⟩
theorem srt_refs {H : Hp} {ds : List D} (h : Srtbl ds) : ∀ {xs : List V}, IsAll H ds xs → ∀ x ∈ xs, ∃ a, x = V.ref a := by
  intro xs hx x hm
  obtain ⟨i, hi⟩ := List.getElem?_of_mem hm
  obtain ⟨k, hk, e⟩ := hx.get' hi
  obtain ⟨⟨k1, ks, rfl⟩, _⟩ := h.2 k (List.mem_of_getElem? hk)
  obtain ⟨a, _, e, _⟩ := e
  exact ⟨a, e⟩
section
variable {X : Cx}
/-- sorted(xs), xs a list of alike tuples -/
def rSortD (K : PySem.W.Frag) : List V → Hp → VK → Prop := fun vs H Q => ∃ (a : Addr) (xs : List V) (ds : List D), vs = [V.ref a] ∧ SqL K H a xs ∧ IsAll H ds xs ∧ Srtbl ds ∧
  ∀ ys p, ys.Perm xs → H p = none → Q (.ref p) (upd H p (.lst ys))
theorem cr_sortD (hu : X.A.units + 64 < cLine) : CallR X (.builtin "sorted") (rSortD X.K) := by
  intro pins s σ H vs us Q I r h
  obtain ⟨a, xs, ds, rfl, hs, hd, hk, q⟩ := h
  obtain ⟨its, rv, hl, hz⟩ := I.list hs
  obtain ⟨u, rfl, ru⟩ := vals1 r
  obtain rfl : u = Value.ref a := ru
  have er := each_reads I.hok hd rv
  obtain ⟨e1, e2⟩ := refs_back rv (srt_refs hk hd)
  have hlen : its.length = xs.length := rv.length.symm
  refine PySem.W.sorted_vals hl.isList (PySem.W.SortsAt.data (IsAll.keep_reads (fun b o => PySem.W.sorting_copy_old) er) (srt_all hk) (srt_able hk) fun d m => ?_) (by omega) ?_
  · have := srt_deep hk d m
    show X.A.units + 1 + 1 + d.depth < cLine
    omega
  · have hp : ∀ {κ : PyProof.Rows.KeyKind}, (PySem.W.sortVals κ false its its).Perm its := sortVals_perm
    generalize hk : PySem.W.dataKind _ _ = κ
    have hp := hp (κ := κ)
    generalize PySem.W.sortVals κ false its its = out at hp ⊢
    have h3 : ∀ u ∈ out, ∃ a, u = Value.ref a := fun u hu => e2 u (hp.mem_iff.mp hu)
    have hb : (out.map backV).Perm xs := by
      rw [e1]
      exact hp.map backV
    obtain ⟨ep, he'⟩ := PyProof.Rows.sortedAll_at s.heap its out.toArray
    have hlen : (out.map backV).length ≤ sizeLine := by
      rw [hb.length_eq]
      exact hz
    exact ⟨.ref _, upd H (s.heap.objs.size + 1) (.lst (out.map backV)), I.laid (t' := s.toks) (fun _ _ => PyProof.Rows.sortedAll_old) (Nat.le_succ _) ⟨hlen, out, ep, vals_back h3, he'⟩, rfl, q _ _ hb (I.hok.fresh (Nat.le_succ _))⟩
end
end K76
set_option Elab.async false
set_option linter.all false
set_option maxRecDepth 100000
set_option maxHeartbeats 4000000
namespace K76
open PySem PySem.Spec PyProof.Rows L2
section
variable {X : Cx}
/-- sorted(d), d a dict with nested keys -/
def rSortN (P : Program) (w : World) : List V → Hp → VK → Prop := fun vs H Q => ∃ (d : Addr) (xs : List (D × Addr × V)), vs = [V.ref d] ∧ H d = some (ND P w d xs) ∧ NKeys H xs ∧ Srtbl (xs.map (·.1)) ∧
  ∀ ys p, ys.Perm (nRefs xs) → H p = none → Q (.ref p) (upd H p (.lst ys))
theorem nkeys_all {H : Hp} : ∀ {xs : List (D × Addr × V)}, NKeys H xs → IsAll H (xs.map (·.1)) (nRefs xs)
  | [], _ => rfl
  | x :: xs, h => ⟨_, _, rfl, (h x List.mem_cons_self).1, nkeys_all fun p m => h p (List.mem_cons_of_mem _ m)⟩
theorem cr_sortN (hc : X.calm = true) (hu : X.A.units + 64 < cLine) : CallR X (.builtin "sorted") (rSortN X.prog X.w) := by
  intro pins s σ H vs us Q I r h
  obtain ⟨d, xs, rfl, hd, hk, hS, q⟩ := h
  obtain ⟨u, rfl, rx⟩ := vals1 r
  obtain rfl : u = Value.ref d := rx
  obtain ⟨hs, ks, o, es, ep, pr, ho, hx, hdt, he, z, l⟩ := nd_raw I (.inl hd)
  refine Calls.call_function_entry PyProof.Rows.kind_sorted PyProof.Rows.plain_sorted PyProof.Rows.entry_sorted (PyProof.Rows.args_sorted1 _) ?_
  unfold Builtin.«sorted»
  refine wpAny_bind (m := checkCount "sorted" 1 1 _) (wpAny_pure ?_)
  refine wpAny_bind (PySem.W.kdu_collect (A := X.A.in1) (kdl_raw hs hx hdt) (I.ok.hd hc) ho (by omega) fun h' tk acc hkp hacc => ?_)
  have eb := items_refs he hacc
  rw [np_refs pr] at eb
  have e3 : nRefs xs = (xs.map fun x => x.2.1).map V.ref := by rw [List.map_map]; rfl
  have rv : Vals (nRefs xs) acc.toList := by rw [eb, e3]; exact vals_refs _
  have hal : acc.toList.length ≤ sizeLine := by rw [eb]; simpa using z
  have I1 : Inv X pins σ H { s with heap := h', toks := tk } := I.kept hkp
  refine wpAny_bind (wpAny_newList ?_ hal)
  have hoL : (h'.push (seqObj "list" acc.toList.toArray 0)).get? h'.objs.size = some (seqObj "list" acc.toList.toArray 0) := Heap.get?_push_size _ rfl
  show wpAny _ _ _ _ _ { s with heap := h'.push (seqObj "list" acc.toList.toArray 0), toks := tk }
  have er0 := each_reads I1.hok (nkeys_all hk) rv
  obtain ⟨e1, e2⟩ := refs_back rv (srt_refs hS (nkeys_all hk))
  have er := IsAll.keep_reads (h' := PySem.W.sortingHeap (h'.push (seqObj "list" acc.toList.toArray 0)) h'.objs.size acc.toList) (fun b ob e => PySem.W.sortingHeap_old (Nat.ne_of_lt (Heap.lt_size e)) (Heap.get?_push_of_some _ e)) er0
  refine wpAny_bind (wpAny_holding (wpAny_call_entry PyProof.Rows.slot_list_sort ⟨_, hoL, rfl⟩ PyProof.Rows.entry_list_sort
    (PySem.W.list_sort_vals (s := { s with heap := h'.push (seqObj "list" acc.toList.toArray 0), toks := tk }) hoL
      (PySem.W.SortsAt.data (s := { s with heap := PySem.W.sortingHeap (h'.push (seqObj "list" acc.toList.toArray 0)) h'.objs.size acc.toList, toks := tk }) er (srt_all hS) (srt_able hS) fun d m => ?_) hal ⟨_, rfl, ?_⟩)
    (PyProof.Rows.args_list_sort _)))
  · have := srt_deep hS d m
    show X.A.units + 1 + 1 + d.depth < cLine
    omega
  · have hp : ∀ {κ : PyProof.Rows.KeyKind}, (PySem.W.sortVals κ false acc.toList acc.toList).Perm acc.toList := sortVals_perm
    generalize hk : PySem.W.dataKind _ _ = κ
    have hp := hp (κ := κ)
    generalize PySem.W.sortVals κ false acc.toList acc.toList = out at hp ⊢
    have h3 : ∀ u ∈ out, ∃ a, u = Value.ref a := fun u hu => e2 u (hp.mem_iff.mp hu)
    have hb : (out.map backV).Perm (nRefs xs) := by
      rw [e1]
      exact hp.map backV
    obtain ⟨e', he'⟩ := PyProof.Rows.sortedHeap_at (vs := acc.toList) (out := out.toArray) hoL
    have hlen : (out.map backV).length ≤ sizeLine := by
      rw [hb.length_eq]
      unfold nRefs
      rw [List.length_map]
      exact z
    refine wpAny_pure ⟨_, rfl, .ref h'.objs.size, upd H h'.objs.size (.lst (out.map backV)), I1.laid (t' := tk) (fun b u e => ?_) (Nat.le_refl _) ⟨hlen, out, e', vals_back h3, he'⟩, rfl, q _ _ hb (I1.hok.fresh (Nat.le_refl _))⟩
    have hb : b < h'.objs.size := Heap.lt_size e
    rw [PyProof.Rows.sortedHeap_old (Nat.ne_of_lt hb) (by rw [size_push']; exact Nat.lt_succ_of_lt hb)]
    exact Heap.get?_push_of_some _ e

/-! ### < of alike data, lists of texts within too: some answer -/
def rLtD (K : PySem.W.Frag) : R2 := fun x y H Q => ∃ d e, Dp K H x d ∧ Dp K H y e ∧ PySem.W.alike d e = true ∧ d ≠ .none ∧ d.depth ≤ 60 ∧ ∀ b, Q (.bl b) H
theorem op_ltD (hu : X.A.units + 64 < cLine) : OpR X (compareOp .Lt) (rLtD X.K) := by
  intro pins s σ H x y v u Q I rx ry h
  obtain ⟨d, e, hd, he, ha, hn, hz, q⟩ := h
  obtain ⟨as, r1⟩ := Dp.reads I d x v hd rx
  obtain ⟨bs, r2⟩ := Dp.reads I e y u he ry
  refine PySem.W.rcLt_alike d e X.A s v u as bs r1 r2 ha hn ?_ X.prog X.w X.xe _ ⟨.bl _, H, I, rfl, q _⟩
  have := Nat.min_le_left d.depth e.depth
  omega

/-! ### t != (), l == [] -/
def rNeT0 (K : PySem.W.Frag) : R2 := fun x y H Q => ∃ a b xs, x = .ref a ∧ y = .ref b ∧ SqT K H a xs ∧ SqT K H b [] ∧ Q (.bl (!xs.isEmpty)) H
theorem op_neT0 (hu : X.A.units < cLine) : OpR X (compareOp .NotEq) (rNeT0 X.K) := by
  intro pins s σ H x y v u Q I rx ry h
  obtain ⟨a, b, xs, rfl, rfl, ha, hb, q⟩ := h
  cases rx
  cases ry
  obtain ⟨its, rv, ta, za⟩ := I.tuple ha
  obtain ⟨ib, rb, tb, zb⟩ := I.tuple hb
  cases rb
  have e : its.length = xs.length := rv.length.symm
  have fin := SeqAt.RcNeAt.tuples (e := fun _ => true) ta tb hu (fun j h1 h2 => absurd h2 (by simp))
  refine fin X.prog X.w X.xe _ ⟨.bl _, H, I, rfl, ?_⟩
  have key : (!((List.range (min its.toArray.size ([] : List Value).toArray.size)).all (fun _ => true) && its.toArray.size == ([] : List Value).toArray.size)) = !xs.isEmpty := by
    cases xs with
    | nil => cases its with
      | nil => rfl
      | cons => simp at e
    | cons => cases its with
      | nil => simp at e
      | cons => simp
  rw [key]
  exact q
/-- [..] != [] -/
def rNeL0 (K : PySem.W.Frag) : R2 := fun x y H Q => ∃ a b xs, x = .ref a ∧ y = .ref b ∧ SqL K H a xs ∧ SqL K H b [] ∧ Q (.bl (!xs.isEmpty)) H
theorem op_neL0 (hu : X.A.units < cLine) : OpR X (compareOp .NotEq) (rNeL0 X.K) := by
  intro pins s σ H x y v u Q I rx ry h
  obtain ⟨a, b, xs, rfl, rfl, ha, hb, q⟩ := h
  cases rx
  cases ry
  obtain ⟨its, rv, ta, za⟩ := I.list ha
  obtain ⟨ib, rb, tb, zb⟩ := I.list hb
  cases rb
  have e : its.length = xs.length := rv.length.symm
  cases xs with
  | nil =>
    cases its with
    | nil => exact SeqAt.RcNeAt.lists (e := fun _ => true) ta.isList tb.isList rfl hu (fun j h1 => absurd h1 (by simp)) X.prog X.w X.xe _ ⟨.bl _, H, I, rfl, q⟩
    | cons => simp at e
  | cons y ys =>
    cases its with
    | nil => simp at e
    | cons => exact SeqAt.RcNeAt.lists_lengths ta.isList tb.isList (by simp) hu X.prog X.w X.xe _ ⟨.bl _, H, I, rfl, q⟩
/-- [..] == [] -/
def rEqL0 (K : PySem.W.Frag) : R2 := fun x y H Q => ∃ a b xs, x = .ref a ∧ y = .ref b ∧ SqL K H a xs ∧ SqL K H b [] ∧ Q (.bl xs.isEmpty) H
theorem op_eqL0 (hu : X.A.units < cLine) : OpR X (compareOp .Eq) (rEqL0 X.K) := by
  intro pins s σ H x y v u Q I rx ry h
  obtain ⟨a, b, xs, rfl, rfl, ha, hb, q⟩ := h
  cases rx
  cases ry
  obtain ⟨its, rv, ta, za⟩ := I.list ha
  obtain ⟨ib, rb, tb, zb⟩ := I.list hb
  cases rb
  have e : its.length = xs.length := rv.length.symm
  cases xs with
  | nil =>
    cases its with
    | nil => exact SeqAt.eq_listAt (e := fun _ => true) ta.isList tb.isList rfl hu (fun j h1 => absurd h1 (by simp)) ⟨.bl true, H, I, rfl, q⟩
    | cons => simp at e
  | cons y ys =>
    cases its with
    | nil => simp at e
    | cons => exact SeqAt.eq_list_lengthsAt ta.isList tb.isList (by simp) hu ⟨.bl false, H, I, rfl, q⟩
end
end K76
set_option Elab.async false
set_option linter.all false
set_option maxRecDepth 100000
set_option maxHeartbeats 4000000
namespace K76
open PySem PySem.Spec PyProof.Rows L2
/-! ### x.m as a value -/
def tBound (C : Addr) (m : Str) (g : Addr) (ta : TE) : TE := fun σ H Q => ta σ H fun x H1 => ∃ a dx fs, x = .ref a ∧ H1 a = some (.ins C dx fs) ∧ fs.lookup m = none ∧ ∀ p, H1 p = none → Q (.ref p) (upd H1 p (.met g a))
theorem pe_bound {X : Cx} {e : Expr} {m : Str} {pos : Pos} {ta : TE} {C g : Addr} (he : PE X e ta) (c : Cls X.K C) (k : BMeth X.K C m g) (hb : attributeBase e m X.env (eval e X.env) = eval e X.env) : PE X (.Attribute e m pos) (tBound C m g ta) := by
  refine ⟨fun pins s σ H Q I h => ?_⟩
  refine attr_of hb (thn (he.run pins s σ H _ I h) fun u s1 ⟨x, H1, I1, rx, a, dx, fs, ex, ea, l, q⟩ => ?_)
  subst ex
  obtain rfl : u = Value.ref a := rx
  exact getbound_ok I1 ea c k l fun p s2 hp I2 => ⟨.ref p, _, I2, rfl, q p hp⟩

/-! ### min(d, key=x.m), d a locked dict with nested keys -/
structure MinOk (X : Cx) (H0 : Hp) (d : Addr) (od : Obj) (kvs : List (D × Addr × V)) (a q g : Addr) (sp : Sp) (R : Hp → V → Prop) : Prop where
  hd : H0 d = some (.frz od (ND X.prog X.w d kvs))
  hq : H0 q = some (.met g a)
  turn : ∀ H, Same H0 H → ∀ e ∈ kvs, sp [.ref a, .ref e.2.1] H (fun v H' => Same H H' ∧ R H' v) E0
  mono : ∀ H H' v, Same H H' → R H v → R H' v
  alk : ∀ H v v', R H v → R H v' → ∃ x y, Dp X.K H v x ∧ Dp X.K H v' y ∧ PySem.W.alike x y = true ∧ x ≠ .none ∧ x.depth ≤ 60
section
variable {X : Cx} {pins : List (Addr × Obj)} {σ : L2.St} {H0 : Hp} {d a q g I S : Addr} {od : Obj} {kvs : List (D × Addr × V)} {sp : Sp} {R : Hp → V → Prop} {k : Nat} {es : Array DictEntry} {ep : Nat} {Q : VK}
theorem min_call (O : MinOk X H0 d od kvs a q g sp R) (F : FnR X.prog X.w X.K X.mg X.base CX0 k g sp) (hr : Room k X.A.in1) {s : Shared} {H : Hp} (I0 : Inv X pins σ H s) (sm : Same H0 H) {e : D × Addr × V} (he : e ∈ kvs) :
    wpAny (model X.prog X.w) X.A.in1 (call (.ref q) [.ref e.2.1]) (fun u s' => ∃ v H', Inv X pins σ H' s' ∧ RelV v u ∧ Same H H' ∧ R H' v) (fun _ _ => False) s := by
  refine wpAny_call (call_met I0 (sm _ _ O.hq) (codeAny_mono (F X.A.in1 X.stack s H [.ref a, .ref e.2.1] [.ref a, .ref e.2.1] _ E0 hr I0.env0.in1 (.cons rfl (.cons rfl .nil)) (O.turn H sm e he)) fun r s' hq => ?_))
  cases r with
  | error e => exact hq.elim
  | ok fl =>
    cases fl with
    | ret u =>
      obtain ⟨v, H', I', r', z⟩ := I0.after hq
      exact ⟨v, H', I', r', z⟩
    | next => exact False.elim hq
    | brk => exact False.elim hq
    | cont => exact False.elim hq
theorem fp_pin {H : Hp} {s : Shared} (I0 : Inv X pins σ H s) {oI oS : Obj} (fI : FpOk X pins H I) (fS : FpOk X pins H S) (eI : s.heap.get? I = some oI) (eS : s.heap.get? S = some oS) (nI : ∀ v, oI.data ≠ .cell v) (nS : ∀ v, oS.data ≠ .cell v) :
    Inv X ((I, oI) :: (S, oS) :: pins) σ H s := by
  refine I0.pins_of fun p hp => ?_
  rcases List.mem_cons.mp hp with e | hp
  · subst e
    exact ⟨eI, fI.1, fI.2.1, fI.2.2.1, nI⟩
  rcases List.mem_cons.mp hp with e | hp
  · subst e
    exact ⟨eS, fS.1, fS.2.1, fS.2.2.1, nS⟩
  · exact I0.pin p (List.mem_append_right _ hp)
theorem pin_fp {H : Hp} {s : Shared} {oI oS : Obj} (I0 : Inv X ((I, oI) :: (S, oS) :: pins) σ H s) : Inv X pins σ H s ∧ s.heap.get? I = some oI ∧ s.heap.get? S = some oS ∧ H I = none ∧ H S = none :=
  ⟨I0.pins_of fun p hp => I0.pin p (List.mem_append_right _ (List.mem_cons_of_mem _ (List.mem_cons_of_mem _ hp))),
    (I0.pin _ (List.mem_append_right _ List.mem_cons_self)).1, (I0.pin _ (List.mem_append_right _ (List.mem_cons_of_mem _ List.mem_cons_self))).1,
    (I0.pin _ (List.mem_append_right _ List.mem_cons_self)).2.1, (I0.pin _ (List.mem_append_right _ (List.mem_cons_of_mem _ List.mem_cons_self))).2.1⟩
theorem FpOk.at {H H' : Hp} {b : Addr} (f : FpOk X pins H b) (n : H' b = none) : FpOk X pins H' b := ⟨n, f.2⟩
theorem Inv.turnF {H : Hp} {s : Shared} {h' : Heap} {t' : Nat} {it : Addr} (I0 : Inv X pins σ H s) (f : FpOk X pins H it) (k : ∀ b o, b ≠ it → s.heap.get? b = some o → h'.get? b = some o) : Inv X pins σ H { s with heap := h', toks := t' } :=
  I0.turned k f.1 f.2.1 f.2.2.2.1 f.2.2.2.2.1 f.2.2.2.2.2
theorem iter_cell {h : Heap} {it d : Addr} {i n ep : Nat} (x : h.IsKeyIter it d i n ep) : ∃ o, h.get? it = some o ∧ (∀ v, o.data ≠ .cell v) ∧ ∀ h' : Heap, h'.get? it = some o → h'.IsKeyIter it d i n ep := by
  obtain ⟨o, e, c, dd⟩ := x
  exact ⟨o, e, (fun v z => by rw [dd] at z; cases z), fun h' e' => ⟨o, e', c, dd⟩⟩
theorem min_loop (hc : X.calm = true) (O : MinOk X H0 d od kvs a q g sp R) (F : FnR X.prog X.w X.K X.mg X.base CX0 k g sp) (hr : Room k X.A.in1) (hu : X.A.units + 64 < cLine) (hod : od.data = .dict es ep) (hSI : S ≠ I)
    (hsz : es.size = kvs.length) (hen : ∀ (i : Nat) (e : D × Addr × V), kvs[i]? = some e → ∃ en : DictEntry, es[i]? = some en ∧ en.key = .ref e.2.1) (hQ : ∀ H' e, e ∈ kvs → Same H0 H' → Q (.ref e.2.1) H') :
    ∀ (r j : Nat) (s : Shared) (H : Hp) (eb : D × Addr × V) (vb : V) (ub : Value) (c : Nat), kvs.length - (j + 1) = r → j + 1 ≤ kvs.length → Inv X pins σ H s → Same H0 H → FpOk X pins H I → FpOk X pins H S → s.heap.IsKeyIter I d (j + 1) kvs.length ep →
      s.heap.get? S = some (seqObj "list" #[.ref eb.2.1, ub] c) → eb ∈ kvs → R H vb → RelV vb ub →
      codeAny (model X.prog X.w) X.A (.builtin "min.loop" ⟨[.ref I, .ref q, .ref S], []⟩) (fun r s' => match r with | .ok (.ret v) => EP X pins σ Q v s' | .ok _ => False | .error e => X.xe e s') s := by
  have hname : (toString "min" ++ toString ".loop" : String) = "min.loop" := by decide
  intro r
  induction r with
  | zero =>
    intro j s H eb vb ub c hr0 hj I0 sm fI fS hit hS heb hR rv
    have hd1 : s.heap.get? d = some od := (I0.hok d _ (sm _ _ O.hd)).1
    refine codeAny_builtin PySem.F.entry_min_loop ?_
    rw [Around.under_plainId PySem.F.plain_min_loop _]
    show wpAny _ X.A.in1 (seqItems? (.ref S) >>= _) _ _ _
    refine wpAny_bind (wpAny_seqItems hS rfl ?_)
    show wpAny _ X.A.in1 (tryCatch (pyNext (.ref I)) _ >>= _) _ _ _
    refine wpAny_bind (wpAny_tryCatch (next_key_end (A := X.A.in1) (I0.ok.hd hc) hit hd1 hod hsz (by omega) fun h' kp => ?_))
    have I1 : Inv X pins σ H { s with heap := h' } := Inv.turnF (t' := s.toks) I0 fI fun b o hb e => kp b o hb e
    have hS' := kp S _ hSI hS
    have s1 := Heap.SameBut.update h' S (Obj.mapSeq fun _ => (#[] : Array Value))
    have I2 : Inv X pins σ H { s with heap := h'.update S (Obj.mapSeq fun _ => (#[] : Array Value)) } := Inv.turnF (s := { s with heap := h' }) (t' := s.toks) I1 fS fun b o hb e => (s1.2 b hb).trans e
    show wpAny _ X.A.in1 (updateSeq S (fun _ => #[]) >>= _) _ _ _
    refine wpAny_bind ?_
    refine wpAny_updateSeq hS' rfl (wpAny_bind (wpAny_letGo (wpAny_pure ?_)))
    exact ⟨.ref eb.2.1, H, I2, rfl, hQ H eb heb sm⟩
  | succ r ih =>
    intro j s H eb vb ub c hr0 hj I0 sm fI fS hit hS heb hR rv
    have hlt : j + 1 < kvs.length := by omega
    have hd1 : s.heap.get? d = some od := (I0.hok d _ (sm _ _ O.hd)).1
    obtain ⟨e, he⟩ : ∃ e, kvs[j + 1]? = some e := ⟨_, List.getElem?_eq_getElem hlt⟩
    have hem : e ∈ kvs := List.mem_of_getElem? he
    obtain ⟨en, hen1, hkey⟩ := hen (j + 1) e he
    refine codeAny_builtin PySem.F.entry_min_loop ?_
    rw [Around.under_plainId PySem.F.plain_min_loop _]
    show wpAny _ X.A.in1 (seqItems? (.ref S) >>= _) _ _ _
    refine wpAny_bind (wpAny_seqItems hS rfl ?_)
    show wpAny _ X.A.in1 (tryCatch (pyNext (.ref I)) _ >>= _) _ _ _
    refine wpAny_bind (wpAny_tryCatch (next_key_item (A := X.A.in1) hit hd1 hod hsz hen1 fun h' hit' sb => ?_))
    rw [hkey]
    have I1 : Inv X pins σ H { s with heap := h' } := Inv.turnF (t' := s.toks) I0 fI fun b o hb e => (sb.2 b hb).trans e
    have hS1 := (sb.2 S hSI).trans hS
    obtain ⟨oI, eI, cI, backI⟩ := iter_cell hit'
    have I2 := fp_pin I1 fI fS eI hS1 cI (fun v z => nomatch z)
    show wpAny _ X.A.in1 (tryCatch (holding [.ref e.2.1] (call (.ref q) [.ref e.2.1])) _ >>= _) _ _ _
    refine wpAny_bind (wpAny_tryCatch (wpAny_holding (wpAny_mono (min_call O F hr I2 sm hem) (fun u2 s2 hx => ?_) fun _ _ hF => hF.elim)))
    obtain ⟨v2, H2, I3, r2, sm2, R2⟩ := hx
    obtain ⟨I4, eI2, eS2, nI2, nS2⟩ := pin_fp I3
    obtain ⟨x, y, dx, dy, hal, hnn, hdp⟩ := O.alk H2 v2 vb R2 (O.mono _ _ _ sm2 hR)
    obtain ⟨as, rd1⟩ := Dp.reads I4 x v2 u2 dx r2
    obtain ⟨bs, rd2⟩ := Dp.reads I4 y vb ub dy rv
    have sm3 : Same H0 H2 := sm.trans sm2
    have fI2 : FpOk X pins H2 I := FpOk.at fI nI2
    have fS2 : FpOk X pins H2 S := FpOk.at fS nS2
    have hit2 := backI s2.heap eI2
    show wpAny _ X.A.in1 (tryCatch (holding [.ref e.2.1, u2] (richCompare .Lt u2 ub >>= _)) _ >>= _) _ _ _
    refine wpAny_bind (wpAny_tryCatch (wpAny_holding (wpAny_bind (PySem.W.rcLt_alike x y X.A.in1 s2 u2 ub as bs rd1 rd2 hal hnn (by
      have := Nat.min_le_left x.depth y.depth
      show X.A.units + 1 + _ < cLine
      omega) X.prog X.w _ _ ?_))))
    refine wpAny_bind (wpAny_holding (wpAny_truthy_bool ?_))
    refine wpAny_bind (wpAny_letGo (wpAny_pure ?_))
    cases hb' : PySem.W.dataLt x y with
    | true =>
      have s3 := Heap.SameBut.update s2.heap S (Obj.mapSeq fun _ => #[.ref e.2.1, u2])
      obtain ⟨c2, hc2⟩ : ∃ c2, (s2.heap.update S (Obj.mapSeq fun _ => #[.ref e.2.1, u2])).get? S = some (seqObj "list" #[.ref e.2.1, u2] c2) := ⟨_, get?_update_seq eS2 fun _ => #[.ref e.2.1, u2]⟩
      simp only [if_true]
      refine wpAny_bind ?_
      refine wpAny_updateSeq eS2 rfl (wpAny_bind (wpAny_letGo ?_))
      rw [hname]
      have I5 : Inv X pins σ H2 { s2 with heap := s2.heap.update S (Obj.mapSeq fun _ => #[.ref e.2.1, u2]) } := Inv.turnF (t' := s2.toks) I4 fS2 fun b o hb e => (s3.2 b hb).trans e
      exact wpAny_pure ⟨plainId_quiet PySem.F.plain_min_loop _, ih (j + 1) _ H2 e v2 u2 c2 (by omega) hlt I5 sm3 fI2 fS2 (backI _ ((s3.2 I hSI.symm).trans eI2)) hc2 hem R2 r2⟩
    | false =>
      simp only [Bool.false_eq_true, if_false]
      refine wpAny_bind (wpAny_letGo ?_)
      rw [hname]
      exact wpAny_pure ⟨plainId_quiet PySem.F.plain_min_loop _, ih (j + 1) _ H2 eb vb ub c (by omega) hlt I4 sm3 fI2 fS2 hit2 eS2 heb (O.mono _ _ _ sm2 hR) rv⟩
/-- min(d, key=q): one of the keys -/
def rMinKey (X : Cx) (g : Addr) (sp : Sp) : List V → List V → Hp → VK → Prop := fun xs zs H Q => ∃ d od kvs a q R, xs = [V.ref d] ∧ zs = [V.ref q] ∧ kvs ≠ [] ∧ MinOk X H d od kvs a q g sp R ∧ ∀ H' e, e ∈ kvs → Same H H' → Q (.ref e.2.1) H'
theorem cr_minKey (hc : X.calm = true) (F : FnR X.prog X.w X.K X.mg X.base CX0 k g sp) (hr : Room (k + 1) X.A) (hu : X.A.units + 64 < cLine) : CallRK X (.builtin "min") [Str.ofString "key"] (rMinKey X g sp) := by
  intro pins s σ H vs zs us ws Q I0 r rz h
  obtain ⟨d, od, kvs, a, q, R, rfl, rfl, hne, O, hQ⟩ := h
  obtain ⟨u, rfl, ru⟩ := vals1 r
  obtain rfl : u = Value.ref d := ru
  obtain ⟨u, rfl, ru⟩ := vals1 rz
  obtain rfl : u = Value.ref q := ru
  have hname : (toString "min" ++ toString ".loop" : String) = "min.loop" := by decide
  obtain ⟨hs, hgd, hx, es, ep, hdt, hsz, hen⟩ := frzN I0 O.hd
  have hlen : 0 < kvs.length := List.length_pos_iff.mpr hne
  have hr1 : Room k X.A.in1 := hr.in1
  show wpAny _ _ (call (.builtin "min") [.ref d] [(Str.ofString "key", .ref q)]) _ _ _
  refine kmk_tree PySem.F.kind_min PySem.F.plain_min PySem.F.entry_min (kmk_min_key _ _) ?_
  show wpAny _ X.A.in1 (Builtin.Builtins.bindParams "min" ["key", "default"] 0 ⟨[], [(Str.ofString "key", .ref q)]⟩ >>= _) _ _ s
  refine wpAny_bind (wpAny_of_eq (show Builtin.Builtins.bindParams "min" ["key", "default"] 0 ⟨[], [(Str.ofString "key", .ref q)]⟩ = pure [some (.ref q), none] from rfl) ?_)
  refine wpAny_bind (wpAny_pure ?_)
  refine wpAny_bind (iter_keys hs hgd hx hdt ?_)
  refine wpAny_bind (wpAny_newList ?_ (Nat.zero_le _))
  rw [hname]
  refine wpAny_pure ⟨plainId_quiet PySem.F.plain_min_loop _, ?_⟩
  have gI0 : (s.heap.push { cls := .type "dict_keyiterator", data := .fields #[.ref d, .int 0 0, .int es.size 0, .int ep 0] }).get? s.heap.objs.size = some { cls := .type "dict_keyiterator", data := .fields #[.ref d, .int 0 0, .int es.size 0, .int ep 0] } := Heap.get?_push_size _ rfl
  generalize hI : s.heap.objs.size = I at gI0 ⊢
  generalize hoI : ({ cls := .type "dict_keyiterator", data := .fields #[.ref d, .int 0 0, .int es.size 0, .int ep 0] } : Obj) = oI at gI0 ⊢
  have hS : (s.heap.push oI).objs.size = I + 1 := by rw [size_push', hI]
  rw [hS]
  have hSI : I + 1 ≠ I := Nat.succ_ne_self I
  have gI : ((s.heap.push oI).push (seqObj "list" #[] 0)).get? I = some oI := Heap.get?_push_of_some _ gI0
  have gS : ((s.heap.push oI).push (seqObj "list" #[] 0)).get? (I + 1) = some (seqObj "list" #[] 0) := by rw [← hS]; exact Heap.get?_push_size _ rfl
  have kp : ∀ b o, s.heap.get? b = some o → ((s.heap.push oI).push (seqObj "list" #[] 0)).get? b = some o := fun b o e => Heap.get?_push_of_some _ (Heap.get?_push_of_some _ e)
  have I1 : Inv X pins σ H { s with heap := (s.heap.push oI).push (seqObj "list" #[] 0) } := I0.kept (t' := s.toks) kp
  have fI : FpOk X pins H I := Inv.fpOk I0 (Nat.le_of_eq hI) (I0.hok.fresh (Nat.le_of_eq hI))
  have fS : FpOk X pins H (I + 1) := Inv.fpOk I0 (by rw [hI]; exact Nat.le_succ _) (I0.hok.fresh (by rw [hI]; exact Nat.le_succ _))
  have hit0 : Heap.IsKeyIter ((s.heap.push oI).push (seqObj "list" #[] 0)) I d 0 kvs.length ep := ⟨oI, gI, by rw [← hoI], by rw [← hoI, hsz] <;> rfl⟩
  generalize hgh : (s.heap.push oI).push (seqObj "list" #[] 0) = hh at *
  have hd1 : hh.get? d = some od := kp _ _ hgd
  obtain ⟨e, he⟩ : ∃ e, kvs[0]? = some e := ⟨_, List.getElem?_eq_getElem hlen⟩
  have hem : e ∈ kvs := List.mem_of_getElem? he
  obtain ⟨en, hen1, hkey⟩ := hen 0 e he
  refine codeAny_builtin PySem.F.entry_min_loop ?_
  rw [Around.under_plainId PySem.F.plain_min_loop _]
  show wpAny _ X.A.in1 (seqItems? (.ref (I + 1)) >>= _) _ _ _
  refine wpAny_bind (wpAny_seqItems gS rfl ?_)
  show wpAny _ X.A.in1 (tryCatch (pyNext (.ref I)) _ >>= _) _ _ _
  refine wpAny_bind (wpAny_tryCatch (next_key_item (A := X.A.in1) hit0 hd1 hdt hsz hen1 fun h' hit' sb => ?_))
  rw [hkey]
  have I2 : Inv X pins σ H { s with heap := h' } := Inv.turnF (s := { s with heap := hh }) (t' := s.toks) I1 fI fun b o hb e => (sb.2 b hb).trans e
  have hS1 := (sb.2 (I + 1) hSI).trans gS
  obtain ⟨oI', eI, cI, backI⟩ := iter_cell hit'
  have I3 := fp_pin I2 fI fS eI hS1 cI (fun v z => nomatch z)
  show wpAny _ X.A.in1 (tryCatch (holding [.ref e.2.1] (call (.ref q) [.ref e.2.1])) _ >>= _) _ _ _
  refine wpAny_bind (wpAny_tryCatch (wpAny_holding (wpAny_mono (min_call O F hr1 I3 (Same.refl H) hem) (fun u2 s2 hx => ?_) fun _ _ hF => hF.elim)))
  obtain ⟨v2, H2, I4, r2, sm2, R2⟩ := hx
  obtain ⟨I5, eI2, eS2, nI2, nS2⟩ := pin_fp I4
  have s3 := Heap.SameBut.update s2.heap (I + 1) (Obj.mapSeq fun _ => #[.ref e.2.1, u2])
  obtain ⟨c2, hc2⟩ : ∃ c2, (s2.heap.update (I + 1) (Obj.mapSeq fun _ => #[.ref e.2.1, u2])).get? (I + 1) = some (seqObj "list" #[.ref e.2.1, u2] c2) := ⟨_, get?_update_seq eS2 fun _ => #[.ref e.2.1, u2]⟩
  show wpAny _ X.A.in1 (updateSeq (I + 1) (fun _ => #[.ref e.2.1, u2]) >>= _) _ _ _
  refine wpAny_bind ?_
  refine wpAny_updateSeq eS2 rfl ?_
  rw [hname]
  have I6 : Inv X pins σ H2 { s2 with heap := s2.heap.update (I + 1) (Obj.mapSeq fun _ => #[.ref e.2.1, u2]) } := Inv.turnF (t' := s2.toks) I5 (FpOk.at fS nS2) fun b o hb e => (s3.2 b hb).trans e
  exact wpAny_pure ⟨plainId_quiet PySem.F.plain_min_loop _, min_loop hc O F hr1 hu hdt hSI hsz hen hQ _ 0 _ H2 e v2 u2 c2 rfl hlen I6 sm2 (FpOk.at fI nI2) (FpOk.at fS nS2) (backI _ ((s3.2 I hSI.symm).trans eI2)) hc2 hem R2 r2⟩
end
end K76
set_option Elab.async false
set_option linter.all false
set_option maxRecDepth 100000
set_option maxHeartbeats 4000000
namespace K76
open PySem
abbrev Tag := PySem.Str
/-- a grove: nothing, or a first tree (tag, within) and the trees behind -/
inductive G where
  | nil
  | cons (t : Tag) (w o : G)
/-- parts of a changer's rule -/
inductive Ps where
  | nil
  | kids (m : Nat) (r : Ps)
  | tag (t : Tag) (i r : Ps)
abbrev Pr := List (Int × Int)
abbrev Val := List Pr
structure Rule where
  kind : Int
  tag : Tag
  inner : Int
  rest : Int
structure Form where
  many : Nat
  starts : List Int
  ends : List Int
  rules : List Rule
abbrev Way := Nat → Tag → Option Ps

/-! ### lists of pairs -/
def plt (a b : Int × Int) : Bool := SrtO.lexB a b
theorem plt_iff {a b : Int × Int} : plt a b = true ↔ a.1 < b.1 ∨ (a.1 = b.1 ∧ a.2 < b.2) := by
  have := SrtO.lexB_iff (p := a) (q := b)
  exact this
def Sr (l : Pr) : Prop := l.Pairwise fun a b => plt a b = true
theorem plt_irr (a : Int × Int) : plt a a = false := by
  cases h : plt a a with
  | false => rfl
  | true => have := plt_iff.mp h; omega
theorem plt_trans {a b c : Int × Int} (h : plt a b = true) (k : plt b c = true) : plt a c = true := by
  have := plt_iff.mp h
  have := plt_iff.mp k
  exact plt_iff.mpr (by omega)
theorem plt_tri (a b : Int × Int) : a = b ∨ plt a b = true ∨ plt b a = true := by
  by_cases h : a.1 = b.1
  · by_cases h2 : a.2 = b.2
    · exact .inl (Prod.ext h h2)
    · rcases Int.lt_or_lt_of_ne h2 with q | q
      · exact .inr (.inl (plt_iff.mpr (.inr ⟨h, q⟩)))
      · exact .inr (.inr (plt_iff.mpr (.inr ⟨h.symm, q⟩)))
  · rcases Int.lt_or_lt_of_ne h with q | q
    · exact .inr (.inl (plt_iff.mpr (.inl q)))
    · exact .inr (.inr (plt_iff.mpr (.inl q)))
/-- two rising lists with the same members are one -/
theorem Sr.uniq : ∀ {l m : Pr}, Sr l → Sr m → (∀ x, x ∈ l ↔ x ∈ m) → l = m
  | [], [], _, _, _ => rfl
  | [], y :: m, _, _, h => absurd ((h y).mpr List.mem_cons_self) (by simp)
  | x :: l, [], _, _, h => absurd ((h x).mp List.mem_cons_self) (by simp)
  | x :: l, y :: m, hl, hm, h => by
    have hl' := List.pairwise_cons.mp hl
    have hm' := List.pairwise_cons.mp hm
    have e : x = y := by
      rcases List.mem_cons.mp ((h x).mp List.mem_cons_self) with e | hx
      · exact e
      · rcases List.mem_cons.mp ((h y).mpr List.mem_cons_self) with e | hy
        · exact e.symm
        · have a := hm'.1 x hx
          have b := hl'.1 y hy
          have c := plt_trans a b
          rw [plt_irr] at c
          cases c
    subst e
    rw [Sr.uniq hl'.2 hm'.2 fun z => ?_]
    constructor
    · intro hz
      rcases List.mem_cons.mp ((h z).mp (List.mem_cons_of_mem _ hz)) with e | q
      · subst e
        have := hl'.1 z hz
        rw [plt_irr] at this
        cases this
      · exact q
    · intro hz
      rcases List.mem_cons.mp ((h z).mpr (List.mem_cons_of_mem _ hz)) with e | q
      · subst e
        have := hm'.1 z hz
        rw [plt_irr] at this
        cases this
      · exact q
def ins (p : Int × Int) : Pr → Pr
  | [] => [p]
  | q :: r => if p = q then q :: r else if plt p q = true then p :: q :: r else q :: ins p r
def canon (l : Pr) : Pr := l.foldr ins []
theorem mem_ins {p x : Int × Int} : ∀ {l : Pr}, x ∈ ins p l ↔ x = p ∨ x ∈ l
  | [] => by simp [ins]
  | q :: r => by
    unfold ins
    split
    · rename_i h
      subst h
      constructor
      · exact .inr
      · rintro (rfl | h)
        · exact List.mem_cons_self
        · exact h
    · split
      · rw [List.mem_cons]
      · rw [List.mem_cons, mem_ins, List.mem_cons]
        constructor
        · rintro (h | h | h)
          · exact .inr (.inl h)
          · exact .inl h
          · exact .inr (.inr h)
        · rintro (h | h | h)
          · exact .inr (.inl h)
          · exact .inl h
          · exact .inr (.inr h)
theorem sr_ins {p : Int × Int} : ∀ {l : Pr}, Sr l → Sr (ins p l)
  | [], _ => List.pairwise_cons.mpr ⟨fun _ h => (by cases h), List.Pairwise.nil⟩
  | q :: r, h => by
    have h' := List.pairwise_cons.mp h
    unfold ins
    split
    · exact h
    · split
      · rename_i h1 h2
        refine List.pairwise_cons.mpr ⟨fun x hx => ?_, h⟩
        rcases List.mem_cons.mp hx with e | hx
        · subst e; exact h2
        · exact plt_trans h2 (h'.1 x hx)
      · rename_i h1 h2
        refine List.pairwise_cons.mpr ⟨fun x hx => ?_, sr_ins h'.2⟩
        rcases mem_ins.mp hx with e | hx
        · subst e
          rcases plt_tri x q with e | e | e
          · exact absurd e h1
          · exact absurd e h2
          · exact e
        · exact h'.1 x hx
theorem mem_canon {x : Int × Int} : ∀ {l : Pr}, x ∈ canon l ↔ x ∈ l
  | [] => Iff.rfl
  | p :: l => by
    show x ∈ ins p (canon l) ↔ _
    rw [mem_ins, mem_canon, List.mem_cons]
theorem sr_canon : ∀ l : Pr, Sr (canon l)
  | [] => List.Pairwise.nil
  | p :: l => sr_ins (sr_canon l)
theorem canon_eq {l m : Pr} (h : Sr l) (e : ∀ x, x ∈ l ↔ x ∈ m) : l = canon m := Sr.uniq h (sr_canon m) fun x => by rw [e, mem_canon]
def meets (one other : Pr) : Pr := one.flatMap fun p => (other.filter fun q => q.1 == p.2).map fun q => (p.1, q.2)
/-- from the first of one's to the second of other's -/
def turn (one other : Pr) : Pr := canon (meets one other)
theorem mem_meets {one other : Pr} {a c : Int} : (a, c) ∈ meets one other ↔ ∃ b, (a, b) ∈ one ∧ (b, c) ∈ other := by
  unfold meets
  simp only [List.mem_flatMap, List.mem_map, List.mem_filter, beq_iff_eq, Prod.mk.injEq, Prod.exists]
  constructor
  · rintro ⟨x, y, h1, u, v, ⟨h2, h3⟩, h4, h5⟩
    subst h3 h4 h5
    exact ⟨u, h1, h2⟩
  · rintro ⟨b, h1, h2⟩
    exact ⟨a, b, h1, b, c, ⟨h2, rfl⟩, rfl, rfl⟩
theorem mem_turn {one other : Pr} {a c : Int} : (a, c) ∈ turn one other ↔ ∃ b, (a, b) ∈ one ∧ (b, c) ∈ other := by
  unfold turn
  rw [mem_canon, mem_meets]
theorem sr_turn (one other : Pr) : Sr (turn one other) := sr_canon _
theorem turn_congr {one other other' : Pr} (h : ∀ x, x ∈ other ↔ x ∈ other') : turn one other = turn one other' :=
  Sr.uniq (sr_turn _ _) (sr_turn _ _) fun ⟨a, c⟩ => by
    rw [mem_turn, mem_turn]
    exact ⟨fun ⟨b, h1, h2⟩ => ⟨b, h1, (h _).mp h2⟩, fun ⟨b, h1, h2⟩ => ⟨b, h1, (h _).mpr h2⟩⟩
theorem Sr.nodup {l : Pr} (h : Sr l) : l.Nodup := h.imp fun {a b} q e => by
  subst e
  rw [plt_irr] at q
  cases q
theorem nodup_len {α : Type} [DecidableEq α] : ∀ (l m : List α), l.Nodup → (∀ x ∈ l, x ∈ m) → l.length ≤ m.length
  | [], _, _, _ => Nat.zero_le _
  | x :: l, m, hn, h => by
    have hn' := List.nodup_cons.mp hn
    have hx := h x List.mem_cons_self
    have ih := nodup_len l (m.erase x) hn'.2 fun y hy => (List.mem_erase_of_ne (fun e => hn'.1 (by rw [← e]; exact hy))).mpr (h y (List.mem_cons_of_mem _ hy))
    have e := List.length_erase_of_mem hx
    have p : 0 < m.length := List.length_pos_of_mem hx
    rw [List.length_cons]
    omega
/-- all within n × n -/
def InSq (n : Nat) (l : Pr) : Prop := ∀ p ∈ l, (0 ≤ p.1 ∧ p.1 < n) ∧ 0 ≤ p.2 ∧ p.2 < n
def allSq (n : Nat) : Pr := (List.range n).flatMap fun (a : Nat) => (List.range n).map fun (b : Nat) => ((a : Int), (b : Int))
theorem len_allSq (n : Nat) : (allSq n).length = n * n := by
  unfold allSq
  have : ∀ (l : List Nat), (l.flatMap fun (a : Nat) => (List.range n).map fun (b : Nat) => ((a : Int), (b : Int))).length = l.length * n := by
    intro l
    induction l with
    | nil => simp
    | cons a l ih => rw [List.flatMap_cons, List.length_append, ih, List.length_map, List.length_range, List.length_cons, Nat.succ_mul]; omega
  rw [this, List.length_range]
theorem mem_allSq {n : Nat} {p : Int × Int} (h : (0 ≤ p.1 ∧ p.1 < n) ∧ 0 ≤ p.2 ∧ p.2 < n) : p ∈ allSq n := by
  unfold allSq
  simp only [List.mem_flatMap, List.mem_range, List.mem_map]
  exact ⟨p.1.toNat, by omega, p.2.toNat, by omega, Prod.ext (by show ((p.1.toNat : Nat) : Int) = p.1; omega) (by show ((p.2.toNat : Nat) : Int) = p.2; omega)⟩
theorem InSq.len {n : Nat} {l : Pr} (h : InSq n l) (hn : l.Nodup) : l.length ≤ n * n := by
  rw [← len_allSq]
  exact nodup_len _ _ hn fun x hx => mem_allSq (h x hx)
theorem InSq.turn {n : Nat} {one other : Pr} (h1 : InSq n one) (h2 : InSq n other) : InSq n (turn one other) := fun ⟨a, c⟩ hp => by
  obtain ⟨b, h3, h4⟩ := mem_turn.mp hp
  exact ⟨(h1 _ h3).1, (h2 _ h4).2⟩

/-! ### what comes of a row to the pairs of kinds -/
def idle (n : Nat) : Pr := (List.range n).map fun (k : Nat) => ((k : Int), (k : Int))
theorem mem_idle {n : Nat} {p : Int × Int} : p ∈ idle n ↔ p.1 = p.2 ∧ 0 ≤ p.1 ∧ p.1 < n := by
  unfold idle
  simp only [List.mem_map, List.mem_range]
  constructor
  · rintro ⟨k, h, rfl⟩
    exact ⟨rfl, by show (0 : Int) ≤ k; omega, by show (k : Int) < n; omega⟩
  · rintro ⟨h1, h2, h3⟩
    exact ⟨p.1.toNat, by omega, Prod.ext (by show ((p.1.toNat : Nat) : Int) = p.1; omega) (by show ((p.1.toNat : Nat) : Int) = p.2; omega)⟩
theorem idle_sq (n : Nat) : InSq n (idle n) := fun p hp => by
  have := mem_idle.mp hp
  omega
theorem sr_idle (n : Nat) : Sr (idle n) := by
  unfold idle Sr
  rw [List.pairwise_map]
  refine List.pairwise_lt_range.imp fun {a b} h => plt_iff.mpr (.inl ?_)
  show (a : Int) < b
  omega
def goods (F : Form) (inner : Pr) : List Int := (inner.filter fun p => F.ends.contains p.2).map (·.1)
def steps (F : Form) (t : Tag) (inner : Pr) : Pr := (F.rules.filter fun r => decide (r.tag = t) && (goods F inner).contains r.inner).map fun r => (r.kind, r.rest)
theorem mem_steps {F : Form} {t : Tag} {inner : Pr} {a c : Int} : (a, c) ∈ steps F t inner ↔ ∃ r ∈ F.rules, r.kind = a ∧ r.rest = c ∧ r.tag = t ∧ ∃ e ∈ F.ends, (r.inner, e) ∈ inner := by
  unfold steps goods
  simp only [List.mem_map, List.mem_filter, Bool.and_eq_true, decide_eq_true_eq, List.contains_iff_mem, Prod.mk.injEq, Prod.exists]
  constructor
  · rintro ⟨r, ⟨h1, h2, x, e, ⟨h3, h4⟩, h5⟩, h6, h7⟩
    subst h5
    exact ⟨r, h1, h6, h7, h2, e, h4, h3⟩
  · rintro ⟨r, h1, h6, h7, h2, e, h4, h3⟩
    exact ⟨r, ⟨h1, h2, r.inner, e, ⟨h3, h4⟩, rfl⟩, h6, h7⟩
def through (F : Form) (v : Val) : Ps → Pr → Pr
  | .nil, acc => acc
  | .kids m r, acc => through F v r (turn acc (v.getD m []))
  | .tag t i r, acc => through F v r (turn acc (steps F t (through F v i (idle F.many))))
def partsFor (W : Way) (m : Nat) (t : Tag) : Ps := (W m t).getD (.tag t (.kids m .nil) .nil)
def above (F : Form) (W : Way) (M : Nat) (t : Tag) (inner rest : Val) : Val := (List.range M).map fun m => turn (through F inner (partsFor W m t) (idle F.many)) (rest.getD m [])
def nothing (F : Form) (M : Nat) : Val := List.replicate M (idle F.many)
def valueOf (F : Form) (W : Way) (M : Nat) : G → Val
  | .nil => nothing F M
  | .cons t w o => above F W M t (valueOf F W M w) (valueOf F W M o)
def good (F : Form) (v : Val) : Bool := (v.getD 0 []).any fun p => F.starts.contains p.1 && F.ends.contains p.2

/-! ### the kinds of a grove -/
def isOf (A : Form) : G → Int → Bool
  | .nil, q => A.ends.contains q
  | .cons t w o, q => A.rules.any fun r => decide (r.kind = q) && decide (r.tag = t) && isOf A w r.inner && isOf A o r.rest
def fits (A : Form) (g : G) : Bool := A.starts.any (isOf A g)
theorem isOf_cons {A : Form} {t : Tag} {w o : G} {q : Int} : isOf A (.cons t w o) q = true ↔ ∃ r ∈ A.rules, r.kind = q ∧ r.tag = t ∧ isOf A w r.inner = true ∧ isOf A o r.rest = true := by
  rw [isOf, List.any_eq_true]
  simp only [Bool.and_eq_true, decide_eq_true_eq]
  constructor
  · rintro ⟨r, h, ⟨⟨h1, h2⟩, h3⟩, h4⟩
    exact ⟨r, h, h1, h2, h3, h4⟩
  · rintro ⟨r, h, h1, h2, h3, h4⟩
    exact ⟨r, h, ⟨⟨h1, h2⟩, h3⟩, h4⟩
def leads (F : Form) : G → Int → Int → Prop
  | .nil, q, p => q = p
  | .cons t w o, q, p => ∃ r ∈ F.rules, r.kind = q ∧ r.tag = t ∧ isOf F w r.inner = true ∧ leads F o r.rest p
theorem isOf_leads {F : Form} : ∀ {g : G} {q : Int}, isOf F g q = true ↔ ∃ e ∈ F.ends, leads F g q e
  | .nil, q => by
    rw [isOf, List.contains_iff_mem]
    exact ⟨fun h => ⟨q, h, rfl⟩, fun ⟨e, h, h2⟩ => by rw [show q = e from h2]; exact h⟩
  | .cons t w o, q => by
    rw [isOf_cons]
    constructor
    · rintro ⟨r, h, h1, h2, h3, h4⟩
      obtain ⟨e, he, h5⟩ := isOf_leads.mp h4
      exact ⟨e, he, r, h, h1, h2, h3, h5⟩
    · rintro ⟨e, he, r, h, h1, h2, h3, h5⟩
      exact ⟨r, h, h1, h2, h3, isOf_leads.mpr ⟨e, he, h5⟩⟩
def G.app : G → G → G
  | .nil, h => h
  | .cons t w o, h => .cons t w (o.app h)
theorem leads_app {F : Form} {h : G} : ∀ {g : G} {q p : Int}, leads F (g.app h) q p ↔ ∃ x, leads F g q x ∧ leads F h x p
  | .nil, q, p => ⟨fun a => ⟨q, rfl, a⟩, fun ⟨x, e, a⟩ => by rw [show q = x from e]; exact a⟩
  | .cons t w o, q, p => by
    constructor
    · rintro ⟨r, hr, h1, h2, h3, h4⟩
      obtain ⟨x, h5, h6⟩ := leads_app.mp h4
      exact ⟨x, ⟨r, hr, h1, h2, h3, h5⟩, h6⟩
    · rintro ⟨x, ⟨r, hr, h1, h2, h3, h5⟩, h6⟩
      exact ⟨r, hr, h1, h2, h3, leads_app.mpr ⟨x, h5, h6⟩⟩
def mk (f : Nat → G) : Ps → G
  | .nil => .nil
  | .kids m r => (f m).app (mk f r)
  | .tag t i r => .cons t (mk f i) (mk f r)
def change (W : Way) : G → Nat → G
  | .nil, _ => .nil
  | .cons t w o, m => (mk (change W w) (partsFor W m t)).app (change W o m)
/-- kinds are kinds -/
structure FOk (F : Form) : Prop where
  pos : 0 < F.many
  st : ∀ k ∈ F.starts, 0 ≤ k ∧ k < F.many
  en : ∀ k ∈ F.ends, 0 ≤ k ∧ k < F.many
  ru : ∀ r ∈ F.rules, (0 ≤ r.kind ∧ r.kind < F.many) ∧ (0 ≤ r.inner ∧ r.inner < F.many) ∧ 0 ≤ r.rest ∧ r.rest < F.many
  sne : F.starts ≠ []
  ene : F.ends ≠ []
/-- the kids' modes are modes -/
def Ps.ok (M : Nat) : Ps → Prop
  | .nil => True
  | .kids m r => m < M ∧ r.ok M
  | .tag _ i r => i.ok M ∧ r.ok M
def Ps.size : Ps → Nat
  | .nil => 0
  | .kids _ r => 1 + r.size
  | .tag _ i r => 1 + i.size + r.size
def Ps.deep : Ps → Nat
  | .nil => 0
  | .kids _ r => r.deep
  | .tag _ i r => max (1 + i.deep) r.deep
theorem Ps.deep_le : ∀ p : Ps, p.deep ≤ p.size
  | .nil => Nat.le_refl _
  | .kids _ r => by have := r.deep_le; simp only [Ps.deep, Ps.size]; omega
  | .tag _ i r => by have := r.deep_le; have := i.deep_le; simp only [Ps.deep, Ps.size]; omega
theorem leads_range {F : Form} (ok : FOk F) : ∀ {g : G} {q p : Int}, leads F g q p → (0 ≤ q ∧ q < F.many) → 0 ≤ p ∧ p < F.many
  | .nil, _, _, h, hq => by rw [← (show _ = _ from h)]; exact hq
  | .cons _ _ o, _, _, ⟨r, hr, _, _, _, h⟩, _ => leads_range ok h (ok.ru r hr).2.2
theorem steps_sq {F : Form} (ok : FOk F) {t : Tag} {inner : Pr} : InSq F.many (steps F t inner) := fun ⟨a, c⟩ h => by
  obtain ⟨r, hr, h1, h2, _⟩ := mem_steps.mp h
  have := ok.ru r hr
  subst h1 h2
  exact ⟨this.1, this.2.2⟩
def VOk (F : Form) (M : Nat) (v : Val) : Prop := v.length = M ∧ ∀ m, m < M → InSq F.many (v.getD m []) ∧ Sr (v.getD m [])
theorem through_sq {F : Form} (ok : FOk F) {M : Nat} {v : Val} (hv : VOk F M v) : ∀ {ps : Ps} {acc : Pr}, ps.ok M → InSq F.many acc → InSq F.many (through F v ps acc)
  | .nil, _, _, h => h
  | .kids m r, acc, hp, h => through_sq ok hv (ps := r) hp.2 (h.turn (hv.2 m hp.1).1)
  | .tag t i r, acc, hp, h => through_sq ok hv (ps := r) hp.2 (h.turn (steps_sq ok))
theorem through_sr {F : Form} {v : Val} : ∀ {ps : Ps} {acc : Pr}, Sr acc → Sr (through F v ps acc)
  | .nil, _, h => h
  | .kids m r, acc, h => through_sr (ps := r) (sr_turn _ _)
  | .tag t i r, acc, h => through_sr (ps := r) (sr_turn _ _)
theorem above_get {F : Form} {W : Way} {M m : Nat} {t : Tag} {inner rest : Val} (h : m < M) : (above F W M t inner rest).getD m [] = turn (through F inner (partsFor W m t) (idle F.many)) (rest.getD m []) := by
  unfold above
  rw [List.getD_eq_getElem?_getD, List.getElem?_map, List.getElem?_range h]
  rfl
theorem nothing_get {F : Form} {M m : Nat} (h : m < M) : (nothing F M).getD m [] = idle F.many := by
  unfold nothing
  rw [List.getD_eq_getElem?_getD, List.getElem?_replicate, if_pos h]
  rfl
def WOk (M : Nat) (W : Way) : Prop := ∀ m t ps, W m t = some ps → ps.ok M ∧ ps.size ≤ 4
theorem parts_ok {M : Nat} {W : Way} (hw : WOk M W) {m : Nat} {t : Tag} (h : m < M) : (partsFor W m t).ok M ∧ (partsFor W m t).size ≤ 4 := by
  unfold partsFor
  cases e : W m t with
  | some ps => exact hw m t ps e
  | none => exact ⟨⟨⟨h, trivial⟩, trivial⟩, (by show 1 + (1 + 0) + 0 ≤ 4; omega)⟩
theorem nothing_ok {F : Form} {M : Nat} : VOk F M (nothing F M) := ⟨List.length_replicate, fun m h => by rw [nothing_get h]; exact ⟨idle_sq _, sr_idle _⟩⟩
theorem above_ok {F : Form} (ok : FOk F) {M : Nat} {W : Way} (hw : WOk M W) {t : Tag} {inner rest : Val} (h1 : VOk F M inner) (h2 : VOk F M rest) : VOk F M (above F W M t inner rest) := by
  refine ⟨by unfold above; rw [List.length_map, List.length_range], fun m h => ?_⟩
  rw [above_get h]
  exact ⟨(through_sq ok h1 (parts_ok hw h).1 (idle_sq _)).turn (h2.2 m h).1, sr_turn _ _⟩
theorem value_ok {F : Form} (ok : FOk F) {M : Nat} {W : Way} (hw : WOk M W) : ∀ g : G, VOk F M (valueOf F W M g)
  | .nil => nothing_ok
  | .cons _ w o => above_ok ok hw (value_ok ok hw w) (value_ok ok hw o)

/-! ### the value tells where what comes leads -/
theorem through_leads {F : Form} (ok : FOk F) {M : Nat} {v : Val} {f : Nat → G} (hf : ∀ m, m < M → ∀ q p, (q, p) ∈ v.getD m [] ↔ (0 ≤ q ∧ q < F.many) ∧ leads F (f m) q p) :
    ∀ {ps : Ps} {acc : Pr}, ps.ok M → (∀ p ∈ acc, 0 ≤ p.2 ∧ p.2 < F.many) → ∀ a b, (a, b) ∈ through F v ps acc ↔ ∃ x, (a, x) ∈ acc ∧ leads F (mk f ps) x b
  | .nil, acc, _, h, a, b => ⟨fun z => ⟨b, z, rfl⟩, fun ⟨x, z, e⟩ => by rw [← (show x = b from e)]; exact z⟩
  | .kids m r, acc, hp, h, a, b => by
    have h2 : ∀ p ∈ turn acc (v.getD m []), 0 ≤ p.2 ∧ p.2 < F.many := fun ⟨x, y⟩ hp' => by
      obtain ⟨z, h3, h4⟩ := mem_turn.mp hp'
      have := (hf m hp.1 _ _).mp h4
      exact leads_range ok this.2 this.1
    rw [through, through_leads ok hf hp.2 h2]
    constructor
    · rintro ⟨x, h3, h4⟩
      obtain ⟨y, h5, h6⟩ := mem_turn.mp h3
      exact ⟨y, h5, leads_app.mpr ⟨x, ((hf m hp.1 _ _).mp h6).2, h4⟩⟩
    · rintro ⟨y, h5, h6⟩
      obtain ⟨x, h7, h8⟩ := leads_app.mp h6
      exact ⟨x, mem_turn.mpr ⟨y, h5, (hf m hp.1 _ _).mpr ⟨h _ h5, h7⟩⟩, h8⟩
  | .tag t i r, acc, hp, h, a, b => by
    have h2 : ∀ p ∈ turn acc (steps F t (through F v i (idle F.many))), 0 ≤ p.2 ∧ p.2 < F.many := fun ⟨x, y⟩ hp' => by
      obtain ⟨z, h3, h4⟩ := mem_turn.mp hp'
      exact (steps_sq ok _ h4).2
    have hi : ∀ (x e : Int), 0 ≤ x ∧ x < (F.many : Int) → ((x, e) ∈ through F v i (idle F.many) ↔ leads F (mk f i) x e) := fun x e hx => by
      rw [through_leads ok hf hp.1 (fun p hp' => (idle_sq _ p hp').2)]
      constructor
      · rintro ⟨y, h3, h4⟩
        rw [show x = y from (mem_idle.mp h3).1]
        exact h4
      · intro h4
        exact ⟨x, mem_idle.mpr ⟨rfl, hx⟩, h4⟩
    rw [through, through_leads ok hf hp.2 h2]
    constructor
    · rintro ⟨x, h3, h4⟩
      obtain ⟨y, h5, h6⟩ := mem_turn.mp h3
      obtain ⟨ru, hr, e1, e2, e3, e, he, h7⟩ := mem_steps.mp h6
      refine ⟨y, h5, ru, hr, e1, e3, isOf_leads.mpr ⟨e, he, (hi _ _ (ok.ru ru hr).2.1).mp h7⟩, ?_⟩
      rw [e2]
      exact h4
    · rintro ⟨y, h5, ru, hr, e1, e3, h6, h7⟩
      obtain ⟨e, he, h8⟩ := isOf_leads.mp h6
      exact ⟨ru.rest, mem_turn.mpr ⟨y, h5, mem_steps.mpr ⟨ru, hr, e1, rfl, e3, e, he, (hi _ _ (ok.ru ru hr).2.1).mpr h8⟩⟩, h7⟩
theorem value_leads {F : Form} (ok : FOk F) {M : Nat} {W : Way} (hw : WOk M W) : ∀ (g : G) (m : Nat), m < M → ∀ q p, (q, p) ∈ (valueOf F W M g).getD m [] ↔ (0 ≤ q ∧ q < F.many) ∧ leads F (change W g m) q p
  | .nil, m, h, q, p => by
    rw [valueOf, nothing_get h, mem_idle]
    exact ⟨fun ⟨a, b⟩ => ⟨b, a⟩, fun ⟨b, a⟩ => ⟨a, b⟩⟩
  | .cons t w o, m, h, q, p => by
    rw [valueOf, above_get h, mem_turn]
    have tl := through_leads ok (value_leads ok hw w) (parts_ok hw (t := t) h).1 (acc := idle F.many) (fun p hp' => (idle_sq _ p hp').2)
    constructor
    · rintro ⟨x, h1, h2⟩
      obtain ⟨y, h3, h4⟩ := (tl q x).mp h1
      have e := mem_idle.mp h3
      have e1 : q = y := e.1
      subst e1
      exact ⟨e.2, leads_app.mpr ⟨x, h4, ((value_leads ok hw o m h _ _).mp h2).2⟩⟩
    · rintro ⟨hq, h1⟩
      obtain ⟨x, h2, h3⟩ := leads_app.mp h1
      exact ⟨x, (tl q x).mpr ⟨q, mem_idle.mpr ⟨rfl, hq⟩, h2⟩, (value_leads ok hw o m h _ _).mpr ⟨leads_range ok h2 hq, h3⟩⟩
theorem good_fits {F : Form} (ok : FOk F) {M : Nat} {W : Way} (hw : WOk M W) (hM : 0 < M) (g : G) : good F (valueOf F W M g) = fits F (change W g 0) := by
  rw [Bool.eq_iff_iff]
  unfold good fits
  rw [List.any_eq_true, List.any_eq_true]
  simp only [Bool.and_eq_true, List.contains_iff_mem]
  constructor
  · rintro ⟨⟨q, p⟩, h1, h2, h3⟩
    exact ⟨q, h2, isOf_leads.mpr ⟨p, h3, ((value_leads ok hw g 0 hM q p).mp h1).2⟩⟩
  · rintro ⟨q, h2, h4⟩
    obtain ⟨p, h3, h5⟩ := isOf_leads.mp h4
    exact ⟨(q, p), (value_leads ok hw g 0 hM q p).mpr ⟨ok.st q h2, h5⟩, h2, h3⟩

/-! ### closed lists of pairs (kind, value) -/
abbrev KV2 := Int × Val
structure Closed (A F : Form) (W : Way) (M : Nat) (K : List KV2) : Prop where
  base : ∀ e ∈ A.ends, (e, nothing F M) ∈ K
  step : ∀ r ∈ A.rules, ∀ v w, (r.inner, v) ∈ K → (r.rest, w) ∈ K → (r.kind, above F W M r.tag v w) ∈ K
theorem Closed.reach {A F : Form} {W : Way} {M : Nat} {K : List KV2} (c : Closed A F W M K) : ∀ {g : G} {q : Int}, isOf A g q = true → (q, valueOf F W M g) ∈ K
  | .nil, q, h => c.base q (by rw [isOf, List.contains_iff_mem] at h; exact h)
  | .cons t w o, q, h => by
    obtain ⟨r, hr, h1, h2, h3, h4⟩ := isOf_cons.mp h
    have := c.step r hr _ _ (c.reach h3) (c.reach h4)
    rw [h1, h2] at this
    exact this
/-- few pairs are reached -/
def Few (A F : Form) (W : Way) (M : Nat) : Prop := ∃ K : List KV2, K.length ≤ 9 ∧ Closed A F W M K
end K76
set_option Elab.async false
set_option linter.all false
set_option maxRecDepth 100000
set_option maxHeartbeats 4000000
namespace K76
open PySem
def END : Tag := "/"
def words : G → List Tag
  | .nil => []
  | .cons t w o => t :: (words w ++ END :: words o)
def G.size : G → Nat
  | .nil => 0
  | .cons _ w o => 1 + w.size + o.size
theorem words_len : ∀ g : G, (words g).length = 2 * g.size
  | .nil => rfl
  | .cons t w o => by
    have := words_len w
    have := words_len o
    simp only [words, G.size, List.length_cons, List.length_append]
    omega
theorem words_app : ∀ (g h : G), words (g.app h) = words g ++ words h
  | .nil, _ => rfl
  | .cons t w o, h => by
    show t :: (words w ++ END :: words (o.app h)) = t :: (words w ++ END :: words o) ++ words h
    rw [words_app o h]
    simp
def G.ok : G → Prop
  | .nil => True
  | .cons t w o => t ≠ END ∧ w.ok ∧ o.ok
def Ps.tok : Ps → Prop
  | .nil => True
  | .kids _ r => r.tok
  | .tag t i r => t ≠ END ∧ i.tok ∧ r.tok
def WTok (W : Way) : Prop := ∀ m t ps, W m t = some ps → ps.tok
theorem app_ok : ∀ {g h : G}, g.ok → h.ok → (g.app h).ok
  | .nil, _, _, h => h
  | .cons _ _ _, _, ⟨a, b, c⟩, h => ⟨a, b, app_ok c h⟩
theorem mk_ok {f : Nat → G} (hf : ∀ m, (f m).ok) : ∀ {ps : Ps}, ps.tok → (mk f ps).ok
  | .nil, _ => trivial
  | .kids m r, h => app_ok (hf m) (mk_ok hf (ps := r) h)
  | .tag t i r, ⟨a, b, c⟩ => ⟨a, mk_ok hf b, mk_ok hf c⟩
theorem partsFor_tok {W : Way} (hw : WTok W) {m : Nat} {t : Tag} (ht : t ≠ END) : (partsFor W m t).tok := by
  unfold partsFor
  cases e : W m t with
  | some ps => exact hw m t ps e
  | none => exact ⟨ht, trivial, trivial⟩
theorem change_ok {W : Way} (hw : WTok W) : ∀ {g : G} (m : Nat), g.ok → (change W g m).ok
  | .nil, _, _ => trivial
  | .cons t w o, m, ⟨a, b, c⟩ => app_ok (mk_ok (fun m' => change_ok hw m' b) (partsFor_tok hw a)) (change_ok hw m c)
theorem isOf_ok {A : Form} (ht : ∀ r ∈ A.rules, r.tag ≠ END) : ∀ {g : G} {q : Int}, isOf A g q = true → g.ok
  | .nil, _, _ => trivial
  | .cons t w o, q, h => by
    obtain ⟨r, hr, h1, h2, h3, h4⟩ := isOf_cons.mp h
    exact ⟨by rw [← h2]; exact ht r hr, isOf_ok ht h3, isOf_ok ht h4⟩

/-! ### words gone through from the last -/
section
variable {α : Type}
def tok1 (step : Tag → α → α → α) (init : α) (t : Tag) (st : List α) : List α :=
  if t = END then init :: st else match st with
    | x :: y :: r => step t x y :: r
    | _ => st
def runR (step : Tag → α → α → α) (init : α) : List Tag → List α → List α
  | [], st => st
  | t :: ws, st => tok1 step init t (runR step init ws st)
def foldG (step : Tag → α → α → α) (init : α) : G → α → α
  | .nil, x => x
  | .cons t w o, x => step t (foldG step init w init) (foldG step init o x)
theorem runR_append (step : Tag → α → α → α) (init : α) : ∀ (l m : List Tag) (st : List α), runR step init (l ++ m) st = runR step init l (runR step init m st)
  | [], _, _ => rfl
  | t :: l, m, st => by
    show tok1 step init t (runR step init (l ++ m) st) = tok1 step init t _
    rw [runR_append step init l m st]
theorem runR_words (step : Tag → α → α → α) (init : α) : ∀ (g : G) (x : α) (st : List α), g.ok → runR step init (words g) (x :: st) = foldG step init g x :: st
  | .nil, _, _, _ => rfl
  | .cons t w o, x, st, ⟨a, b, c⟩ => by
    show tok1 step init t (runR step init (words w ++ END :: words o) (x :: st)) = _
    rw [runR_append]
    show tok1 step init t (runR step init (words w) (tok1 step init END (runR step init (words o) (x :: st)))) = _
    rw [runR_words step init o x st c]
    rw [show tok1 step init END (foldG step init o x :: st) = init :: foldG step init o x :: st from if_pos rfl]
    rw [runR_words step init w init _ b]
    exact if_neg a
/-- how high the pile stands -/
def hgt : List Tag → Nat
  | [] => 1
  | t :: ws => if t = END then hgt ws + 1 else hgt ws - 1
theorem runR_len (step : Tag → α → α → α) (init : α) : ∀ (l : List Tag) (st : List α), (runR step init l st).length ≤ l.length + st.length
  | [], _ => by simp [runR]
  | t :: l, st => by
    have ih := runR_len step init l st
    show (tok1 step init t (runR step init l st)).length ≤ _
    unfold tok1
    split
    · simp only [List.length_cons]; omega
    · split
      · rename_i e
        rw [e] at ih
        simp only [List.length_cons] at ih ⊢
        omega
      · simp only [List.length_cons]; omega
/-- the words from some place on leave at least two where a tag stands -/
theorem runR_two (step : Tag → α → α → α) (init : α) : ∀ (g : G) (x : α) (st : List α), g.ok → ∀ (a : List Tag) (t : Tag) (b : List Tag), words g = a ++ t :: b → t ≠ END → ∃ u v r, runR step init b (x :: st) = u :: v :: r
  | .nil, _, _, _, a, t, b, e, _ => by
    cases a <;> cases e
  | .cons t' w o, x, st, ⟨h1, h2, h3⟩, a, t, b, e, ht => by
    cases a with
    | nil =>
      have e' : t' :: (words w ++ END :: words o) = t :: b := e
      injection e' with e1 e2
      subst e2
      rw [runR_append]
      show ∃ u v r, runR step init (words w) (tok1 step init END (runR step init (words o) (x :: st))) = _
      rw [runR_words step init o x st h3]
      rw [show tok1 step init END (foldG step init o x :: st) = init :: foldG step init o x :: st from if_pos rfl]
      rw [runR_words step init w init _ h2]
      exact ⟨_, _, _, rfl⟩
    | cons a0 a =>
      have e' : t' :: (words w ++ END :: words o) = a0 :: (a ++ t :: b) := e
      injection e' with e1 e2
      rcases List.append_eq_append_iff.mp e2 with ⟨c, e3, e4⟩ | ⟨c, e3, e4⟩
      · -- a = words w ++ c, END :: words o = c ++ t :: b
        cases c with
        | nil =>
          have e5 : END :: words o = t :: b := by simpa using e4
          injection e5 with e6 _
          exact absurd e6.symm ht
        | cons c0 c =>
          have e5 : END :: words o = c0 :: (c ++ t :: b) := e4
          injection e5 with _ e6
          exact runR_two step init o x st h3 c t b e6 ht
      · -- words w = a ++ c, t :: b = c ++ END :: words o
        cases c with
        | nil =>
          have e5 : t :: b = END :: words o := by simpa using e4
          injection e5 with e6 _
          exact absurd e6 ht
        | cons c0 c =>
          have e5 : t :: b = c0 :: (c ++ END :: words o) := e4
          injection e5 with e6 e7
          subst e6 e7
          rw [runR_append]
          show ∃ u v r, runR step init c (tok1 step init END (runR step init (words o) (x :: st))) = _
          rw [runR_words step init o x st h3]
          rw [show tok1 step init END (foldG step init o x :: st) = init :: foldG step init o x :: st from if_pos rfl]
          exact runR_two step init w init _ h2 a t c e3 ht
end
theorem foldG_value {F : Form} {W : Way} {M : Nat} : ∀ g : G, foldG (above F W M) (nothing F M) g (nothing F M) = valueOf F W M g
  | .nil => rfl
  | .cons t w o => by
    rw [foldG, foldG_value w, foldG_value o]
    rfl
/-- kinds told by a dict: each once, in the rules' order -/
def once (l : List Int) : List Int := l.foldl (fun acc x => if x ∈ acc then acc else acc ++ [x]) []
theorem mem_once_go : ∀ (l acc : List Int) (x : Int), x ∈ l.foldl (fun acc x => if x ∈ acc then acc else acc ++ [x]) acc ↔ x ∈ acc ∨ x ∈ l
  | [], _, _ => by simp
  | y :: l, acc, x => by
    rw [List.foldl_cons, mem_once_go l]
    split
    · rename_i h
      constructor
      · rintro (h1 | h1)
        · exact .inl h1
        · exact .inr (List.mem_cons_of_mem _ h1)
      · rintro (h1 | h1)
        · exact .inl h1
        · rcases List.mem_cons.mp h1 with e | h1
          · subst e; exact .inl h
          · exact .inr h1
    · rw [List.mem_append, List.mem_singleton, List.mem_cons]
      constructor
      · rintro ((h1 | h1) | h1)
        · exact .inl h1
        · exact .inr (.inl h1)
        · exact .inr (.inr h1)
      · rintro (h1 | h1 | h1)
        · exact .inl (.inl h1)
        · exact .inl (.inr h1)
        · exact .inr h1
theorem mem_once {l : List Int} {x : Int} : x ∈ once l ↔ x ∈ l := by
  unfold once
  rw [mem_once_go]
  simp
def kstep (A : Form) (t : Tag) (ks os : List Int) : List Int := once ((A.rules.filter fun r => decide (r.tag = t) && ks.contains r.inner && os.contains r.rest).map (·.kind))
theorem mem_kstep {A : Form} {t : Tag} {ks os : List Int} {q : Int} : q ∈ kstep A t ks os ↔ ∃ r ∈ A.rules, r.kind = q ∧ r.tag = t ∧ r.inner ∈ ks ∧ r.rest ∈ os := by
  unfold kstep
  rw [mem_once, List.mem_map]
  simp only [List.mem_filter, Bool.and_eq_true, decide_eq_true_eq, List.contains_iff_mem]
  constructor
  · rintro ⟨r, ⟨h1, ⟨h2, h3⟩, h4⟩, h5⟩
    exact ⟨r, h1, h5, h2, h3, h4⟩
  · rintro ⟨r, h1, h5, h2, h3, h4⟩
    exact ⟨r, ⟨h1, ⟨h2, h3⟩, h4⟩, h5⟩
theorem mem_kinds {A : Form} : ∀ {g : G} {q : Int}, q ∈ foldG (kstep A) A.ends g A.ends ↔ isOf A g q = true
  | .nil, q => by
    rw [isOf, List.contains_iff_mem]
    exact Iff.rfl
  | .cons t w o, q => by
    rw [foldG, mem_kstep, isOf_cons]
    constructor
    · rintro ⟨r, h1, h5, h2, h3, h4⟩
      exact ⟨r, h1, h5, h2, mem_kinds.mp h3, mem_kinds.mp h4⟩
    · rintro ⟨r, h1, h5, h2, h3, h4⟩
      exact ⟨r, h1, h5, h2, mem_kinds.mpr h3, mem_kinds.mpr h4⟩

/-! ### the words of what comes, by jobs -/
inductive Job where
  | row (g : G) (m : Nat)
  | parts (p : Ps) (g : G)
  | fin
def Job.out (W : Way) : Job → List Tag
  | .row g m => words (change W g m)
  | .parts p g => words (mk (change W g) p)
  | .fin => [END]
def wtP (f : Nat → Nat) : Ps → Nat
  | .nil => 1
  | .kids m r => 1 + wtP f r + f m
  | .tag _ i r => 2 + wtP f r + wtP f i
def wtG (W : Way) : G → Nat → Nat
  | .nil, _ => 1
  | .cons t w o, m => 1 + wtG W o m + wtP (wtG W w) (partsFor W m t)
def Job.wt (W : Way) : Job → Nat
  | .row g m => wtG W g m
  | .parts p g => wtP (wtG W g) p
  | .fin => 1
theorem wtP_pos (f : Nat → Nat) : ∀ p : Ps, 1 ≤ wtP f p
  | .nil => Nat.le_refl _
  | .kids _ _ => by simp only [wtP]; omega
  | .tag _ _ _ => by simp only [wtP]; omega
theorem wt_pos (W : Way) : ∀ j : Job, 1 ≤ j.wt W
  | .row .nil _ => Nat.le_refl _
  | .row (.cons _ _ _) _ => by simp only [Job.wt, wtG]; omega
  | .parts p _ => wtP_pos _ p
  | .fin => Nat.le_refl _
theorem wtP_le {f : Nat → Nat} {B : Nat} (hf : ∀ m, f m ≤ B) : ∀ p : Ps, wtP f p ≤ 1 + p.size * (3 + B)
  | .nil => by simp [wtP, Ps.size]
  | .kids m r => by
    have := wtP_le hf r
    have := hf m
    simp only [wtP, Ps.size, Nat.add_mul, Nat.one_mul]
    omega
  | .tag _ i r => by
    have := wtP_le hf r
    have := wtP_le hf i
    simp only [wtP, Ps.size, Nat.add_mul, Nat.one_mul]
    omega
theorem wtG_le {W : Way} (hw : ∀ m t ps, W m t = some ps → ps.size ≤ 4) : ∀ (g : G) (m : Nat), wtG W g m + 4 ≤ 5 * 5 ^ g.size
  | .nil, _ => by simp [wtG, G.size]
  | .cons t w o, m => by
    have h1 := wtG_le hw o m
    have hp : (partsFor W m t).size ≤ 4 := by
      unfold partsFor
      cases e : W m t with
      | some ps => exact hw m t ps e
      | none => show 1 + (1 + 0) + 0 ≤ 4; omega
    have hB : ∀ m, wtG W w m ≤ 5 * 5 ^ w.size - 4 := fun m => by have := wtG_le hw w m; omega
    have h0 := wtG_le hw w 0
    have h2 := wtP_le hB (partsFor W m t)
    have h3 : (partsFor W m t).size * (3 + (5 * 5 ^ w.size - 4)) ≤ 4 * (3 + (5 * 5 ^ w.size - 4)) := Nat.mul_le_mul_right _ hp
    have a1 : 1 ≤ 5 ^ w.size := Nat.pow_pos (by decide)
    have a2 : 1 ≤ 5 ^ o.size := Nat.pow_pos (by decide)
    have e : 5 ^ (1 + w.size + o.size) = 5 * (5 ^ w.size * 5 ^ o.size) := by rw [Nat.pow_add, Nat.pow_add, Nat.pow_one, Nat.mul_assoc]
    have m1 : 5 ^ w.size ≤ 5 ^ w.size * 5 ^ o.size := Nat.le_mul_of_pos_right _ a2
    have m2 : 5 ^ o.size ≤ 5 ^ w.size * 5 ^ o.size := Nat.le_mul_of_pos_left _ a1
    simp only [wtG, G.size]
    rw [e]
    omega
end K76
set_option Elab.async false
set_option linter.all false
set_option maxRecDepth 100000
set_option maxHeartbeats 4000000
namespace K76
open PySem PySem.Spec PyProof.Rows L2
/-! ### data told as data -/
def encP (p : Int × Int) : D := .tup [.num p.1, .num p.2]
def encL (l : Pr) : D := .tup (l.map encP)
def encV (v : Val) : D := .tup (v.map encL)
def encK (k : KV2) : D := .tup [.num k.1, encV k.2]
def encG : G → List D
  | .nil => []
  | .cons t w o => .tup [.text t, .tup (encG w)] :: encG o
def gr (g : G) : D := .tup (encG g)
def encPs : Ps → List D
  | .nil => []
  | .kids m r => .tup [.text "kids", .num m] :: encPs r
  | .tag t i r => .tup [.text "tag", .text t, .tup (encPs i)] :: encPs r
def encR (r : Rule) : D := .tup [.num r.kind, .text r.tag, .num r.inner, .num r.rest]
def nums (l : List Int) : D := .tup (l.map .num)
def encF (F : Form) : D := .tup [.num F.many, nums F.starts, nums F.ends, .tup (F.rules.map encR)]
theorem encP_inj {a b : Int × Int} (h : encP a = encP b) : a = b := by
  unfold encP at h
  simp only [NestedKey.tup.injEq, List.cons.injEq, NestedKey.num.injEq, and_true] at h
  exact Prod.ext h.1 h.2
theorem map_inj {α β : Type} {f : α → β} (hf : ∀ a b, f a = f b → a = b) : ∀ {l m : List α}, l.map f = m.map f → l = m
  | [], [], _ => rfl
  | [], _ :: _, h => by simp at h
  | _ :: _, [], h => by simp at h
  | a :: l, b :: m, h => by
    rw [List.map_cons, List.map_cons] at h
    injection h with h1 h2
    rw [hf _ _ h1, map_inj hf h2]
theorem encL_inj {a b : Pr} (h : encL a = encL b) : a = b := by
  unfold encL at h
  injection h with h
  exact map_inj (fun _ _ => encP_inj) h
theorem encV_inj {a b : Val} (h : encV a = encV b) : a = b := by
  unfold encV at h
  injection h with h
  exact map_inj (fun _ _ => encL_inj) h
theorem encK_inj {a b : KV2} (h : encK a = encK b) : a = b := by
  unfold encK at h
  simp only [NestedKey.tup.injEq, List.cons.injEq, NestedKey.num.injEq, and_true] at h
  exact Prod.ext h.1 (encV_inj h.2)
theorem depthAll_le {n : Nat} : ∀ {l : List D}, (∀ d ∈ l, d.depth ≤ n) → NestedKey.depthAll l ≤ n
  | [], _ => Nat.zero_le _
  | d :: l, h => by
    show max d.depth (NestedKey.depthAll l) ≤ n
    have h1 := h d List.mem_cons_self
    have h2 := depthAll_le (l := l) fun e he => h e (List.mem_cons_of_mem _ he)
    omega
theorem depth_map {α : Type} {f : α → D} {n : Nat} (h : ∀ a, (f a).depth ≤ n) (l : List α) : (NestedKey.tup (l.map f)).depth ≤ n + 1 := by
  show NestedKey.depthAll (l.map f) + 1 ≤ n + 1
  have := depthAll_le (n := n) (l := l.map f) fun d hd => by
    obtain ⟨a, _, rfl⟩ := List.mem_map.mp hd
    exact h a
  omega
theorem encV_depth (v : Val) : (encV v).depth ≤ 3 := depth_map (fun l => depth_map (fun p => by show max 0 (max 0 0) + 1 ≤ 1; simp) l) v
theorem encK_ok (k : KV2) : KeyOk (encK k) := by
  refine ⟨⟨_, rfl⟩, ?_⟩
  show max 0 (max (encV k.2).depth 0) + 1 ≤ 8
  have := encV_depth k.2
  omega
theorem alikeAll_map {α β : Type} {f : α → PyData} {g : β → PyData} (h : ∀ a b, PySem.W.alike (f a) (g b) = true) : ∀ (l : List α) (m : List β), PySem.W.alikeAll (l.map f) (m.map g) = true
  | [], m => by simp [PySem.W.alikeAll]
  | _ :: _, [] => by simp [PySem.W.alikeAll]
  | a :: l, b :: m => by
    show PySem.W.alikeAll (f a :: l.map f) (g b :: m.map g) = true
    rw [PySem.W.alikeAll, h a b, alikeAll_map h l m]
    rfl
theorem datas_map {α : Type} (f : α → D) : ∀ l : List α, NestedKey.datas (l.map f) = l.map fun a => (f a).data
  | [] => rfl
  | a :: l => by
    show (f a).data :: NestedKey.datas (l.map f) = _
    rw [datas_map f l]
    rfl
theorem alike_map {α : Type} {f : α → D} (h : ∀ a b, PySem.W.alike (f a).data (f b).data = true) (l m : List α) : PySem.W.alike (NestedKey.tup (l.map f)).data (NestedKey.tup (m.map f)).data = true := by
  show PySem.W.alike (.tuple (NestedKey.datas _)) (.tuple (NestedKey.datas _)) = true
  rw [datas_map, datas_map, PySem.W.alike]
  exact alikeAll_map h l m
theorem encV_alike (a b : Val) : PySem.W.alike (encV a).data (encV b).data = true :=
  alike_map (alike_map fun p q => by
    show PySem.W.alike (.tuple [.int p.1, .int p.2]) (.tuple [.int q.1, .int q.2]) = true
    simp [PySem.W.alike, PySem.W.alikeAll]) a b
theorem encK_alike (a b : KV2) : PySem.W.alike (encK a).data (encK b).data = true := by
  show PySem.W.alike (.tuple [.int a.1, (encV a.2).data]) (.tuple [.int b.1, (encV b.2).data]) = true
  simp only [PySem.W.alike, PySem.W.alikeAll, encV_alike, Bool.and_self]
theorem srt_keys (l : List KV2) : Srtbl (l.map encK) := by
  constructor
  · intro d hd e he
    obtain ⟨a, _, rfl⟩ := List.mem_map.mp hd
    obtain ⟨b, _, rfl⟩ := List.mem_map.mp he
    exact encK_alike a b
  · intro d hd
    obtain ⟨a, _, rfl⟩ := List.mem_map.mp hd
    exact ⟨⟨_, _, rfl⟩, (encK_ok a).2⟩

/-! ### taking data apart -/
section
variable {H : Hp} {v : V}
theorem is_tup {ks : List D} (h : Is H (.tup ks) v) : ∃ a xs, v = .ref a ∧ H a = some (.tup xs) ∧ IsAll H ks xs := h
theorem is_two {a b : D} (h : Is H (.tup [a, b]) v) : ∃ p x y, v = .ref p ∧ H p = some (.tup [x, y]) ∧ Is H a x ∧ Is H b y := by
  obtain ⟨p, xs, e, hp, x, r, rfl, h1, y, r2, rfl, h2, h3⟩ := h
  cases h3
  exact ⟨p, x, y, e, hp, h1, h2⟩
theorem is_three {a b c : D} (h : Is H (.tup [a, b, c]) v) : ∃ p x y z, v = .ref p ∧ H p = some (.tup [x, y, z]) ∧ Is H a x ∧ Is H b y ∧ Is H c z := by
  obtain ⟨p, xs, e, hp, x, r, rfl, h1, y, r2, rfl, h2, z, r3, rfl, h3, h4⟩ := h
  cases h4
  exact ⟨p, x, y, z, e, hp, h1, h2, h3⟩
theorem is_four {a b c d : D} (h : Is H (.tup [a, b, c, d]) v) : ∃ p x y z u, v = .ref p ∧ H p = some (.tup [x, y, z, u]) ∧ Is H a x ∧ Is H b y ∧ Is H c z ∧ Is H d u := by
  obtain ⟨p, xs, e, hp, x, r, rfl, h1, y, r2, rfl, h2, z, r3, rfl, h3, u, r4, rfl, h4, h5⟩ := h
  cases h5
  exact ⟨p, x, y, z, u, e, hp, h1, h2, h3, h4⟩
theorem is_pair {q : Int × Int} (h : Is H (encP q) v) : ∃ p, v = .ref p ∧ H p = some (.tup [.int q.1, .int q.2]) := by
  obtain ⟨p, x, y, e, hp, h1, h2⟩ := is_two h
  cases h1
  cases h2
  exact ⟨p, e, hp⟩
theorem is_nums {l : List Int} (h : Is H (nums l) v) : ∃ p, v = .ref p ∧ H p = some (.tup (l.map V.int)) := by
  obtain ⟨p, xs, e, hp, hx⟩ := h
  exact ⟨p, e, by rw [hp, hx.ints]⟩
theorem is_rule {r : Rule} (h : Is H (encR r) v) : ∃ p, v = .ref p ∧ H p = some (.tup [.int r.kind, .str r.tag, .int r.inner, .int r.rest]) := by
  obtain ⟨p, x, y, z, u, e, hp, h1, h2, h3, h4⟩ := is_four h
  cases h1
  cases h2
  cases h3
  cases h4
  exact ⟨p, e, hp⟩
/-- a form's parts -/
structure FormAt (H : Hp) (p : Addr) (F : Form) (ps pe pr : Addr) (rs : List V) : Prop where
  at_ : H p = some (.tup [.int F.many, .ref ps, .ref pe, .ref pr])
  st : H ps = some (.tup (F.starts.map V.int))
  en : H pe = some (.tup (F.ends.map V.int))
  ru : H pr = some (.tup rs)
  rs : IsAll H (F.rules.map encR) rs
theorem is_form {F : Form} (h : Is H (encF F) v) : ∃ p ps pe pr rs, v = .ref p ∧ FormAt H p F ps pe pr rs := by
  obtain ⟨p, x, y, z, u, e, hp, h1, h2, h3, pr, rs, e4, hr, hrs⟩ := is_four h
  cases h1
  obtain ⟨ps, e2, k2⟩ := is_nums h2
  obtain ⟨pe, e3, k3⟩ := is_nums h3
  subst e2 e3 e4
  exact ⟨p, ps, pe, pr, rs, e, hp, k2, k3, hr, hrs⟩
theorem FormAt.mono {H' : Hp} (t : Tp H H') {p : Addr} {F : Form} {ps pe pr : Addr} {rs : List V} (h : FormAt H p F ps pe pr rs) : FormAt H' p F ps pe pr rs :=
  ⟨t _ _ h.at_, t _ _ h.st, t _ _ h.en, t _ _ h.ru, h.rs.mono t⟩
theorem FormAt.is {p : Addr} {F : Form} {ps pe pr : Addr} {rs : List V} (h : FormAt H p F ps pe pr rs) : Is H (encF F) (.ref p) :=
  ⟨p, _, rfl, h.at_, _, _, rfl, rfl, _, _, rfl, ⟨ps, _, rfl, h.st, .of_ints _⟩, _, _, rfl, ⟨pe, _, rfl, h.en, .of_ints _⟩, _, _, rfl, ⟨pr, _, rfl, h.ru, h.rs⟩, rfl⟩
end
/-! ### new objects -/
theorem same_new {H : Hp} {p : Addr} {o : HO} (h : H p = none) : Same H (upd H p o) := fun b u e => by rw [upd_ne (ne_of_none e h)]; exact e
/-- an object unknown to H0 changes -/
theorem Same.mut {H0 H : Hp} {p : Addr} {o : HO} (s : Same H0 H) (h : H0 p = none) : Same H0 (upd H p o) := fun b u e => by rw [upd_ne (ne_of_none e h)]; exact s _ _ e
theorem Is.same {H H' : Hp} (s : Same H H') {k : D} {v : V} (h : Is H k v) : Is H' k v := Is.mono (Tp.of s) k h
theorem IsAll.same {H H' : Hp} (s : Same H H') {k : List D} {v : List V} (h : IsAll H k v) : IsAll H' k v := IsAll.mono (Tp.of s) k h
theorem NR.same {P : Program} {w : World} {H H' : Hp} {d : Addr} {kvs : List (D × V)} (h : NR P w H d kvs) (t : Same H H') : NR P w H' d kvs := by
  obtain ⟨xs, e1, e2, e3⟩ := h
  refine ⟨xs, e1, ?_, e3.mono (Tp.of t)⟩
  rcases e2 with e2 | ⟨o, e2⟩
  · exact .inl (t _ _ e2)
  · exact .inr ⟨o, t _ _ e2⟩
end K76
set_option Elab.async false
set_option linter.all false
set_option maxRecDepth 100000
set_option maxHeartbeats 4000000
namespace K76
open PySem PySem.Spec PyProof.Rows L2
/-! ### the text by places -/
def top (i : Nat) : Stmt := PySem.Challenge.pw_formgrove_k76_whole_safe_or_spoiled.main.body.getD i (.Pass ⟨0, 0, 0, 0⟩)
/-! ### names of the top -/
structure Gb (mg : Str → Option Value) : Prop where
  len : mg "len" = none
  range : mg "range" = none
  tuple : mg "tuple" = none
  list : mg "list" = none
  sorted : mg "sorted" = none
  set : mg "set" = none
  min : mg "min" = none
  max : mg "max" = none
  reversed : mg "reversed" = none
  isinstance : mg "isinstance" = none
  END : ∃ t, mg "END" = some (.str END t)
  MOST_TAGS : ∃ t, mg "MOST_TAGS" = some (.int 300 t)
  MOST_ROWS : ∃ t, mg "MOST_ROWS" = some (.int 64 t)
  MOST_STEPS : ∃ t, mg "MOST_STEPS" = some (.int 4000 t)
/-- what a name of the top calls, with its promise -/
def Callable (P : Program) (w : World) (K : PySem.W.Frag) (mg : Str → Option Value) (base : Heap) (CX : CXT) (k : Nat) (x : Str) (ps : List Str) (sp : Sp) : Prop :=
  ∃ f fd, mg x = some (.ref f) ∧ PySem.W.keepIn K (.ref f) = true ∧ L2.Binds K fd ps [] ∧ FnOk P w K mg base CX k f fd ps sp
def Methd (P : Program) (w : World) (K : PySem.W.Frag) (mg : Str → Option Value) (base : Heap) (CX : CXT) (k : Nat) (C : Addr) (m : Str) (ps : List Str) (sp : Sp) : Prop :=
  Cls K C ∧ ∃ f fd, Meth K C m f ∧ L2.Binds K fd ps [] ∧ FnOk P w K mg base CX k f fd ps sp
section
variable {X : Cx} {CX : CXT} {k j : Nat} {ps : List Str} {sp : Sp} {E : XK} {x m : Str} {p pos apos : Pos} {e o : Expr} {es : List Expr} {t : TA} {ta : TE} {C : Addr}
theorem pe_callF (F : Callable X.prog X.w X.K X.mg X.base CX k x ps sp) (hr : Room k X.A) (hg : Gl X x) (tk : Passes CX X E) (pa : PA X (e :: es) t)
    (h1 : (x == Str.ofString "__debug__") = false := by decide) (h2 : starEach (e :: es) X.env = (false, eval e X.env) :: starEach es X.env := by rfl)
    (h3 : ((backTo pos (starEach es X.env)).any fun (x : Bool × Sem Value) => x.fst) = false := by rfl) :
    PE X ((Expr.Name x p).Call (e :: es) [] pos) (tCall sp [] E t) := by
  obtain ⟨f, fd, h, kp, b, F⟩ := F
  exact pe_call F hr hg h kp b .nil tk pa h1 h2 h3
theorem pe_methF {pl : Sem Bool} (ho : PE X o ta) (M : Methd X.prog X.w X.K X.mg X.base CX k C m ps sp) (hr : Room k X.A) (tk : Passes CX X E) (pa : PA X (e :: es) t)
    (h2 : starEach (e :: es) X.env = (false, eval e X.env) :: starEach es X.env := by rfl)
    (h3 : ((backTo pos (starEach es X.env)).any fun (x : Bool × Sem Value) => x.fst) = false := by rfl)
    (h4 : (eval ((o.Attribute m apos).Call (e :: es) [] pos) X.env = do
                              let ov ← eval o X.env
                              standAt apos.atName
                              let __x ← holding [ov] (getMethod ov m pl)
                              match __x with
                                | (f, first) =>
                                  callWith pos f first (backTo pos (starEach (e :: es) X.env))
                                    (backToKw pos (keywordEach [] X.env))) := by rfl) :
    PE X ((o.Attribute m apos).Call (e :: es) [] pos) (tMeth C m sp [] E ta t) := by
  obtain ⟨cl, f, fd, h, b, F⟩ := M
  exact pe_meth ho cl h F hr b .nil tk pa h2 h3 h4
theorem pe_methF0 {pl : Sem Bool} (ho : PE X o ta) (M : Methd X.prog X.w X.K X.mg X.base CX k C m ps sp) (hr : Room k X.A) (tk : Passes CX X E)
    (h4 : (eval ((o.Attribute m apos).Call [] [] pos) X.env = do
                        let ov ← eval o X.env
                        standAt apos.atName
                        let __x ← holding [ov] (getMethod ov m pl)
                        match __x with
                          | (f, first) =>
                            callWith pos f first (backTo pos (starEach [] X.env)) (backToKw pos (keywordEach [] X.env))) := by rfl) :
    PE X ((o.Attribute m apos).Call [] [] pos) (tMeth C m sp [] E ta tNil) := by
  obtain ⟨cl, f, fd, h, b, F⟩ := M
  exact pe_meth0 ho cl h F hr b .nil tk h4
end
theorem sz1000 {n : Nat} (h : n ≤ 100000) : n ≤ sizeLine := by rw [sizeLine_eq]; omega
theorem szL {n : Nat} (h : n ≤ 100000) : n < sizeLine := by rw [sizeLine_eq]; omega
end K76
namespace K76
open PySem PySem.Spec PyProof.Rows L2
theorem upd_none {H : Hp} {a b : Addr} {o : HO} (h : upd H a o b = none) : b ≠ a ∧ H b = none := by
  by_cases z : b = a
  · subst z; rw [upd_same] at h; cases h
  · rw [upd_ne z] at h; exact ⟨z, h⟩
theorem smut {H0 H : Hp} {p : Addr} {o : HO} (s : L2.Same H0 H) (h : H0 p = none) : L2.Same H0 (upd H p o) := fun b u e => by rw [upd_ne (ne_of_none e h)]; exact s _ _ e
theorem strans {H H1 H2 : Hp} (a : L2.Same H H1) (b : L2.Same H1 H2) : L2.Same H H2 := fun c o h => b c o (a c o h)
theorem srefl (H : Hp) : L2.Same H H := fun _ _ h => h
/-- a new object: what stood stands -/
theorem snew {H0 H : Hp} {p : Addr} {o : HO} (s : L2.Same H0 H) (h : H p = none) : L2.Same H0 (upd H p o) := smut s (s.free h)
theorem get_new {H : Hp} {p q : Addr} {o u : HO} (e : H q = some u) (h : H p = none) : upd H p o q = some u := by rw [upd_ne (ne_of_none e h)]; exact e
end K76
namespace K76
theorem us {H : L2.Hp} {a : PySem.Addr} {o : L2.HO} : L2.upd H a o a = some o := L2.upd_same
end K76
set_option Elab.async false
set_option linter.all false
set_option maxRecDepth 100000
set_option maxHeartbeats 4000000
namespace K76
open PySem PySem.Spec PyProof.Rows L2
/-! ### dicts whose keys are tuples of flat things, by the tuples -/
section
variable {κ : Type} [DecidableEq κ]
def addP (l : List κ) (x : κ) : List κ := if x ∈ l then l else l ++ [x]
theorem mem_addP {l : List κ} {x y : κ} : y ∈ addP l x ↔ y ∈ l ∨ y = x := by
  unfold addP
  split
  · constructor
    · exact .inl
    · rintro (h | rfl)
      · exact h
      · assumption
  · simp
theorem nodup_addP {l : List κ} {x : κ} (h : l.Nodup) : (addP l x).Nodup := by
  unfold addP
  split
  · exact h
  · rename_i z
    rw [List.nodup_append]
    refine ⟨h, by simp, ?_⟩
    intro a ha b hb
    simp at hb
    subst hb
    exact fun e => z (e ▸ ha)
theorem addP_len {l : List κ} {x : κ} : (addP l x).length ≤ l.length + 1 := by
  unfold addP
  split <;> simp
end
theorem keys_putK {κ : Type} [DecidableEq κ] (kvs : List (κ × V)) (k : κ) (v : V) : (putK kvs k v).map (·.1) = addP (kvs.map (·.1)) k := by
  unfold putK addP
  by_cases z : (kvs.any fun kv => decide (kv.1 = k)) = true
  · rw [if_pos z, if_pos, List.map_map]
    · refine List.map_congr_left fun x _ => ?_
      by_cases e : x.1 = k <;> simp [e]
    · rw [List.any_eq_true] at z
      obtain ⟨x, hx, e⟩ := z
      exact List.mem_map.mpr ⟨x, hx, of_decide_eq_true e⟩
  · rw [if_neg z, if_neg]
    · simp
    · intro h
      obtain ⟨x, hx, e⟩ := List.mem_map.mp h
      exact z (List.any_eq_true.mpr ⟨x, hx, decide_eq_true e⟩)
theorem putK_len1 {κ : Type} [DecidableEq κ] (kvs : List (κ × V)) (k : κ) (v : V) : (putK kvs k v).length ≤ kvs.length + 1 := by
  have := congrArg List.length (keys_putK kvs k v)
  rw [List.length_map] at this
  rw [this]
  exact Nat.le_trans addP_len (by simp)
theorem valV_mem {κ : Type} [DecidableEq κ] {kvs : List (κ × V)} {k : κ} : (valV kvs k).isSome = true ↔ k ∈ kvs.map (·.1) := by
  rw [← valV_any, List.any_eq_true, List.mem_map]
  constructor
  · rintro ⟨x, hx, e⟩
    exact ⟨x, hx, of_decide_eq_true e⟩
  · rintro ⟨x, hx, e⟩
    exact ⟨x, hx, decide_eq_true e⟩
/-- at d a dict whose keys are the tuples of (ps.map g), in order -/
def PD {α : Type} (g : α → List Key) (H : Hp) (d : Addr) (ps : List α) : Prop := ∃ kvs : List (List Key × V), H d = some (.dT kvs) ∧ kvs.map (·.1) = ps.map g
def kp (p : Int × Int) : List Key := [Sum.inl p.1, Sum.inl p.2]
theorem kp_inj {p q : Int × Int} (h : kp p = kp q) : p = q := by
  unfold kp at h
  simp at h
  exact Prod.ext h.1 h.2
theorem PD.put {α : Type} [DecidableEq α] {g : α → List Key} (gi : ∀ a b, g a = g b → a = b) {H : Hp} {d b : Addr} {ps : List α} {x : α} {xs : List V} (h : PD g H d ps) (hb : H b = some (.tup xs)) (e : xs = (g x).map kV) (v : V) (hl : ps.length ≤ 100000) :
    ∃ H', DPut H d (.ref b) v H' ∧ PD g H' d (addP ps x) ∧ (∃ o u, H d = some u ∧ (∀ xs, u ≠ .tup xs) ∧ H' = upd H d o) := by
  obtain ⟨kvs, h1, h2⟩ := h
  subst e
  have hl' : kvs.length = ps.length := by have := congrArg List.length h2; simpa using this
  refine ⟨upd H d (.dT (putK kvs (g x) v)), .inr ⟨kvs, g x, b, h1, rfl, hb, szL (by omega), rfl⟩, ⟨_, upd_same, ?_⟩, _, _, h1, (by intro xs z; cases z), rfl⟩
  rw [keys_putK, h2]
  unfold addP
  have : g x ∈ ps.map g ↔ x ∈ ps := by
    constructor
    · intro z
      obtain ⟨y, hy, e⟩ := List.mem_map.mp z
      rw [← gi _ _ e]; exact hy
    · exact fun z => List.mem_map_of_mem z
  by_cases z : x ∈ ps
  · rw [if_pos z, if_pos (this.mpr z)]
  · rw [if_neg z, if_neg (fun q => z (this.mp q))]; simp
/-- the keys' tuples as data -/
theorem isKeys_all {α : Type} {g : α → List Key} {f : α → D} (hf : ∀ (H : Hp) (a : α) (b : Addr), H b = some (.tup ((g a).map kV)) → Is H (f a) (.ref b)) {H : Hp} :
    ∀ {kvs : List (List Key × V)} {bs : List Addr} {ps : List α}, IsKeys H kvs bs → kvs.map (·.1) = ps.map g → IsAll H (ps.map f) (bs.map V.ref)
  | _, _, [], .nil, _ => rfl
  | _, _, a :: ps, .nil, e => by cases e
  | _, _, [], .cons h t, e => by cases e
  | _, _, a :: ps, .cons (a := kv) (b := b) h t, e => by
    rw [List.map_cons, List.map_cons] at e
    injection e with e1 e2
    refine ⟨_, _, rfl, hf H a b ?_, isKeys_all hf t e2⟩
    rw [← e1]; exact h
theorem is_kp (H : Hp) (a : Int × Int) (b : Addr) (h : H b = some (.tup ((kp a).map kV))) : Is H (encP a) (.ref b) :=
  ⟨b, _, rfl, h, _, _, rfl, rfl, _, _, rfl, rfl, rfl⟩
theorem IsAll.getm {α : Type} {f : α → D} {H : Hp} {l : List α} {xs : List V} {i : Nat} {x : V} (h : IsAll H (l.map f) xs) (hi : xs[i]? = some x) : ∃ q, l[i]? = some q ∧ Is H (f q) x := by
  obtain ⟨dd, hq, hx⟩ := h.get' hi
  rw [List.getElem?_map] at hq
  obtain ⟨q, h1, rfl⟩ := Option.map_eq_some_iff.mp hq
  exact ⟨q, h1, hx⟩
theorem IsAll.lenm {α : Type} {f : α → D} {H : Hp} {l : List α} {xs : List V} (h : IsAll H (l.map f) xs) : xs.length = l.length := by rw [h.length, List.length_map]
/-! ### sorted(list(d)) -/
theorem IsAll.perm_set {α : Type} {f : α → D} {H : Hp} : ∀ {ps : List α} {xs : List V}, IsAll H (ps.map f) xs → ∀ {ys : List V}, ys.Perm xs → ∃ qs : List α, qs.Perm ps ∧ IsAll H (qs.map f) ys := by
  intro ps xs h ys p
  have sym := p.symm
  clear p
  induction sym generalizing ps with
  | nil => exact ⟨[], by cases ps with | nil => exact .nil | cons a b => (obtain ⟨_, _, e, _⟩ := h; cases e), rfl⟩
  | cons x t ih =>
    cases ps with
    | nil => cases h
    | cons a ps =>
      obtain ⟨_, _, e, h1, h2⟩ := h
      cases e
      obtain ⟨qs, q1, q2⟩ := ih h2
      exact ⟨a :: qs, .cons _ q1, _, _, rfl, h1, q2⟩
  | swap x y t =>
    cases ps with
    | nil => cases h
    | cons a ps =>
      obtain ⟨_, _, e, h1, h2⟩ := h
      cases e
      cases ps with
      | nil => cases h2
      | cons b ps =>
        obtain ⟨_, _, e, h3, h4⟩ := h2
        cases e
        exact ⟨b :: a :: ps, .swap _ _ _, _, _, rfl, h3, _, _, rfl, h1, h4⟩
  | trans _ _ ih1 ih2 =>
    obtain ⟨qs, q1, q2⟩ := ih1 h
    obtain ⟨rs, r1, r2⟩ := ih2 q2
    exact ⟨rs, r1.trans q1, r2⟩
/-- the pair a tuple's address holds -/
noncomputable def pairOf (H : Hp) (v : V) : Int × Int := by
  classical
  exact if h : ∃ p : Int × Int, Is H (encP p) v then h.choose else (0, 0)
theorem pairOf_is {H : Hp} {v : V} {p : Int × Int} (h : Is H (encP p) v) : pairOf H v = p := by
  unfold pairOf
  rw [dif_pos ⟨p, h⟩]
  exact encP_inj (Is.inj _ _ (⟨p, h⟩ : ∃ p : Int × Int, Is H (encP p) v).choose_spec h)
theorem lexB_irr (a : Int × Int) : SrtO.lexB a a = false := by unfold SrtO.lexB; simp
/-- what sorted(list(d)) asks of Q: a new list of the pairs in order -/
theorem sorted_pairs {K : PySem.W.Frag} {H : Hp} {d : Addr} {ps : List (Int × Int)} {Q : VK} (h : PD kp H d ps) (nd : ps.Nodup)
    (k : ∀ (H' : Hp) (p : Addr), L2.Same H H' → H p = none → (∃ xs, H' p = some (.lst xs) ∧ IsAll H' ((canon ps).map encP) xs) → Q (.ref p) H') :
    ∃ (d' : Addr) (kvs : List (List Key × V)), [V.ref d] = [V.ref d'] ∧ Rd H d' (.dT kvs) ∧ ∀ (p : Addr) (bs : List Addr), H p = none → IsKeys H kvs bs →
      rSortedPO K [.ref p] (upd H p (.lst (bs.map V.ref))) Q := by
  obtain ⟨kvs, h1, h2⟩ := h
  refine ⟨d, kvs, rfl, .inl h1, fun p bs np hb => ?_⟩
  have hall : IsAll H (ps.map encP) (bs.map V.ref) := isKeys_all is_kp hb h2
  have hall' := hall.same (same_new (o := .lst (bs.map V.ref)) np)
  refine ⟨p, _, pairOf (upd H p (.lst (bs.map V.ref))), rfl, SqL.of upd_same, ?_, fun ys q hs hst nq => ?_⟩
  · intro x hx
    obtain ⟨i, hi⟩ := List.getElem?_of_mem hx
    obtain ⟨dd, hd, his⟩ := hall'.get' hi
    rw [List.getElem?_map] at hd
    obtain ⟨pr, _, rfl⟩ := Option.map_eq_some_iff.mp hd
    rw [pairOf_is his]
    obtain ⟨t, e, ht⟩ := is_pair his
    exact ⟨t, e, ht⟩
  · obtain ⟨qs, q1, q2⟩ := IsAll.perm_set hall' hst.perm
    have sF := strans (same_new (o := .lst (bs.map V.ref)) np) (same_new (o := .lst ys) nq)
    refine k _ q sF ((same_new np).free nq) ⟨ys, upd_same, ?_⟩
    have e : qs = canon ps := by
      refine canon_eq ?_ fun x => q1.mem_iff
      have sub : ∀ {qs : List (Int × Int)} {ys : List V}, IsAll (upd H p (.lst (bs.map V.ref))) (qs.map encP) ys → List.Pairwise (fun x y => ltP (pairOf (upd H p (.lst (bs.map V.ref)))) y x = false) ys → qs.Nodup → Sr qs := by
        intro qs
        induction qs with
        | nil => intro _ _ _ _; exact .nil
        | cons a qs ih =>
          intro ys hy hs nd
          obtain ⟨y, r, rfl, h1, h2⟩ := hy
          rw [List.pairwise_cons] at hs
          rw [List.nodup_cons] at nd
          refine .cons ?_ (ih h2 hs.2 nd.2)
          intro b hb
          obtain ⟨i, hi⟩ := List.getElem?_of_mem hb
          obtain ⟨z, hz, hiz⟩ := h2.get (i := i) (k := encP b) (by rw [List.getElem?_map, hi]; rfl)
          have := hs.1 z (List.mem_of_getElem? hz)
          simp only [ltP, pairOf_is h1, pairOf_is hiz] at this
          rcases plt_tri a b with e | e | e
          · subst e; exact absurd hb nd.1
          · exact e
          · rw [show SrtO.lexB b a = true from e] at this; cases this
      exact sub q2 hs (q1.nodup_iff.mpr nd)
    rw [← e]
    exact q2.same (same_new nq)
end K76
namespace K76
open PySem PySem.Spec PyProof.Rows L2
/-! ### rules within a comprehension: the written part by its name -/
section
variable {X : Cx} {K : PySem.W.Frag}
theorem ix_tupK (h : X.K = K) : IxR X (rIxT K) := by subst h; exact ix_tup
theorem ix_listK (h : X.K = K) : IxR X (rIxL K) := by subst h; exact ix_list
theorem op_in_seqK (h : X.K = K) : OpR X (compareOp .In) (rIn K false) := by subst h; exact op_in_seq
theorem pe_fldK {e : Expr} {te : TE} {f : Str} {pos : Pos} (h : X.K = K) (he : PE X e te) (hb : attributeBase e f X.env (eval e X.env) = eval e X.env) : PE X (.Attribute e f pos) (tFld K te f) := by subst h; exact pe_fld he hb
theorem pg_tupK {pos : Pos} {es : List Expr} {k : Nat} {t : TGs} {n : Nat} (h : X.K = K) (hc : X.calm = true) (hg : PGs X es t)
    (h1 : (assignEach es X.env).length = n) (h2 : List.findIdx? (fun (x : Bool × (Value → Sem Unit)) => x.fst) (assignEach es X.env) = none := by rfl) : PG X (.Tuple es k pos) (gTup K n t) := by subst h; exact pg_tup hc hg h1 h2
theorem call_tuple_ofK (h : X.K = K) : CallR X (.type "tuple") fun xs H Q => ∃ p ys, xs = [V.ref p] ∧ ((SqL K H p ys ∧ ∀ (l : Addr), H l = none → Q (V.ref l) (upd H l (HO.tup ys))) ∨ SqT K H p ys ∧ Q (V.ref p) H) := by subst h; exact call_tuple_of
theorem pe_ngetK {P : Program} {w : World} {o i : Expr} {pos : Pos} {td ty : TE} (hP : X.prog = P) (hw : X.w = w) (hu : X.A.units + 64 < cLine) (ho : PE X o td) (hi : PE X i ty) (hs : NoSl i) : PE X (.Subscript o i pos) (tNGet P w td ty) := by subst hP hw; exact pe_nget hu ho hi hs
end
end K76
set_option Elab.async false
set_option linter.all false
set_option maxRecDepth 100000
set_option maxHeartbeats 4000000
namespace K76
open PySem PySem.Spec PyProof.Rows L2
/-! ### words_of -/
def outs : List G → List Tag
  | [] => []
  | [r] => words r
  | r :: s :: t => words r ++ END :: outs (s :: t)
theorem outs_cons (r : G) : ∀ (t : List G), outs (r :: t) = words r ++ (match t with | [] => [] | _ => END :: outs t)
  | [] => by simp [outs]
  | s :: t => rfl
theorem outs_step (t : Tag) (w o : G) (st : List G) : outs (.cons t w o :: st) = t :: outs (w :: o :: st) := by
  cases st with
  | nil => simp [outs, words]
  | cons s st => simp [outs, words]
def tot : List G → Nat
  | [] => 0
  | r :: t => 2 * r.size + 1 + tot t
theorem outs_len : ∀ st : List G, (outs st).length ≤ tot st
  | [] => Nat.le_refl _
  | [r] => by simp only [outs, tot, words_len]; omega
  | r :: s :: t => by
    have := outs_len (s :: t)
    simp only [outs, tot, List.length_append, List.length_cons, words_len] at this ⊢
    omega
theorem tot_len : ∀ st : List G, st.length ≤ tot st
  | [] => Nat.le_refl _
  | r :: t => by have := tot_len t; simp only [tot, List.length_cons]; omega
def spWords : Sp := fun vs H Q _ => ∃ (v : V) (g : G), vs = [v] ∧ Is H (gr g) v ∧ g.size ≤ 1000 ∧
  ∀ H' p, Same H H' → H p = none → H' p = some (.lst ((words g).map V.str)) → Q (.ref p) H'
/-- an entry of the pile: a grove's row and how far -/
def Entry (H : Hp) (v : V) (r : G) : Prop := ∃ a p xs n pre, v = .ref a ∧ H a = some (.tup [.ref p, .int ((n : Nat) : Int)]) ∧ H p = some (.tup xs) ∧ IsAll H (pre ++ encG r) xs ∧ pre.length = n
theorem Entry.same {H H' : Hp} (s : Same H H') {v : V} {r : G} (h : Entry H v r) : Entry H' v r := by
  obtain ⟨a, p, xs, n, pre, e, h1, h2, h3, h4⟩ := h
  exact ⟨a, p, xs, n, pre, e, s _ _ h1, s _ _ h2, h3.same s, h4⟩
def Entries (H : Hp) : List V → List G → Prop
  | [], [] => True
  | v :: vs, r :: rs => Entry H v r ∧ Entries H vs rs
  | _, _ => False
theorem Entry.mono {H H' : Hp} (s : Tp H H') {v : V} {r : G} (h : Entry H v r) : Entry H' v r := by
  obtain ⟨a, p, xs, n, pre, e, h1, h2, h3, h4⟩ := h
  exact ⟨a, p, xs, n, pre, e, s _ _ h1, s _ _ h2, h3.mono s, h4⟩
theorem Entries.mono {H H' : Hp} (s : Tp H H') : ∀ {vs : List V} {rs : List G}, Entries H vs rs → Entries H' vs rs
  | [], [], _ => trivial
  | v :: vs, r :: rs, h => ⟨h.1.mono s, Entries.mono s h.2⟩
  | [], _ :: _, h => h.elim
  | _ :: _, [], h => h.elim
theorem Entries.len {H : Hp} : ∀ {vs : List V} {rs : List G}, Entries H vs rs → vs.length = rs.length
  | [], [], _ => rfl
  | v :: vs, r :: rs, h => by simp [Entries.len h.2]
  | [], _ :: _, h => h.elim
  | _ :: _, [], h => h.elim
theorem Entries.nil {H : Hp} {es : List V} (h : Entries H es.reverse []) : es = [] := by
  have := h.len
  simpa using this
theorem IsAll.cut {H : Hp} {pre ks : List D} {k : D} {ys : List V} (h : IsAll H (pre ++ k :: ks) ys) : ∃ zs x rest, ys = zs ++ x :: rest ∧ IsAll H pre zs ∧ Is H k x ∧ IsAll H ks rest := by
  obtain ⟨zs, r, e, h1, x, rest, e2, h2, h3⟩ := h.split
  subst e2
  exact ⟨zs, x, rest, e, h1, h2, h3⟩
abbrev st_words_of : Stmt := top 6
theorem sc_words_of : FnScope ["grove", "words", "pile", "row", "at"] ["grove"] (defScope st_words_of) := ⟨rfl, rfl, rfl, by decide +kernel, rfl, by decide +kernel, by decide +kernel⟩
section
variable {P : Program} {w : World} {K : PySem.W.Frag} {mg : Str → Option Value} {base : Heap}
theorem ok_words {f : Addr} {fd : FuncData} (F : Fun K "words_of" "words_of" st_words_of f fd) (B : Gb mg) : FnOk P w K mg base CX0 1 f fd ["grove"] spWords := by
  refine F.ok sc_words_of (fun vs H Q E h => ?_) (fun cdv A outer s H vs Q E hr h => ?_)
  · obtain ⟨v, g, rfl, _⟩ := h
    rfl
  · obtain ⟨v, g, rfl, hg, hs, k⟩ := h
    refine ⟨_, (pss_cons (ps_set (i := 1) sc_words_of.nd rfl (Or.inl rfl) (pe_lst pa_nil))
      (pss_cons (ps_set (i := 2) sc_words_of.nd rfl (Or.inl rfl) (pe_lst (pa_cons (pe_tup (pa_cons (pv 0) (pa_cons pe_int pa_nil))) pa_nil)))
      (pss_cons (ps_while PassesOwn.never (pt_cmpR op_gt (pe_callB call_len_seq (by rfl) B.len PySem.boot_len (pa_cons (pv 2) pa_nil)) pe_int (nomark _)) (pss_cons (ps_asg (pe_bm0 PySem.F.plainAttrs_list PySem.F.slot_list_pop PySem.F.type_list_pop mt_pop (pv 2)) (pg_tup rfl (pgs_cons (pg_name (i := 3) sc_words_of.nd rfl (Or.inl rfl)) (pgs_cons (pg_name (i := 4) sc_words_of.nd rfl (Or.inl rfl)) pgs_nil))))
      (pss_one (ps_if (pt_cmpR op_lt (pv 4) (pe_callB call_len_seq (by rfl) B.len PySem.boot_len (pa_cons (pv 3) pa_nil)) (nomark _)) (pss_cons (ps_expr (pe_bm PySem.F.plainAttrs_list PySem.F.slot_list_append PySem.F.type_list_append mt_append (pv 2) (pa_cons (pe_tup (pa_cons (pv 3) (pa_cons (pe_op op_add (pv 4) pe_int) pa_nil))) pa_nil)))
      (pss_cons (ps_expr (pe_bm PySem.F.plainAttrs_list PySem.F.slot_list_append PySem.F.type_list_append mt_append (pv 1) (pa_cons (pe_ix ix_tup (pe_ix ix_tup (pv 3) (pv 4) (fun _ _ => rfl)) pe_int (fun _ _ => rfl)) pa_nil)))
      (pss_one (ps_expr (pe_bm PySem.F.plainAttrs_list PySem.F.slot_list_append PySem.F.type_list_append mt_append (pv 2) (pa_cons (pe_tup (pa_cons (pe_ix ix_tup (pe_ix ix_tup (pv 3) (pv 4) (fun _ _ => rfl)) pe_int (fun _ _ => rfl)) (pa_cons pe_int pa_nil))) pa_nil)))))) (pss_one (ps_if (pt_cmpR op_gt (pe_callB call_len_seq (by rfl) B.len PySem.boot_len (pa_cons (pv 2) pa_nil)) pe_int (nomark _)) (pss_one (ps_expr (pe_bm PySem.F.plainAttrs_list PySem.F.slot_list_append PySem.F.type_list_append mt_append (pv 1) (pa_cons (pe_glob (v := .str END) rfl B.END.choose_spec ⟨_, rfl⟩) pa_nil)))) pss_nil))))))
      (pss_one (ps_ret (pv 1)))))), ?_⟩
    obtain ⟨pg, xs, rfl, hpg, hxs⟩ := is_tup hg
    refine ⟨(by decide), fun p0 n0 => ?_⟩
    refine ⟨_, rfl, (by show 2 ≤ sizeLine; decide), fun p1 n1 => ⟨(by show 1 ≤ sizeLine; decide), fun p2 n2 => ?_⟩⟩
    have s0 : L2.Same H (upd H p0 (.lst [])) := same_new n0
    have s1 : L2.Same (upd H p0 (.lst [])) (upd (upd H p0 (.lst [])) p1 (.tup [.ref pg, .int 0])) := same_new n1
    have s2 := same_new (o := .lst [V.ref p1]) n2
    have sH := strans s0 (strans s1 s2)
    have n2' : H p2 = none := s0.free (s1.free n2)
    have h20 : p0 ≠ p2 := ne_of_none (s1 _ _ upd_same) n2
    have e0 : Entry (upd (upd (upd H p0 (.lst [])) p1 (.tup [.ref pg, .int 0])) p2 (.lst [.ref p1])) (.ref p1) g :=
      ⟨p1, pg, xs, 0, [], rfl, s2 _ _ upd_same, sH _ _ hpg, hxs.same sH, rfl⟩
    refine ⟨fun m σ H1 => ∃ acc es st v3 v4, σ = [some (.ref pg), some (.ref p0), some (.ref p2), v3, v4] ∧ L2.Same H H1 ∧ H1 p0 = some (.lst (acc.map V.str)) ∧ H1 p2 = some (.lst es) ∧ Entries H1 es.reverse st ∧
      acc ++ outs st = words g ∧ m = tot st ∧ tot st ≤ 2001, ⟨_, [], [.ref p1], [g], none, none, rfl, sH, s2 _ _ (s1 _ _ upd_same), upd_same, ⟨e0, trivial⟩, by simp [outs], rfl, by simp only [tot]; omega⟩, ?_⟩
    rintro m σ H1 ⟨acc, es, st, v3, v4, rfl, s3, a0, a2, hE, hw, rfl, ht⟩
    refine ⟨_, rfl, p2, es, rfl, .inl (SqL.of a2), _, _, rfl, rfl, _, rfl, ?_⟩
    refine ite2 (fun hc => ?_) (fun hc => ?_)
    · refine ⟨_, fun _ _ h => h, ?_⟩
      obtain ⟨es', v, rfl⟩ : ∃ es' v, es = es' ++ [v] := by
        rcases List.eq_nil_or_concat es with e | ⟨a, b, e⟩
        · subst e; simp at hc
        · exact ⟨a, b, by simpa using e⟩
      replace hE : Entries H1 (v :: es'.reverse) st := by rw [List.reverse_append] at hE; exact hE
      cases st with
      | nil => exact hE.elim
      | cons r st =>
        obtain ⟨⟨a, p, ys, n, pre, rfl, ha, hp, hys, hn⟩, hE⟩ := hE
        have q2 : p2 ≠ a := ne_of a2 ha (by intro z; cases z)
        have q3 : p0 ≠ a := ne_of a0 ha (by intro z; cases z)
        refine ⟨_, rfl, .inl ⟨rfl, _, SqL.of a2⟩, p2, _, .ref a, rfl, rfl, a2, by simp, ?_⟩
        rw [List.dropLast_concat]
        have t1 : Tp H1 (upd H1 p2 (.lst es')) := Tp.mut a2 (by intro xs z; cases z)
        refine ⟨a, _, rfl, SqT.of (t1 _ _ ha), rfl, _, _, rfl, _, _, rfl, rfl, ?_⟩
        refine ⟨_, rfl, _, rfl, p, ys, rfl, .inr (SqT.of (t1 _ _ hp)), _, _, rfl, rfl, _, rfl, ?_⟩
        have hlen := hys.length
        rw [List.length_append] at hlen
        cases r with
        | nil =>
          refine ite2 (fun hc => ?_) (fun hc => ?_)
          · have := of_decide_eq_true hc
            simp [encG] at hlen
            omega
          · -- elif len(pile) > 0
            refine ⟨_, rfl, p2, es', rfl, .inl (SqL.of upd_same), _, _, rfl, rfl, _, rfl, ?_⟩
            have hE' : Entries (upd H1 p2 (.lst es')) es'.reverse st := hE.mono t1
            have s4 : L2.Same H (upd H1 p2 (.lst es')) := smut s3 n2'
            refine ite2 (fun hc => ?_) (fun hc => ?_)
            · refine ⟨_, rfl, .inl ⟨rfl, _, SqL.of (by rw [upd_ne h20]; exact a0)⟩, p0, _, _, rfl, rfl, (by rw [upd_ne h20]; exact a0), ?_, ?_⟩
              · have := congrArg List.length hw
                rw [List.length_append, words_len] at this
                rw [List.length_map]
                exact szL (by omega)
              · cases st with
                | nil =>
                  have := of_decide_eq_true hc
                  have := hE'.nil
                  subst this
                  simp at hc
                | cons r st =>
                  refine ⟨tot (r :: st), by simp only [tot, G.size]; omega, acc ++ [END], es', r :: st, _, _, rfl, smut s4 n0, by rw [upd_same]; simp, by rw [upd_ne h20.symm, upd_same], hE'.mono (Tp.mut (by rw [upd_ne h20]; exact a0) (by intro xs z; cases z)), ?_, ?_, ?_⟩
                  · rw [← hw]; simp [outs, words]
                  · rfl
                  · simp only [tot, G.size] at ht ⊢; omega
            · refine ⟨tot st, ?_, acc, es', st, _, _, rfl, s4, by rw [upd_ne h20]; exact a0, upd_same, hE', ?_, rfl, ?_⟩
              · simp only [tot, G.size]; omega
              · cases st with
                | nil => rw [← hw]; simp [outs, words]
                | cons r st =>
                  refine absurd (decide_eq_true ?_) hc
                  have := hE'.len
                  simp at this
                  omega
              · simp only [tot, G.size] at ht ⊢; omega
        | cons t u o =>
          refine ite2 (fun hc => ?_) (fun hc => ?_)
          · obtain ⟨zs, x, rest, rfl, hz, hx, hrest⟩ := hys.cut
            obtain ⟨px, x1, x2, rfl, hpx, hx1, hx2⟩ := is_two hx
            cases hx1
            obtain ⟨pu, us, rfl, hpu, hus⟩ := is_tup hx2
            have zl : zs.length = n := by rw [hz.length, hn]
            have gat : atI (zs ++ .ref px :: rest) ((n : Nat) : Int) = some (.ref px) := atI_nat (by rw [← zl]; simp)
            refine ⟨_, rfl, .inl ⟨rfl, _, SqL.of upd_same⟩, _, rfl, _, rfl, _, _, rfl, rfl, (by show 2 ≤ sizeLine; decide), fun p3 n3 => ?_⟩
            have t2 : Tp H1 (upd (upd H1 p2 (.lst es')) p3 (.tup [.ref p, .int ((n : Int) + 1)])) := t1.trans (Tp.new n3)
            have sl : es'.length + 10 ≤ 2011 := by
              have h9 := hE.len
              have := tot_len st
              rw [List.length_reverse] at h9
              simp only [tot] at ht
              omega
            refine ⟨p2, _, _, rfl, rfl, get_new upd_same n3, szL (by omega), ?_⟩
            have h23 : p3 ≠ p2 := (ne_of_none upd_same n3).symm
            have h03 : p3 ≠ p0 := (ne_of_none (by rw [upd_ne h20]; exact a0) n3).symm
            have a0' : upd (upd (upd H1 p2 (.lst es')) p3 (.tup [.ref p, .int ((n : Int) + 1)])) p2 (.lst (es' ++ [.ref p3])) p0 = some (.lst (acc.map V.str)) := by
              rw [upd_ne h20, upd_ne h03.symm, upd_ne h20]; exact a0
            have t3 : Tp H1 (upd (upd (upd H1 p2 (.lst es')) p3 (.tup [.ref p, .int ((n : Int) + 1)])) p2 (.lst (es' ++ [.ref p3]))) := t2.trans (Tp.mut (get_new upd_same n3) (by intro xs z; cases z))
            refine ⟨_, rfl, .inl ⟨rfl, _, SqL.of a0'⟩, _, rfl, _, rfl, p, _, _, _, rfl, rfl, SqT.of (t3 _ _ hp), gat, px, _, 0, .str t, rfl, rfl, SqT.of (t3 _ _ hpx), rfl, p0, _, _, rfl, rfl, a0', ?_, ?_⟩
            · have := congrArg List.length hw
              rw [List.length_append, words_len] at this
              rw [List.length_map]
              exact szL (by omega)
            have t4 : Tp H1 (upd (upd (upd (upd H1 p2 (.lst es')) p3 (.tup [.ref p, .int ((n : Int) + 1)])) p2 (.lst (es' ++ [.ref p3]))) p0 (.lst (acc.map V.str ++ [.str t]))) := t3.trans (Tp.mut a0' (by intro xs z; cases z))
            refine ⟨_, rfl, .inl ⟨rfl, _, SqL.of (by rw [upd_ne h20.symm, upd_same])⟩, _, rfl, _, rfl, p, _, _, _, rfl, rfl, SqT.of (t4 _ _ hp), gat, px, _, 1, .ref pu, rfl, rfl, SqT.of (t4 _ _ hpx), rfl, (by show 2 ≤ sizeLine; decide), fun p4 n4 => ?_⟩
            have e2 : upd (upd (upd (upd H1 p2 (.lst es')) p3 (.tup [.ref p, .int ((n : Int) + 1)])) p2 (.lst (es' ++ [.ref p3]))) p0 (.lst (acc.map V.str ++ [.str t])) p2 = some (.lst (es' ++ [.ref p3])) := by rw [upd_ne h20.symm, upd_same]
            refine ⟨p2, _, _, rfl, rfl, get_new e2 n4, ?_, ?_⟩
            · rw [List.length_append]; exact szL (by simp; omega)
            have t5 := (t4.trans (Tp.new (o := .tup [.ref pu, .int 0]) n4)).trans (Tp.mut (p := p2) (o := .lst (es' ++ [.ref p3] ++ [.ref p4])) (get_new e2 n4) (by intro xs z; cases z))
            have g3 := n4
            obtain ⟨g40, g3⟩ := upd_none g3
            obtain ⟨g42, g3⟩ := upd_none g3
            obtain ⟨g43, g3⟩ := upd_none g3
            obtain ⟨_, g3⟩ := upd_none g3
            obtain ⟨_, g4⟩ := upd_none n3
            have f3 : H p3 = none := s3.free g4
            have f4 : H p4 = none := s3.free g3
            have sF : L2.Same H _ := smut (o := .lst (es' ++ [.ref p3] ++ [.ref p4])) (smut (o := .tup [.ref pu, .int 0]) (smut (o := .lst (acc.map V.str ++ [.str t])) (smut (o := .lst (es' ++ [.ref p3])) (smut (o := .tup [.ref p, .int ((n : Int) + 1)]) (smut (o := .lst es') s3 n2') f3) n2') n0) f4) n2'
            refine ⟨tot (u :: o :: st), ?_, acc ++ [t], es' ++ [.ref p3] ++ [.ref p4], u :: o :: st, _, _, rfl, sF, ?_, upd_same, ?_, ?_, rfl, ?_⟩
            · simp only [tot, G.size]; omega
            · rw [upd_ne h20, upd_ne g40.symm, upd_same]; simp
            · rw [List.reverse_append, List.reverse_append]
              refine ⟨⟨p4, pu, us, 0, [], rfl, ?_, t5 _ _ hpu, hus.mono t5, rfl⟩, ⟨p3, p, _, n + 1, pre ++ [.tup [.text t, .tup (encG u)]], rfl, ?_, t5 _ _ hp, ?_, by simp [hn]⟩, hE.mono t5⟩
              · rw [upd_ne g42, upd_same]; rfl
              · rw [upd_ne h23, upd_ne g43.symm, upd_ne h03, upd_ne h23, upd_same]
                rfl
              · rw [show pre ++ [NestedKey.tup [.text t, .tup (encG u)]] ++ encG o = pre ++ encG (.cons t u o) by simp [encG]]; exact hys.mono t5
            · rw [← hw, outs_step]; simp
            · simp only [tot, G.size] at ht ⊢; omega
          · refine absurd (decide_eq_true ?_) hc
            simp [encG] at hlen
            omega
    · have e : es = [] := by
        cases es with
        | nil => rfl
        | cons a b => exact absurd (decide_eq_true (by simp)) hc
      subst e
      have z : st = [] := by
        have := hE.len
        cases st with
        | nil => rfl
        | cons a b => simp at this
      subst z
      refine ⟨_, rfl, ?_⟩
      simp [outs] at hw
      subst hw
      exact k _ _ s3 n0 a0
end
end K76
set_option Elab.async false
set_option linter.all false
set_option maxRecDepth 100000
set_option maxHeartbeats 4000000
namespace K76
open PySem PySem.Spec PyProof.Rows L2
/-! ### in_turn -/
def secs (a : Int) (ps : Pr) : List Int := (ps.filter fun q => q.1 == a).map (·.2)
theorem secs_snoc (a : Int) (ps : Pr) (q : Int × Int) : secs a (ps ++ [q]) = secs a ps ++ (if q.1 = a then [q.2] else []) := by
  unfold secs
  rw [List.filter_append, List.map_append]
  by_cases z : q.1 = a <;> simp [z]
theorem mem_secs {a c : Int} {ps : Pr} : c ∈ secs a ps ↔ (a, c) ∈ ps := by
  unfold secs
  simp only [List.mem_map, List.mem_filter]
  constructor
  · rintro ⟨q, ⟨h1, h2⟩, rfl⟩
    have : q.1 = a := by simpa using h2
    rw [← this]; exact h1
  · intro h
    exact ⟨_, ⟨h, by simp⟩, rfl⟩
theorem secs_len (a : Int) (ps : Pr) : (secs a ps).length ≤ ps.length := by
  unfold secs
  rw [List.length_map]
  exact List.length_filter_le _ _
theorem take_snoc {α : Type} {l : List α} {i : Nat} {x : α} (h : l[i]? = some x) : l.take (i + 1) = l.take i ++ [x] := by
  rw [List.take_add_one, h]; rfl
theorem canon_congr {l m : Pr} (h : ∀ x, x ∈ l ↔ x ∈ m) : canon l = canon m := canon_eq (sr_canon l) fun x => by rw [mem_canon]; exact h x
/-- a list or a tuple of xs at a -/
def Sq (K : PySem.W.Frag) (H : Hp) (v : V) (xs : List V) : Prop := ∃ a, v = .ref a ∧ (H a = some (.lst xs) ∨ H a = some (.tup xs))
def spTurn : Sp := fun vs H Q _ => ∃ (a : Addr) (v : V) (xs ys : List V) (one other : Pr) (n : Nat), vs = [.ref a, v] ∧ H a = some (.lst xs) ∧ IsAll H (one.map encP) xs ∧
  (∃ b, v = .ref b ∧ (H b = some (.lst ys) ∨ H b = some (.tup ys))) ∧ IsAll H (other.map encP) ys ∧ InSq n one ∧ InSq n other ∧ n ≤ 10 ∧ other.length ≤ 1000 ∧
  ∀ H' p, L2.Same H H' → H p = none → (∃ zs, H' p = some (.lst zs) ∧ IsAll H' ((turn one other).map encP) zs) → Q (.ref p) H'
/-- the dict behind -/
structure Bh (H0 H1 : Hp) (d : Addr) (ps : Pr) (n : Nat) : Prop where
  ex : ∃ kvs, H1 d = some (.dK kvs) ∧ kvs.length ≤ n ∧
    (∀ a : Int, (valV kvs (Sum.inl a : Key) = none ∧ secs a ps = []) ∨ ∃ l, valV kvs (Sum.inl a : Key) = some (.ref l) ∧ H1 l = some (.lst ((secs a ps).map V.int)) ∧ H0 l = none) ∧
    (∀ (a b : Int) l, valV kvs (Sum.inl a : Key) = some (.ref l) → valV kvs (Sum.inl b : Key) = some (.ref l) → a = b)
theorem bh_step {H0 H1 : Hp} {d : Addr} {ps : Pr} {n : Nat} {q : Int × Int} {p : Addr} (h : Bh H0 H1 d ps n) (s : L2.Same H0 H1) (hd : H0 d = none) (hp : H1 p = none) (hn : n ≤ 2000) (hl : ps.length ≤ 2000) {K : PySem.W.Frag} {Q : Hp → Prop}
    (k : ∀ H2, L2.Same H0 H2 → Bh H0 H2 d (ps ++ [q]) (n + 1) → Q H2) :
    ∃ (kvs : List (Key × V)) (k : Key), upd H1 p (.lst []) d = some (.dK kvs) ∧ V.int q.1 = kV k ∧ kvs.length < sizeLine ∧
      (∀ v, valV kvs k = some v → tyV K "list" v (upd H1 p (.lst [])) ∧ ∃ w, some (some (V.int q.2)) = some (some w) ∧ rAppend v [w] (upd H1 p (.lst [])) fun _ H2 => Q H2) ∧
      (valV kvs k = none → tyV K "list" (.ref p) (upd (upd H1 p (.lst [])) d (.dK (putK kvs k (.ref p)))) ∧ ∃ w, some (some (V.int q.2)) = some (some w) ∧ rAppend (.ref p) [w] (upd (upd H1 p (.lst [])) d (.dK (putK kvs k (.ref p)))) fun _ H2 => Q H2) := by
  obtain ⟨kvs, h1, h2, h3, h4⟩ := h.ex
  have np : H0 p = none := s.free hp
  refine ⟨kvs, Sum.inl q.1, get_new h1 hp, rfl, szL (by omega), fun v hv => ?_, fun hv => ?_⟩
  · rcases h3 q.1 with ⟨e, _⟩ | ⟨l, e, hl1, hl0⟩
    · rw [hv] at e; cases e
    · rw [hv] at e; cases e
      have hl2 := get_new (o := .lst []) hl1 hp
      refine ⟨.inl ⟨rfl, _, SqL.of hl2⟩, _, rfl, l, _, _, rfl, rfl, hl2, ?_, ?_⟩
      · rw [List.length_map]
        exact szL (Nat.le_trans (secs_len _ _) (by omega))
      · refine k _ (smut (snew s hp) hl0) ⟨kvs, ?_, by omega, fun a => ?_, h4⟩
        · rw [upd_ne (ne_of h1 hl1 (by intro z; cases z)), get_new h1 hp]
        · by_cases z : q.1 = a
          · subst z
            refine .inr ⟨l, hv, ?_, hl0⟩
            rw [upd_same, secs_snoc, if_pos rfl]; simp
          · rcases h3 a with ⟨e, e2⟩ | ⟨l', e, hl1', hl0'⟩
            · refine .inl ⟨e, ?_⟩
              rw [secs_snoc, if_neg z, e2]; rfl
            · refine .inr ⟨l', e, ?_, hl0'⟩
              rw [upd_ne (fun y => z (h4 _ _ l hv (by rw [e, y]))), get_new hl1' hp, secs_snoc, if_neg z]; simp
  · have pd : p ≠ d := (ne_of_none h1 hp).symm
    have e2 : secs q.1 ps = [] := by
      rcases h3 q.1 with ⟨_, e⟩ | ⟨l, e, _⟩
      · exact e
      · rw [hv] at e; cases e
    have hp2 : upd (upd H1 p (.lst [])) d (.dK (putK kvs (Sum.inl q.1) (.ref p))) p = some (.lst []) := by rw [upd_ne pd, upd_same]
    refine ⟨.inl ⟨rfl, _, SqL.of hp2⟩, _, rfl, p, _, _, rfl, rfl, hp2, szL (by simp), ?_⟩
    refine k _ (smut (smut (snew s hp) hd) np) ⟨putK kvs (Sum.inl q.1) (.ref p), ?_, ?_, fun a => ?_, fun a b l ha hb => ?_⟩
    · rw [upd_ne pd.symm, upd_same]
    · rw [putK_new _ hv]; simp; omega
    · rw [valV_put]
      by_cases z : q.1 = a
      · subst z
        rw [if_pos rfl]
        refine .inr ⟨p, rfl, ?_, np⟩
        rw [upd_same, secs_snoc, if_pos rfl, e2]; rfl
      · rw [if_neg (by intro y; injection y with y; exact z y.symm)]
        rcases h3 a with ⟨e, e2⟩ | ⟨l', e, hl1', hl0'⟩
        · refine .inl ⟨e, ?_⟩
          rw [secs_snoc, if_neg z, e2]; rfl
        · refine .inr ⟨l', e, ?_, hl0'⟩
          rw [upd_ne (ne_of_none hl1' hp), upd_ne (ne_of hl1' h1 (by intro z; cases z)), get_new hl1' hp, secs_snoc, if_neg z]; simp
    · rw [valV_put] at ha hb
      have old : ∀ c, valV kvs (Sum.inl c : Key) = some (.ref p) → False := fun c e => by
        rcases h3 c with ⟨e', _⟩ | ⟨l', e', hl1', _⟩
        · rw [e] at e'; cases e'
        · rw [e] at e'; cases e'; rw [hp] at hl1'; cases hl1'
      by_cases z : (Sum.inl a : Key) = Sum.inl q.1
      · by_cases y : (Sum.inl b : Key) = Sum.inl q.1
        · injection z with z; injection y with y; rw [z, y]
        · rw [if_pos z] at ha; rw [if_neg y] at hb
          cases ha
          exact (old _ hb).elim
      · rw [if_neg z] at ha
        by_cases y : (Sum.inl b : Key) = Sum.inl q.1
        · rw [if_pos y] at hb
          cases hb
          exact (old _ ha).elim
        · rw [if_neg y] at hb
          exact h4 _ _ _ ha hb
abbrev st_in_turn : Stmt := top 13
theorem sc_in_turn : FnScope ["one", "other", "behind", "first", "second", "found", "last"] ["one", "other"] (defScope st_in_turn) := ⟨rfl, rfl, rfl, by decide +kernel, rfl, by decide +kernel, by decide +kernel⟩
section
variable {P : Program} {w : World} {K : PySem.W.Frag} {mg : Str → Option Value} {base : Heap}
theorem ok_turn {f : Addr} {fd : FuncData} (F : Fun K "in_turn" "in_turn" st_in_turn f fd) (B : Gb mg) : FnOk P w K mg base CX0 1 f fd ["one", "other"] spTurn := by
  refine F.ok sc_in_turn (fun vs H Q E h => ?_) (fun cdv A outer s H vs Q E hr h => ?_)
  · obtain ⟨_, _, _, _, _, _, _, rfl, _⟩ := h
    rfl
  · obtain ⟨a, v, xs, ys, one, other, n, rfl, ha, hxs, ⟨b, rfl, hb⟩, hys, hsq, hso, hn, hol, k⟩ := h
    have hu1 := hu_of hr
    rcases hb with hb | hb
    · skip
      refine ⟨_, (pss_cons (ps_set (i := 2) sc_in_turn.nd rfl (Or.inl rfl) pe_dnewK)
      (pss_cons (ps_for PassesOwn.never rfl (pi_list (pv 1)) (pg_tup rfl (pgs_cons (pg_name (i := 3) sc_in_turn.nd rfl (Or.inl rfl)) (pgs_cons (pg_name (i := 4) sc_in_turn.nd rfl (Or.inl rfl)) pgs_nil))) (pss_one (ps_expr (pe_bm PySem.F.plainAttrs_list PySem.F.slot_list_append PySem.F.type_list_append mt_append (pe_dsetd (pv 2) (pv 3) (pe_lst pa_nil) ⟨rfl, rfl, rfl, rfl⟩) (pa_cons (pv 4) pa_nil)))))
      (pss_cons (ps_set (i := 5) sc_in_turn.nd rfl (Or.inl rfl) pe_dnewT)
      (pss_cons (ps_for PassesOwn.never rfl (pi_list (pv 0)) (pg_tup rfl (pgs_cons (pg_name (i := 3) sc_in_turn.nd rfl (Or.inl rfl)) (pgs_cons (pg_name (i := 4) sc_in_turn.nd rfl (Or.inl rfl)) pgs_nil))) (pss_one (ps_for PassesOwn.never rfl (pi_list (pe_dget2 hu1 (pv 2) (pv 4) (pe_lst pa_nil) ⟨rfl, rfl, rfl, rfl⟩)) (pg_name (i := 6) sc_in_turn.nd rfl (Or.inl rfl)) (pss_one (ps_dput hu1 (pv 5) (pe_tup (pa_cons (pv 3) (pa_cons (pv 6) pa_nil))) pe_bl rfl)))))
      (pss_one (ps_ret (pe_callB cr_sortedPO (by rfl) B.sorted (by decide +kernel) (pa_cons (pe_callTy (call_list_dT rfl) (by rfl) B.list (by decide +kernel) (pa_cons (pv 5) pa_nil)) pa_nil)))))))), ?_⟩
      refine fun d nd => ?_
      have s0 : L2.Same H (upd H d (.dK [])) := same_new nd
      refine ⟨_, rfl, b, rfl, ⟨ys, SqL.of (s0 _ _ hb)⟩, for_list (a := b) (xs := ys) (fun i σ H1 => ∃ v3 v4, σ = [some (.ref a), some (.ref b), some (.ref d), v3, v4, none, none] ∧ L2.Same H H1 ∧ Bh H H1 d (other.take i) i)
        ⟨none, none, rfl, s0, ⟨[], upd_same, Nat.le_refl _, fun a => .inl ⟨rfl, rfl⟩, fun a b l h => by cases h⟩⟩ (fun i σ H1 _ ⟨_, _, _, s1, _⟩ => SqL.of (s1 _ _ hb)) ?_ ?_⟩
      · rintro i x σ H1 hi ⟨v3, v4, rfl, s1, hB⟩
        obtain ⟨q, hq, hx⟩ := hys.getm hi
        obtain ⟨p, rfl, hp⟩ := is_pair (hx.same s1)
        refine ⟨p, _, rfl, SqT.of hp, rfl, _, _, rfl, _, _, rfl, rfl, ?_⟩
        obtain ⟨kvs, h1, _⟩ := id hB.ex
        refine ⟨_, rfl, d, rfl, .inl ⟨kvs, .inl h1⟩, _, rfl, (Nat.zero_le _), fun p5 n5 => ?_⟩
        have hil : i < other.length := (List.getElem?_eq_some_iff.mp hq).1
        refine bh_step hB s1 nd n5 (by omega) (by rw [List.length_take]; omega) (fun H2 s2 hB2 => ?_)
        exact ⟨_, _, rfl, s2, by rw [take_snoc hq]; exact hB2⟩
      · rintro σ H1 ⟨v3, v4, rfl, s1, hB⟩
        have lo : ys.length = other.length := by rw [hys.length, List.length_map]
        rw [lo, List.take_length] at hB
        refine fun f nf => ?_
        have s2 : L2.Same H1 (upd H1 f (.dT [])) := same_new nf
        obtain ⟨kvs, hd, _, hB, _⟩ := hB.ex
        refine ⟨_, rfl, a, rfl, ⟨xs, SqL.of (s2 _ _ (s1 _ _ ha))⟩, for_list (a := a) (xs := xs) (fun i σ H2 => ∃ ps v3 v4 v6, σ = [some (.ref a), some (.ref b), some (.ref d), v3, v4, some (.ref f), v6] ∧ L2.Same H1 H2 ∧ PD kp H2 f ps ∧ ps.Nodup ∧ ∀ y, y ∈ ps ↔ y ∈ meets (one.take i) other)
          ⟨[], _, _, _, rfl, s2, ⟨[], upd_same, rfl⟩, .nil, fun y => by simp [meets]⟩ (fun i σ H2 _ ⟨_, _, _, _, _, s3, _⟩ => SqL.of (s3 _ _ (s1 _ _ ha))) ?_ ?_⟩
        · rintro i x σ H2 hi ⟨ps, v3, v4, v6, rfl, s3, hP, hnd, hm⟩
          obtain ⟨q, hq, hx⟩ := hxs.getm hi
          obtain ⟨p, rfl, hp⟩ := is_pair (hx.same (strans s1 s3))
          refine ⟨p, _, rfl, SqT.of hp, rfl, _, _, rfl, _, _, rfl, rfl, ?_⟩
          -- for last in behind.get(second, [])
          refine ⟨_, rfl, d, rfl, .inl ⟨kvs, .inl (s3 _ _ hd)⟩, _, rfl, (Nat.zero_le _), fun p5 n5 => ?_⟩
          refine ⟨valV kvs (Sum.inl q.2), DGet.k (k := Sum.inl q.2) (get_new (s3 _ _ hd) n5), ?_⟩
          have s4 : L2.Same H1 (upd H2 p5 (.lst [])) := snew s3 n5
          obtain ⟨l, el, hl⟩ : ∃ l, (valV kvs (Sum.inl q.2 : Key)).getD (.ref p5) = .ref l ∧ (l = p5 ∧ secs q.2 other = [] ∨ H1 l = some (.lst ((secs q.2 other).map V.int))) := by
            rcases hB q.2 with ⟨e1, e2⟩ | ⟨l, e1, e2, _⟩
            · rw [e1]; exact ⟨p5, rfl, .inl ⟨rfl, e2⟩⟩
            · rw [e1]; exact ⟨l, rfl, .inr e2⟩
          rw [el]
          have hl' : ∀ H3 : Hp, L2.Same H1 H3 → H3 p5 = some (.lst []) → H3 l = some (.lst ((secs q.2 other).map V.int)) := by
            intro H3 s5 h5
            rcases hl with ⟨rfl, e⟩ | h
            · rw [e]; exact h5
            · exact s5 _ _ h
          have hP4 : PD kp (upd H2 p5 (.lst [])) f ps := by
            obtain ⟨ks, e1, e2⟩ := hP
            exact ⟨ks, get_new e1 n5, e2⟩
          refine ⟨l, rfl, ⟨_, SqL.of (hl' _ s4 upd_same)⟩, for_list (a := l) (xs := (secs q.2 other).map V.int) (fun j σ H3 => ∃ ps v6, σ = [some (.ref a), some (.ref b), some (.ref d), some (.int q.1), some (.int q.2), some (.ref f), v6] ∧ L2.Same H1 H3 ∧ H3 p5 = some (.lst []) ∧ PD kp H3 f ps ∧ ps.Nodup ∧ ∀ y, y ∈ ps ↔ y ∈ meets (one.take i) other ∨ (y.1 = q.1 ∧ y.2 ∈ (secs q.2 other).take j))
            ⟨ps, _, rfl, s4, upd_same, hP4, hnd, fun y => by rw [hm]; simp⟩ (fun j σ H3 _ ⟨_, _, _, s5, h5, _⟩ => SqL.of (hl' _ s5 h5)) ?_ ?_⟩
          · rintro j y σ H3 hj ⟨ps, v6, rfl, s5, h5, hP, hnd, hm⟩
            rw [List.getElem?_map] at hj
            obtain ⟨c, hc, rfl⟩ := Option.map_eq_some_iff.mp hj
            have fr : H1 f = none := nf
            refine ⟨_, rfl, _, rfl, _, rfl, (by show 2 ≤ sizeLine; decide), fun t nt => ?_⟩
            have hin : ∀ y ∈ ps, (0 ≤ y.1 ∧ y.1 < n) ∧ 0 ≤ y.2 ∧ y.2 < n := by
              intro y hy
              have hqs := hsq _ (List.mem_of_getElem? hq)
              rcases (hm y).mp hy with h | ⟨h1, h2⟩
              · obtain ⟨b', hb1, hb2⟩ := mem_meets.mp (show (y.1, y.2) ∈ _ from h)
                exact ⟨(hsq _ (List.mem_of_mem_take hb1)).1, (hso _ hb2).2⟩
              · exact ⟨h1 ▸ hqs.1, (hso _ (mem_secs.mp (List.mem_of_mem_take h2))).2⟩
            have hlen := InSq.len hin hnd
            have hlen2 : n * n ≤ 10 * 10 := Nat.mul_le_mul hn hn
            have hP5 : PD kp (upd H3 t (.tup [.int q.1, .int c])) f ps := by
              obtain ⟨ks, e1, e2⟩ := hP
              exact ⟨ks, get_new e1 nt, e2⟩
            obtain ⟨H4, hput, hP6, o, u, e1, e2, rfl⟩ := hP5.put (x := (q.1, c)) (fun _ _ => kp_inj) upd_same rfl (.bl true) (by omega)
            refine ⟨f, _, rfl, hput, ?_⟩
            refine ⟨addP ps (q.1, c), _, rfl, smut (snew s5 nt) fr, ?_, hP6, nodup_addP hnd, fun y => ?_⟩
            · rw [upd_ne]
              · exact get_new h5 nt
              · exact ne_of (get_new h5 nt) e1 (by intro z; subst z; obtain ⟨ks, z1, _⟩ := hP5; rw [z1] at e1; cases e1)
            · rw [mem_addP, hm, take_snoc hc]
              simp only [List.mem_append, List.mem_singleton]
              constructor
              · rintro ((h | h) | rfl)
                · exact .inl h
                · exact .inr ⟨h.1, .inl h.2⟩
                · exact .inr ⟨rfl, .inr rfl⟩
              · rintro (h | ⟨h, h2 | h2⟩)
                · exact .inl (.inl h)
                · exact .inl (.inr ⟨h, h2⟩)
                · exact .inr (Prod.ext h h2)
          · rintro σ H3 ⟨ps, v6, rfl, s5, h5, hP, hnd, hm⟩
            refine ⟨ps, _, _, _, rfl, s5, hP, hnd, fun y => ?_⟩
            rw [hm, List.length_map, List.take_length, take_snoc hq, mem_secs]
            simp only [meets, List.flatMap_append, List.mem_append, List.flatMap_cons, List.flatMap_nil, List.append_nil, List.mem_map, List.mem_filter]
            constructor
            · rintro (h | ⟨h, h2⟩)
              · exact .inl h
              · exact .inr ⟨_, ⟨h2, by simp⟩, Prod.ext h.symm rfl⟩
            · rintro (h | ⟨z, ⟨h1, h2⟩, rfl⟩)
              · exact .inl h
              · refine .inr ⟨rfl, ?_⟩
                have : z.1 = q.2 := by simpa using h2
                rw [← this]; exact h1
        · rintro σ H2 ⟨ps, v3, v4, v6, rfl, s3, hP, hnd, hm⟩
          have lo : xs.length = one.length := by rw [hxs.length, List.length_map]
          rw [lo, List.take_length] at hm
          refine ⟨_, rfl, sorted_pairs hP hnd fun H' p s5 np h => ?_⟩
          refine k H' p (strans s1 (strans s3 s5)) (s1.free (s3.free np)) ?_
          have : canon ps = turn one other := canon_congr hm
          rw [← this]
          exact h
    · skip
      refine ⟨_, (pss_cons (ps_set (i := 2) sc_in_turn.nd rfl (Or.inl rfl) pe_dnewK)
      (pss_cons (ps_for PassesOwn.never rfl (pi_tup (pv 1)) (pg_tup rfl (pgs_cons (pg_name (i := 3) sc_in_turn.nd rfl (Or.inl rfl)) (pgs_cons (pg_name (i := 4) sc_in_turn.nd rfl (Or.inl rfl)) pgs_nil))) (pss_one (ps_expr (pe_bm PySem.F.plainAttrs_list PySem.F.slot_list_append PySem.F.type_list_append mt_append (pe_dsetd (pv 2) (pv 3) (pe_lst pa_nil) ⟨rfl, rfl, rfl, rfl⟩) (pa_cons (pv 4) pa_nil)))))
      (pss_cons (ps_set (i := 5) sc_in_turn.nd rfl (Or.inl rfl) pe_dnewT)
      (pss_cons (ps_for PassesOwn.never rfl (pi_list (pv 0)) (pg_tup rfl (pgs_cons (pg_name (i := 3) sc_in_turn.nd rfl (Or.inl rfl)) (pgs_cons (pg_name (i := 4) sc_in_turn.nd rfl (Or.inl rfl)) pgs_nil))) (pss_one (ps_for PassesOwn.never rfl (pi_list (pe_dget2 hu1 (pv 2) (pv 4) (pe_lst pa_nil) ⟨rfl, rfl, rfl, rfl⟩)) (pg_name (i := 6) sc_in_turn.nd rfl (Or.inl rfl)) (pss_one (ps_dput hu1 (pv 5) (pe_tup (pa_cons (pv 3) (pa_cons (pv 6) pa_nil))) pe_bl rfl)))))
      (pss_one (ps_ret (pe_callB cr_sortedPO (by rfl) B.sorted (by decide +kernel) (pa_cons (pe_callTy (call_list_dT rfl) (by rfl) B.list (by decide +kernel) (pa_cons (pv 5) pa_nil)) pa_nil)))))))), ?_⟩
      refine fun d nd => ?_
      have s0 : L2.Same H (upd H d (.dK [])) := same_new nd
      refine ⟨_, rfl, b, rfl, ⟨ys, SqT.of (s0 _ _ hb)⟩, for_tup (a := b) (xs := ys) (fun i σ H1 => ∃ v3 v4, σ = [some (.ref a), some (.ref b), some (.ref d), v3, v4, none, none] ∧ L2.Same H H1 ∧ Bh H H1 d (other.take i) i)
        ⟨none, none, rfl, s0, ⟨[], upd_same, Nat.le_refl _, fun a => .inl ⟨rfl, rfl⟩, fun a b l h => by cases h⟩⟩ (fun i σ H1 _ ⟨_, _, _, s1, _⟩ => SqT.of (s1 _ _ hb)) ?_ ?_⟩
      · rintro i x σ H1 hi ⟨v3, v4, rfl, s1, hB⟩
        obtain ⟨q, hq, hx⟩ := hys.getm hi
        obtain ⟨p, rfl, hp⟩ := is_pair (hx.same s1)
        refine ⟨p, _, rfl, SqT.of hp, rfl, _, _, rfl, _, _, rfl, rfl, ?_⟩
        obtain ⟨kvs, h1, _⟩ := id hB.ex
        refine ⟨_, rfl, d, rfl, .inl ⟨kvs, .inl h1⟩, _, rfl, (Nat.zero_le _), fun p5 n5 => ?_⟩
        have hil : i < other.length := (List.getElem?_eq_some_iff.mp hq).1
        refine bh_step hB s1 nd n5 (by omega) (by rw [List.length_take]; omega) (fun H2 s2 hB2 => ?_)
        exact ⟨_, _, rfl, s2, by rw [take_snoc hq]; exact hB2⟩
      · rintro σ H1 ⟨v3, v4, rfl, s1, hB⟩
        have lo : ys.length = other.length := by rw [hys.length, List.length_map]
        rw [lo, List.take_length] at hB
        refine fun f nf => ?_
        have s2 : L2.Same H1 (upd H1 f (.dT [])) := same_new nf
        obtain ⟨kvs, hd, _, hB, _⟩ := hB.ex
        refine ⟨_, rfl, a, rfl, ⟨xs, SqL.of (s2 _ _ (s1 _ _ ha))⟩, for_list (a := a) (xs := xs) (fun i σ H2 => ∃ ps v3 v4 v6, σ = [some (.ref a), some (.ref b), some (.ref d), v3, v4, some (.ref f), v6] ∧ L2.Same H1 H2 ∧ PD kp H2 f ps ∧ ps.Nodup ∧ ∀ y, y ∈ ps ↔ y ∈ meets (one.take i) other)
          ⟨[], _, _, _, rfl, s2, ⟨[], upd_same, rfl⟩, .nil, fun y => by simp [meets]⟩ (fun i σ H2 _ ⟨_, _, _, _, _, s3, _⟩ => SqL.of (s3 _ _ (s1 _ _ ha))) ?_ ?_⟩
        · rintro i x σ H2 hi ⟨ps, v3, v4, v6, rfl, s3, hP, hnd, hm⟩
          obtain ⟨q, hq, hx⟩ := hxs.getm hi
          obtain ⟨p, rfl, hp⟩ := is_pair (hx.same (strans s1 s3))
          refine ⟨p, _, rfl, SqT.of hp, rfl, _, _, rfl, _, _, rfl, rfl, ?_⟩
          -- for last in behind.get(second, [])
          refine ⟨_, rfl, d, rfl, .inl ⟨kvs, .inl (s3 _ _ hd)⟩, _, rfl, (Nat.zero_le _), fun p5 n5 => ?_⟩
          refine ⟨valV kvs (Sum.inl q.2), DGet.k (k := Sum.inl q.2) (get_new (s3 _ _ hd) n5), ?_⟩
          have s4 : L2.Same H1 (upd H2 p5 (.lst [])) := snew s3 n5
          obtain ⟨l, el, hl⟩ : ∃ l, (valV kvs (Sum.inl q.2 : Key)).getD (.ref p5) = .ref l ∧ (l = p5 ∧ secs q.2 other = [] ∨ H1 l = some (.lst ((secs q.2 other).map V.int))) := by
            rcases hB q.2 with ⟨e1, e2⟩ | ⟨l, e1, e2, _⟩
            · rw [e1]; exact ⟨p5, rfl, .inl ⟨rfl, e2⟩⟩
            · rw [e1]; exact ⟨l, rfl, .inr e2⟩
          rw [el]
          have hl' : ∀ H3 : Hp, L2.Same H1 H3 → H3 p5 = some (.lst []) → H3 l = some (.lst ((secs q.2 other).map V.int)) := by
            intro H3 s5 h5
            rcases hl with ⟨rfl, e⟩ | h
            · rw [e]; exact h5
            · exact s5 _ _ h
          have hP4 : PD kp (upd H2 p5 (.lst [])) f ps := by
            obtain ⟨ks, e1, e2⟩ := hP
            exact ⟨ks, get_new e1 n5, e2⟩
          refine ⟨l, rfl, ⟨_, SqL.of (hl' _ s4 upd_same)⟩, for_list (a := l) (xs := (secs q.2 other).map V.int) (fun j σ H3 => ∃ ps v6, σ = [some (.ref a), some (.ref b), some (.ref d), some (.int q.1), some (.int q.2), some (.ref f), v6] ∧ L2.Same H1 H3 ∧ H3 p5 = some (.lst []) ∧ PD kp H3 f ps ∧ ps.Nodup ∧ ∀ y, y ∈ ps ↔ y ∈ meets (one.take i) other ∨ (y.1 = q.1 ∧ y.2 ∈ (secs q.2 other).take j))
            ⟨ps, _, rfl, s4, upd_same, hP4, hnd, fun y => by rw [hm]; simp⟩ (fun j σ H3 _ ⟨_, _, _, s5, h5, _⟩ => SqL.of (hl' _ s5 h5)) ?_ ?_⟩
          · rintro j y σ H3 hj ⟨ps, v6, rfl, s5, h5, hP, hnd, hm⟩
            rw [List.getElem?_map] at hj
            obtain ⟨c, hc, rfl⟩ := Option.map_eq_some_iff.mp hj
            have fr : H1 f = none := nf
            refine ⟨_, rfl, _, rfl, _, rfl, (by show 2 ≤ sizeLine; decide), fun t nt => ?_⟩
            have hin : ∀ y ∈ ps, (0 ≤ y.1 ∧ y.1 < n) ∧ 0 ≤ y.2 ∧ y.2 < n := by
              intro y hy
              have hqs := hsq _ (List.mem_of_getElem? hq)
              rcases (hm y).mp hy with h | ⟨h1, h2⟩
              · obtain ⟨b', hb1, hb2⟩ := mem_meets.mp (show (y.1, y.2) ∈ _ from h)
                exact ⟨(hsq _ (List.mem_of_mem_take hb1)).1, (hso _ hb2).2⟩
              · exact ⟨h1 ▸ hqs.1, (hso _ (mem_secs.mp (List.mem_of_mem_take h2))).2⟩
            have hlen := InSq.len hin hnd
            have hlen2 : n * n ≤ 10 * 10 := Nat.mul_le_mul hn hn
            have hP5 : PD kp (upd H3 t (.tup [.int q.1, .int c])) f ps := by
              obtain ⟨ks, e1, e2⟩ := hP
              exact ⟨ks, get_new e1 nt, e2⟩
            obtain ⟨H4, hput, hP6, o, u, e1, e2, rfl⟩ := hP5.put (x := (q.1, c)) (fun _ _ => kp_inj) upd_same rfl (.bl true) (by omega)
            refine ⟨f, _, rfl, hput, ?_⟩
            refine ⟨addP ps (q.1, c), _, rfl, smut (snew s5 nt) fr, ?_, hP6, nodup_addP hnd, fun y => ?_⟩
            · rw [upd_ne]
              · exact get_new h5 nt
              · exact ne_of (get_new h5 nt) e1 (by intro z; subst z; obtain ⟨ks, z1, _⟩ := hP5; rw [z1] at e1; cases e1)
            · rw [mem_addP, hm, take_snoc hc]
              simp only [List.mem_append, List.mem_singleton]
              constructor
              · rintro ((h | h) | rfl)
                · exact .inl h
                · exact .inr ⟨h.1, .inl h.2⟩
                · exact .inr ⟨rfl, .inr rfl⟩
              · rintro (h | ⟨h, h2 | h2⟩)
                · exact .inl (.inl h)
                · exact .inl (.inr ⟨h, h2⟩)
                · exact .inr (Prod.ext h h2)
          · rintro σ H3 ⟨ps, v6, rfl, s5, h5, hP, hnd, hm⟩
            refine ⟨ps, _, _, _, rfl, s5, hP, hnd, fun y => ?_⟩
            rw [hm, List.length_map, List.take_length, take_snoc hq, mem_secs]
            simp only [meets, List.flatMap_append, List.mem_append, List.flatMap_cons, List.flatMap_nil, List.append_nil, List.mem_map, List.mem_filter]
            constructor
            · rintro (h | ⟨h, h2⟩)
              · exact .inl h
              · exact .inr ⟨_, ⟨h2, by simp⟩, Prod.ext h.symm rfl⟩
            · rintro (h | ⟨z, ⟨h1, h2⟩, rfl⟩)
              · exact .inl h
              · refine .inr ⟨rfl, ?_⟩
                have : z.1 = q.2 := by simpa using h2
                rw [← this]; exact h1
        · rintro σ H2 ⟨ps, v3, v4, v6, rfl, s3, hP, hnd, hm⟩
          have lo : xs.length = one.length := by rw [hxs.length, List.length_map]
          rw [lo, List.take_length] at hm
          refine ⟨_, rfl, sorted_pairs hP hnd fun H' p s5 np h => ?_⟩
          refine k H' p (strans s1 (strans s3 s5)) (s1.free (s3.free np)) ?_
          have : canon ps = turn one other := canon_congr hm
          rw [← this]
          exact h
end
end K76
set_option Elab.async false
set_option linter.all false
set_option maxRecDepth 100000
set_option maxHeartbeats 4000000
namespace K76
open PySem PySem.Spec PyProof.Rows L2
/-! ### rules -/
def kw (m : Nat) (t : Tag) : List Key := [Sum.inl (m : Int), Sum.inr t]
theorem kw_inj {m m' : Nat} {t t' : Tag} (h : kw m t = kw m' t') : m = m' ∧ t = t' := by
  unfold kw at h
  injection h with h1 h2
  injection h2 with h2 _
  injection h1 with h1
  injection h2 with h2
  exact ⟨by omega, h2⟩
def WayAt (H : Hp) (d : Addr) (W : Way) : Prop := ∃ kvs : List (List Key × V), H d = some (.dT kvs) ∧
  ∀ m t, (W m t = none ∧ valV kvs (kw m t) = none) ∨ ∃ ps v, W m t = some ps ∧ valV kvs (kw m t) = some v ∧ Is H (.tup (encPs ps)) v
theorem WayAt.same {H H' : Hp} (s : L2.Same H H') {d : Addr} {W : Way} (h : WayAt H d W) : WayAt H' d W := by
  obtain ⟨kvs, h1, h2⟩ := h
  refine ⟨kvs, s _ _ h1, fun m t => ?_⟩
  rcases h2 m t with h | ⟨ps, v, a, b, c⟩
  · exact .inl h
  · exact .inr ⟨ps, v, a, b, c.same s⟩
theorem WayAt.mono {H H' : Hp} (s : Tp H H') {d : Addr} (e : H' d = H d) {W : Way} (h : WayAt H d W) : WayAt H' d W := by
  obtain ⟨kvs, h1, h2⟩ := h
  refine ⟨kvs, e.trans h1, fun m t => ?_⟩
  rcases h2 m t with h | ⟨ps, v, a, b, c⟩
  · exact .inl h
  · exact .inr ⟨ps, v, a, b, Is.mono s _ c⟩
abbrev Ent := Nat × Tag × Ps
def encE (e : Ent) : D := .tup [.num (e.1 : Int), .text e.2.1, .tup (encPs e.2.2)]
def Tells (tbl : List Ent) (W : Way) : Prop := ∀ m t ps, W m t = some ps ↔ (m, t, ps) ∈ tbl
def encC (M : Nat) (tbl : List Ent) : D := .tup [.num (M : Int), .tup (tbl.map encE)]
def spRules : Sp := fun vs H Q _ => ∃ (v : V) (M : Nat) (tbl : List Ent) (W : Way), vs = [v] ∧ Is H (encC M tbl) v ∧ Tells tbl W ∧ tbl.length ≤ 1000 ∧
  ∀ H' p, L2.Same H H' → H p = none → WayAt H' p W → Q (.ref p) H'
def spPartsFor : Sp := fun vs H Q _ => ∃ (d : Addr) (W : Way) (m : Nat) (t : Tag), vs = [.ref d, .int (m : Int), .str t] ∧ WayAt H d W ∧
  ∀ H' v, L2.Same H H' → Is H' (.tup (encPs (partsFor W m t))) v → Q v H'
abbrev st_rules_by_tag : Stmt := top 8
theorem sc_rules_by_tag : FnScope ["one", "found", "mode", "tag", "parts"] ["one"] (defScope st_rules_by_tag) := ⟨rfl, rfl, rfl, by decide +kernel, rfl, by decide +kernel, by decide +kernel⟩
abbrev st_parts_for : Stmt := top 9
theorem sc_parts_for : FnScope ["rules", "mode", "tag"] ["rules", "mode", "tag"] (defScope st_parts_for) := ⟨rfl, rfl, rfl, by decide +kernel, rfl, by decide +kernel, by decide +kernel⟩
section
variable {P : Program} {w : World} {K : PySem.W.Frag} {mg : Str → Option Value} {base : Heap}
theorem ok_rules {f : Addr} {fd : FuncData} (F : Fun K "rules_by_tag" "rules_by_tag" st_rules_by_tag f fd) : FnOk P w K mg base CX0 1 f fd ["one"] spRules := by
  refine F.ok sc_rules_by_tag (fun vs H Q E h => ?_) (fun cdv A outer s H vs Q E hr h => ?_)
  · obtain ⟨_, _, _, _, rfl, _⟩ := h
    rfl
  · obtain ⟨v, M, tbl, W, rfl, hv, hW, hl, k⟩ := h
    have hu1 := hu_of hr
    refine ⟨_, (pss_cons (ps_set (i := 1) sc_rules_by_tag.nd rfl (Or.inl rfl) pe_dnewT)
      (pss_cons (ps_for PassesOwn.never rfl (pi_tup (pe_ix ix_tup (pv 0) pe_int (fun _ _ => rfl))) (pg_tup rfl (pgs_cons (pg_name (i := 2) sc_rules_by_tag.nd rfl (Or.inl rfl)) (pgs_cons (pg_name (i := 3) sc_rules_by_tag.nd rfl (Or.inl rfl)) (pgs_cons (pg_name (i := 4) sc_rules_by_tag.nd rfl (Or.inl rfl)) pgs_nil)))) (pss_one (ps_dput hu1 (pv 1) (pe_tup (pa_cons (pv 2) (pa_cons (pv 3) pa_nil))) (pv 4) rfl)))
      (pss_one (ps_ret (pv 1))))), ?_⟩
    obtain ⟨a, x, y, rfl, ha, hx, hy⟩ := is_two hv
    obtain ⟨b, ts, rfl, hb, hts⟩ := is_tup hy
    refine fun d nd => ?_
    have s0 : L2.Same H (upd H d (.dT [])) := same_new nd
    refine ⟨_, rfl, a, _, 1, .ref b, rfl, rfl, SqT.of (s0 _ _ ha), rfl, b, rfl, ⟨_, SqT.of (s0 _ _ hb)⟩, for_tup (a := b) (xs := ts) (fun i σ H1 => ∃ kvs v2 v3 v4, σ = [some (.ref a), some (.ref d), v2, v3, v4] ∧ L2.Same H H1 ∧ H1 d = some (.dT kvs) ∧ kvs.length ≤ i ∧
      ∀ m t, (valV kvs (kw m t) = none ∧ ∀ ps, (m, t, ps) ∉ tbl.take i) ∨ ∃ ps v, (m, t, ps) ∈ tbl.take i ∧ valV kvs (kw m t) = some v ∧ Is H1 (.tup (encPs ps)) v)
      ⟨[], _, _, _, rfl, s0, upd_same, Nat.le_refl _, fun m t => .inl ⟨rfl, fun ps => by simp⟩⟩ (fun i σ H1 _ ⟨_, _, _, _, _, s1, _⟩ => SqT.of (s1 _ _ hb)) ?_ ?_⟩
    · rintro i x σ H1 hi ⟨kvs, v2, v3, v4, rfl, s1, hd, hlen, hk⟩
      obtain ⟨e, he, hx⟩ := hts.getm hi
      obtain ⟨p, y1, y2, y3, rfl, hp, h1, h2, h3⟩ := is_three (hx.same s1)
      cases h1
      cases h2
      refine ⟨p, _, rfl, SqT.of hp, rfl, _, _, rfl, _, _, rfl, _, _, rfl, rfl, ?_⟩
      refine ⟨_, rfl, _, rfl, _, rfl, _, rfl, (by show 2 ≤ sizeLine; decide), fun t nt => ?_⟩
      have hil : i < tbl.length := (List.getElem?_eq_some_iff.mp he).1
      refine ⟨d, _, rfl, .inr ⟨kvs, kw e.1 e.2.1, t, get_new hd nt, rfl, upd_same, szL (by omega), rfl⟩, ?_⟩
      have nd1 : H1 d ≠ none := by rw [hd]; intro z; cases z
      have s2 := snew (o := .tup [V.int e.1, V.str e.2.1]) s1 nt
      have s3 := smut (o := .dT (putK kvs (kw e.1 e.2.1) y3)) s2 nd
      have t3 : Tp H1 (upd (upd H1 t (.tup [V.int e.1, V.str e.2.1])) d (.dT (putK kvs (kw e.1 e.2.1) y3))) := (Tp.new nt).trans (Tp.mut (get_new hd nt) (by intro z y; cases y))
      refine ⟨_, _, _, _, rfl, s3, upd_same, ?_, fun m t' => ?_⟩
      · exact Nat.le_trans (putK_len1 kvs (kw e.1 e.2.1) y3) (by omega)
      · rw [valV_put, take_snoc he]
        by_cases z : kw m t' = kw e.1 e.2.1
        · obtain ⟨rfl, rfl⟩ := kw_inj z
          rw [if_pos z]
          exact .inr ⟨e.2.2, y3, by simp, rfl, Is.mono t3 _ h3⟩
        · rw [if_neg z]
          rcases hk m t' with ⟨h, h'⟩ | ⟨ps, v, h, h', h''⟩
          · refine .inl ⟨h, fun ps hp => ?_⟩
            rw [List.mem_append, List.mem_singleton] at hp
            rcases hp with hp | hp
            · exact h' ps hp
            · rw [← hp] at z; exact z rfl
          · exact .inr ⟨ps, v, by simp [h], h', Is.mono t3 _ h''⟩
    · rintro σ H1 ⟨kvs, v2, v3, v4, rfl, s1, hd, hlen, hk⟩
      rw [hts.lenm, List.take_length] at hk
      refine ⟨_, rfl, k _ _ s1 nd ⟨kvs, hd, fun m t => ?_⟩⟩
      rcases hk m t with ⟨h, h'⟩ | ⟨ps, v, h, h', h''⟩
      · refine .inl ⟨?_, h⟩
        cases e : W m t with
        | none => rfl
        | some ps => exact absurd ((hW m t ps).mp e) (h' ps)
      · exact .inr ⟨ps, v, (hW m t ps).mpr h, h', h''⟩
theorem ok_partsFor {f : Addr} {fd : FuncData} (F : Fun K "parts_for" "parts_for" st_parts_for f fd) : FnOk P w K mg base CX0 1 f fd ["rules", "mode", "tag"] spPartsFor := by
  refine F.ok sc_parts_for (fun vs H Q E h => ?_) (fun cdv A outer s H vs Q E hr h => ?_)
  · obtain ⟨_, _, _, _, rfl, _⟩ := h
    rfl
  · obtain ⟨d, W, m, t, rfl, hW, k⟩ := h
    have hu1 := hu_of hr
    refine ⟨_, (pss_one (ps_ret (pe_dget2 hu1 (pv 0) (pe_tup (pa_cons (pv 1) (pa_cons (pv 2) pa_nil))) (pe_tup (pa_cons (pe_tup (pa_cons pe_str (pa_cons (pv 2) (pa_cons (pe_tup (pa_cons (pe_tup (pa_cons pe_str (pa_cons (pv 1) pa_nil))) pa_nil)) pa_nil)))) pa_nil)) ⟨rfl, rfl, rfl, rfl⟩))), ?_⟩
    obtain ⟨kvs, hd, hk⟩ := id hW
    refine ⟨_, rfl, d, rfl, .inr ⟨kvs, .inl hd⟩, _, rfl, _, rfl, (by show 2 ≤ sizeLine; decide), fun p1 n1 => ?_⟩
    refine ⟨_, rfl, _, rfl, (by show 2 ≤ sizeLine; decide), fun p2 n2 => ⟨(by show 1 ≤ sizeLine; decide), fun p3 n3 => ⟨(by show 3 ≤ sizeLine; decide), fun p4 n4 => ⟨(by show 1 ≤ sizeLine; decide), fun p5 n5 => ?_⟩⟩⟩⟩
    have s1 := same_new (o := .tup [V.int m, V.str t]) n1
    have s2 := same_new (o := .tup [V.str "kids", V.int m]) n2
    have s3 := same_new (o := .tup [V.ref p2]) n3
    have s4 := same_new (o := .tup [V.str "tag", V.str t, V.ref p3]) n4
    have s5 := same_new (o := .tup [V.ref p4]) n5
    have sA := strans s2 (strans s3 (strans s4 s5))
    refine ⟨_, .inr ⟨kvs, kw m t, p1, .inl (sA _ _ (s1 _ _ hd)), rfl, sA _ _ upd_same, rfl⟩, ?_⟩
    rcases hk m t with ⟨h1, h2⟩ | ⟨ps, v, h1, h2, h3⟩
    · rw [h2]
      refine k _ _ (strans s1 sA) ?_
      unfold partsFor
      rw [h1]
      refine ⟨p5, _, rfl, upd_same, _, _, rfl, ⟨p4, _, rfl, s5 _ _ upd_same, _, _, rfl, rfl, _, _, rfl, rfl, _, _, rfl, ⟨p3, _, rfl, s5 _ _ (s4 _ _ upd_same), _, _, rfl, ⟨p2, _, rfl, s5 _ _ (s4 _ _ (s3 _ _ upd_same)), _, _, rfl, rfl, _, _, rfl, rfl, rfl⟩, rfl⟩, rfl⟩, rfl⟩
    · rw [h2]
      refine k _ _ (strans s1 sA) ?_
      unfold partsFor
      rw [h1]
      exact h3.same (strans s1 sA)
end
/-! ### Effects -/
def efs (M : Nat) (d : Addr) (v : V) : List (Str × V) := putF "target" v (putF "ways" (.ref d) (putF "modes" (.int (M : Int)) []))
theorem efs_modes {M : Nat} {d : Addr} {v : V} : List.lookup ("modes" : Str) (efs M d v) = some (.int (M : Int)) := by
  unfold efs
  rw [lookup_putF, if_neg (by decide +kernel), lookup_putF, if_neg (by decide +kernel), lookup_putF, if_pos rfl]
theorem efs_ways {M : Nat} {d : Addr} {v : V} : List.lookup ("ways" : Str) (efs M d v) = some (.ref d) := by
  unfold efs
  rw [lookup_putF, if_neg (by decide +kernel), lookup_putF, if_pos rfl]
theorem efs_target {M : Nat} {d : Addr} {v : V} : List.lookup ("target" : Str) (efs M d v) = some v := by
  unfold efs
  rw [lookup_putF, if_pos rfl]
theorem efs_no {M : Nat} {d : Addr} {v : V} (m : Str) (h1 : ¬ m = "target") (h2 : ¬ m = "ways") (h3 : ¬ m = "modes") : List.lookup m (efs M d v) = none := by
  unfold efs
  rw [lookup_putF, if_neg h1, lookup_putF, if_neg h2, lookup_putF, if_neg h3]
  rfl
def Eff (C : Addr) (H : Hp) (p : Addr) (F : Form) (W : Way) (M : Nat) : Prop := ∃ dx d v, H p = some (.ins C dx (efs M d v)) ∧ WayAt H d W ∧ Is H (encF F) v
theorem Eff.same {C : Addr} {H H' : Hp} (s : L2.Same H H') {p : Addr} {F : Form} {W : Way} {M : Nat} (h : Eff C H p F W M) : Eff C H' p F W M := by
  obtain ⟨dx, d, v, h1, h2, h3⟩ := h
  exact ⟨dx, d, v, s _ _ h1, h2.same s, h3.same s⟩
structure ECls (K : PySem.W.Frag) (C : Addr) : Prop where
  cl : Cls K C
  nM : NoAttr K C "modes"
  nW : NoAttr K C "ways"
  nT : NoAttr K C "target"
/-- a form and a changer as the law makes them -/
structure Ctx (F : Form) (W : Way) (M : Nat) : Prop where
  fok : FOk F
  wok : WOk M W
  few : F.many ≤ 3
  mod : M ≤ 3
  mp : 0 < M
  rul : F.rules.length ≤ 100
  sta : F.starts.length ≤ 100
  end_ : F.ends.length ≤ 100
def spIdle (C : Addr) : Sp := fun vs H Q _ => ∃ (p : Addr) (F : Form) (W : Way) (M : Nat), vs = [.ref p] ∧ Eff C H p F W M ∧ Ctx F W M ∧
  ∀ H' q, L2.Same H H' → H q = none → (∃ zs, H' q = some (.lst zs) ∧ IsAll H' ((idle F.many).map encP) zs) → Q (.ref q) H'
def spNothing (C : Addr) : Sp := fun vs H Q _ => ∃ (p : Addr) (F : Form) (W : Way) (M : Nat), vs = [.ref p] ∧ Eff C H p F W M ∧ Ctx F W M ∧
  ∀ H' v, L2.Same H H' → Is H' (encV (nothing F M)) v → Q v H'
abbrev st_Effects_idle : Stmt := inClass (top 14) 1
theorem sc_Effects_idle : FnScope ["self", "kind"] ["self"] (defScope st_Effects_idle) := ⟨rfl, rfl, rfl, by decide +kernel, rfl, by decide +kernel, by decide +kernel⟩
abbrev st_Effects_nothing : Stmt := inClass (top 14) 2
theorem sc_Effects_nothing : FnScope ["self", "mode"] ["self"] (defScope st_Effects_nothing) := ⟨rfl, rfl, rfl, by decide +kernel, rfl, by decide +kernel, by decide +kernel⟩
section
variable {P : Program} {w : World} {K : PySem.W.Frag} {mg : Str → Option Value} {base : Heap} {C : Addr}
theorem idle_succ (n i : Nat) (h : i < n) : (idle n).take (i + 1) = (idle n).take i ++ [((i : Int), (i : Int))] := by
  refine take_snoc ?_
  unfold idle
  rw [List.getElem?_map, List.getElem?_range h]
  rfl
theorem ok_idle {f : Addr} {fd : FuncData} (F : Fun K "idle" "Effects.idle" st_Effects_idle f fd) (B : Gb mg) (T : ECls K C) : FnOk P w K mg base CX0 1 f fd ["self"] (spIdle C) := by
  refine F.ok sc_Effects_idle (fun vs H Q E h => ?_) (fun cdv A outer s H vs Q E hr h => ?_)
  · obtain ⟨_, _, _, _, rfl, _⟩ := h
    rfl
  · obtain ⟨p, F, W, M, rfl, hE, hc, k⟩ := h
    refine ⟨_, (pss_one (ps_ret (pe_lc (own := [("kind", 1)]) rfl sc_Effects_idle.nd (pi_range1 rfl B.range (pa_cons (pe_ix ix_tup (pe_fld (pv 0) rfl) pe_int (fun _ _ => rfl)) pa_nil)) (blkOk_by (own := [("kind", 1)]) (N := ["self", "kind"]) (sc := defScope st_Effects_idle) (by decide +kernel)) (fun _ _ _ _ _ => (pg_name (i := 1) sc_Effects_idle.nd rfl (Or.inl rfl))) (fun _ _ _ _ _ => pts_nil) (fun _ _ _ _ _ => (pe_tup (pa_cons (pv 1) (pa_cons (pv 1) pa_nil))))))), ?_⟩
    obtain ⟨dx, d, v, hp, hW, hF⟩ := id hE
    obtain ⟨a, ps, pe, pr, rs, rfl, hA⟩ := is_form hF
    refine ⟨_, rfl, p, C, dx, _, _, rfl, hp, T.cl, T.nT, efs_target, a, _, 0, _, rfl, rfl, SqT.of hA.at_, rfl, ?_⟩
    have h3 := hc.few
    refine ⟨_, rfl, by omega, by omega, fun D nD => lc_range (lo := 0) (n := F.many) (fun i H2 => L2.Same H H2 ∧ ∃ zs, H2 D = some (.lst zs) ∧ IsAll H2 (((idle F.many).take i).map encP) zs) ⟨same_new nD, [], upd_same, rfl⟩ ?_ ?_⟩
    · rintro i H2 hi ⟨s2, zs, hD, hz⟩
      refine ⟨rfl, ?_⟩
      refine ⟨_, rfl, _, rfl, (by show 2 ≤ sizeLine; decide), fun t nt => ⟨zs, get_new hD nt, ?_, smut (snew s2 nt) nD, _, upd_same, ?_⟩⟩
      · have := hz.lenm
        rw [List.length_take] at this
        exact szL (by omega)
      · rw [idle_succ _ _ hi, List.map_append]
        have tp : Tp H2 (upd (upd H2 t (.tup [.int (0 + (i : Int)), .int (0 + (i : Int))])) D (.lst (zs ++ [.ref t]))) := (Tp.new nt).trans (Tp.mut (get_new hD nt) (by intro z y; cases y))
        refine (hz.mono tp).append ⟨_, _, rfl, ⟨t, _, rfl, ?_, _, _, rfl, rfl, _, _, rfl, rfl, rfl⟩, rfl⟩
        rw [upd_ne (ne_of_none hD nt).symm, upd_same, Int.zero_add]
    · rintro H2 ⟨s2, zs, hD, hz⟩
      refine k _ _ s2 nD ⟨zs, hD, ?_⟩
      rwa [List.take_of_length_le (by unfold idle; simp)] at hz
theorem ok_nothing {f : Addr} {fd : FuncData} (F : Fun K "nothing" "Effects.nothing" st_Effects_nothing f fd) (B : Gb mg) (T : ECls K C) (M_idle : Methd P w K mg base CX0 1 C "idle" ["self"] (spIdle C)) : FnOk P w K mg base CX0 2 f fd ["self"] (spNothing C) := by
  refine F.ok sc_Effects_nothing (fun vs H Q E h => ?_) (fun cdv A outer s H vs Q E hr h => ?_)
  · obtain ⟨_, _, _, _, rfl, _⟩ := h
    rfl
  · obtain ⟨p, F, W, M, rfl, hE, hc, k⟩ := h
    refine ⟨_, (pss_one (ps_ret (pe_callTy call_tuple_of (by rfl) B.tuple (by decide +kernel) (pa_cons (pe_lc (own := [("mode", 1)]) rfl sc_Effects_nothing.nd (pi_range1 rfl B.range (pa_cons (pe_fld (pv 0) rfl) pa_nil)) (blkOk_by (own := [("mode", 1)]) (N := ["self", "mode"]) (sc := defScope st_Effects_nothing) (by decide +kernel)) (fun _ _ _ _ _ => (pg_name (i := 1) sc_Effects_nothing.nd rfl (Or.inl rfl))) (fun _ _ _ _ _ => pts_nil) (fun _ _ _ _ _ => (pe_callTy (call_tuple_ofK (K := K) rfl) (by rfl) B.tuple (by decide +kernel) (pa_cons (pe_methF0 (pv 0) M_idle (hr.mono (by decide)) pass0) pa_nil)))) pa_nil)))), ?_⟩
    obtain ⟨dx, d, v, hp, hW, hF⟩ := id hE
    have h3 := hc.mod
    have h4 := hc.few
    refine ⟨_, rfl, p, C, dx, _, _, rfl, hp, T.cl, T.nM, efs_modes, _, rfl, by omega, by omega, fun D nD => lc_range (lo := 0) (n := M) (fun i H2 => L2.Same H H2 ∧ ∃ zs, H2 D = some (.lst zs) ∧ IsAll H2 ((List.replicate i (idle F.many)).map encL) zs) ⟨same_new nD, [], upd_same, rfl⟩ ?_ ?_⟩
    · rintro i H2 hi ⟨s2, zs, hD, hz⟩
      refine ⟨rfl, ?_⟩
      refine ⟨_, rfl, p, dx, _, rfl, s2 _ _ hp, efs_no _ (by decide +kernel) (by decide +kernel) (by decide +kernel), p, F, W, M, rfl, hE.same s2, hc, fun H3 q s3 nq hq => ?_⟩
      obtain ⟨ys, hq, hys⟩ := hq
      refine ⟨q, ys, rfl, .inl ⟨SqL.of hq, fun t nt => ⟨zs, get_new (s3 _ _ hD) nt, ?_, ?_⟩⟩⟩
      · have := hz.lenm
        rw [List.length_replicate] at this
        exact szL (by omega)
      · refine ⟨smut (snew (strans s2 s3) nt) nD, _, upd_same, ?_⟩
        rw [List.replicate_succ', List.map_append]
        have tp : Tp H3 (upd (upd H3 t (.tup ys)) D (.lst (zs ++ [.ref t]))) := (Tp.new nt).trans (Tp.mut (get_new (s3 _ _ hD) nt) (by intro z y; cases y))
        refine ((hz.same s3).mono tp).append ⟨_, _, rfl, ⟨t, _, rfl, ?_, hys.mono tp⟩, rfl⟩
        rw [upd_ne (ne_of_none (s3 _ _ hD) nt).symm, upd_same]
    · rintro H2 ⟨s2, zs, hD, hz⟩
      refine ⟨D, zs, rfl, .inl ⟨SqL.of hD, fun t nt => k _ _ (snew s2 nt) ⟨t, zs, rfl, upd_same, hz.same (same_new nt)⟩⟩⟩
end
end K76
set_option Elab.async false
set_option linter.all false
set_option maxRecDepth 100000
set_option maxHeartbeats 4000000
namespace K76
open PySem PySem.Spec PyProof.Rows L2
theorem inV_ints (a : Int) (l : List Int) : inV (.int a) (l.map V.int) = l.contains a := by
  induction l with
  | nil => rfl
  | cons b l ih =>
    have e : inV (.int a) (V.int b :: l.map V.int) = (eqV (.int b) (.int a) || inV (.int a) (l.map V.int)) := rfl
    rw [List.map_cons, e, ih, List.contains_cons]
    have : eqV (.int b) (.int a) = (a == b) := by
      show decide (b = a) = (a == b)
      by_cases z : b = a
      · subst z; simp
      · have : ¬ a = b := fun y => z y.symm
        simp [z, this]
    rw [this]
theorem flat_ints (l : List Int) : (l.map V.int).all flatV = true := by
  rw [List.all_eq_true]
  intro x hx
  obtain ⟨i, _, rfl⟩ := List.mem_map.mp hx
  rfl
theorem inI (a : Int) (l : List Int) : V.bl (inV (.int a) (l.map V.int)) = V.bl (l.contains a) := congrArg V.bl (inV_ints a l)
/-! ### Effects(changer, form) -/
def spEffInit (C : Addr) : Sp := fun vs H Q _ => ∃ (p dx : Addr) (vc vf : V) (M : Nat) (tbl : List Ent) (W : Way) (F : Form), vs = [.ref p, vc, vf] ∧ H p = some (.ins C dx []) ∧ Is H (encC M tbl) vc ∧ Tells tbl W ∧ tbl.length ≤ 1000 ∧ Is H (encF F) vf ∧
  ∀ H', (∀ b o, H b = some o → b ≠ p → H' b = some o) → Eff C H' p F W M → Q .non H'
abbrev st_EI : Stmt := inClass (top 14) 0
theorem sc_EI : FnScope ["self", "changer", "form"] ["self", "changer", "form"] (defScope st_EI) := ⟨rfl, rfl, rfl, by decide +kernel, rfl, by decide +kernel, by decide +kernel⟩
abbrev st_Effects_of_tag : Stmt := inClass (top 14) 3
theorem sc_Effects_of_tag : FnScope ["self", "tag", "inner", "good", "found", "kind", "name", "begin", "rest", "first", "second"] ["self", "tag", "inner"] (defScope st_Effects_of_tag) := ⟨rfl, rfl, rfl, by decide +kernel, rfl, by decide +kernel, by decide +kernel⟩
def spOfTag (C : Addr) : Sp := fun vs H Q _ => ∃ (p a : Addr) (t : Tag) (xs : List V) (inner : Pr) (F : Form) (W : Way) (M : Nat), vs = [.ref p, .str t, .ref a] ∧ Eff C H p F W M ∧ Ctx F W M ∧ H a = some (.lst xs) ∧ IsAll H (inner.map encP) xs ∧ inner.length ≤ 1000 ∧
  ∀ H' q, L2.Same H H' → H q = none → (∃ zs, H' q = some (.lst zs) ∧ IsAll H' ((canon (steps F t inner)).map encP) zs) → Q (.ref q) H'
section
variable {P : Program} {w : World} {K : PySem.W.Frag} {mg : Str → Option Value} {base : Heap} {C : Addr}
theorem ok_effInit {f : Addr} {fd : FuncData} (F : Fun K "__init__" "Effects.__init__" st_EI f fd) (T : ECls K C) (F_rules_by_tag : Callable P w K mg base CX0 1 "rules_by_tag" ["one"] spRules) : FnOk P w K mg base CX0 2 f fd ["self", "changer", "form"] (spEffInit C) := by
  refine F.ok sc_EI (fun vs H Q E h => ?_) (fun cdv A outer s H vs Q E hr h => ?_)
  · obtain ⟨_, _, _, _, _, _, _, _, rfl, _⟩ := h
    rfl
  · obtain ⟨p, dx, vc, vf, M, tbl, W, F, rfl, hp, hvc, hT, hl, hF, k⟩ := h
    refine ⟨_, (pss_cons (ps_fld (pv 0) (pe_ix ix_tup (pv 1) pe_int (fun _ _ => rfl)) rfl)
      (pss_cons (ps_fld (pv 0) (pe_callF F_rules_by_tag (hr.mono (by decide)) rfl pass0 (pa_cons (pv 1) pa_nil)) rfl)
      (pss_one (ps_fld (pv 0) (pv 2) rfl)))), ?_⟩
    obtain ⟨a, x, y, rfl, ha, hx, hy⟩ := is_two hvc
    cases hx
    obtain ⟨a2, ts, rfl, ha2, hts⟩ := is_tup hy
    obtain ⟨b, ps, pe, pr, rs, rfl, hA⟩ := is_form hF
    have t1 : Tp H (upd H p (.ins C dx [("modes", .int (M : Int))])) := Tp.mut hp (by intro xs z; cases z)
    refine ⟨_, rfl, a, _, 0, _, rfl, rfl, SqT.of ha, rfl, _, rfl, p, C, dx, _, rfl, hp, T.cl, T.nM, (by show 0 < 1000; decide), ?_⟩
    refine ⟨_, rfl, .ref a, M, tbl, W, rfl, Is.mono t1 _ hvc, hT, hl, fun H1 d s1 nd hW => ?_⟩
    have hp1 : H1 p = some (.ins C dx (putF "modes" (.int (M : Int)) [])) := s1 _ _ upd_same
    refine ⟨_, rfl, p, C, dx, _, rfl, hp1, T.cl, T.nW, (by show 1 < 1000; decide), ?_⟩
    refine ⟨_, rfl, _, rfl, p, C, dx, _, rfl, upd_same, T.cl, T.nT, ?_, ?_⟩
    · have : (putF "ways" (V.ref d) (putF "modes" (.int (M : Int)) [])).length = 2 := by
        show (if ("modes" : Str) = "ways" then [(("modes" : Str), V.ref d)] else [("modes", .int (M : Int)), ("ways", V.ref d)]).length = 2
        rw [if_neg (by decide +kernel)]
        rfl
      rw [this]; decide
    have t2 : Tp H1 (upd (upd H1 p (.ins C dx (putF "ways" (V.ref d) (putF "modes" (.int (M : Int)) [])))) p (.ins C dx (efs M d (.ref b)))) := (Tp.mut hp1 (by intro xs z; cases z)).trans (Tp.mut upd_same (by intro xs z; cases z))
    obtain ⟨kvs, hd, _⟩ := id hW
    have dp : d ≠ p := ne_of hd hp1 (by intro z; cases z)
    refine k _ (fun b' o e hb => ?_) ⟨dx, d, .ref b, upd_same, hW.mono t2 (by rw [upd_ne dp, upd_ne dp]), Is.mono t2 _ (Is.same s1 (Is.mono t1 _ hF))⟩
    rw [upd_ne hb, upd_ne hb]
    exact s1 _ _ (by rw [upd_ne hb]; exact e)
theorem ok_ofTag {f : Addr} {fd : FuncData} (F : Fun K "of_tag" "Effects.of_tag" st_Effects_of_tag f fd) (B : Gb mg) (T : ECls K C) : FnOk P w K mg base CX0 1 f fd ["self", "tag", "inner"] (spOfTag C) := by
  refine F.ok sc_Effects_of_tag (fun vs H Q E h => ?_) (fun cdv A outer s H vs Q E hr h => ?_)
  · obtain ⟨_, _, _, _, _, _, _, _, rfl, _⟩ := h
    rfl
  · obtain ⟨p, a, t, xs, inner, F, W, M, rfl, hE, hc, ha, hxs, hil, k⟩ := h
    have hu1 := hu_of hr
    refine ⟨_, (pss_cons (ps_setLc (i := 3) (own := [("first", 9), ("second", 10)]) rfl sc_Effects_of_tag.nd rfl rfl (sw_true rfl rfl rfl (by decide +kernel)) (pi_list (pv 2)) (blkOk_by (own := [("first", 9), ("second", 10)]) (N := ["self", "tag", "inner", "good", "found", "kind", "name", "begin", "rest", "first", "second"]) (sc := defScope st_Effects_of_tag) (by decide +kernel)) (fun _ _ _ _ _ => (pg_tupK (K := K) (n := 2) rfl rfl (pgs_cons (pg_name (i := 9) sc_Effects_of_tag.nd rfl (Or.inl rfl)) (pgs_cons (pg_name (i := 10) sc_Effects_of_tag.nd rfl (Or.inl rfl)) pgs_nil)) rfl)) (fun _ _ _ _ _ => (pts_one (pt_cmpR (op_in_seqK (K := K) rfl) (pv 10) (pe_ix (ix_tupK (K := K) rfl) (pe_fldK (K := K) rfl (pv 0) rfl) pe_int (fun _ _ => rfl)) (by rfl)))) (fun _ _ _ _ _ => (pv 9)))
      (pss_cons (ps_set (i := 4) sc_Effects_of_tag.nd rfl (Or.inl rfl) pe_dnewT)
      (pss_cons (ps_for PassesOwn.never rfl (pi_tup (pe_ix ix_tup (pe_fld (pv 0) rfl) pe_int (fun _ _ => rfl))) (pg_tup rfl (pgs_cons (pg_name (i := 5) sc_Effects_of_tag.nd rfl (Or.inl rfl)) (pgs_cons (pg_name (i := 6) sc_Effects_of_tag.nd rfl (Or.inl rfl)) (pgs_cons (pg_name (i := 7) sc_Effects_of_tag.nd rfl (Or.inl rfl)) (pgs_cons (pg_name (i := 8) sc_Effects_of_tag.nd rfl (Or.inl rfl)) pgs_nil))))) (pss_one (ps_if (PW.pt (pw_and (pt_cmpR op_eq (pv 6) (pv 1) (nomark _)) (pw_and1 (pt_cmpR op_in_seq (pv 7) (pv 3) (by rfl))))) (pss_one (ps_dput hu1 (pv 4) (pe_tup (pa_cons (pv 5) (pa_cons (pv 8) pa_nil))) pe_bl rfl)) pss_nil)))
      (pss_one (ps_ret (pe_callB cr_sortedPO (by rfl) B.sorted (by decide +kernel) (pa_cons (pe_callTy (call_list_dT rfl) (by rfl) B.list (by decide +kernel) (pa_cons (pv 4) pa_nil)) pa_nil))))))), ?_⟩
    obtain ⟨dx, d, v, hp, hW, hF⟩ := id hE
    obtain ⟨b, ps, pe, pr, rs, rfl, hA⟩ := is_form hF
    refine ⟨_, rfl, a, rfl, ⟨xs, SqL.of ha⟩, fun D nD => lc_list (a := a) (xs := xs) (fun i H2 => L2.Same H H2 ∧ H2 D = some (.lst ((goods F (inner.take i)).map V.int))) ⟨same_new nD, upd_same⟩ (fun i H2 _ ⟨s2, _⟩ => SqL.of (s2 _ _ ha)) ?_ ?_⟩
    · rintro i x H2 hi ⟨s2, hD⟩
      obtain ⟨q, hq, hx⟩ := hxs.getm hi
      obtain ⟨c, rfl, hcp⟩ := is_pair (hx.same s2)
      refine ⟨c, _, rfl, SqT.of hcp, rfl, _, _, rfl, _, _, rfl, rfl, rfl, ?_⟩
      have hA2 := hA.mono (Tp.of s2)
      refine ⟨_, rfl, _, rfl, p, C, dx, _, _, rfl, s2 _ _ hp, T.cl, T.nT, efs_target, b, _, 2, _, rfl, rfl, SqT.of hA2.at_, rfl, pe, _, rfl, .inr (SqT.of hA2.en), rfl, flat_ints _, F.ends.contains q.2, inI _ _, ?_⟩
      have e2 : goods F (inner.take (i + 1)) = goods F (inner.take i) ++ (if F.ends.contains q.2 = true then [q.1] else []) := by
        rw [take_snoc hq]
        unfold goods
        rw [List.filter_append, List.map_append]
        by_cases z : F.ends.contains q.2 = true
        · rw [if_pos z, List.filter_cons_of_pos (by simpa using z)]; rfl
        · rw [if_neg z, List.filter_cons_of_neg (by simpa using z)]; rfl
      have gl : (goods F (inner.take i)).length ≤ 1000 := by
        unfold goods
        rw [List.length_map]
        refine Nat.le_trans (List.length_filter_le _ _) ?_
        rw [List.length_take]; omega
      refine ite2 (fun z => ?_) (fun z => ?_)
      · rw [if_pos z] at e2
        refine ⟨_, rfl, _, hD, by rw [List.length_map]; exact szL (by omega), smut s2 nD, ?_⟩
        rw [upd_same, e2]; simp
      · rw [if_neg z] at e2
        refine ⟨s2, ?_⟩
        rw [e2, List.append_nil]; exact hD
    · rintro H2 ⟨s2, hD⟩
      rw [hxs.lenm, List.take_length] at hD
      refine fun f nf => ?_
      have s3 : L2.Same H2 (upd H2 f (.dT [])) := same_new nf
      have hA3 := hA.mono (Tp.of (strans s2 s3))
      refine ⟨_, rfl, p, C, dx, _, _, rfl, s3 _ _ (s2 _ _ hp), T.cl, T.nT, efs_target, b, _, 3, _, rfl, rfl, SqT.of hA3.at_, rfl, pr, rfl, ⟨_, SqT.of hA3.ru⟩, for_tup (a := pr) (xs := rs) (fun i σ H4 => ∃ ks v5 v6 v7 v8, σ = [some (.ref p), some (.str t), some (.ref a), some (.ref D), some (.ref f), v5, v6, v7, v8, none, none] ∧ L2.Same H2 H4 ∧ PD kp H4 f ks ∧ ks.Nodup ∧ ks.length ≤ i ∧ ∀ y, y ∈ ks ↔ ∃ r ∈ F.rules.take i, y = (r.kind, r.rest) ∧ r.tag = t ∧ (goods F inner).contains r.inner = true)
        ⟨[], _, _, _, _, rfl, s3, ⟨[], upd_same, rfl⟩, .nil, Nat.le_refl _, fun y => by simp⟩ (fun i σ H4 _ ⟨_, _, _, _, _, _, s4, _⟩ => SqT.of (hA.mono (Tp.of (strans s2 s4))).ru) ?_ ?_⟩
      · rintro i x σ H4 hi ⟨ks, v5, v6, v7, v8, rfl, s4, hP, hnd, hkl, hm⟩
        obtain ⟨r, hr', hx⟩ := hA.rs.getm hi
        obtain ⟨c, rfl, hcr⟩ := is_rule (hx.same (strans s2 s4))
        have hil : i < F.rules.length := (List.getElem?_eq_some_iff.mp hr').1
        have := hc.rul
        refine ⟨c, _, rfl, SqT.of hcr, rfl, _, _, rfl, _, _, rfl, _, _, rfl, _, _, rfl, rfl, ?_⟩
        have no : ¬ (r.tag = t ∧ (goods F inner).contains r.inner = true) → ∀ y, y ∈ ks ↔ ∃ r ∈ F.rules.take (i + 1), y = (r.kind, r.rest) ∧ r.tag = t ∧ (goods F inner).contains r.inner = true := by
          intro hno y
          rw [hm, take_snoc hr']
          simp only [List.mem_append, List.mem_singleton]
          constructor
          · rintro ⟨r', h1, h2⟩
            exact ⟨r', .inl h1, h2⟩
          · rintro ⟨r', h1 | rfl, h2⟩
            · exact ⟨r', h1, h2⟩
            · exact absurd h2.2 hno
        refine ⟨_, rfl, _, rfl, rfl, _, rfl, ?_⟩
        refine ite2 (fun z => ?_) (fun z => ?_)
        · have zt : r.tag = t := by
            have := of_decide_eq_true z
            injection this
          refine ⟨_, rfl, _, rfl, D, _, rfl, .inl (SqL.of (s4 _ _ hD)), rfl, flat_ints _, (goods F inner).contains r.inner, inI _ _, ?_⟩
          refine ite2 (fun z2 => ?_) (fun z2 => ?_)
          · refine ⟨_, rfl, _, rfl, _, rfl, (by show 2 ≤ sizeLine; decide), fun u nu => ?_⟩
            have hP5 : PD kp (upd H4 u (.tup [.int r.kind, .int r.rest])) f ks := by
              obtain ⟨ks', e1, e2⟩ := hP
              exact ⟨ks', get_new e1 nu, e2⟩
            obtain ⟨H5, hput, hP6, o, u', e1, e2, rfl⟩ := hP5.put (x := (r.kind, r.rest)) (fun _ _ => kp_inj) upd_same rfl (.bl true) (by omega)
            refine ⟨f, _, rfl, hput, ?_⟩
            refine ⟨addP ks (r.kind, r.rest), _, _, _, _, rfl, smut (snew s4 nu) nf, hP6, nodup_addP hnd, Nat.le_trans addP_len (by omega), fun y => ?_⟩
            rw [mem_addP, hm, take_snoc hr']
            simp only [List.mem_append, List.mem_singleton]
            constructor
            · rintro (⟨r', h1, h2⟩ | rfl)
              · exact ⟨r', .inl h1, h2⟩
              · exact ⟨r, .inr rfl, rfl, zt, z2⟩
            · rintro ⟨r', h1 | rfl, h2⟩
              · exact .inl ⟨r', h1, h2⟩
              · exact .inr h2.1
          · exact ⟨ks, _, _, _, _, rfl, s4, hP, hnd, by omega, no fun h => z2 h.2⟩
        · exact ⟨ks, _, _, _, _, rfl, s4, hP, hnd, by omega, no fun h => z (decide_eq_true (by rw [h.1]))⟩
      · rintro σ H4 ⟨ks, v5, v6, v7, v8, rfl, s4, hP, hnd, hkl, hm⟩
        refine ⟨_, rfl, sorted_pairs hP hnd fun H' q s5 nq h => ?_⟩
        refine k H' q (strans s2 (strans s4 s5)) (s2.free (s4.free nq)) ?_
        have : canon ks = canon (steps F t inner) := canon_congr fun y => by
          rw [hm, hA.rs.lenm, List.take_length]
          unfold steps
          simp only [List.mem_map, List.mem_filter, Bool.and_eq_true, decide_eq_true_eq]
          constructor
          · rintro ⟨r, h1, rfl, h2, h3⟩
            exact ⟨r, ⟨h1, h2, h3⟩, rfl⟩
          · rintro ⟨r, ⟨h1, h2, h3⟩, rfl⟩
            exact ⟨r, h1, rfl, h2, h3⟩
        rw [← this]
        exact h
end
end K76
set_option Elab.async false
set_option linter.all false
set_option maxRecDepth 100000
set_option maxHeartbeats 4000000
namespace K76
open PySem PySem.Spec PyProof.Rows L2
/-! ### parts as a list -/
abbrev P1 := Nat ⊕ (Tag × Ps)
def Ps.toL : Ps → List P1
  | .nil => []
  | .kids m r => .inl m :: r.toL
  | .tag t i r => .inr (t, i) :: r.toL
def encP1 : P1 → D
  | .inl m => .tup [.text "kids", .num (m : Int)]
  | .inr (t, i) => .tup [.text "tag", .text t, .tup (encPs i)]
theorem encPs_toL : ∀ ps : Ps, encPs ps = ps.toL.map encP1
  | .nil => rfl
  | .kids m r => by rw [encPs, Ps.toL, List.map_cons, encPs_toL r]; rfl
  | .tag t i r => by rw [encPs, Ps.toL, List.map_cons, encPs_toL r]; rfl
def thr1 (F : Form) (v : Val) (acc : Pr) : P1 → Pr
  | .inl m => turn acc (v.getD m [])
  | .inr (t, i) => turn acc (steps F t (through F v i (idle F.many)))
theorem through_fold (F : Form) (v : Val) : ∀ (ps : Ps) (acc : Pr), through F v ps acc = ps.toL.foldl (thr1 F v) acc
  | .nil, _ => rfl
  | .kids m r, acc => by rw [through, Ps.toL, List.foldl_cons, through_fold F v r]; rfl
  | .tag t i r, acc => by rw [through, Ps.toL, List.foldl_cons, through_fold F v r]; rfl
def P1.ok (M n : Nat) : P1 → Prop
  | .inl m => m < M
  | .inr (_, i) => i.ok M ∧ i.deep < n ∧ i.size ≤ 4
theorem toL_ok {M n : Nat} : ∀ {ps : Ps}, ps.ok M → ps.deep < n + 1 → ps.size ≤ 4 → ∀ x ∈ ps.toL, P1.ok M n x
  | .nil, _, _, _, x, h => by cases h
  | .kids m r, ho, hd, hs, x, h => by
    rw [Ps.toL] at h
    simp only [Ps.deep, Ps.size] at hd hs
    rcases List.mem_cons.mp h with rfl | h
    · exact ho.1
    · exact toL_ok ho.2 hd (by omega) x h
  | .tag t i r, ho, hd, hs, x, h => by
    rw [Ps.toL] at h
    simp only [Ps.deep, Ps.size] at hd hs
    rcases List.mem_cons.mp h with rfl | h
    · exact ⟨ho.1, by omega, by omega⟩
    · exact toL_ok ho.2 (by omega) (by omega) x h
theorem thr1_sq {F : Form} (ok : FOk F) {M n : Nat} {v : Val} (hv : VOk F M v) {acc : Pr} (h : InSq F.many acc) {x : P1} (hx : P1.ok M n x) : InSq F.many (thr1 F v acc x) := by
  cases x with
  | inl m => exact h.turn (hv.2 m hx).1
  | inr ti => exact h.turn (steps_sq ok)
theorem fold_sq {F : Form} (ok : FOk F) {M n : Nat} {v : Val} (hv : VOk F M v) : ∀ {l : List P1} {acc : Pr}, InSq F.many acc → (∀ x ∈ l, P1.ok M n x) → InSq F.many (l.foldl (thr1 F v) acc)
  | [], _, h, _ => h
  | x :: l, _, h, hx => fold_sq ok hv (l := l) (thr1_sq ok hv h (hx x (by simp))) fun y hy => hx y (by simp [hy])
theorem canon_nodup (l : Pr) : (canon l).Nodup := (sr_canon l).nodup
theorem sq_canon {n : Nat} {l : Pr} (h : InSq n l) : InSq n (canon l) := fun p hp => h p (mem_canon.mp hp)
theorem sq_len9 {n : Nat} {l : Pr} (h : InSq n l) (hn : l.Nodup) (h3 : n ≤ 3) : l.length ≤ 9 := by
  have := h.len hn
  have : n * n ≤ 3 * 3 := Nat.mul_le_mul h3 h3
  omega
theorem turn_canon (one other : Pr) : turn one (canon other) = turn one other := turn_congr fun x => mem_canon
abbrev st_Effects_of_parts : Stmt := inClass (top 14) 4
theorem sc_Effects_of_parts : FnScope ["self", "parts", "value", "pairs", "part"] ["self", "parts", "value"] (defScope st_Effects_of_parts) := ⟨rfl, rfl, rfl, by decide +kernel, rfl, by decide +kernel, by decide +kernel⟩
def spOP (C : Addr) (n : Nat) : Sp := fun vs H Q _ => ∃ (p : Addr) (vp vv : V) (ps : Ps) (v : Val) (F : Form) (W : Way) (M : Nat), vs = [.ref p, vp, vv] ∧ Eff C H p F W M ∧ Ctx F W M ∧ Is H (.tup (encPs ps)) vp ∧ Is H (encV v) vv ∧
  ps.deep < n ∧ ps.ok M ∧ ps.size ≤ 4 ∧ VOk F M v ∧
  ∀ H' q, L2.Same H H' → (∃ zs, H' q = some (.lst zs) ∧ IsAll H' ((through F v ps (idle F.many)).map encP) zs) → Q (.ref q) H'
section
variable {P : Program} {w : World} {K : PySem.W.Frag} {mg : Str → Option Value} {base : Heap} {C : Addr}
theorem ok_ofParts {f : Addr} {fd : FuncData} (F : Fun K "of_parts" "Effects.of_parts" st_Effects_of_parts f fd) (hb : L2.Binds K fd ["self", "parts", "value"] []) (hm : Meth K C "of_parts" f) (B : Gb mg) (T : ECls K C)
    (M_idle : Methd P w K mg base CX0 1 C "idle" ["self"] (spIdle C)) (M_of_tag : Methd P w K mg base CX0 1 C "of_tag" ["self", "tag", "inner"] (spOfTag C))
    (F_in_turn : Callable P w K mg base CX0 1 "in_turn" ["one", "other"] spTurn) : ∀ n, FnOk P w K mg base CX0 (n + 1) f fd ["self", "parts", "value"] (spOP C n)
  | 0 => ⟨fun vs H Q E ⟨_, _, _, _, _, _, _, _, _, _, _, _, _, h, _⟩ => absurd h (Nat.not_lt_zero _), fun A outer s H args us vs Q E _ _ _ _ ⟨_, _, _, _, _, _, _, _, _, _, _, _, _, h, _⟩ => absurd h (Nat.not_lt_zero _)⟩
  | n + 1 => by
    have M_of_parts : Methd P w K mg base CX0 (n + 1) C "of_parts" ["self", "parts", "value"] (spOP C n) := ⟨T.cl, f, fd, hm, hb, ok_ofParts F hb hm B T M_idle M_of_tag F_in_turn n⟩
    refine F.ok sc_Effects_of_parts (fun vs H Q E h => ?_) (fun cdv A outer s H vs Q E hr h => ?_)
    · obtain ⟨_, _, _, _, _, _, _, _, rfl, _⟩ := h
      rfl
    · obtain ⟨p, vp, vv, ps, v, F, W, M, rfl, hE, hc, hp, hv, hd, hok, hs, hV, k⟩ := h
      have hr1 : Room 1 _ := hr.mono (by omega)
      refine ⟨_, (pss_cons (ps_set (i := 3) sc_Effects_of_parts.nd rfl (Or.inl rfl) (pe_methF0 (pv 0) M_idle hr1 pass0))
      (pss_cons (ps_for PassesOwn.never rfl (pi_tup (pv 1)) (pg_name (i := 4) sc_Effects_of_parts.nd rfl (Or.inl rfl)) (pss_one (ps_if (pt_cmpR op_eq (pe_ix ix_tup (pv 4) pe_int (fun _ _ => rfl)) pe_str (nomark _)) (pss_one (ps_set (i := 3) sc_Effects_of_parts.nd rfl (Or.inl rfl) (pe_callF F_in_turn hr1 rfl pass0 (pa_cons (pv 3) (pa_cons (pe_ix ix_tup (pv 2) (pe_ix ix_tup (pv 4) pe_int (fun _ _ => rfl)) (fun _ _ => rfl)) pa_nil))))) (pss_one (ps_set (i := 3) sc_Effects_of_parts.nd rfl (Or.inl rfl) (pe_callF F_in_turn hr1 rfl pass0 (pa_cons (pv 3) (pa_cons (pe_methF (pv 0) M_of_tag hr1 pass0 (pa_cons (pe_ix ix_tup (pv 4) pe_int (fun _ _ => rfl)) (pa_cons (pe_methF (pv 0) M_of_parts hr pass0 (pa_cons (pe_ix ix_tup (pv 4) pe_int (fun _ _ => rfl)) (pa_cons (pv 2) pa_nil))) pa_nil))) pa_nil))))))))
      (pss_one (ps_ret (pv 3))))), ?_⟩
      obtain ⟨dx, d, vt, hpp, hW, hF⟩ := id hE
      rw [encPs_toL] at hp
      obtain ⟨a, xs, rfl, ha, hxs⟩ := is_tup hp
      obtain ⟨b, ys, rfl, hb', hys⟩ := is_tup hv
      have hall := toL_ok hok hd hs
      have h3 := hc.few
      refine ⟨_, rfl, p, dx, _, rfl, hpp, efs_no _ (by decide +kernel) (by decide +kernel) (by decide +kernel), p, F, W, M, rfl, hE, hc, fun H1 q s1 nq hq => ?_⟩
      refine ⟨_, rfl, a, rfl, ⟨xs, SqT.of (s1 _ _ ha)⟩, for_tup (a := a) (xs := xs) (fun i σ H2 => ∃ q v4, σ = [some (.ref p), some (.ref a), some (.ref b), some (.ref q), v4] ∧ L2.Same H H2 ∧ ∃ zs, H2 q = some (.lst zs) ∧ IsAll H2 (((ps.toL.take i).foldl (thr1 F v) (idle F.many)).map encP) zs)
        ⟨q, _, rfl, s1, hq⟩ (fun i σ H2 _ ⟨_, _, _, s2, _⟩ => SqT.of (s2 _ _ ha)) ?_ ?_⟩
      · rintro i x σ H2 hi ⟨q, v4, rfl, s2, zs, hq, hz⟩
        obtain ⟨e, he, hx⟩ := hxs.getm hi
        have hin := hall e (List.mem_of_getElem? he)
        have hacc : InSq F.many ((ps.toL.take i).foldl (thr1 F v) (idle F.many)) := fold_sq hc.fok hV (idle_sq _) fun y hy => hall y (List.mem_of_mem_take hy)
        have hstep : (ps.toL.take (i + 1)).foldl (thr1 F v) (idle F.many) = thr1 F v ((ps.toL.take i).foldl (thr1 F v) (idle F.many)) e := by
          rw [take_snoc he, List.foldl_append]; rfl
        cases e with
        | inl m =>
          obtain ⟨c, x1, x2, rfl, hcp, h1, h2⟩ := is_two (hx.same s2)
          cases h1
          cases h2
          refine ⟨_, rfl, c, _, 0, _, rfl, rfl, SqT.of hcp, rfl, rfl, _, rfl, ?_⟩
          refine iteT ?_
          have hm' : m < M := hin
          obtain ⟨y, hy, hiy⟩ := (hys.same s2).get (i := m) (k := encL (v.getD m [])) (by rw [List.getElem?_map, List.getD_eq_getElem?_getD]; cases e : v[m]? with | none => (have := List.getElem?_eq_none_iff.mp e; have := hV.1; omega) | some z => rfl)
          obtain ⟨yb, ws, rfl, hyb, hws⟩ := is_tup hiy
          refine ⟨_, rfl, _, rfl, _, rfl, c, _, 1, .int m, rfl, rfl, SqT.of hcp, rfl, b, _, _, _, rfl, rfl, SqT.of (s2 _ _ hb'), atI_nat hy, ?_⟩
          refine ⟨q, _, zs, ws, _, _, F.many, rfl, hq, hz, ⟨yb, rfl, .inr hyb⟩, hws, hacc, (hV.2 m hm').1, by omega, Nat.le_trans (sq_len9 (hV.2 m hm').1 (hV.2 m hm').2.nodup h3) (by omega), fun H3 q3 s3 nq3 h => ⟨q3, _, rfl, strans s2 s3, ?_⟩⟩
          rw [hstep]; exact h
        | inr ti =>
          obtain ⟨t, pi⟩ := ti
          obtain ⟨c, x1, x2, x3, rfl, hcp, h1, h2, h3'⟩ := is_three (hx.same s2)
          cases h1
          cases h2
          refine ⟨_, rfl, c, _, 0, _, rfl, rfl, SqT.of hcp, rfl, rfl, _, rfl, ?_⟩
          refine iteF ?_
          refine ⟨_, rfl, _, rfl, p, dx, _, rfl, s2 _ _ hpp, efs_no _ (by decide +kernel) (by decide +kernel) (by decide +kernel), _, rfl, c, _, 1, .str t, rfl, rfl, SqT.of hcp, rfl, _, rfl, p, dx, _, rfl, s2 _ _ hpp, efs_no _ (by decide +kernel) (by decide +kernel) (by decide +kernel), _, rfl, c, _, 2, x3, rfl, rfl, SqT.of hcp, rfl, _, rfl, ?_⟩
          refine ⟨p, x3, .ref b, pi, v, F, W, M, rfl, hE.same s2, hc, h3', hv.same s2, hin.2.1, hin.1, hin.2.2, hV, fun H3 q3 s3 ⟨us, hq3, hus⟩ => ?_⟩
          have hin3 : InSq F.many (through F v pi (idle F.many)) := through_sq hc.fok hV hin.1 (idle_sq _)
          refine ⟨p, q3, t, us, _, F, W, M, rfl, hE.same (strans s2 s3), hc, hq3, hus, Nat.le_trans (sq_len9 hin3 (through_sr (sr_idle _)).nodup h3) (by omega), fun H4 q4 s4 nq4 ⟨us4, hq4, hus4⟩ => ?_⟩
          refine ⟨q, _, zs, us4, _, _, F.many, rfl, s4 _ _ (s3 _ _ hq), (hz.same s3).same s4, ⟨q4, rfl, .inl hq4⟩, hus4, hacc, sq_canon (steps_sq hc.fok), by omega, Nat.le_trans (sq_len9 (sq_canon (steps_sq hc.fok)) (canon_nodup _) h3) (by omega), fun H5 q5 s5 nq5 h => ⟨q5, _, rfl, strans s2 (strans s3 (strans s4 s5)), ?_⟩⟩
          rw [hstep]
          rw [turn_canon] at h
          exact h
      · rintro σ H2 ⟨q, v4, rfl, s2, zs, hq, hz⟩
        rw [hxs.lenm, List.take_length, ← through_fold] at hz
        exact ⟨_, rfl, k _ _ s2 ⟨zs, hq, hz⟩⟩
end
end K76
set_option Elab.async false
set_option linter.all false
set_option maxRecDepth 100000
set_option maxHeartbeats 4000000
namespace K76
open PySem PySem.Spec PyProof.Rows L2
abbrev st_Effects_above : Stmt := inClass (top 14) 5
theorem sc_Effects_above : FnScope ["self", "tag", "inner", "rest", "found", "mode", "pairs"] ["self", "tag", "inner", "rest"] (defScope st_Effects_above) := ⟨rfl, rfl, rfl, by decide +kernel, rfl, by decide +kernel, by decide +kernel⟩
abbrev st_Effects_good : Stmt := inClass (top 14) 6
theorem sc_Effects_good : FnScope ["self", "value", "first", "last"] ["self", "value"] (defScope st_Effects_good) := ⟨rfl, rfl, rfl, by decide +kernel, rfl, by decide +kernel, by decide +kernel⟩
def spAbove (C : Addr) : Sp := fun vs H Q _ => ∃ (p : Addr) (t : Tag) (vi vr : V) (inner rest : Val) (F : Form) (W : Way) (M : Nat), vs = [.ref p, .str t, vi, vr] ∧ Eff C H p F W M ∧ Ctx F W M ∧ Is H (encV inner) vi ∧ Is H (encV rest) vr ∧ VOk F M inner ∧ VOk F M rest ∧
  ∀ H' v, L2.Same H H' → Is H' (encV (above F W M t inner rest)) v → Q v H'
def spGood (C : Addr) : Sp := fun vs H Q _ => ∃ (p : Addr) (vv : V) (v : Val) (F : Form) (W : Way) (M : Nat), vs = [.ref p, vv] ∧ Eff C H p F W M ∧ Ctx F W M ∧ Is H (encV v) vv ∧ VOk F M v ∧ Q (.bl (good F v)) H
theorem val_at {H : Hp} {v : Val} {b : Addr} {ys : List V} {F : Form} {M m : Nat} (hV : VOk F M v) (hm : m < M) (hys : IsAll H (v.map encL) ys) : ∃ yb ws, ys[m]? = some (.ref yb) ∧ H yb = some (.tup ws) ∧ IsAll H ((v.getD m []).map encP) ws := by
  obtain ⟨y, hy, hiy⟩ := hys.get (i := m) (k := encL (v.getD m [])) (by rw [List.getElem?_map, List.getD_eq_getElem?_getD]; cases e : v[m]? with | none => (have := List.getElem?_eq_none_iff.mp e; have := hV.1; omega) | some z => rfl)
  obtain ⟨yb, ws, rfl, hyb, hws⟩ := is_tup hiy
  exact ⟨yb, ws, hy, hyb, hws⟩
def above1 (F : Form) (W : Way) (t : Tag) (inner rest : Val) (m : Nat) : Pr := turn (through F inner (partsFor W m t) (idle F.many)) (rest.getD m [])
section
variable {P : Program} {w : World} {K : PySem.W.Frag} {mg : Str → Option Value} {base : Heap} {C : Addr}
theorem ok_above {f : Addr} {fd : FuncData} (F : Fun K "above" "Effects.above" st_Effects_above f fd) (B : Gb mg) (T : ECls K C)
    (F_parts_for : Callable P w K mg base CX0 1 "parts_for" ["rules", "mode", "tag"] spPartsFor) (M_of_parts : Methd P w K mg base CX0 6 C "of_parts" ["self", "parts", "value"] (spOP C 5))
    (F_in_turn : Callable P w K mg base CX0 1 "in_turn" ["one", "other"] spTurn) : FnOk P w K mg base CX0 7 f fd ["self", "tag", "inner", "rest"] (spAbove C) := by
  refine F.ok sc_Effects_above (fun vs H Q E h => ?_) (fun cdv A outer s H vs Q E hr h => ?_)
  · obtain ⟨_, _, _, _, _, _, _, _, _, rfl, _⟩ := h
    rfl
  · obtain ⟨p, t, vi, vr, inner, rest, F, W, M, rfl, hE, hc, hi, hrs, hVi, hVr, k⟩ := h
    refine ⟨_, (pss_cons (ps_set (i := 4) sc_Effects_above.nd rfl (Or.inl rfl) (pe_lst pa_nil))
      (pss_cons (ps_for PassesOwn.never rfl (pi_range1 rfl B.range (pa_cons (pe_fld (pv 0) rfl) pa_nil)) (pg_name (i := 5) sc_Effects_above.nd rfl (Or.inl rfl)) (pss_cons (ps_set (i := 6) sc_Effects_above.nd rfl (Or.inl rfl) (pe_methF (pv 0) M_of_parts (hr.mono (by decide)) pass0 (pa_cons (pe_callF F_parts_for (hr.mono (by decide)) rfl pass0 (pa_cons (pe_fld (pv 0) rfl) (pa_cons (pv 5) (pa_cons (pv 1) pa_nil)))) (pa_cons (pv 2) pa_nil))))
      (pss_one (ps_expr (pe_bm PySem.F.plainAttrs_list PySem.F.slot_list_append PySem.F.type_list_append mt_append (pv 4) (pa_cons (pe_callTy call_tuple_of (by rfl) B.tuple (by decide +kernel) (pa_cons (pe_callF F_in_turn (hr.mono (by decide)) rfl pass0 (pa_cons (pv 6) (pa_cons (pe_ix ix_tup (pv 3) (pv 5) (fun _ _ => rfl)) pa_nil))) pa_nil)) pa_nil))))))
      (pss_one (ps_ret (pe_callTy call_tuple_of (by rfl) B.tuple (by decide +kernel) (pa_cons (pv 4) pa_nil)))))), ?_⟩
    obtain ⟨dx, d, vt, hpp, hW, hF⟩ := id hE
    obtain ⟨b, ys, rfl, hb, hys⟩ := is_tup hrs
    have h3 := hc.few
    have h4 := hc.mod
    refine ⟨(Nat.zero_le _), fun D nD => ?_⟩
    have s0 : L2.Same H (upd H D (.lst [])) := same_new nD
    refine ⟨_, rfl, p, C, dx, _, _, rfl, s0 _ _ hpp, T.cl, T.nM, efs_modes, _, rfl, by omega, by omega, for_range (lo := 0) (n := M) (fun i σ H1 => ∃ v5 v6, σ = [some (.ref p), some (.str t), some vi, some (.ref b), some (.ref D), v5, v6] ∧ L2.Same H H1 ∧ ∃ zs, H1 D = some (.lst zs) ∧ IsAll H1 (((List.range i).map (above1 F W t inner rest)).map encL) zs)
      ⟨_, _, rfl, s0, [], upd_same, rfl⟩ ?_ ?_⟩
    · rintro i σ H1 hi' ⟨v5, v6, rfl, s1, zs, hD, hz⟩
      obtain ⟨yb, ws, hy, hyb, hws⟩ := val_at (b := b) hVr hi' (hys.same s1)
      obtain ⟨po, ps⟩ := parts_ok hc.wok (t := t) hi'
      have ez : (V.int (0 + (i : Int))) = V.int (i : Int) := by rw [Int.zero_add]
      rw [ez]
      refine ⟨_, rfl, p, dx, _, rfl, s1 _ _ hpp, efs_no _ (by decide +kernel) (by decide +kernel) (by decide +kernel), _, rfl, p, C, dx, _, _, rfl, s1 _ _ hpp, T.cl, T.nW, efs_ways, _, rfl, _, rfl, d, W, i, t, rfl, hW.same s1, fun H2 vp s2 hvp => ?_⟩
      refine ⟨_, rfl, p, vp, vi, _, inner, F, W, M, rfl, hE.same (strans s1 s2), hc, hvp, hi.same (strans s1 s2), Nat.lt_of_le_of_lt (Ps.deep_le _) (by omega), po, ps, hVi, fun H3 q s3 ⟨us, hq, hus⟩ => ?_⟩
      have sD : L2.Same H1 H3 := strans s2 s3
      have sA : L2.Same H H3 := strans s1 sD
      refine ⟨_, rfl, .inl ⟨rfl, _, SqL.of (sD _ _ hD)⟩, _, rfl, _, rfl, _, rfl, b, _, _, _, rfl, rfl, SqT.of (sA _ _ hb), atI_nat hy, ?_⟩
      have hin3 : InSq F.many (through F inner (partsFor W i t) (idle F.many)) := through_sq hc.fok hVi po (idle_sq _)
      refine ⟨q, _, us, ws, _, _, F.many, rfl, hq, hus, ⟨yb, rfl, .inr (sD _ _ hyb)⟩, hws.same sD, hin3, (hVr.2 i hi').1, by omega, Nat.le_trans (sq_len9 (hVr.2 i hi').1 (hVr.2 i hi').2.nodup h3) (by omega), fun H4 q4 s4 nq4 ⟨us4, hq4, hus4⟩ => ?_⟩
      refine ⟨q4, us4, rfl, .inl ⟨SqL.of hq4, fun l nl => ?_⟩⟩
      have hD4 : upd H4 l (.tup us4) D = some (.lst zs) := get_new (s4 _ _ (sD _ _ hD)) nl
      refine ⟨D, zs, _, rfl, rfl, hD4, ?_, ?_⟩
      · have := hz.lenm
        rw [List.length_map, List.length_range] at this
        exact szL (by omega)
      · refine ⟨_, _, rfl, smut (snew (strans sA s4) nl) nD, _, upd_same, ?_⟩
        have tp : Tp H4 (upd (upd H4 l (.tup us4)) D (.lst (zs ++ [.ref l]))) := (Tp.new nl).trans (Tp.mut hD4 (by intro z y; cases y))
        rw [List.range_succ, List.map_append, List.map_append]
        refine ((hz.same (strans sD s4)).mono tp).append ⟨_, _, rfl, ⟨l, us4, rfl, ?_, hus4.mono tp⟩, rfl⟩
        rw [upd_ne (ne_of_none (s4 _ _ (sD _ _ hD)) nl).symm, upd_same]
    · rintro σ H1 ⟨v5, v6, rfl, s1, zs, hD, hz⟩
      refine ⟨_, rfl, D, zs, rfl, .inl ⟨SqL.of hD, fun l nl => k _ _ (snew s1 nl) ⟨l, zs, rfl, upd_same, hz.same (same_new nl)⟩⟩⟩
theorem ok_good {f : Addr} {fd : FuncData} (F : Fun K "good" "Effects.good" st_Effects_good f fd) (T : ECls K C) : FnOk P w K mg base CX0 1 f fd ["self", "value"] (spGood C) := by
  refine F.ok sc_Effects_good (fun vs H Q E h => ?_) (fun cdv A outer s H vs Q E hr h => ?_)
  · obtain ⟨_, _, _, _, _, _, rfl, _⟩ := h
    rfl
  · obtain ⟨p, vv, v, F, W, M, rfl, hE, hc, hv, hV, k⟩ := h
    refine ⟨_, (pss_cons (ps_for PassesOwn.never rfl (pi_tup (pe_ix ix_tup (pv 1) pe_int (fun _ _ => rfl))) (pg_tup rfl (pgs_cons (pg_name (i := 2) sc_Effects_good.nd rfl (Or.inl rfl)) (pgs_cons (pg_name (i := 3) sc_Effects_good.nd rfl (Or.inl rfl)) pgs_nil))) (pss_one (ps_if (PW.pt (pw_and (pt_cmpR op_in_seq (pv 2) (pe_ix ix_tup (pe_fld (pv 0) rfl) pe_int (fun _ _ => rfl)) (by rfl)) (pw_and1 (pt_cmpR op_in_seq (pv 3) (pe_ix ix_tup (pe_fld (pv 0) rfl) pe_int (fun _ _ => rfl)) (by rfl))))) (pss_one (ps_ret pe_bl)) pss_nil)))
      (pss_one (ps_ret pe_bl))), ?_⟩
    obtain ⟨dx, d, vt, hpp, hW, hF⟩ := id hE
    obtain ⟨b, ys, rfl, hb, hys⟩ := is_tup hv
    obtain ⟨tb, ps, pe, pr, rs, rfl, hA⟩ := is_form hF
    obtain ⟨yb, ws, hy, hyb, hws⟩ := val_at (b := b) hV hc.mp hys
    refine ⟨_, rfl, b, _, 0, _, rfl, rfl, SqT.of hb, atI_nat (j := 0) hy, yb, rfl, ⟨_, SqT.of hyb⟩, for_tup (a := yb) (xs := ws) (fun i σ H1 => H1 = H ∧ ∃ v2 v3, σ = [some (.ref p), some (.ref b), v2, v3] ∧ ((v.getD 0 []).take i).any (fun p => F.starts.contains p.1 && F.ends.contains p.2) = false)
      ⟨rfl, _, _, rfl, rfl⟩ (fun i σ H1 _ ⟨e, _⟩ => by rw [e]; exact SqT.of hyb) ?_ ?_⟩
    · rintro i x σ H1 hi ⟨rfl, v2, v3, rfl, hno⟩
      obtain ⟨q, hq, hx⟩ := hws.getm hi
      obtain ⟨c, rfl, hcp⟩ := is_pair hx
      refine ⟨c, _, rfl, SqT.of hcp, rfl, _, _, rfl, _, _, rfl, rfl, ?_⟩
      have yes : (F.starts.contains q.1 && F.ends.contains q.2) = false → ((v.getD 0 []).take (i + 1)).any (fun p => F.starts.contains p.1 && F.ends.contains p.2) = false := by
        intro h
        rw [take_snoc hq, List.any_append, hno, Bool.false_or, List.any_cons, h]
        rfl
      refine ⟨_, rfl, _, rfl, p, C, dx, _, _, rfl, hpp, T.cl, T.nT, efs_target, tb, _, 1, _, rfl, rfl, SqT.of hA.at_, rfl, ps, _, rfl, .inr (SqT.of hA.st), rfl, flat_ints _, F.starts.contains q.1, inI _ _, ?_⟩
      refine ite2 (fun z => ?_) (fun z => ?_)
      · refine ⟨_, rfl, _, rfl, p, C, dx, _, _, rfl, hpp, T.cl, T.nT, efs_target, tb, _, 2, _, rfl, rfl, SqT.of hA.at_, rfl, pe, _, rfl, .inr (SqT.of hA.en), rfl, flat_ints _, F.ends.contains q.2, inI _ _, ?_⟩
        refine ite2 (fun z2 => ?_) (fun z2 => ?_)
        · have : good F v = true := by
            unfold good
            rw [List.any_eq_true]
            exact ⟨q, List.mem_of_getElem? hq, by rw [z, z2]; rfl⟩
          rw [this] at k
          exact k
        · exact ⟨rfl, _, _, rfl, yes (by rw [Bool.not_eq_true] at z2; rw [z2, Bool.and_false])⟩
      · exact ⟨rfl, _, _, rfl, yes (by rw [Bool.not_eq_true] at z; rw [z, Bool.false_and])⟩
    · rintro σ H1 ⟨rfl, v2, v3, rfl, hno⟩
      rw [hws.lenm, List.take_length] at hno
      have : good F v = false := hno
      rw [this] at k
      exact k
end
end K76
set_option Elab.async false
set_option linter.all false
set_option maxRecDepth 100000
set_option maxHeartbeats 4000000
namespace K76
open PySem PySem.Spec PyProof.Rows L2
/-! ### the table's data -/
abbrev Row := KV2 × G
def encRow (x : Val × G) : D := .tup [encV x.1, gr x.2]
def look (rows : List Row) (k : KV2) : Option G := (rows.find? fun r => decide (r.1 = k)).map (·.2)
def setA (rows : List Row) (k : KV2) (g : G) : List Row := if k ∈ rows.map (·.1) then rows.map (fun r => if r.1 = k then (k, g) else r) else rows ++ [(k, g)]
theorem look_nil (k : KV2) : look [] k = none := rfl
theorem look_pos {r : Row} {rows : List Row} {k : KV2} (h : r.1 = k) : look (r :: rows) k = some r.2 := by simp [look, List.find?_cons, h]
theorem look_neg {r : Row} {rows : List Row} {k : KV2} (h : ¬ r.1 = k) : look (r :: rows) k = look rows k := by simp [look, List.find?_cons, h]
theorem look_mem {rows : List Row} {k : KV2} {g : G} (h : look rows k = some g) : (k, g) ∈ rows := by
  induction rows with
  | nil => cases h
  | cons r rows ih =>
    by_cases z : r.1 = k
    · rw [look_pos z] at h
      cases h
      rw [← z]; exact List.mem_cons_self
    · rw [look_neg z] at h
      exact List.mem_cons_of_mem _ (ih h)
theorem look_none {rows : List Row} {k : KV2} : look rows k = none ↔ k ∉ rows.map (·.1) := by
  induction rows with
  | nil => simp [look]
  | cons r rows ih =>
    by_cases z : r.1 = k
    · rw [look_pos z]; simp [z]
    · rw [look_neg z, ih, List.map_cons, List.mem_cons]
      constructor
      · rintro h (e | e)
        · exact z e.symm
        · exact h e
      · exact fun h e => h (.inr e)
theorem keys_setA (rows : List Row) (k : KV2) (g : G) : (setA rows k g).map (·.1) = addP (rows.map (·.1)) k := by
  unfold setA addP
  by_cases z : k ∈ rows.map (·.1)
  · rw [if_pos z, if_pos z, List.map_map]
    refine List.map_congr_left fun r _ => ?_
    by_cases e : r.1 = k <;> simp [e]
  · rw [if_neg z, if_neg z]; simp
theorem mem_setA {rows : List Row} {k : KV2} {g : G} {r : Row} (h : r ∈ setA rows k g) : r ∈ rows ∨ r = (k, g) := by
  unfold setA at h
  split at h
  · obtain ⟨s, hs, e⟩ := List.mem_map.mp h
    by_cases z : s.1 = k
    · rw [if_pos z] at e; exact .inr e.symm
    · rw [if_neg z] at e; exact .inl (e ▸ hs)
  · simpa using h
section
variable {R : D × V → Row → Prop} {kvs : List (D × V)} {rows : List Row}
theorem paired_val (h : Paired R kvs rows) (hR : ∀ kv r, R kv r → kv.1 = encK r.1) (k : KV2) :
    (look rows k = none ∧ valV kvs (encK k) = none) ∨ ∃ g v, look rows k = some g ∧ valV kvs (encK k) = some v ∧ R (encK k, v) (k, g) := by
  induction h with
  | nil => exact .inl ⟨rfl, rfl⟩
  | @cons p r ps rs h t ih =>
    have e := hR _ _ h
    by_cases z : r.1 = k
    · refine .inr ⟨r.2, p.2, look_pos z, valV_pos (by rw [e, z]), ?_⟩
      rw [← z, ← e]
      exact h
    · rw [look_neg z, valV_neg (fun y => z (encK_inj (e.symm.trans y)))]
      exact ih
theorem paired_mem (h : Paired R kvs rows) (hR : ∀ kv r, R kv r → kv.1 = encK r.1) (k : KV2) : encK k ∈ kvs.map (·.1) ↔ k ∈ rows.map (·.1) := by
  induction h with
  | nil => simp
  | @cons p r ps rs h t ih =>
    rw [List.map_cons, List.map_cons, List.mem_cons, List.mem_cons, ih, hR _ _ h]
    constructor
    · rintro (e | e)
      · exact .inl (encK_inj e)
      · exact .inr e
    · rintro (e | e)
      · exact .inl (by rw [e])
      · exact .inr e
theorem any_mem {kvs : List (D × V)} {k : D} : (kvs.any fun kv => decide (kv.1 = k)) = true ↔ k ∈ kvs.map (·.1) := by
  rw [List.any_eq_true, List.mem_map]
  constructor
  · rintro ⟨x, hx, e⟩
    exact ⟨x, hx, of_decide_eq_true e⟩
  · rintro ⟨x, hx, e⟩
    exact ⟨x, hx, decide_eq_true e⟩
theorem paired_put (h : Paired R kvs rows) (hR : ∀ kv r, R kv r → kv.1 = encK r.1) {k : KV2} {v : V} {g : G} (hv : R (encK k, v) (k, g)) : Paired R (putK kvs (encK k) v) (setA rows k g) := by
  have iff := paired_mem h hR k
  unfold putK setA
  by_cases z : k ∈ rows.map (·.1)
  · rw [if_pos z, if_pos (any_mem.mpr (iff.mpr z))]
    clear z iff
    induction h with
    | nil => exact .nil
    | @cons p r ps rs h t ih =>
      rw [List.map_cons, List.map_cons]
      refine .cons ?_ ih
      have e := hR _ _ h
      by_cases y : r.1 = k
      · rw [if_pos y, if_pos (by rw [e, y])]
        rw [e, y]; exact hv
      · rw [if_neg y, if_neg (fun q => y (encK_inj (e.symm.trans q)))]; exact h
  · rw [if_neg z, if_neg (fun q => z (iff.mp (any_mem.mp q)))]
    exact Paired.snoc h hv
theorem paired_drop (h : Paired R kvs rows) (hR : ∀ kv r, R kv r → kv.1 = encK r.1) (k : KV2) : Paired R (dropK kvs (encK k)) (rows.filter fun r => decide (r.1 ≠ k)) := by
  unfold dropK
  induction h with
  | nil => exact .nil
  | @cons p r ps rs h t ih =>
    have e := hR _ _ h
    rw [List.filter_cons, List.filter_cons]
    by_cases y : r.1 = k
    · rw [if_neg (by simp [e, y]), if_neg (by simp [y])]; exact ih
    · rw [if_pos (by simp only [ne_eq, decide_not, Bool.not_eq_true', decide_eq_false_iff_not]; exact fun q => y (encK_inj (e.symm.trans q))), if_pos (by simp [y])]
      exact .cons h ih
theorem paired_keys (h : Paired R kvs rows) (hR : ∀ kv r, R kv r → kv.1 = encK r.1) : kvs.map (·.1) = rows.map fun r => encK r.1 := by
  induction h with
  | nil => rfl
  | cons h t ih => rw [List.map_cons, List.map_cons, ih, hR _ _ h]
end
theorem paired_imp {α β : Type} {R R' : α → β → Prop} {l : List α} {m : List β} (h : Paired R l m) (f : ∀ a b, R a b → R' a b) : Paired R' l m := by
  induction h with
  | nil => exact .nil
  | cons h t ih => exact .cons (f _ _ h) ih
/-! ### dicts with nested keys: stores -/
section
variable {P : Program} {w : World} {H : Hp} {d b : Addr} {kvs : List (D × V)} {k : D} {v : V}
theorem nkeys_put {xs : List (D × Addr × V)} (h : NKeys H xs) (ok : KeyOk k) (hy : Is H k (.ref b)) : NKeys H (putN xs k b v) := by
  intro p hp
  unfold putN at hp
  split at hp
  · obtain ⟨x, hx, e⟩ := List.mem_map.mp hp
    by_cases z : x.1 = k
    · rw [if_pos z] at e; rw [← e]; exact h x hx
    · rw [if_neg z] at e; rw [← e]; exact h x hx
  · rcases List.mem_append.mp hp with hp | hp
    · exact h p hp
    · rw [List.mem_singleton.mp hp]; exact ⟨hy, ok⟩
theorem nat_put (h : NAt P w H d kvs) (ok : KeyOk k) (hy : Is H k (.ref b)) (hl : kvs.length ≤ 100000) (v : V) :
    ∃ φ ψ, H d = some (.ext φ) ∧ NPut P w H d (.ref b) v (upd H d (.ext ψ)) ∧ NAt P w (upd H d (.ext ψ)) d (putK kvs k v) := by
  obtain ⟨xs, rfl, hd, hk⟩ := h
  have hl' : xs.length < sizeLine := szL (by simpa [pairN] using hl)
  refine ⟨_, _, hd, ⟨xs, k, b, hd, hk, ok, rfl, hy, hl', rfl⟩, putN xs k b v, (pairN_put _ _ _ _).symm, upd_same, ?_⟩
  exact (nkeys_put hk ok hy).mono (Tp.mut hd (by intro z y; cases y))
theorem nat_get (h : NAt P w H d kvs) (ok : KeyOk k) (hy : Is H k v) : NGet P w H d v (valV kvs k) := ⟨kvs, k, h.r, ok, hy, rfl⟩
theorem nat_drop (h : NAt P w H d kvs) (k : D) : ∃ xs, kvs = pairN xs ∧ H d = some (ND P w d xs) ∧ NKeys H xs ∧ NAt P w (upd H d (ND P w d (xs.filter fun x => decide (x.1 ≠ k)))) d (dropK kvs k) := by
  obtain ⟨xs, rfl, hd, hk⟩ := h
  refine ⟨xs, rfl, hd, hk, _, (pairN_drop _ _).symm, upd_same, ?_⟩
  exact NKeys.mono (Tp.mut hd (by intro z y; cases y)) fun p hp => hk p (List.mem_filter.mp hp).1
end
/-! ### the search object -/
def sfs (A m r w b l : V) (n : Int) : List (Str × V) := [("held", A), ("measure", m), ("rows", r), ("waiting", w), ("beyond", b), ("steps", .int n), ("lists", l)]
/-- what of a search stays as it is -/
structure SC where
  H0 : Hp
  CE : Addr
  CS : Addr
  p : Addr
  dx : Addr
  pm : Addr
  dr : Addr
  dw : Addr
  db : Addr
  dl : Addr
  vA : V
  ls : List Addr
  A : Form
  F : Form
  W : Way
  M : Nat
/-- the law's own form -/
structure AOk (A : Form) : Prop where
  fok : FOk A
  few : A.many ≤ 3
  rul : A.rules.length ≤ 12
  tag : ∀ r ∈ A.rules, r.tag ≠ END
  end_ : A.ends.length ≤ 10
  sta : A.starts.length ≤ 10
structure SC.Ok (c : SC) : Prop where
  fp : c.H0 c.p = none
  fr : c.H0 c.dr = none
  fw : c.H0 c.dw = none
  fb : c.H0 c.db = none
  fl : ∀ l ∈ c.ls, c.H0 l = none
  rw_ : c.dr ≠ c.dw
  rb : c.dr ≠ c.db
  wb : c.dw ≠ c.db
  ll : c.ls.length = c.A.many
  ln : c.ls.Nodup
  dl : c.dl ∉ c.ls
  eff : Eff c.CE c.H0 c.pm c.F c.W c.M
  ctx : Ctx c.F c.W c.M
  isA : Is c.H0 (encF c.A) c.vA
  aok : AOk c.A
structure SS where
  rows : List Row
  waiting : List Row
  beyond : List KV2
  steps : Nat
  listed : List Row
  conts : List (List V)
def byKind (rows : List Row) (k : Int) : List (Val × G) := (rows.filter fun r => r.1.1 == k).map fun r => (r.1.2, r.2)
def RowP (H : Hp) (kv : D × V) (r : Row) : Prop := kv.1 = encK r.1 ∧ Is H (gr r.2) kv.2
def WEnt (ls : List Addr) (H : Hp) (v : V) (g : G) : Prop := ∃ a t wl gv, v = .ref a ∧ H a = some (.tup [.ref t, gv]) ∧ H t = some (.tup [.int ((words g).length : Int), .ref wl]) ∧ wl ∉ ls ∧ H wl = some (.lst ((words g).map V.str)) ∧ Is H (gr g) gv
def WaitP (ls : List Addr) (H : Hp) (kv : D × V) (r : Row) : Prop := kv.1 = encK r.1 ∧ WEnt ls H kv.2 r.2
/-- tuples stand, and lists that are not in ls -/
structure Md (ls : List Addr) (H H' : Hp) : Prop where
  tp : Tp H H'
  ls : ∀ a xs, a ∉ ls → H a = some (.lst xs) → H' a = some (.lst xs)
theorem Md.of {ls : List Addr} {H H' : Hp} (s : L2.Same H H') : Md ls H H' := ⟨Tp.of s, fun a xs _ h => s _ _ h⟩
theorem Md.trans {ls : List Addr} {H H1 H2 : Hp} (a : Md ls H H1) (b : Md ls H1 H2) : Md ls H H2 := ⟨a.tp.trans b.tp, fun x xs h e => b.ls x xs h (a.ls x xs h e)⟩
/-- an object that is no tuple and no list changes -/
theorem Md.mut {ls : List Addr} {H : Hp} {p : Addr} {o u : HO} (h : H p = some u) (h1 : ∀ xs, u ≠ .tup xs) (h2 : ∀ xs, u ≠ .lst xs) : Md ls H (upd H p o) :=
  ⟨Tp.mut h h1, fun a xs _ e => by rw [upd_ne (ne_of e h (fun z => h2 xs z.symm))]; exact e⟩
theorem Md.mutL {ls : List Addr} {H : Hp} {p : Addr} {o u : HO} (h : H p = some u) (h1 : ∀ xs, u ≠ .tup xs) (h2 : p ∈ ls) : Md ls H (upd H p o) :=
  ⟨Tp.mut h h1, fun a xs n e => by rw [upd_ne (fun z => n (by rw [z]; exact h2))]; exact e⟩
theorem RowP.tp {H H' : Hp} (t : Tp H H') {kv : D × V} {r : Row} (h : RowP H kv r) : RowP H' kv r := ⟨h.1, Is.mono t _ h.2⟩
theorem WaitP.md {ls : List Addr} {H H' : Hp} (t : Md ls H H') {kv : D × V} {r : Row} (h : WaitP ls H kv r) : WaitP ls H' kv r := by
  obtain ⟨h1, a, tt, wl, gv, e, h2, h3, h4, h5, h6⟩ := h
  exact ⟨h1, a, tt, wl, gv, e, t.tp _ _ h2, t.tp _ _ h3, h4, t.ls _ _ h4 h5, Is.mono t.tp _ h6⟩
structure Srch (P : Program) (w : World) (c : SC) (H : Hp) (S : SS) : Prop where
  same : L2.Same c.H0 H
  at_ : H c.p = some (.ins c.CS c.dx (sfs c.vA (.ref c.pm) (.ref c.dr) (.ref c.dw) (.ref c.db) (.ref c.dl) S.steps))
  rows : ∃ kvs, NAt P w H c.dr kvs ∧ Paired (RowP H) kvs S.rows
  wait : ∃ kvs, NAt P w H c.dw kvs ∧ Paired (WaitP c.ls H) kvs S.waiting
  bey : ∃ kvs, NAt P w H c.db kvs ∧ kvs.map (·.1) = S.beyond.map encK
  dl : H c.dl = some (.lst (c.ls.map V.ref))
  cl : S.conts.length = c.ls.length
  li : ∀ (k : Nat) (l : Addr) (xs : List V), c.ls[k]? = some l → S.conts[k]? = some xs → H l = some (.lst xs) ∧ IsAll H ((byKind S.listed (k : Int)).map encRow) xs
section
variable {P : Program} {w : World} {c : SC} {H H' : Hp} {S : SS}
theorem nat_same {d : Addr} {kvs : List (D × V)} (h : NAt P w H d kvs) (s : L2.Same H H') : NAt P w H' d kvs := h.same s
theorem Srch.new (h : Srch P w c H S) (s : L2.Same H H') : Srch P w c H' S := by
  obtain ⟨h1, h2, ⟨k3, n3, p3⟩, ⟨k4, n4, p4⟩, ⟨k5, n5, p5⟩, h6, h7, h8⟩ := h
  refine ⟨strans h1 s, s _ _ h2, ⟨k3, n3.same s, paired_imp p3 fun _ _ h => h.tp (Tp.of s)⟩, ⟨k4, n4.same s, paired_imp p4 fun _ _ h => h.md (Md.of s)⟩, ⟨k5, n5.same s, p5⟩, s _ _ h6, h7, fun k l xs e1 e2 => ?_⟩
  obtain ⟨a, b⟩ := h8 k l xs e1 e2
  exact ⟨s _ _ a, b.same s⟩
/-- the lists at the places are lists -/
theorem Srch.lst (h : Srch P w c H S) {l : Addr} (hl : l ∈ c.ls) : ∃ xs, H l = some (.lst xs) := by
  obtain ⟨k, hk⟩ := List.getElem?_of_mem hl
  have hlt : k < c.ls.length := (List.getElem?_eq_some_iff.mp hk).1
  obtain ⟨xs, hx⟩ : ∃ xs, S.conts[k]? = some xs := ⟨_, List.getElem?_eq_getElem (by rw [h.cl]; exact hlt)⟩
  exact ⟨xs, (h.li k l xs hk hx).1⟩
/-- an object of the search changes that is neither tuple nor list -/
theorem Srch.keep (ok : c.Ok) (h : Srch P w c H S) {q : Addr} {o u : HO} (hq : H q = some u) (h1 : ∀ xs, u ≠ .tup xs) (h2 : ∀ xs, u ≠ .lst xs) (fq : c.H0 q = none) :
    L2.Same c.H0 (upd H q o) ∧ (q ≠ c.p → upd H q o c.p = some (.ins c.CS c.dx (sfs c.vA (.ref c.pm) (.ref c.dr) (.ref c.dw) (.ref c.db) (.ref c.dl) S.steps))) ∧
    (q ≠ c.dr → ∃ kvs, NAt P w (upd H q o) c.dr kvs ∧ Paired (RowP (upd H q o)) kvs S.rows) ∧
    (q ≠ c.dw → ∃ kvs, NAt P w (upd H q o) c.dw kvs ∧ Paired (WaitP c.ls (upd H q o)) kvs S.waiting) ∧
    (q ≠ c.db → ∃ kvs, NAt P w (upd H q o) c.db kvs ∧ kvs.map (·.1) = S.beyond.map encK) ∧
    upd H q o c.dl = some (.lst (c.ls.map V.ref)) ∧
    (∀ (k : Nat) (l : Addr) (xs : List V), c.ls[k]? = some l → S.conts[k]? = some xs → upd H q o l = some (.lst xs) ∧ IsAll (upd H q o) ((byKind S.listed (k : Int)).map encRow) xs) := by
  have md : Md c.ls H (upd H q o) := Md.mut hq h1 h2
  obtain ⟨a1, a2, ⟨k3, n3, p3⟩, ⟨k4, n4, p4⟩, ⟨k5, n5, p5⟩, a6, a7, a8⟩ := h
  refine ⟨smut a1 fq, fun z => by rw [upd_ne z.symm]; exact a2, fun z => ⟨k3, n3.mono md.tp (upd_ne z.symm), paired_imp p3 fun _ _ h => h.tp md.tp⟩, fun z => ⟨k4, n4.mono md.tp (upd_ne z.symm), paired_imp p4 fun _ _ h => h.md md⟩,
    fun z => ⟨k5, n5.mono md.tp (upd_ne z.symm), p5⟩, md.ls _ _ ok.dl a6, fun k l xs e1 e2 => ?_⟩
  obtain ⟨a, b⟩ := a8 k l xs e1 e2
  exact ⟨by rw [upd_ne (ne_of a hq (fun z => h2 xs z.symm))]; exact a, b.mono md.tp⟩
theorem Srch.setSteps (ok : c.Ok) (h : Srch P w c H S) (n : Nat) : Srch P w c (upd H c.p (.ins c.CS c.dx (sfs c.vA (.ref c.pm) (.ref c.dr) (.ref c.dw) (.ref c.db) (.ref c.dl) n))) { S with steps := n } ∧
    Md c.ls H (upd H c.p (.ins c.CS c.dx (sfs c.vA (.ref c.pm) (.ref c.dr) (.ref c.dw) (.ref c.db) (.ref c.dl) n))) := by
  obtain ⟨b1, b2, b3, b4, b5, b6, b7⟩ := h.keep ok (o := .ins c.CS c.dx (sfs c.vA (.ref c.pm) (.ref c.dr) (.ref c.dw) (.ref c.db) (.ref c.dl) n)) h.at_ (by intro z y; cases y) (by intro z y; cases y) ok.fp
  have e1 : c.p ≠ c.dr := by obtain ⟨_, n3, _⟩ := h.rows; obtain ⟨φ, e⟩ := n3.some; exact ne_of h.at_ e (by intro z; cases z)
  have e2 : c.p ≠ c.dw := by obtain ⟨_, n3, _⟩ := h.wait; obtain ⟨φ, e⟩ := n3.some; exact ne_of h.at_ e (by intro z; cases z)
  have e3 : c.p ≠ c.db := by obtain ⟨_, n3, _⟩ := h.bey; obtain ⟨φ, e⟩ := n3.some; exact ne_of h.at_ e (by intro z; cases z)
  exact ⟨⟨b1, upd_same, b3 e1, b4 e2, b5 e3, b6, h.cl, b7⟩, Md.mut h.at_ (by intro z y; cases y) (by intro z y; cases y)⟩
theorem Srch.ned (h : Srch P w c H S) : c.p ≠ c.dr ∧ c.p ≠ c.dw ∧ c.p ≠ c.db := by
  refine ⟨?_, ?_, ?_⟩
  · obtain ⟨_, n3, _⟩ := h.rows; obtain ⟨φ, e⟩ := n3.some; exact ne_of h.at_ e (by intro z; cases z)
  · obtain ⟨_, n3, _⟩ := h.wait; obtain ⟨φ, e⟩ := n3.some; exact ne_of h.at_ e (by intro z; cases z)
  · obtain ⟨_, n3, _⟩ := h.bey; obtain ⟨φ, e⟩ := n3.some; exact ne_of h.at_ e (by intro z; cases z)
theorem paired_len {α β : Type} {R : α → β → Prop} {l : List α} {m : List β} (h : Paired R l m) : l.length = m.length := Paired.length h
theorem Srch.putBeyond (ok : c.Ok) (h : Srch P w c H S) {k : KV2} {b : Addr} (hk : Is H (encK k) (.ref b)) (hl : S.beyond.length ≤ 100000) (v : V) :
    ∃ ψ, NPut P w H c.db (.ref b) v (upd H c.db (.ext ψ)) ∧ Srch P w c (upd H c.db (.ext ψ)) { S with beyond := addP S.beyond k } ∧ Md c.ls H (upd H c.db (.ext ψ)) := by
  obtain ⟨kvs, n5, p5⟩ := h.bey
  have hlen : kvs.length = S.beyond.length := by have := congrArg List.length p5; simpa using this
  obtain ⟨φ, ψ, e1, e2, e3⟩ := nat_put n5 (encK_ok k) hk (by omega) v
  obtain ⟨b1, b2, b3, b4, b5, b6, b7⟩ := h.keep ok (o := .ext ψ) e1 (by intro z y; cases y) (by intro z y; cases y) ok.fb
  refine ⟨ψ, e2, ⟨b1, b2 h.ned.2.2.symm, b3 ok.rb.symm, b4 ok.wb.symm, ⟨_, e3, ?_⟩, b6, h.cl, b7⟩, Md.mut e1 (by intro z y; cases y) (by intro z y; cases y)⟩
  rw [keys_putK, p5]
  unfold addP
  have : encK k ∈ S.beyond.map encK ↔ k ∈ S.beyond := by
    constructor
    · intro z
      obtain ⟨y, hy, e⟩ := List.mem_map.mp z
      rw [← encK_inj e]; exact hy
    · exact fun z => List.mem_map_of_mem z
  by_cases z : k ∈ S.beyond
  · rw [if_pos (this.mpr z), if_pos z]
  · rw [if_neg (fun q => z (this.mp q)), if_neg z]; simp
theorem Srch.putWait (ok : c.Ok) (h : Srch P w c H S) {k : KV2} {b : Addr} {v : V} {g : G} (hk : Is H (encK k) (.ref b)) (hl : S.waiting.length ≤ 100000) (hv : WEnt c.ls H v g) :
    ∃ ψ, NPut P w H c.dw (.ref b) v (upd H c.dw (.ext ψ)) ∧ Srch P w c (upd H c.dw (.ext ψ)) { S with waiting := setA S.waiting k g } ∧ Md c.ls H (upd H c.dw (.ext ψ)) := by
  obtain ⟨kvs, n5, p5⟩ := h.wait
  have hlen : kvs.length = S.waiting.length := paired_len p5
  obtain ⟨φ, ψ, e1, e2, e3⟩ := nat_put n5 (encK_ok k) hk (by omega) v
  obtain ⟨b1, b2, b3, b4, b5, b6, b7⟩ := h.keep ok (o := .ext ψ) e1 (by intro z y; cases y) (by intro z y; cases y) ok.fw
  have md : Md c.ls H (upd H c.dw (.ext ψ)) := Md.mut e1 (by intro z y; cases y) (by intro z y; cases y)
  refine ⟨ψ, e2, ⟨b1, b2 h.ned.2.1.symm, b3 ok.rw_.symm, ⟨_, e3, paired_imp (paired_put p5 (fun _ _ h => h.1) ?_) fun _ _ h => h.md md⟩, b5 ok.wb, b6, h.cl, b7⟩, md⟩
  exact ⟨rfl, hv⟩
theorem Srch.putRow (ok : c.Ok) (h : Srch P w c H S) {k : KV2} {b : Addr} {v : V} {g : G} (hk : Is H (encK k) (.ref b)) (hl : S.rows.length ≤ 100000) (hv : Is H (gr g) v) :
    ∃ ψ, NPut P w H c.dr (.ref b) v (upd H c.dr (.ext ψ)) ∧ Srch P w c (upd H c.dr (.ext ψ)) { S with rows := setA S.rows k g } ∧ Md c.ls H (upd H c.dr (.ext ψ)) := by
  obtain ⟨kvs, n5, p5⟩ := h.rows
  have hlen : kvs.length = S.rows.length := paired_len p5
  obtain ⟨φ, ψ, e1, e2, e3⟩ := nat_put n5 (encK_ok k) hk (by omega) v
  obtain ⟨b1, b2, b3, b4, b5, b6, b7⟩ := h.keep ok (o := .ext ψ) e1 (by intro z y; cases y) (by intro z y; cases y) ok.fr
  have md : Md c.ls H (upd H c.dr (.ext ψ)) := Md.mut e1 (by intro z y; cases y) (by intro z y; cases y)
  refine ⟨ψ, e2, ⟨b1, b2 h.ned.1.symm, ⟨_, e3, paired_imp (paired_put p5 (fun _ _ h => h.1) ?_) fun _ _ h => h.tp md.tp⟩, b4 ok.rw_, b5 ok.rb, b6, h.cl, b7⟩, md⟩
  exact ⟨rfl, hv⟩
theorem Srch.popWait (ok : c.Ok) (h : Srch P w c H S) (k : KV2) :
    ∃ kvs xs, kvs = pairN xs ∧ H c.dw = some (ND P w c.dw xs) ∧ NKeys H xs ∧ Paired (WaitP c.ls H) kvs S.waiting ∧
      Srch P w c (upd H c.dw (ND P w c.dw (xs.filter fun x => decide (x.1 ≠ encK k)))) { S with waiting := S.waiting.filter fun r => decide (r.1 ≠ k) } ∧ Md c.ls H (upd H c.dw (ND P w c.dw (xs.filter fun x => decide (x.1 ≠ encK k)))) := by
  obtain ⟨kvs, n5, p5⟩ := h.wait
  obtain ⟨xs, e0, e1, e2, e3⟩ := nat_drop n5 (encK k)
  obtain ⟨b1, b2, b3, b4, b5, b6, b7⟩ := h.keep ok (o := ND P w c.dw (xs.filter fun x => decide (x.1 ≠ encK k))) e1 (by intro z y; cases y) (by intro z y; cases y) ok.fw
  have md : Md c.ls H (upd H c.dw (ND P w c.dw (xs.filter fun x => decide (x.1 ≠ encK k)))) := Md.mut e1 (by intro z y; cases y) (by intro z y; cases y)
  exact ⟨kvs, xs, e0, e1, e2, p5, ⟨b1, b2 h.ned.2.1.symm, b3 ok.rw_.symm, ⟨_, e3, paired_imp (paired_drop p5 (fun _ _ h => h.1) k) fun _ _ h => h.md md⟩, b5 ok.wb, b6, h.cl, b7⟩, md⟩
theorem byKind_snoc (rows : List Row) (r : Row) (k : Int) : byKind (rows ++ [r]) k = byKind rows k ++ (if r.1.1 = k then [(r.1.2, r.2)] else []) := by
  unfold byKind
  rw [List.filter_append, List.map_append]
  by_cases z : r.1.1 = k <;> simp [z]
theorem Srch.putList (ok : c.Ok) (h : Srch P w c H S) {k : KV2} {g : G} {j : Nat} {l : Addr} {xs : List V} {x : V} (hj : k.1 = (j : Int)) (hl : c.ls[j]? = some l) (hx : S.conts[j]? = some xs) (hr : Is H (encRow (k.2, g)) x) :
    Srch P w c (upd H l (.lst (xs ++ [x]))) { S with listed := S.listed ++ [(k, g)], conts := S.conts.set j (xs ++ [x]) } ∧ Md c.ls H (upd H l (.lst (xs ++ [x]))) := by
  have ⟨hl1, hl2⟩ := h.li j l xs hl hx
  have lm : l ∈ c.ls := List.mem_of_getElem? hl
  have md : Md c.ls H (upd H l (.lst (xs ++ [x]))) := Md.mutL hl1 (by intro z y; cases y) lm
  obtain ⟨k3, n3, p3⟩ := h.rows
  obtain ⟨k4, n4, p4⟩ := h.wait
  obtain ⟨k5, n5, p5⟩ := h.bey
  have q3 : c.dr ≠ l := by obtain ⟨φ, e⟩ := n3.some; exact ne_of e hl1 (by intro z; cases z)
  have q4 : c.dw ≠ l := by obtain ⟨φ, e⟩ := n4.some; exact ne_of e hl1 (by intro z; cases z)
  have q5 : c.db ≠ l := by obtain ⟨φ, e⟩ := n5.some; exact ne_of e hl1 (by intro z; cases z)
  refine ⟨⟨smut h.same (ok.fl l lm), by rw [upd_ne (ne_of h.at_ hl1 (by intro z; cases z))]; exact h.at_, ⟨k3, n3.mono md.tp (upd_ne q3), paired_imp p3 fun _ _ h => h.tp md.tp⟩,
    ⟨k4, n4.mono md.tp (upd_ne q4), paired_imp p4 fun _ _ h => h.md md⟩, ⟨k5, n5.mono md.tp (upd_ne q5), p5⟩, ?_, by simpa using h.cl, fun k' l' xs' e1 e2 => ?_⟩, md⟩
  · rw [upd_ne (fun z => ok.dl (by rw [z]; exact lm))]; exact h.dl
  · rw [byKind_snoc]
    have hlt : j < c.ls.length := (List.getElem?_eq_some_iff.mp hl).1
    by_cases z : k' = j
    · subst z
      rw [hl] at e1; cases e1
      rw [List.getElem?_set_self (by rw [h.cl]; exact hlt)] at e2
      cases e2
      rw [if_pos hj, List.map_append]
      exact ⟨upd_same, (hl2.mono md.tp).append ⟨_, _, rfl, Is.mono md.tp _ hr, rfl⟩⟩
    · rw [List.getElem?_set_ne (fun y => z y.symm)] at e2
      have ⟨a, b⟩ := h.li k' l' xs' e1 e2
      have ne : l' ≠ l := by
        intro y
        subst y
        have i1 : k' < c.ls.length := (List.getElem?_eq_some_iff.mp e1).1
        exact z ((List.getElem?_inj i1 ok.ln).mp (e1.trans hl.symm))
      rw [if_neg (by rw [hj]; intro y; apply z; omega), List.append_nil]
      exact ⟨by rw [upd_ne ne]; exact a, b.mono md.tp⟩
end
end K76
set_option Elab.async false
set_option linter.all false
set_option maxRecDepth 100000
set_option maxHeartbeats 4000000
namespace K76
open PySem PySem.Spec PyProof.Rows L2
theorem dp_strs {K : PySem.W.Frag} {H : Hp} : ∀ ws : List Tag, DpAll K H (ws.map V.str) (ws.map PyData.str)
  | [] => .nil
  | t :: ws => .cons (.str t) (dp_strs ws)
theorem dp_list {K : PySem.W.Frag} {H : Hp} {a : Addr} {ws : List Tag} (h : H a = some (.lst (ws.map V.str))) : Dp K H (.ref a) (.list (ws.map PyData.str)) := .lst (SqL.of h) (dp_strs ws)
theorem alike_strs (l m : List Tag) : PySem.W.alike (.list (l.map PyData.str)) (.list (m.map PyData.str)) = true := by
  show PySem.W.alikeAll _ _ = true
  exact alikeAll_map (fun a b => rfl) l m
theorem depth_strs : ∀ l : List Tag, PyData.depthAll (l.map PyData.str) = 0
  | [] => rfl
  | t :: l => by rw [List.map_cons, PyData.depthAll, depth_strs l]; rfl
/-! ### before, least_among -/
def spBefore : Sp := fun vs H Q _ => ∃ (v1 v2 : V) (g1 g2 : G), vs = [v1, v2] ∧ Is H (gr g1) v1 ∧ Is H (gr g2) v2 ∧ g1.size ≤ 1000 ∧ g2.size ≤ 1000 ∧ ∀ H' b, L2.Same H H' → Q (.bl b) H'
def spLeast : Sp := fun vs H Q _ => ∃ (a : Addr) (xs : List V) (gs : List G), vs = [.ref a] ∧ H a = some (.lst xs) ∧ IsAll H (gs.map gr) xs ∧ (∀ g ∈ gs, g.size ≤ 1000) ∧ gs ≠ [] ∧ ∀ H' v g, L2.Same H H' → g ∈ gs → Is H' (gr g) v → Q v H'
abbrev st_before : Stmt := top 16
theorem sc_before : FnScope ["one", "other", "ones", "others"] ["one", "other"] (defScope st_before) := ⟨rfl, rfl, rfl, by decide +kernel, rfl, by decide +kernel, by decide +kernel⟩
abbrev st_least_among : Stmt := top 17
theorem sc_least_among : FnScope ["groves", "least", "grove"] ["groves"] (defScope st_least_among) := ⟨rfl, rfl, rfl, by decide +kernel, rfl, by decide +kernel, by decide +kernel⟩
section
variable {P : Program} {w : World} {K : PySem.W.Frag} {mg : Str → Option Value} {base : Heap}
theorem ok_before {f : Addr} {fd : FuncData} (F : Fun K "before" "before" st_before f fd) (B : Gb mg) (F_words_of : Callable P w K mg base CX0 1 "words_of" ["grove"] spWords) : FnOk P w K mg base CX0 2 f fd ["one", "other"] spBefore := by
  refine F.ok sc_before (fun vs H Q E h => ?_) (fun cdv A outer s H vs Q E hr h => ?_)
  · obtain ⟨_, _, _, _, rfl, _⟩ := h
    rfl
  · obtain ⟨v1, v2, g1, g2, rfl, h1, h2, s1, s2, k⟩ := h
    have hu := hr.units
    refine ⟨_, (pss_cons (ps_set (i := 2) sc_before.nd rfl (Or.inl rfl) (pe_callF F_words_of (hr.mono (by decide)) rfl pass0 (pa_cons (pv 0) pa_nil)))
      (pss_cons (ps_set (i := 3) sc_before.nd rfl (Or.inl rfl) (pe_callF F_words_of (hr.mono (by decide)) rfl pass0 (pa_cons (pv 1) pa_nil)))
      (pss_cons (ps_if (pt_cmpR op_ne (pe_callB call_len_seq (by rfl) B.len PySem.boot_len (pa_cons (pv 2) pa_nil)) (pe_callB call_len_seq (by rfl) B.len PySem.boot_len (pa_cons (pv 3) pa_nil)) (nomark _)) (pss_one (ps_ret (pe_cmpR op_lt (pe_callB call_len_seq (by rfl) B.len PySem.boot_len (pa_cons (pv 2) pa_nil)) (pe_callB call_len_seq (by rfl) B.len PySem.boot_len (pa_cons (pv 3) pa_nil)) (nomark _)))) pss_nil)
      (pss_one (ps_ret (pe_cmpR (op_ltD hu) (pv 2) (pv 3) (nomark _))))))), ?_⟩
    refine ⟨_, rfl, v1, g1, rfl, h1, s1, fun H1 p1 q1 n1 w1 => ?_⟩
    refine ⟨_, rfl, v2, g2, rfl, h2.same q1, s2, fun H2 p2 q2 n2 w2 => ?_⟩
    have w1' := q2 _ _ w1
    refine ⟨_, rfl, p1, _, rfl, .inl (SqL.of w1'), _, rfl, p2, _, rfl, .inl (SqL.of w2), rfl, _, rfl, ?_⟩
    refine ite2 (fun _ => ?_) (fun _ => ?_)
    · exact ⟨_, rfl, p1, _, rfl, .inl (SqL.of w1'), _, rfl, p2, _, rfl, .inl (SqL.of w2), _, _, rfl, rfl, k _ _ (strans q1 q2)⟩
    · refine ⟨_, rfl, _, rfl, _, _, dp_list w1', dp_list w2, alike_strs _ _, (by intro z; cases z), ?_, fun b => k _ _ (strans q1 q2)⟩
      show PyData.depthAll _ + 1 ≤ 60
      rw [depth_strs]; omega
theorem ok_least {f : Addr} {fd : FuncData} (F : Fun K "least_among" "least_among" st_least_among f fd) (F_before : Callable P w K mg base CX0 2 "before" ["one", "other"] spBefore) : FnOk P w K mg base CX0 3 f fd ["groves"] spLeast := by
  refine F.ok sc_least_among (fun vs H Q E h => ?_) (fun cdv A outer s H vs Q E hr h => ?_)
  · obtain ⟨_, _, _, rfl, _⟩ := h
    rfl
  · obtain ⟨a, xs, gs, rfl, ha, hxs, hs, hne, k⟩ := h
    refine ⟨_, (pss_cons (ps_set (i := 1) sc_least_among.nd rfl (Or.inl rfl) pe_non)
      (pss_cons (ps_for PassesOwn.never rfl (pi_list (pv 0)) (pg_name (i := 2) sc_least_among.nd rfl (Or.inl rfl)) (pss_one (ps_if (PW.pt (pw_or (pt_cmpR op_isN (pv 1) pe_non (nomark _)) (pw_or1 (pt_val (pe_callF F_before (hr.mono (by decide)) rfl pass0 (pa_cons (pv 2) (pa_cons (pv 1) pa_nil))))))) (pss_one (ps_set (i := 1) sc_least_among.nd rfl (Or.inl rfl) (pv 2))) pss_nil)))
      (pss_one (ps_ret (pv 1))))), ?_⟩
    refine ⟨_, rfl, a, rfl, ⟨xs, SqL.of ha⟩, for_list (a := a) (xs := xs) (fun i σ H1 => L2.Same H H1 ∧ ∃ v1 v2, σ = [some (.ref a), some v1, v2] ∧ ((i = 0 ∧ v1 = .non) ∨ ∃ g, g ∈ gs ∧ Is H1 (gr g) v1))
      ⟨srefl H, _, _, rfl, .inl ⟨rfl, rfl⟩⟩ (fun i σ H1 _ ⟨s, _⟩ => SqL.of (s _ _ ha)) ?_ ?_⟩
    · rintro i x σ H1 hi ⟨s1, v1, v2, rfl, hv⟩
      obtain ⟨g, hg, hx⟩ := hxs.getm hi
      have hx1 := hx.same s1
      have gm := List.mem_of_getElem? hg
      refine ⟨_, rfl, rfl, _, rfl, ?_⟩
      rcases hv with ⟨_, rfl⟩ | ⟨g', hg', hv⟩
      · refine iteT ?_
        exact ⟨_, rfl, s1, _, _, rfl, .inr ⟨g, gm, hx1⟩⟩
      · refine ite2 (fun _ => ?_) (fun _ => ?_)
        · exact ⟨_, rfl, s1, _, _, rfl, .inr ⟨g, gm, hx1⟩⟩
        · refine ⟨_, rfl, _, rfl, x, v1, g, g', rfl, hx1, hv, hs g gm, hs g' hg', fun H2 b s2 => ⟨_, rfl, ?_⟩⟩
          refine ite2 (fun _ => ?_) (fun _ => ?_)
          · exact ⟨_, rfl, strans s1 s2, _, _, rfl, .inr ⟨g, gm, hx1.same s2⟩⟩
          · exact ⟨strans s1 s2, _, _, rfl, .inr ⟨g', hg', hv.same s2⟩⟩
    · rintro σ H1 ⟨s1, v1, v2, rfl, hv⟩
      rcases hv with ⟨h0, _⟩ | ⟨g, hg, hv⟩
      · rw [hxs.lenm] at h0
        exact absurd (List.length_eq_zero_iff.mp h0) hne
      · exact ⟨_, rfl, k _ _ g s1 hg hv⟩
end
end K76
set_option Elab.async false
set_option linter.all false
set_option maxRecDepth 100000
set_option maxHeartbeats 4000000
namespace K76
open PySem PySem.Spec PyProof.Rows L2
/-- an exception class of the program -/
structure ETxt (K : PySem.W.Frag) (mg : Str → Option Value) (x : Str) (C : Addr) : Prop where
  g : mg x = some (.ref C)
  xe : PySem.W.excIn K C [.type "ValueError", .type "Exception", .type "BaseException", .type "object"] "ValueError.__new__" = true
  kp : PySem.W.keepIn K (.ref C) = true
  b : PySem.W.subIn K (.ref C) (.type "BaseException") = some true
  t : PySem.W.typeIn K (.ref C) = some (.type "type")
structure SCls (K : PySem.W.Frag) (C : Addr) : Prop where
  cl : Cls K C
  nH : NoAttr K C "held"
  nM : NoAttr K C "measure"
  nR : NoAttr K C "rows"
  nW : NoAttr K C "waiting"
  nB : NoAttr K C "beyond"
  nS : NoAttr K C "steps"
  nL : NoAttr K C "lists"
def Meet (S : SS) (k : KV2) (g : G) (S' : SS) : Prop :=
  (k ∈ S.rows.map (·.1) ∧ S' = S) ∨ (k ∉ S.rows.map (·.1) ∧ ((300 < g.size ∧ S' = { S with beyond := addP S.beyond k }) ∨
    (g.size ≤ 300 ∧ (S' = { S with waiting := setA S.waiting k g } ∨ (k ∈ S.waiting.map (·.1) ∧ S' = S)) ∧ S'.rows.length + S'.waiting.length ≤ 64)))
def Burst (S : SS) (k : KV2) (g : G) : Prop := k ∉ S.rows.map (·.1) ∧ g.size ≤ 300 ∧ ((k ∈ S.waiting.map (·.1) ∧ 64 < S.rows.length + S.waiting.length) ∨ 64 < S.rows.length + (setA S.waiting k g).length)
def spMeet (P : Program) (w : World) (CS CT : Addr) : Sp := fun vs H Q E => ∃ (c : SC) (S : SS) (k : KV2) (g : G) (vp vg : V), vs = [.ref c.p, vp, vg] ∧ c.CS = CS ∧ c.Ok ∧ Srch P w c H S ∧ Is H (encK k) vp ∧ Is H (gr g) vg ∧ g.size ≤ 1000 ∧
  S.rows.length ≤ 1000 ∧ S.waiting.length ≤ 1000 ∧ S.beyond.length ≤ 10000 ∧ (∀ S' H', Meet S k g S' → Srch P w c H' S' → Md c.ls H H' → Q .non H') ∧ (Burst S k g → ∀ H', L2.Same c.H0 H' → E (.ref CT) none H')
abbrev st_Search_meet : Stmt := inClass (top 22) 1
theorem sc_Search_meet : FnScope ["self", "pair", "grove", "words"] ["self", "pair", "grove"] (defScope st_Search_meet) := ⟨rfl, rfl, rfl, by decide +kernel, rfl, by decide +kernel, by decide +kernel⟩
def sfs_at (A m r w b l : V) (n : Int) : List.lookup ("rows" : Str) (sfs A m r w b l n) = some r := rfl
section
variable {P : Program} {w : World} {K : PySem.W.Frag} {mg : Str → Option Value} {base : Heap} {CS CT : Addr}
theorem Srch.inv {c : SC} {H : Hp} {S : SS} (h : Srch P w c H S) : ∃ fs, H c.p = some (.ins c.CS c.dx fs) ∧ List.lookup ("held" : Str) fs = some c.vA ∧ List.lookup ("measure" : Str) fs = some (.ref c.pm) ∧ List.lookup ("rows" : Str) fs = some (.ref c.dr) ∧
    List.lookup ("waiting" : Str) fs = some (.ref c.dw) ∧ List.lookup ("beyond" : Str) fs = some (.ref c.db) ∧ List.lookup ("steps" : Str) fs = some (.int (S.steps : Int)) ∧ List.lookup ("lists" : Str) fs = some (.ref c.dl) ∧
    List.lookup ("meet" : Str) fs = none ∧ List.lookup ("step" : Str) fs = none ∧ List.lookup ("take_least" : Str) fs = none ∧ List.lookup ("rank" : Str) fs = none :=
  ⟨_, h.at_, rfl, rfl, rfl, rfl, rfl, rfl, rfl, rfl, rfl, rfl, rfl⟩
theorem fresh_ls {c : SC} {H : Hp} {S : SS} (h : Srch P w c H S) {l : Addr} (n : H l = none) : l ∉ c.ls := fun hl => by
  obtain ⟨xs, e⟩ := h.lst hl
  rw [n] at e; cases e
theorem ok_meet {f : Addr} {fd : FuncData} (F : Fun K "meet" "Search.meet" st_Search_meet f fd) (B : Gb mg) (T : SCls K CS) (TM : ETxt K mg "TooMany" CT) (F_words_of : Callable P w K mg base CX0 1 "words_of" ["grove"] spWords) : FnOk P w K mg base (L2.CX P w) 2 f fd ["self", "pair", "grove"] (spMeet P w CS CT) := by
  refine F.okX sc_Search_meet (fun vs H Q E h => ?_) (fun cdv A outer s H vs Q E hr h => ?_)
  · obtain ⟨_, _, _, _, _, _, rfl, _⟩ := h
    rfl
  · obtain ⟨c, S, k, g, vp, vg, rfl, rfl, ok, hS, hp, hg, hgs, hr1, hw1, hb1, kq, ke⟩ := h
    have hu := hr.units
    refine ⟨_, (pss_cons (ps_if (pt_cmp (pc_nin hu (pv 1) (pe_fld (pv 0) rfl))) (pss_one ps_retN) pss_nil)
      (pss_cons (ps_set (i := 3) sc_Search_meet.nd rfl (Or.inl rfl) (pe_callF F_words_of (hr.mono (by decide)) rfl pass0 (pa_cons (pv 2) pa_nil)))
      (pss_cons (ps_if (pt_cmpR op_gt (pe_callB call_len_seq (by rfl) B.len PySem.boot_len (pa_cons (pv 3) pa_nil)) (pe_op op_mul pe_int (pe_glob (v := .int 300) rfl B.MOST_TAGS.choose_spec ⟨_, rfl⟩)) (nomark _)) (pss_cons (ps_nput hu (pe_fld (pv 0) rfl) (pv 1) pe_bl rfl)
      (pss_one ps_retN)) pss_nil)
      (pss_cons (ps_if (PW.pt (pw_or (pt_cmp (pc_nnotin hu (pv 1) (pe_fld (pv 0) rfl))) (pw_or1 (pt_cmpR (op_ltD hu) (pe_tup (pa_cons (pe_callB call_len_seq (by rfl) B.len PySem.boot_len (pa_cons (pv 3) pa_nil)) (pa_cons (pv 3) pa_nil))) (pe_ix ix_tup (pe_nget hu (pe_fld (pv 0) rfl) (pv 1) (fun _ _ => rfl)) pe_int (fun _ _ => rfl)) (nomark _))))) (pss_one (ps_nput hu (pe_fld (pv 0) rfl) (pv 1) (pe_tup (pa_cons (pe_tup (pa_cons (pe_callB call_len_seq (by rfl) B.len PySem.boot_len (pa_cons (pv 3) pa_nil)) (pa_cons (pv 3) pa_nil))) (pa_cons (pv 2) pa_nil))) rfl)) pss_nil)
      (pss_one (ps_if (pt_cmpR op_gt (pe_op op_add (pe_callB call_len_N (by rfl) B.len PySem.boot_len (pa_cons (pe_fld (pv 0) rfl) pa_nil)) (pe_callB call_len_N (by rfl) B.len PySem.boot_len (pa_cons (pe_fld (pv 0) rfl) pa_nil))) (pe_glob (v := .int 64) rfl B.MOST_ROWS.choose_spec ⟨_, rfl⟩) (nomark _)) (pss_one (ps_raise rfl (takes_of rfl rfl rfl rfl) (pmk_own PySem.F.excBase_ValueError TM.xe TM.g TM.kp (raises_own TM.b TM.t) rfl))) pss_nil)))))), ?_⟩
    obtain ⟨fs, hi, l1, l2, l3, l4, l5, l6, l7, _⟩ := hS.inv
    obtain ⟨pb, _, rfl, _⟩ := is_tup (show Is H (encK k) vp from hp)
    obtain ⟨rk, rN, rP⟩ := hS.rows
    -- if pair in self.rows
    refine ⟨_, rfl, _, rfl, c.p, c.CS, c.dx, _, _, rfl, hi, T.cl, T.nR, l3, c.dr, _, rfl, nat_get rN (encK_ok k) hp, _, rfl, ?_⟩
    rcases paired_val rP (fun _ _ h => h.1) k with ⟨e1, e2⟩ | ⟨g', v', e1, e2, _⟩
    rotate_left
    · rw [e2]
      refine iteT ?_
      exact kq S H (.inl ⟨by have := look_mem e1; exact List.mem_map_of_mem (f := (·.1)) this, rfl⟩) hS (Md.of (srefl H))
    rw [e2]
    refine iteF ?_
    have nr := look_none.mp e1
    -- words = words_of(grove)
    refine ⟨_, rfl, vg, g, rfl, hg, hgs, fun H1 wl s1 nwl hwl => ?_⟩
    have wls : wl ∉ c.ls := fresh_ls hS nwl
    have hS1 := hS.new s1
    have hwlen : ((words g).map V.str).length = 2 * g.size := by rw [List.length_map, words_len]
    refine ⟨_, rfl, wl, _, rfl, .inl (SqL.of hwl), _, _, rfl, rfl, .inl ⟨by decide, by decide⟩, _, _, rfl, rfl, _, rfl, ?_⟩
    refine ite2 (fun z => ?_) (fun z => ?_)
    · -- self.beyond[pair] = True
      have hz : 300 < g.size := by
        have := of_decide_eq_true z
        rw [hwlen] at this
        omega
      obtain ⟨fs1, hi1, _, _, _, _, m5, _⟩ := hS1.inv
      obtain ⟨ψ, a1, a2, a3⟩ := hS1.putBeyond ok (hp.same s1) (by omega) (.bl true)
      refine ⟨_, rfl, c.p, c.CS, c.dx, _, _, rfl, hi1, T.cl, T.nB, m5, _, rfl, c.db, _, rfl, a1, ?_⟩
      exact kq _ _ (.inr ⟨nr, .inl ⟨hz, rfl⟩⟩) a2 ((Md.of s1).trans a3)
    · have hz : g.size ≤ 300 := by
        have : ¬ _ := fun q => z (decide_eq_true q)
        rw [hwlen] at this
        omega
      obtain ⟨fs1, hi1, _, _, m3, m4, _⟩ := hS1.inv
      obtain ⟨wk, wN, wP⟩ := hS1.wait
      -- if pair not in self.waiting or .. < ..
      refine ⟨_, rfl, _, rfl, c.p, c.CS, c.dx, _, _, rfl, hi1, T.cl, T.nW, m4, c.dw, _, rfl, nat_get wN (encK_ok k) (hp.same s1), _, rfl, ?_⟩
      rcases paired_val wP (fun _ _ h => h.1) k with ⟨f1, f2⟩ | ⟨g', v', f1, f2, f3⟩
      · rw [f2]
        refine iteT ?_
        have s0 := s1
        have hSb := hS1
        have hwl0 := hwl
        obtain ⟨fs3, hi3, _, _, _, m4'', _⟩ := hSb.inv
        refine ⟨_, rfl, wl, _, rfl, .inl (SqL.of hwl0), _, rfl, (by show 2 ≤ sizeLine; decide), fun ta na => ?_⟩
        have sa : L2.Same H (upd _ ta (.tup [.int (((words g).map V.str).length : Int), .ref wl])) := snew s0 na
        refine ⟨_, rfl, (by show 2 ≤ sizeLine; decide), fun tb nb => ?_⟩
        have sb := same_new (o := .tup [.ref ta, vg]) nb
        have hSc := (hSb.new (same_new (o := .tup [.int (((words g).map V.str).length : Int), .ref wl]) na)).new sb
        have sc := strans sa sb
        have hent : WEnt c.ls (upd (upd _ ta (.tup [.int (((words g).map V.str).length : Int), .ref wl])) tb (.tup [.ref ta, vg])) (.ref tb) g :=
          ⟨tb, ta, wl, vg, rfl, upd_same, by rw [sb _ _ upd_same, List.length_map], wls, get_new (get_new hwl0 na) nb, hg.same sc⟩
        obtain ⟨ψ, a1, a2, a3⟩ := hSc.putWait ok (hp.same sc) (by omega) hent
        obtain ⟨fs4, hi4, _, _, _, m4x, _⟩ := hSc.inv
        refine ⟨_, rfl, c.p, c.CS, c.dx, _, _, rfl, hi4, T.cl, T.nW, m4x, _, rfl, c.dw, _, rfl, a1, ?_⟩
        have hS2 := a2
        have md2 := (Md.of (ls := c.ls) sc).trans a3
        have hS' : ({ S with waiting := setA S.waiting k g } : SS) = { S with waiting := setA S.waiting k g } ∨ (k ∈ S.waiting.map (·.1) ∧ ({ S with waiting := setA S.waiting k g } : SS) = S) := .inl rfl
        obtain ⟨fs2, hi2, _, _, m3', m4', _⟩ := hS2.inv
        obtain ⟨rk2, rN2, rP2⟩ := hS2.rows
        obtain ⟨wk2, wN2, wP2⟩ := hS2.wait
        refine ⟨_, rfl, c.p, c.CS, c.dx, _, _, rfl, hi2, T.cl, T.nR, m3', c.dr, _, rfl, rN2, _, rfl, c.p, c.CS, c.dx, _, _, rfl, hi2, T.cl, T.nW, m4', c.dw, _, rfl, wN2, _, _, rfl, rfl, _, _, rfl, rfl, _, rfl, ?_⟩
        have el1 := paired_len rP2
        have el2 := paired_len wP2
        rw [el1, el2]
        refine ite2 (fun zz => ?_) (fun zz => ?_)
        · have zz' := of_decide_eq_true zz
          refine ke ⟨nr, hz, ?_⟩ _ hS2.same
          rcases hS' with e | ⟨e1, e2⟩
          · refine .inr ?_
            rw [e] at zz'
            simp only at zz'
            omega
          · refine .inl ⟨e1, ?_⟩
            rw [e2] at zz'
            omega
        · have zz' : ¬ _ := fun q => zz (decide_eq_true q)
          exact kq _ _ (.inr ⟨nr, .inr ⟨hz, hS', by omega⟩⟩) hS2 md2
      · rw [f2]
        refine iteF ?_
        have km : k ∈ S.waiting.map (·.1) := by have := look_mem f1; exact List.mem_map_of_mem (f := (·.1)) this
        obtain ⟨_, a, t, wl', gv, e, q2, q3, q4, q5, q6⟩ := f3
        have e' : v' = .ref a := e
        subst e'
        refine ⟨_, rfl, wl, _, rfl, .inl (SqL.of hwl), _, rfl, (by show 2 ≤ sizeLine; decide), fun t1 n1 => ?_⟩
        have s2 : L2.Same H1 (upd H1 t1 (.tup [.int (((words g).map V.str).length : Int), .ref wl])) := same_new n1
        refine ⟨_, rfl, c.p, c.CS, c.dx, _, _, rfl, s2 _ _ hi1, T.cl, T.nW, m4, _, rfl, c.dw, _, rfl, (by rw [← f2]; exact nat_get (nat_same wN s2) (encK_ok k) ((hp.same s1).same s2)), a, _, 0, _, rfl, rfl, SqT.of (s2 _ _ q2), rfl, ?_⟩
        refine ⟨.tuple [.int _, .list ((words g).map PyData.str)], .tuple [.int _, .list ((words g').map PyData.str)], .tup (SqT.of upd_same) (.cons (.int _) (.cons (dp_list (s2 _ _ hwl)) .nil)), .tup (SqT.of (s2 _ _ q3)) (.cons (.int _) (.cons (dp_list (s2 _ _ q5)) .nil)), ?_, (by intro z; cases z), ?_, fun b => ⟨b, rfl, ?_⟩⟩
        · show PySem.W.alikeAll [.int _, .list ((words g).map PyData.str)] [.int _, .list ((words g').map PyData.str)] = true
          have := alike_strs (words g) (words g')
          simp only [PySem.W.alikeAll, this, Bool.and_true]
          rfl
        · show PyData.depthAll [.int _, .list ((words g).map PyData.str)] + 1 ≤ 60
          simp only [PyData.depthAll, PyData.depth, depth_strs]
          omega
        · have s0 := strans s1 s2
          have hSb := hS1.new s2
          have hwl0 := s2 _ _ hwl
          cases b with
          | true =>
            refine iteT ?_
            obtain ⟨fs3, hi3, _, _, _, m4'', _⟩ := hSb.inv
            refine ⟨_, rfl, wl, _, rfl, .inl (SqL.of hwl0), _, rfl, (by show 2 ≤ sizeLine; decide), fun ta na => ?_⟩
            have sa : L2.Same H (upd _ ta (.tup [.int (((words g).map V.str).length : Int), .ref wl])) := snew s0 na
            refine ⟨_, rfl, (by show 2 ≤ sizeLine; decide), fun tb nb => ?_⟩
            have sb := same_new (o := .tup [.ref ta, vg]) nb
            have hSc := (hSb.new (same_new (o := .tup [.int (((words g).map V.str).length : Int), .ref wl]) na)).new sb
            have sc := strans sa sb
            have hent : WEnt c.ls (upd (upd _ ta (.tup [.int (((words g).map V.str).length : Int), .ref wl])) tb (.tup [.ref ta, vg])) (.ref tb) g :=
              ⟨tb, ta, wl, vg, rfl, upd_same, by rw [sb _ _ upd_same, List.length_map], wls, get_new (get_new hwl0 na) nb, hg.same sc⟩
            obtain ⟨ψ, a1, a2, a3⟩ := hSc.putWait ok (hp.same sc) (by omega) hent
            obtain ⟨fs4, hi4, _, _, _, m4x, _⟩ := hSc.inv
            refine ⟨_, rfl, c.p, c.CS, c.dx, _, _, rfl, hi4, T.cl, T.nW, m4x, _, rfl, c.dw, _, rfl, a1, ?_⟩
            have hS2 := a2
            have md2 := (Md.of (ls := c.ls) sc).trans a3
            have hS' : ({ S with waiting := setA S.waiting k g } : SS) = { S with waiting := setA S.waiting k g } ∨ (k ∈ S.waiting.map (·.1) ∧ ({ S with waiting := setA S.waiting k g } : SS) = S) := .inl rfl
            obtain ⟨fs2, hi2, _, _, m3', m4', _⟩ := hS2.inv
            obtain ⟨rk2, rN2, rP2⟩ := hS2.rows
            obtain ⟨wk2, wN2, wP2⟩ := hS2.wait
            refine ⟨_, rfl, c.p, c.CS, c.dx, _, _, rfl, hi2, T.cl, T.nR, m3', c.dr, _, rfl, rN2, _, rfl, c.p, c.CS, c.dx, _, _, rfl, hi2, T.cl, T.nW, m4', c.dw, _, rfl, wN2, _, _, rfl, rfl, _, _, rfl, rfl, _, rfl, ?_⟩
            have el1 := paired_len rP2
            have el2 := paired_len wP2
            rw [el1, el2]
            refine ite2 (fun zz => ?_) (fun zz => ?_)
            · have zz' := of_decide_eq_true zz
              refine ke ⟨nr, hz, ?_⟩ _ hS2.same
              rcases hS' with e | ⟨e1, e2⟩
              · refine .inr ?_
                rw [e] at zz'
                simp only at zz'
                omega
              · refine .inl ⟨e1, ?_⟩
                rw [e2] at zz'
                omega
            · have zz' : ¬ _ := fun q => zz (decide_eq_true q)
              exact kq _ _ (.inr ⟨nr, .inr ⟨hz, hS', by omega⟩⟩) hS2 md2
          | false =>
            refine iteF ?_
            have hS2 := hSb
            have md2 := Md.of (ls := c.ls) s0
            have hS' : S = { S with waiting := setA S.waiting k g } ∨ (k ∈ S.waiting.map (·.1) ∧ S = S) := .inr ⟨km, rfl⟩
            obtain ⟨fs2, hi2, _, _, m3', m4', _⟩ := hS2.inv
            obtain ⟨rk2, rN2, rP2⟩ := hS2.rows
            obtain ⟨wk2, wN2, wP2⟩ := hS2.wait
            refine ⟨_, rfl, c.p, c.CS, c.dx, _, _, rfl, hi2, T.cl, T.nR, m3', c.dr, _, rfl, rN2, _, rfl, c.p, c.CS, c.dx, _, _, rfl, hi2, T.cl, T.nW, m4', c.dw, _, rfl, wN2, _, _, rfl, rfl, _, _, rfl, rfl, _, rfl, ?_⟩
            have el1 := paired_len rP2
            have el2 := paired_len wP2
            rw [el1, el2]
            refine ite2 (fun zz => ?_) (fun zz => ?_)
            · have zz' := of_decide_eq_true zz
              refine ke ⟨nr, hz, ?_⟩ _ hS2.same
              rcases hS' with e | ⟨e1, e2⟩
              · refine .inr ?_
                rw [e] at zz'
                simp only at zz'
                omega
              · refine .inl ⟨e1, ?_⟩
                rw [e2] at zz'
                omega
            · have zz' : ¬ _ := fun q => zz (decide_eq_true q)
              exact kq _ _ (.inr ⟨nr, .inr ⟨hz, hS', by omega⟩⟩) hS2 md2
end
end K76
set_option Elab.async false
set_option linter.all false
set_option maxRecDepth 100000
set_option maxHeartbeats 4000000
namespace K76
open PySem PySem.Spec PyProof.Rows L2
/-! ### the table's steps, plainly -/
def Ent1 (A F : Form) (W : Way) (M : Nat) (r : Row) : Prop := isOf A r.2 r.1.1 = true ∧ valueOf F W M r.2 = r.1.2 ∧ r.2.size ≤ 300
def keysOf (l : List Row) : List KV2 := l.map (·.1)
structure Gd (A F : Form) (W : Way) (M : Nat) (S : SS) : Prop where
  re : ∀ r ∈ S.rows, Ent1 A F W M r
  we : ∀ r ∈ S.waiting, Ent1 A F W M r
  rn : (S.rows.map (·.1)).Nodup
  wn : (S.waiting.map (·.1)).Nodup
  dj : ∀ k ∈ S.waiting.map (·.1), k ∉ S.rows.map (·.1)
  rs : ∀ r ∈ S.rows, r.2.size + 1 ≤ 2 ^ S.rows.length
  ws : ∀ r ∈ S.waiting, r.2.size + 1 ≤ 2 ^ S.rows.length
  tot : S.rows.length + S.waiting.length ≤ 64
  bl : S.beyond.length ≤ S.steps
  fb : Few A F W M → S.beyond = []
  be : ∀ k ∈ S.beyond, ∃ g, isOf A g k.1 = true ∧ valueOf F W M g = k.2
def cov (S : SS) (k : KV2) : Prop := k ∈ S.rows.map (·.1) ∨ k ∈ S.waiting.map (·.1) ∨ k ∈ S.beyond
section
variable {A F : Form} {W : Way} {M : Nat} {S S' : SS} {k : KV2} {g : G}
theorem few_keys (hf : Few A F W M) (h : ∀ r ∈ S.rows, Ent1 A F W M r) {l : List KV2} (hl : l.Nodup) (hm : ∀ x ∈ l, ∃ g, isOf A g x.1 = true ∧ valueOf F W M g = x.2) : l.length ≤ 9 := by
  obtain ⟨K, hK, c⟩ := hf
  refine Nat.le_trans (nodup_len l K hl fun x hx => ?_) hK
  obtain ⟨g, h1, h2⟩ := hm x hx
  have := c.reach h1
  rw [h2] at this
  exact this
theorem ent_reach {l : List Row} (h : ∀ r ∈ l, Ent1 A F W M r) : ∀ x ∈ l.map (·.1), ∃ g, isOf A g x.1 = true ∧ valueOf F W M g = x.2 := by
  intro x hx
  obtain ⟨r, hr, rfl⟩ := List.mem_map.mp hx
  exact ⟨r.2, (h r hr).1, (h r hr).2.1⟩
theorem few_rows (hf : Few A F W M) (h : Gd A F W M S) (hk : k ∉ S.rows.map (·.1)) (h1 : isOf A g k.1 = true) (h2 : valueOf F W M g = k.2) : S.rows.length ≤ 8 := by
  have := few_keys (S := S) hf h.re (l := S.rows.map (·.1) ++ [k]) (by
    rw [List.nodup_append]
    exact ⟨h.rn, by simp, fun a ha b hb e => hk (by simp at hb; rw [← hb, ← e]; exact ha)⟩) (by
    intro x hx
    rcases List.mem_append.mp hx with hx | hx
    · exact ent_reach h.re x hx
    · rw [List.mem_singleton.mp hx]; exact ⟨g, h1, h2⟩)
  simp at this
  omega
theorem few_total (hf : Few A F W M) (h : Gd A F W M S) : S.rows.length + S.waiting.length ≤ 9 := by
  have := few_keys (S := S) hf h.re (l := S.rows.map (·.1) ++ S.waiting.map (·.1)) (by
    rw [List.nodup_append]
    exact ⟨h.rn, h.wn, fun a ha b hb e => h.dj b hb (e ▸ ha)⟩) (by
    intro x hx
    rcases List.mem_append.mp hx with hx | hx
    · exact ent_reach h.re x hx
    · exact ent_reach h.we x hx)
  simpa using this
theorem few_burst (hf : Few A F W M) (h : Gd A F W M S) (h1 : isOf A g k.1 = true) (h2 : valueOf F W M g = k.2) : ¬ Burst S k g := by
  rintro ⟨hk, _, ⟨_, hb⟩ | hb⟩
  · have := few_total hf h
    omega
  · have := few_keys (S := S) hf h.re (l := S.rows.map (·.1) ++ (setA S.waiting k g).map (·.1)) (by
      rw [List.nodup_append, keys_setA]
      refine ⟨h.rn, nodup_addP h.wn, fun a ha b hb e => ?_⟩
      rcases mem_addP.mp hb with hb | hb
      · exact h.dj b hb (e ▸ ha)
      · exact hk (by rw [← hb, ← e]; exact ha)) (by
      intro x hx
      rcases List.mem_append.mp hx with hx | hx
      · exact ent_reach h.re x hx
      · rw [keys_setA] at hx
        rcases mem_addP.mp hx with hx | hx
        · exact ent_reach h.we x hx
        · rw [hx]; exact ⟨g, h1, h2⟩)
    simp at this
    omega
theorem meet_gd {n : Nat} (h : Gd A F W M S) (hm : Meet { S with steps := n } k g S') (h1 : isOf A g k.1 = true) (h2 : valueOf F W M g = k.2) (hs : g.size + 1 ≤ 2 ^ S.rows.length) (hn' : S.beyond.length ≤ n) (hn2 : 300 < g.size → S.beyond.length < n) :
    Gd A F W M S' ∧ S'.rows = S.rows ∧ S'.listed = S.listed ∧ S'.conts = S.conts ∧ S'.steps = n ∧ cov S' k ∧ ∀ x, cov S x → cov S' x := by
  rcases hm with ⟨hk, rfl⟩ | ⟨hk, ⟨hg, rfl⟩ | ⟨hg, hc, ht⟩⟩
  · exact ⟨⟨h.re, h.we, h.rn, h.wn, h.dj, h.rs, h.ws, h.tot, hn', h.fb, h.be⟩, rfl, rfl, rfl, rfl, .inl hk, fun x hx => hx⟩
  · refine ⟨⟨h.re, h.we, h.rn, h.wn, h.dj, h.rs, h.ws, h.tot, Nat.le_trans addP_len (hn2 hg), fun hf => ?_, fun x hx => ?_⟩, rfl, rfl, rfl, rfl, .inr (.inr (mem_addP.mpr (.inr rfl))), fun x hx => ?_⟩
    · have h8 := few_rows hf h hk h1 h2
      have : 2 ^ S.rows.length ≤ 2 ^ 8 := Nat.pow_le_pow_right (by omega) h8
      omega
    · rcases mem_addP.mp hx with hx | hx
      · exact h.be x hx
      · rw [hx]; exact ⟨g, h1, h2⟩
    · rcases hx with hx | hx | hx
      · exact .inl hx
      · exact .inr (.inl hx)
      · exact .inr (.inr (mem_addP.mpr (.inl hx)))
  · rcases hc with rfl | ⟨hw, rfl⟩
    · refine ⟨⟨h.re, fun r hr => ?_, h.rn, ?_, fun x hx => ?_, h.rs, fun r hr => ?_, ht, hn', h.fb, h.be⟩, rfl, rfl, rfl, rfl, .inr (.inl ?_), fun x hx => ?_⟩
      · rcases mem_setA hr with hr | rfl
        · exact h.we r hr
        · exact ⟨h1, h2, hg⟩
      · show ((setA S.waiting k g).map (·.1)).Nodup
        rw [keys_setA]; exact nodup_addP h.wn
      · have hx : x ∈ (setA S.waiting k g).map (·.1) := hx
        rw [keys_setA] at hx
        rcases mem_addP.mp hx with hx | rfl
        · exact h.dj x hx
        · exact hk
      · rcases mem_setA hr with hr | rfl
        · exact h.ws r hr
        · exact hs
      · show k ∈ (setA S.waiting k g).map (·.1)
        rw [keys_setA]; exact mem_addP.mpr (.inr rfl)
      · rcases hx with hx | hx | hx
        · exact .inl hx
        · refine .inr (.inl ?_)
          show x ∈ (setA S.waiting k g).map (·.1)
          rw [keys_setA]; exact mem_addP.mpr (.inl hx)
        · exact .inr (.inr hx)
    · exact ⟨⟨h.re, h.we, h.rn, h.wn, h.dj, h.rs, h.ws, h.tot, hn', h.fb, h.be⟩, rfl, rfl, rfl, rfl, .inr (.inl hw), fun x hx => hx⟩
theorem isOf_range (ok : FOk A) {g : G} {q : Int} (h : isOf A g q = true) : 0 ≤ q ∧ q < A.many := by
  cases g with
  | nil => exact ok.en q (by rw [isOf, List.contains_iff_mem] at h; exact h)
  | cons t w o =>
    obtain ⟨r, hr, h1, _⟩ := isOf_cons.mp h
    rw [← h1]; exact (ok.ru r hr).1
theorem look_of_mem {rows : List Row} (hn : (rows.map (·.1)).Nodup) {k : KV2} {g : G} (h : (k, g) ∈ rows) : look rows k = some g := by
  induction rows with
  | nil => cases h
  | cons r rows ih =>
    rw [List.map_cons, List.nodup_cons] at hn
    rcases List.mem_cons.mp h with rfl | h
    · exact look_pos rfl
    · rw [look_neg (fun z => hn.1 (by rw [z]; exact List.mem_map_of_mem (f := (·.1)) h))]
      exact ih hn.2 h
/-- a row is taken -/
def takeS (S : SS) (k : KV2) (g : G) (conts : List (List V)) : SS := { rows := S.rows ++ [(k, g)], waiting := S.waiting.filter fun r => decide (r.1 ≠ k), beyond := S.beyond, steps := S.steps, listed := S.rows ++ [(k, g)], conts := conts }
theorem take_gd (h : Gd A F W M S) (hk : (k, g) ∈ S.waiting) (conts : List (List V)) : Gd A F W M (takeS S k g conts) ∧ ∀ x, cov S x → cov (takeS S k g conts) x := by
  have hkm : k ∈ S.waiting.map (·.1) := List.mem_map_of_mem (f := (·.1)) hk
  have hlen : (S.waiting.filter fun r => decide (r.1 ≠ k)).length < S.waiting.length := by
    refine List.length_filter_lt_length_iff_exists.mpr ⟨(k, g), hk, by simp⟩
  have pw : 2 ^ (S.rows ++ [(k, g)]).length = 2 * 2 ^ S.rows.length := by rw [List.length_append, List.length_singleton, Nat.pow_succ, Nat.mul_comm]
  have two : ∀ n : Nat, n + 1 ≤ 2 ^ S.rows.length → n + 1 ≤ 2 ^ (S.rows ++ [(k, g)]).length := fun n hn => by rw [pw]; omega
  refine ⟨⟨fun r hr => ?_, fun r hr => h.we r (List.mem_filter.mp hr).1, ?_, ?_, fun x hx => ?_, fun r hr => ?_, fun r hr => two _ (h.ws r (List.mem_filter.mp hr).1), ?_, h.bl, h.fb, h.be⟩, fun x hx => ?_⟩
  · rcases List.mem_append.mp hr with hr | hr
    · exact h.re r hr
    · rw [List.mem_singleton.mp hr]; exact h.we _ hk
  · show ((S.rows ++ [(k, g)]).map (·.1)).Nodup
    rw [List.map_append, List.nodup_append]
    exact ⟨h.rn, by simp, fun a ha b hb e => h.dj k hkm (by simp at hb; rw [← hb, ← e]; exact ha)⟩
  · exact (h.wn.sublist (List.Sublist.map _ List.filter_sublist))
  · show x ∉ (S.rows ++ [(k, g)]).map (·.1)
    have hx : x ∈ (S.waiting.filter fun r => decide (r.1 ≠ k)).map (·.1) := hx
    obtain ⟨r, hr, rfl⟩ := List.mem_map.mp hx
    obtain ⟨hr1, hr2⟩ := List.mem_filter.mp hr
    rw [List.map_append, List.mem_append]
    rintro (z | z)
    · exact h.dj _ (List.mem_map_of_mem (f := (·.1)) hr1) z
    · simp at z hr2; exact hr2 z
  · rcases List.mem_append.mp hr with hr | hr
    · exact two _ (h.rs r hr)
    · rw [List.mem_singleton.mp hr]; exact two _ (h.ws _ hk)
  · show (S.rows ++ [(k, g)]).length + (S.waiting.filter fun r => decide (r.1 ≠ k)).length ≤ 64
    have := h.tot
    simp only [List.length_append, List.length_singleton]
    omega
  · rcases hx with hx | hx | hx
    · exact .inl (by show x ∈ (S.rows ++ [(k, g)]).map (·.1); rw [List.map_append, List.mem_append]; exact .inl hx)
    · by_cases z : x = k
      · exact .inl (by show x ∈ (S.rows ++ [(k, g)]).map (·.1); rw [List.map_append, List.mem_append]; exact .inr (by simp [z]))
      · obtain ⟨r, hr, rfl⟩ := List.mem_map.mp hx
        exact .inr (.inl (List.mem_map_of_mem (f := (·.1)) (List.mem_filter.mpr ⟨hr, by simpa using z⟩)))
    · exact .inr (.inr hx)
/-- every pair that follows from rows is met -/
def Cl (A F : Form) (W : Way) (M : Nat) (S : SS) : Prop := (∀ e ∈ A.ends, cov S (e, nothing F M)) ∧
  ∀ r ∈ A.rules, ∀ a ∈ S.rows, ∀ b ∈ S.rows, a.1.1 = r.inner → b.1.1 = r.rest → cov S (r.kind, above F W M r.tag a.1.2 b.1.2)
end
end K76
set_option Elab.async false
set_option linter.all false
set_option maxRecDepth 100000
set_option maxHeartbeats 4000000
namespace K76
open PySem PySem.Spec PyProof.Rows L2
theorem passN {P : Program} {w : World} {X : Cx} (h1 : X.prog = P := by rfl) (h2 : X.w = w := by rfl) : Passes (L2.CX P w) X E0 := by
  rintro pins σ H s e s' I ⟨a, B, H', cls, d, _, _, _, _, _, _, _, h⟩
  exact h.elim
theorem encG_len : ∀ g : G, (encG g).length ≤ g.size
  | .nil => Nat.le_refl _
  | .cons t w o => by have := encG_len o; simp only [encG, List.length_cons, G.size]; omega
theorem Is.md {ls : List Addr} {H H' : Hp} (m : Md ls H H') {k : D} {v : V} (h : Is H k v) : Is H' k v := Is.mono m.tp k h
def spStep (P : Program) (w : World) (CS CE CT : Addr) : Sp := fun vs H Q E => ∃ (c : SC) (S : SS) (r : Rule) (v1 v2 : Val) (g1 g2 : G) (vr vi vo : V), vs = [.ref c.p, vr, vi, vo] ∧ c.CS = CS ∧ c.CE = CE ∧ c.Ok ∧ Srch P w c H S ∧
  Is H (encR r) vr ∧ Is H (encRow (v1, g1)) vi ∧ Is H (encRow (v2, g2)) vo ∧ VOk c.F c.M v1 ∧ VOk c.F c.M v2 ∧ g1.size + g2.size ≤ 900 ∧ S.rows.length ≤ 1000 ∧ S.waiting.length ≤ 1000 ∧ S.beyond.length ≤ 9000 ∧ S.steps ≤ 4000 ∧
  (∀ S' H', Meet { S with steps := S.steps + 1 } (r.kind, above c.F c.W c.M r.tag v1 v2) (.cons r.tag g1 g2) S' → Srch P w c H' S' → Md c.ls H H' → S.steps + 1 ≤ 4000 → Q .non H') ∧
  (4000 < S.steps + 1 ∨ Burst S (r.kind, above c.F c.W c.M r.tag v1 v2) (.cons r.tag g1 g2) → ∀ H', L2.Same c.H0 H' → E (.ref CT) none H')
abbrev st_Search_step : Stmt := inClass (top 22) 2
theorem sc_Search_step : FnScope ["self", "rule", "inner", "rest", "value"] ["self", "rule", "inner", "rest"] (defScope st_Search_step) := ⟨rfl, rfl, rfl, by decide +kernel, rfl, by decide +kernel, by decide +kernel⟩
section
variable {P : Program} {w : World} {K : PySem.W.Frag} {mg : Str → Option Value} {base : Heap} {CS CE CT : Addr}
theorem ok_step {f : Addr} {fd : FuncData} (F : Fun K "step" "Search.step" st_Search_step f fd) (B : Gb mg) (T : SCls K CS) (TM : ETxt K mg "TooMany" CT)
    (M_above : Methd P w K mg base CX0 7 CE "above" ["self", "tag", "inner", "rest"] (spAbove CE)) (M_meet : Methd P w K mg base (L2.CX P w) 2 CS "meet" ["self", "pair", "grove"] (spMeet P w CS CT)) :
    FnOk P w K mg base (L2.CX P w) 8 f fd ["self", "rule", "inner", "rest"] (spStep P w CS CE CT) := by
  refine F.okX sc_Search_step (fun vs H Q E h => ?_) (fun cdv A outer s H vs Q E hr h => ?_)
  · obtain ⟨_, _, _, _, _, _, _, _, _, _, rfl, _⟩ := h
    rfl
  · obtain ⟨c, S, r, v1, v2, g1, g2, vr, vi, vo, rfl, rfl, rfl, ok, hS, hr', hi, ho, hV1, hV2, hsz, hr1, hw1, hb1, hst, kq, ke⟩ := h
    refine ⟨_, (pss_cons (ps_fld (pv 0) (pe_op op_add (pe_fld (pv 0) rfl) pe_int) rfl)
      (pss_cons (ps_if (pt_cmpR op_gt (pe_fld (pv 0) rfl) (pe_glob (v := .int 4000) rfl B.MOST_STEPS.choose_spec ⟨_, rfl⟩) (nomark _)) (pss_one (ps_raise rfl (takes_of rfl rfl rfl rfl) (pmk_own PySem.F.excBase_ValueError TM.xe TM.g TM.kp (raises_own TM.b TM.t) rfl))) pss_nil)
      (pss_cons (ps_set (i := 4) sc_Search_step.nd rfl (Or.inl rfl) (pe_methF (pe_fld (pv 0) rfl) M_above (hr.mono (by decide)) pass0 (pa_cons (pe_ix ix_tup (pv 1) pe_int (fun _ _ => rfl)) (pa_cons (pe_ix ix_tup (pv 2) pe_int (fun _ _ => rfl)) (pa_cons (pe_ix ix_tup (pv 3) pe_int (fun _ _ => rfl)) pa_nil)))))
      (pss_one (ps_expr (pe_methF (pv 0) M_meet (hr.mono (by decide)) (passes_call (takes_of rfl rfl rfl rfl) fun _ _ _ _ h => h) (pa_cons (pe_tup (pa_cons (pe_ix ix_tup (pv 1) pe_int (fun _ _ => rfl)) (pa_cons (pv 4) pa_nil))) (pa_cons (pe_op op_catT (pe_tup (pa_cons (pe_tup (pa_cons (pe_ix ix_tup (pv 1) pe_int (fun _ _ => rfl)) (pa_cons (pe_ix ix_tup (pv 2) pe_int (fun _ _ => rfl)) pa_nil))) pa_nil)) (pe_ix ix_tup (pv 3) pe_int (fun _ _ => rfl))) pa_nil)))))))), ?_⟩
    obtain ⟨fs, hi0, l1, l2, l3, l4, l5, l6, l7, _⟩ := hS.inv
    obtain ⟨q1, q2⟩ := hS.setSteps ok (S.steps + 1)
    -- self.steps = self.steps + 1
    refine ⟨_, rfl, c.p, c.CS, c.dx, _, _, rfl, hS.at_, T.cl, T.nS, rfl, _, _, rfl, rfl, _, rfl, c.p, c.CS, c.dx, _, rfl, hS.at_, T.cl, T.nS, (by show 7 < 1000; decide), ?_⟩
    have hS1 : Srch P w c (upd H c.p (.ins c.CS c.dx (sfs c.vA (.ref c.pm) (.ref c.dr) (.ref c.dw) (.ref c.db) (.ref c.dl) ((S.steps + 1 : Nat) : Int)))) { S with steps := S.steps + 1 } := q1
    obtain ⟨fs1, hi1, _, m2, _, _, _, m6, _⟩ := id hS1.inv
    have e6 : ∃ fs1, (upd H c.p (.ins c.CS c.dx (sfs c.vA (.ref c.pm) (.ref c.dr) (.ref c.dw) (.ref c.db) (.ref c.dl) ((S.steps + 1 : Nat) : Int)))) c.p = some (.ins c.CS c.dx fs1) := ⟨fs1, hi1⟩
    refine ⟨_, rfl, c.p, c.CS, c.dx, _, _, rfl, hi1, T.cl, T.nS, m6, _, _, rfl, rfl, _, rfl, ?_⟩
    refine ite2 (fun z => ?_) (fun z => ?_)
    · have := of_decide_eq_true z
      exact ke (.inl (by simp only at this; omega)) _ hS1.same
    have z' : S.steps + 1 ≤ 4000 := by
      have : ¬ _ := fun q => z (decide_eq_true q)
      simp only at this
      omega
    -- value = self.measure.above(rule[1], inner[0], rest[0])
    obtain ⟨rp, rfl, hrp⟩ := is_rule (hr'.md q2)
    obtain ⟨ip, i1, i2, rfl, hip, hi1', hi2'⟩ := is_two (hi.md q2)
    obtain ⟨op, o1, o2, rfl, hop, ho1', ho2'⟩ := is_two (ho.md q2)
    have hE := ok.eff.same hS1.same
    obtain ⟨edx, ed, ev, hpm, _⟩ := id hE
    refine ⟨_, rfl, c.p, c.CS, c.dx, _, _, rfl, hi1, T.cl, T.nM, m2, c.pm, edx, _, rfl, hpm, efs_no _ (by decide +kernel) (by decide +kernel) (by decide +kernel), _, rfl, rp, _, 1, .str r.tag, rfl, rfl, SqT.of hrp, rfl, _, rfl, ip, _, 0, i1, rfl, rfl, SqT.of hip, rfl, _, rfl, op, _, 0, o1, rfl, rfl, SqT.of hop, rfl, ?_⟩
    refine ⟨c.pm, r.tag, i1, o1, v1, v2, c.F, c.W, c.M, rfl, hE, ok.ctx, hi1', ho1', hV1, hV2, fun H2 va s2 hva => ?_⟩
    have hS2 := hS1.new s2
    obtain ⟨fs2, hi2, _, _, _, _, _, _, _, m8, _⟩ := hS2.inv
    obtain ⟨os, ys, rfl, hos, hys⟩ := is_tup (ho2'.same s2)
    -- self.meet((rule[0], value), ((rule[1], inner[1]),) + rest[1])
    refine ⟨_, rfl, c.p, c.dx, _, rfl, hi2, m8, _, rfl, rp, _, 0, .int r.kind, rfl, rfl, SqT.of (s2 _ _ hrp), rfl, _, rfl, (by show 2 ≤ sizeLine; decide), fun t1 n1 => ?_⟩
    have s3 := same_new (o := .tup [.int r.kind, va]) n1
    refine ⟨_, rfl, rp, _, 1, .str r.tag, rfl, rfl, SqT.of (s3 _ _ (s2 _ _ hrp)), rfl, _, rfl, ip, _, 1, i2, rfl, rfl, SqT.of (s3 _ _ (s2 _ _ hip)), rfl, (by show 2 ≤ sizeLine; decide), fun t2 n2 => ⟨(by show 1 ≤ sizeLine; decide), fun t3 n3 => ?_⟩⟩
    have s4 := same_new (o := .tup [.str r.tag, i2]) n2
    have s5 := same_new (o := .tup [.ref t2]) n3
    have s35 := strans s3 (strans s4 s5)
    have s25 := strans s2 s35
    have yl : ys.length ≤ 10000 := by
      have : ys.length = (encG g2).length := hys.length
      have := encG_len g2
      omega
    refine ⟨_, rfl, op, _, 1, .ref os, rfl, rfl, SqT.of (s25 _ _ hop), rfl, t3, os, _, ys, rfl, rfl, SqT.of upd_same, SqT.of (s35 _ _ hos), (by intro z; cases z), sz1000 (by simp; omega), ?_, ?_⟩
    · intro ey
      have eg : g2 = .nil := by
        subst ey
        cases g2 with
        | nil => rfl
        | cons t w o => obtain ⟨_, _, e, _⟩ := hys; cases e
      subst eg
      refine ⟨c, _, (r.kind, above c.F c.W c.M r.tag v1 v2), .cons r.tag g1 .nil, _, _, rfl, rfl, ok, hS2.new s35, ?_, ?_, ?_, hr1, hw1, by show S.beyond.length ≤ 10000; omega, fun S' H' hm hs hmd => kq S' H' hm hs (q2.trans ((Md.of s25).trans hmd)) z', fun hb => ke (.inr hb)⟩
      · exact ⟨t1, _, rfl, s5 _ _ (s4 _ _ upd_same), _, _, rfl, rfl, _, _, rfl, hva.same s35, rfl⟩
      · exact ⟨t3, _, rfl, upd_same, _, _, rfl, ⟨t2, _, rfl, s5 _ _ upd_same, _, _, rfl, rfl, _, _, rfl, hi2'.same s25, rfl⟩, rfl⟩
      · simp only [G.size] at hsz ⊢; omega
    · intro _ t4 n4
      have s6 := same_new (o := .tup ([V.ref t2] ++ ys)) n4
      have s26 := strans s25 s6
      refine ⟨c, _, (r.kind, above c.F c.W c.M r.tag v1 v2), .cons r.tag g1 g2, _, _, rfl, rfl, ok, (hS2.new s35).new s6, ?_, ?_, ?_, hr1, hw1, by show S.beyond.length ≤ 10000; omega, fun S' H' hm hs hmd => kq S' H' hm hs (q2.trans ((Md.of s26).trans hmd)) z', fun hb => ke (.inr hb)⟩
      · exact ⟨t1, _, rfl, s6 _ _ (s5 _ _ (s4 _ _ upd_same)), _, _, rfl, rfl, _, _, rfl, (hva.same s35).same s6, rfl⟩
      · exact ⟨t4, _, rfl, upd_same, _, _, rfl, ⟨t2, _, rfl, s6 _ _ (s5 _ _ upd_same), _, _, rfl, rfl, _, _, rfl, hi2'.same s26, rfl⟩, (hys.same s35).same s6⟩
      · simp only [G.size] at hsz ⊢; omega
end
end K76
set_option Elab.async false
set_option linter.all false
set_option maxRecDepth 100000
set_option maxHeartbeats 4000000
namespace K76
open PySem PySem.Spec PyProof.Rows L2
mutual
theorem is_dp {K : PySem.W.Frag} {H : Hp} : ∀ (k : D) {v : V}, Is H k v → Dp K H v k.data
  | .none, _, h => by cases h; exact .non
  | .num i, _, h => by cases h; exact .int i
  | .text x, _, h => by cases h; exact .str x
  | .tup ks, _, ⟨a, xs, e, ha, hk⟩ => by subst e; exact .tup (SqT.of ha) (is_dps ks hk)
theorem is_dps {K : PySem.W.Frag} {H : Hp} : ∀ (ks : List D) {xs : List V}, IsAll H ks xs → DpAll K H xs (NestedKey.datas ks)
  | [], _, h => by cases h; exact .nil
  | k :: ks, _, ⟨x, r, e, h1, h2⟩ => by subst e; exact .cons (is_dp k h1) (is_dps ks h2)
end
/-! ### rank -/
def spRank (P : Program) (w : World) (CS : Addr) : Sp := fun vs H Q _ => ∃ (p dx dw : Addr) (fs : List (Str × V)) (vp : V) (k : KV2) (kvs : List (D × V)) (a t : Addr) (gv : V), vs = [.ref p, vp] ∧ H p = some (.ins CS dx fs) ∧ List.lookup ("waiting" : Str) fs = some (.ref dw) ∧
  NR P w H dw kvs ∧ Is H (encK k) vp ∧ valV kvs (encK k) = some (.ref a) ∧ H a = some (.tup [.ref t, gv]) ∧ ∀ q, H q = none → Q (.ref q) (upd H q (.tup [.ref t, vp]))
abbrev st_Search_rank : Stmt := inClass (top 22) 4
theorem sc_Search_rank : FnScope ["self", "pair"] ["self", "pair"] (defScope st_Search_rank) := ⟨rfl, rfl, rfl, by decide +kernel, rfl, by decide +kernel, by decide +kernel⟩
section
variable {P : Program} {w : World} {K : PySem.W.Frag} {mg : Str → Option Value} {base : Heap} {CS CE CT : Addr}
theorem ok_rank {f : Addr} {fd : FuncData} (F : Fun K "rank" "Search.rank" st_Search_rank f fd) (T : SCls K CS) : FnOk P w K mg base CX0 1 f fd ["self", "pair"] (spRank P w CS) := by
  refine F.ok sc_Search_rank (fun vs H Q E h => ?_) (fun cdv A outer s H vs Q E hr h => ?_)
  · obtain ⟨_, _, _, _, _, _, _, _, _, _, rfl, _⟩ := h
    rfl
  · obtain ⟨p, dx, dw, fs, vp, k, kvs, a, t, gv, rfl, hp, hf, hN, hk, hv, ha, q⟩ := h
    have hu := hr.units
    refine ⟨_, (pss_one (ps_ret (pe_tup (pa_cons (pe_ix ix_tup (pe_nget hu (pe_fld (pv 0) rfl) (pv 1) (fun _ _ => rfl)) pe_int (fun _ _ => rfl)) (pa_cons (pv 1) pa_nil))))), ?_⟩
    exact ⟨_, rfl, p, CS, dx, _, _, rfl, hp, T.cl, T.nW, hf, _, rfl, dw, _, rfl, ⟨kvs, encK k, hN, encK_ok k, hk, hv.symm⟩, a, _, 0, _, rfl, rfl, SqT.of ha, rfl, _, rfl, (by show 2 ≤ sizeLine; decide), fun u nu => q u nu⟩
end
/-! ### within take_least -/
structure Mid (P : Program) (w : World) (c : SC) (S0 : SS) (H0 H : Hp) (S : SS) (n : Nat) : Prop where
  sr : Srch P w c H S
  md : Md c.ls H0 H
  gd : Gd c.A c.F c.W c.M S
  rows : S.rows = S0.rows
  listed : S.listed = S0.listed
  conts : S.conts = S0.conts
  st : S.steps ≤ S0.steps + n
  st4 : S.steps ≤ 4000
  cv : ∀ x, cov S0 x → cov S x
/-- the counts -/
structure Cnt (c : SC) (S0 : SS) (m : Nat) : Prop where
  len : S0.rows.length = m + 1
  st : S0.steps ≤ c.A.rules.length * (m * (m + 1))
  sz : ∀ r ∈ S0.rows, r.2.size + 1 ≤ 2 ^ m
section
variable {P : Program} {w : World} {c : SC} {S0 S : SS} {H0 H : Hp} {n m : Nat} {CS CE CT : Addr}
theorem mid_step (hcs : c.CS = CS) (hce : c.CE = CE) (ok : c.Ok) (h : Mid P w c S0 H0 H S n) (hc : Cnt c S0 m) (hn : n < c.A.rules.length * (2 * (m + 1))) {r : Rule} (hr : r ∈ c.A.rules) {a b : Row} (ha : a ∈ S0.rows) (hb : b ∈ S0.rows)
    (e1 : a.1.1 = r.inner) (e2 : b.1.1 = r.rest) {vr vi vo : V} (hvr : Is H (encR r) vr) (hvi : Is H (encRow (a.1.2, a.2)) vi) (hvo : Is H (encRow (b.1.2, b.2)) vo) {Q : VK} {E : XK}
    (kq : ∀ S' H', Mid P w c S0 H0 H' S' (n + 1) → cov S' (r.kind, above c.F c.W c.M r.tag a.1.2 b.1.2) → (∀ x, cov S x → cov S' x) → Q .non H') (ke : ¬ Few c.A c.F c.W c.M → ∀ H', L2.Same c.H0 H' → E (.ref CT) none H') :
    spStep P w CS CE CT [.ref c.p, vr, vi, vo] H Q E := by
  have g1 := h.gd.re a (by rw [h.rows]; exact ha)
  have g2 := h.gd.re b (by rw [h.rows]; exact hb)
  have V1 : VOk c.F c.M a.1.2 := by rw [← g1.2.1]; exact value_ok ok.ctx.fok ok.ctx.wok _
  have V2 : VOk c.F c.M b.1.2 := by rw [← g2.2.1]; exact value_ok ok.ctx.fok ok.ctx.wok _
  have i1 : isOf c.A (.cons r.tag a.2 b.2) r.kind = true := isOf_cons.mpr ⟨r, hr, rfl, rfl, by rw [← e1]; exact g1.1, by rw [← e2]; exact g2.1⟩
  have i2 : valueOf c.F c.W c.M (.cons r.tag a.2 b.2) = above c.F c.W c.M r.tag a.1.2 b.1.2 := by rw [valueOf, g1.2.1, g2.2.1]
  have z1 := hc.sz a ha
  have z2 := hc.sz b hb
  have g13 := g1.2.2
  have g23 := g2.2.2
  have tot := h.gd.tot
  have bl := h.gd.bl
  have s4 := h.st4
  refine ⟨c, S, r, a.1.2, b.1.2, a.2, b.2, vr, vi, vo, rfl, hcs, hce, ok, h.sr, hvr, hvi, hvo, V1, V2, by omega, by omega, by omega, by omega, h.st4, fun S' H' hm hs hmd h4 => ?_, fun hbad => ke fun hf => ?_⟩
  · obtain ⟨q1, q2, q3, q4, q5, q6, q7⟩ := meet_gd (n := S.steps + 1) h.gd hm i1 i2 (by
      rw [h.rows, hc.len, Nat.pow_succ]
      simp only [G.size]
      omega) (by omega) (fun _ => by omega)
    exact kq S' H' ⟨hs, h.md.trans hmd, q1, q2.trans h.rows, q3.trans h.listed, q4.trans h.conts, by rw [q5]; have := h.st; omega, by omega, fun x hx => q7 x (h.cv x hx)⟩ q6 q7
  · have ht := few_total hf h.gd
    rw [h.rows, hc.len] at ht
    rcases hbad with hbad | hbad
    · have := h.st
      have h12 := ok.aok.rul
      have hst := hc.st
      have hm8 : m ≤ 8 := by omega
      have p1 : m * (m + 1) ≤ 8 * 9 := Nat.mul_le_mul hm8 (by omega)
      have p2 : c.A.rules.length * (m * (m + 1)) ≤ 12 * (8 * 9) := Nat.mul_le_mul h12 p1
      have p3 : c.A.rules.length * (2 * (m + 1)) ≤ 12 * (2 * 9) := Nat.mul_le_mul h12 (by omega)
      omega
    · exact few_burst hf h.gd i1 i2 hbad
theorem mem_byKind {rows : List Row} {k : Int} {v : Val} {g : G} : (v, g) ∈ byKind rows k ↔ ((k, v), g) ∈ rows := by
  unfold byKind
  simp only [List.mem_map, List.mem_filter]
  constructor
  · rintro ⟨⟨⟨k', v'⟩, g'⟩, ⟨h1, h2⟩, e⟩
    have : k' = k := by simpa using h2
    injection e with e1 e2
    subst this e1 e2
    exact h1
  · intro h
    exact ⟨_, ⟨h, by simp⟩, rfl⟩
theorem byKind_len (rows : List Row) (k : Int) : (byKind rows k).length ≤ rows.length := by
  unfold byKind
  rw [List.length_map]
  exact List.length_filter_le _ _
end
end K76
set_option Elab.async false
set_option linter.all false
set_option maxRecDepth 100000
set_option maxHeartbeats 4000000
namespace K76
open PySem PySem.Spec PyProof.Rows L2
theorem if_mid {c : TT} {t u b : TS} {D : Ends} {σ : L2.St} {H : Hp} (Pm : L2.St → Hp → Prop) (hB : ∀ σ' H', Pm σ' H' → b D σ' H') (hA : (∀ σ' H', Pm σ' H' → b D σ' H') → tIfS c t u { D with nx := b D } σ H) : tSeq (tIfS c t u) b D σ H := hA hB
theorem tSeq_mid {a b : TS} {D : Ends} {σ : L2.St} {H : Hp} (Pm : L2.St → Hp → Prop) (hB : ∀ σ' H', Pm σ' H' → b D σ' H') (hA : (∀ σ' H', Pm σ' H' → b D σ' H') → a { D with nx := b D } σ H) : tSeq a b D σ H := hA hB
theorem paired_left {α β : Type} {R : α → β → Prop} {l : List α} {m : List β} (h : Paired R l m) {a : α} (ha : a ∈ l) : ∃ b, b ∈ m ∧ R a b := by
  induction h with
  | nil => cases ha
  | @cons x y xs ys hr t ih =>
    rcases List.mem_cons.mp ha with rfl | ha
    · exact ⟨y, List.mem_cons_self, hr⟩
    · obtain ⟨b, h1, h2⟩ := ih ha
      exact ⟨b, List.mem_cons_of_mem _ h1, h2⟩
theorem setA_new {rows : List Row} {k : KV2} {g : G} (h : k ∉ rows.map (·.1)) : setA rows k g = rows ++ [(k, g)] := by unfold setA; rw [if_neg h]
def Done (c : SC) (S0 : SS) (nw : Row) (i : Nat) (S : SS) : Prop := ∀ r ∈ c.A.rules.take i, ∀ a ∈ S0.rows, ∀ b ∈ S0.rows, (a = nw ∨ b = nw) → a.1.1 = r.inner → b.1.1 = r.rest → cov S (r.kind, above c.F c.W c.M r.tag a.1.2 b.1.2)
def spTake (P : Program) (w : World) (CS CE CT : Addr) : Sp := fun vs H Q E => ∃ (c : SC) (S : SS), vs = [.ref c.p] ∧ c.CS = CS ∧ c.CE = CE ∧ c.Ok ∧ Srch P w c H S ∧ Gd c.A c.F c.W c.M S ∧ S.listed = S.rows ∧ S.waiting ≠ [] ∧ Cl c.A c.F c.W c.M S ∧
  S.steps ≤ c.A.rules.length * (S.rows.length * (S.rows.length + 1)) ∧ S.steps ≤ 4000 ∧
  (∀ S' H', Srch P w c H' S' → Gd c.A c.F c.W c.M S' → S'.listed = S'.rows → Cl c.A c.F c.W c.M S' → S'.rows.length = S.rows.length + 1 → S'.steps ≤ c.A.rules.length * (S'.rows.length * (S'.rows.length + 1)) → S'.steps ≤ 4000 → Q .non H') ∧
  (¬ Few c.A c.F c.W c.M → ∀ H', L2.Same c.H0 H' → E (.ref CT) none H')
abbrev st_Search_take_least : Stmt := inClass (top 22) 3
theorem sc_Search_take_least : FnScope ["self", "pair", "grove", "kind", "row", "ahead", "rule", "other", "others"] ["self"] (defScope st_Search_take_least) := ⟨rfl, rfl, rfl, by decide +kernel, rfl, by decide +kernel, by decide +kernel⟩
section
variable {P : Program} {w : World} {K : PySem.W.Frag} {mg : Str → Option Value} {base : Heap} {CS CE CT gR : Addr}
theorem ok_take {f : Addr} {fd : FuncData} (F : Fun K "take_least" "Search.take_least" st_Search_take_least f fd) (B : Gb mg) (T : SCls K CS) (bm : BMeth K CS "rank" gR) (FR : FnR P w K mg base CX0 1 gR (spRank P w CS))
    (M_step : Methd P w K mg base (L2.CX P w) 8 CS "step" ["self", "rule", "inner", "rest"] (spStep P w CS CE CT)) :
    FnOk P w K mg base (L2.CX P w) 9 f fd ["self"] (spTake P w CS CE CT) := by
  obtain ⟨sp, hsp⟩ : ∃ sp, sp = spStep P w CS CE CT := ⟨_, rfl⟩
  rw [← hsp] at M_step
  refine F.okX sc_Search_take_least (fun vs H Q E h => ?_) (fun cdv A outer s H vs Q E hr h => ?_)
  · obtain ⟨_, _, rfl, _⟩ := h
    rfl
  · obtain ⟨c, S, rfl, rfl, rfl, ok, hS, gd, hlist, hne, hcl, hst, hst4, kq, ke⟩ := h
    have hu := hr.units
    refine ⟨_, (pss_cons (ps_set (i := 1) sc_Search_take_least.nd rfl (Or.inl rfl) (pe_lock (pe_callBK (cr_minKey rfl FR (hr.mono (by decide)) hu) (by rfl) B.min (by decide +kernel) (pa_cons (pe_fld (pv 0) rfl) pa_nil) (pk_cons (pe_bound (pv 0) T.cl bm rfl) pk_nil))))
      (pss_cons (ps_set (i := 2) sc_Search_take_least.nd rfl (Or.inl rfl) (pe_ix ix_tup (pe_npop hu (pe_fld (pv 0) rfl) (pv 1) ⟨rfl, rfl, rfl, rfl⟩) pe_int (fun _ _ => rfl)))
      (pss_cons (ps_set (i := 3) sc_Search_take_least.nd rfl (Or.inl rfl) (pe_ix ix_tup (pv 1) pe_int (fun _ _ => rfl)))
      (pss_cons (ps_nput hu (pe_fld (pv 0) rfl) (pv 1) (pv 2) rfl)
      (pss_cons (ps_set (i := 4) sc_Search_take_least.nd rfl (Or.inl rfl) (pe_tup (pa_cons (pe_ix ix_tup (pv 1) pe_int (fun _ _ => rfl)) (pa_cons (pv 2) pa_nil))))
      (pss_cons (ps_set (i := 5) sc_Search_take_least.nd rfl (Or.inl rfl) (pe_callTy call_list_of (by rfl) B.list (by decide +kernel) (pa_cons (pe_ix ix_list (pe_fld (pv 0) rfl) (pv 3) (fun _ _ => rfl)) pa_nil)))
      (pss_cons (ps_expr (pe_bm PySem.F.plainAttrs_list PySem.F.slot_list_append PySem.F.type_list_append mt_append (pe_ix ix_list (pe_fld (pv 0) rfl) (pv 3) (fun _ _ => rfl)) (pa_cons (pv 4) pa_nil)))
      (pss_one (ps_for PassesOwn.leaving rfl (pi_tup (pe_ix ix_tup (pe_fld (pv 0) rfl) pe_int (fun _ _ => rfl))) (pg_name (i := 6) sc_Search_take_least.nd rfl (Or.inl rfl)) (pss_cons (ps_if (pt_cmpR op_eq (pe_ix ix_tup (pv 6) pe_int (fun _ _ => rfl)) (pv 3) (nomark _)) (pss_one (ps_for PassesOwn.leaving rfl (pi_list (pe_ix ix_list (pe_fld (pv 0) rfl) (pe_ix ix_tup (pv 6) pe_int (fun _ _ => rfl)) (fun _ _ => rfl))) (pg_name (i := 7) sc_Search_take_least.nd rfl (Or.inl rfl)) (pss_one (ps_expr (pe_methF (pv 0) M_step (hr.mono (by decide)) (passes_call (takes_of rfl rfl rfl rfl) fun _ _ _ _ h => h) (pa_cons (pv 6) (pa_cons (pv 4) (pa_cons (pv 7) pa_nil)))))))) pss_nil)
      (pss_one (ps_if (pt_cmpR op_eq (pe_ix ix_tup (pv 6) pe_int (fun _ _ => rfl)) (pv 3) (nomark _)) (pss_cons (ps_set (i := 8) sc_Search_take_least.nd rfl (Or.inl rfl) (pe_ix ix_list (pe_fld (pv 0) rfl) (pe_ix ix_tup (pv 6) pe_int (fun _ _ => rfl)) (fun _ _ => rfl)))
      (pss_cons (ps_if (pt_cmpR op_eq (pe_ix ix_tup (pv 6) pe_int (fun _ _ => rfl)) (pv 3) (nomark _)) (pss_one (ps_set (i := 8) sc_Search_take_least.nd rfl (Or.inl rfl) (pv 5))) pss_nil)
      (pss_one (ps_for PassesOwn.leaving rfl (pi_list (pv 8)) (pg_name (i := 7) sc_Search_take_least.nd rfl (Or.inl rfl)) (pss_one (ps_expr (pe_methF (pv 0) M_step (hr.mono (by decide)) (passes_call (takes_of rfl rfl rfl rfl) fun _ _ _ _ h => h) (pa_cons (pv 6) (pa_cons (pv 7) (pa_cons (pv 4) pa_nil)))))))))) pss_nil)))))))))))), ?_⟩
    obtain ⟨fs, hi, l1, l2, l3, l4, l5, l6, l7, _, _, _, l11⟩ := hS.inv
    obtain ⟨wk, wN, wP⟩ := hS.wait
    obtain ⟨xs, rfl, hdw, hnk⟩ := id wN
    -- pair = min(self.waiting, key=self.rank)
    refine ⟨c.dw, _, hdw, trivial, fun od => ?_⟩
    have pw : c.p ≠ c.dw := hS.ned.2.1
    have tpl : Tp H (upd H c.dw (.frz od (ND P w c.dw xs))) := Tp.mut hdw (by intro z y; cases y)
    have hiL : upd H c.dw (.frz od (ND P w c.dw xs)) c.p = some (.ins c.CS c.dx fs) := by rw [upd_ne pw]; exact hi
    refine ⟨_, rfl, c.p, c.CS, c.dx, _, _, rfl, hiL, T.cl, T.nW, l4, _, rfl, c.p, c.dx, fs, rfl, hiL, l11, fun q nq => ?_⟩
    have sq : L2.Same (upd H c.dw (.frz od (ND P w c.dw xs))) _ := same_new (o := .met gR c.p) nq
    refine ⟨c.dw, od, xs, c.p, q, fun H' v => ∃ q t len wl ws vp k, v = .ref q ∧ H' q = some (.tup [.ref t, vp]) ∧ H' t = some (.tup [.int len, .ref wl]) ∧ H' wl = some (.lst ((ws : List Tag).map V.str)) ∧ Is H' (encK k) vp, rfl, rfl, ?_, ⟨sq _ _ upd_same, upd_same, fun H' s' e he => ?_, fun H1 H2 v s ⟨q, t, len, wl, ws, vp, k, a1, a2, a3, a4, a5⟩ => ⟨q, t, len, wl, ws, vp, k, a1, s _ _ a2, s _ _ a3, s _ _ a4, a5.same s⟩, ?_⟩, fun H' e he s' => ?_⟩
    · intro e
      subst e
      have : (pairN ([] : List (D × Addr × V))).length = S.waiting.length := paired_len wP
      exact hne (List.length_eq_zero_iff.mp this.symm)
    · -- a call of rank
      obtain ⟨r, hr', hre⟩ := paired_left wP (a := (e.1, e.2.2)) (List.mem_map_of_mem (f := fun x : D × Addr × V => (x.1, x.2.2)) he)
      have ek : e.1 = encK r.1 := hre.1
      have kw : r.1 ∈ S.waiting.map (·.1) := List.mem_map_of_mem (f := (·.1)) hr'
      have hkp : ∀ b o, b ≠ c.dw → H b = some o → H' b = some o := fun b o hb hbo => s' _ _ (sq _ _ (by rw [upd_ne hb]; exact hbo))
      rcases paired_val wP (fun _ _ h => h.1) r.1 with ⟨f1, _⟩ | ⟨g', v', f1, f2, f3⟩
      · exact absurd kw (look_none.mp f1)
      obtain ⟨_, a, t, wl, gv, ev, q2, q3, q4, q5, q6⟩ := f3
      have ev : v' = .ref a := ev
      subst ev
      have hnk' := NKeys.mono (tpl.trans (Tp.of (strans sq s'))) hnk
      have q2' := hkp _ _ (ne_of q2 hdw (by intro z; cases z)) q2
      have q3' := hkp _ _ (ne_of q3 hdw (by intro z; cases z)) q3
      have q5' := hkp _ _ (ne_of q5 hdw (by intro z; cases z)) q5
      have vk : Is H' (encK r.1) (.ref e.2.1) := by rw [← ek]; exact (hnk' e he).1
      refine ⟨c.p, c.dx, c.dw, fs, .ref e.2.1, r.1, pairN xs, a, t, gv, rfl, s' _ _ (sq _ _ hiL), l4, ⟨xs, rfl, .inr ⟨od, s' _ _ (sq _ _ upd_same)⟩, hnk'⟩, vk, f2, q2', fun q9 n9 => ⟨same_new n9, ?_⟩⟩
      have s9 := same_new (o := .tup [.ref t, .ref e.2.1]) n9
      exact ⟨q9, t, _, wl, words g', .ref e.2.1, r.1, rfl, upd_same, s9 _ _ q3', s9 _ _ q5', vk.same s9⟩
    · -- what rank gives is comparable
      rintro H1 v v' ⟨q1, t, len, wl, ws, vp, k, rfl, a2, a3, a4, a5⟩ ⟨q1', t', len', wl', ws', vp', k', rfl, b2, b3, b4, b5⟩
      refine ⟨.tuple [.tuple [.int len, .list (ws.map PyData.str)], (encK k).data], .tuple [.tuple [.int len', .list (ws'.map PyData.str)], (encK k').data], .tup (SqT.of a2) (.cons (.tup (SqT.of a3) (.cons (.int _) (.cons (dp_list a4) .nil))) (.cons (is_dp _ a5) .nil)),
        .tup (SqT.of b2) (.cons (.tup (SqT.of b3) (.cons (.int _) (.cons (dp_list b4) .nil))) (.cons (is_dp _ b5) .nil)), ?_, (by intro z; cases z), ?_⟩
      · show PySem.W.alikeAll [.tuple [.int len, .list (ws.map PyData.str)], (encK k).data] [.tuple [.int len', .list (ws'.map PyData.str)], (encK k').data] = true
        have e1 := alike_strs ws ws'
        have e2 := encK_alike k k'
        have e3 : PySem.W.alike (.tuple [.int len, .list (ws.map PyData.str)]) (.tuple [.int len', .list (ws'.map PyData.str)]) = true := by
          show PySem.W.alikeAll [.int len, .list (ws.map PyData.str)] [.int len', .list (ws'.map PyData.str)] = true
          simp only [PySem.W.alikeAll, e1, Bool.and_true]
          rfl
        simp only [PySem.W.alikeAll, e2, e3, Bool.and_true]
      · show PyData.depthAll [.tuple [.int len, .list (ws.map PyData.str)], (encK k).data] + 1 ≤ 60
        have := (encK_ok k).2
        have e4 := depth_data (encK k)
        simp only [PyData.depthAll, PyData.depth, depth_strs, e4]
        omega
    -- the least pair is found; the dict is free again
    refine ⟨s' _ _ (sq _ _ upd_same), ?_⟩
    obtain ⟨r0, hr0, hre⟩ := paired_left wP (a := (e.1, e.2.2)) (List.mem_map_of_mem (f := fun x : D × Addr × V => (x.1, x.2.2)) he)
    obtain ⟨k, g⟩ := r0
    have ek : e.1 = encK k := hre.1
    have kw : k ∈ S.waiting.map (·.1) := List.mem_map_of_mem (f := (·.1)) hr0
    have sU : L2.Same H (upd H' c.dw (ND P w c.dw xs)) := fun b o hbo => by
      by_cases z : b = c.dw
      · subst z; rw [upd_same, ← hdw]; exact hbo
      · rw [upd_ne z]; exact s' _ _ (sq _ _ (by rw [upd_ne z]; exact hbo))
    have vk0 : Is H (encK k) (.ref e.2.1) := by rw [← ek]; exact (hnk e he).1
    generalize hU : upd H' c.dw (ND P w c.dw xs) = HU at *
    have hSU := hS.new sU
    have vkU := vk0.same sU
    -- grove = self.waiting.pop(pair)[1]
    obtain ⟨kvs2, xs2, rfl, hd2, hk2, p2, hS2, md2⟩ := hSU.popWait ok k
    obtain ⟨fsU, hiU, _, _, _, mU4, _⟩ := hSU.inv
    rcases paired_val p2 (fun _ _ h => h.1) k with ⟨f1, _⟩ | ⟨g', v', f1, f2, f3⟩
    · exact absurd kw (look_none.mp f1)
    have eg : g' = g := by rw [look_of_mem gd.wn hr0] at f1; cases f1; rfl
    subst eg
    obtain ⟨_, a, t, wl, gv, ev, q2, q3, q4, q5, q6⟩ := f3
    have ev : v' = .ref a := ev
    subst ev
    refine ⟨_, rfl, c.p, c.CS, c.dx, _, _, rfl, hiU, T.cl, T.nW, mU4, c.dw, xs2, rfl, hd2, _, rfl, xs2, encK k, .ref a, hd2, hk2, encK_ok k, vkU, f2, a, _, 1, gv, rfl, rfl, SqT.of (md2.tp _ _ q2), rfl, ?_⟩
    -- kind = pair[0]
    have vk2 := Is.md md2 vkU
    obtain ⟨pp, y1, y2, ep, hpp, hy1, hy2⟩ := is_two vk2
    injection ep with ep
    subst ep
    have hy1 : y1 = .int k.1 := hy1
    subst hy1
    refine ⟨_, rfl, e.2.1, _, 0, .int k.1, rfl, rfl, SqT.of hpp, rfl, ?_⟩
    have q6' := Is.md md2 q6
    -- self.rows[pair] = grove
    have hrl : S.rows.length ≤ 100000 := by have := gd.tot; omega
    obtain ⟨ψ, a1, hS3, md3⟩ := hS2.putRow ok vk2 hrl q6'
    obtain ⟨fsP, hiP, _, _, mP3, _⟩ := hS2.inv
    refine ⟨_, rfl, _, rfl, c.p, c.CS, c.dx, _, _, rfl, hiP, T.cl, T.nR, mP3, _, rfl, c.dr, _, rfl, a1, ?_⟩
    -- row = (pair[1], grove)
    have hpp3 := md3.tp _ _ hpp
    refine ⟨_, rfl, e.2.1, _, 1, y2, rfl, rfl, SqT.of hpp3, rfl, _, rfl, (by show 2 ≤ sizeLine; decide), fun tr ntr => ?_⟩
    have s4 := same_new (o := .tup [y2, gv]) ntr
    have hS4 := hS3.new s4
    have hrow : Is (upd (upd (upd HU c.dw (ND P w c.dw (xs2.filter fun x => decide (x.1 ≠ encK k)))) c.dr (.ext ψ)) tr (.tup [y2, gv])) (encRow (k.2, g')) (.ref tr) := ⟨tr, _, rfl, upd_same, _, _, rfl, (Is.md md3 hy2).same s4, _, _, rfl, (Is.md md3 q6').same s4, rfl⟩
    -- ahead = list(self.lists[kind])
    have kr : 0 ≤ k.1 ∧ k.1 < c.A.many := isOf_range ok.aok.fok (gd.we _ hr0).1
    obtain ⟨j, hj⟩ : ∃ j : Nat, k.1 = (j : Int) := ⟨k.1.toNat, by omega⟩
    have jl : j < c.ls.length := by rw [ok.ll]; omega
    obtain ⟨l, hl⟩ : ∃ l, c.ls[j]? = some l := ⟨_, List.getElem?_eq_getElem jl⟩
    obtain ⟨cs, hcs⟩ : ∃ cs, S.conts[j]? = some cs := ⟨_, List.getElem?_eq_getElem (by rw [hS.cl]; exact jl)⟩
    obtain ⟨hl4, hcs4⟩ := hS4.li j l cs hl hcs
    have lat : ∀ (j : Nat) (l : Addr), c.ls[j]? = some l → atI (c.ls.map V.ref) (j : Int) = some (.ref l) := fun j l h => atI_nat (by rw [List.getElem?_map, h]; rfl)
    obtain ⟨fsT, hiT, _, _, _, _, _, _, mT7, _⟩ := hS4.inv
    refine ⟨_, rfl, c.p, c.CS, c.dx, _, _, rfl, hiT, T.cl, T.nL, mT7, _, rfl, c.dl, _, k.1, .ref l, rfl, rfl, SqL.of hS4.dl, (by rw [hj]; exact lat j l hl), l, cs, rfl, .inl (SqL.of hl4), fun qa nqa => ?_⟩
    have qals := fresh_ls hS4 nqa
    have s5 := same_new (o := .lst cs) nqa
    have hS5 := hS4.new s5
    -- self.lists[kind].append(row)
    obtain ⟨hl5, _⟩ := hS5.li j l cs hl hcs
    have csl : cs.length ≤ 1000 := by
      have := hcs4.lenm
      have := byKind_len S.listed (j : Int)
      have : S.listed.length ≤ 64 := by rw [hlist]; have := gd.tot; omega
      simp only at *
      omega
    obtain ⟨hS6, md6⟩ := hS5.putList ok (k := k) (g := g') hj hl hcs (hrow.same s5)
    obtain ⟨fs5, hi5, _, _, _, _, _, _, m57, _⟩ := hS5.inv
    refine ⟨_, rfl, c.p, c.CS, c.dx, _, _, rfl, hi5, T.cl, T.nL, m57, _, rfl, c.dl, _, k.1, .ref l, rfl, rfl, SqL.of hS5.dl, (by rw [hj]; exact lat j l hl), .inl ⟨rfl, _, SqL.of hl5⟩, _, rfl, l, cs, _, rfl, rfl, hl5, szL (by omega), ?_⟩
    have hqa : upd (upd (upd (upd HU c.dw (ND P w c.dw (xs2.filter fun x => decide (x.1 ≠ encK k)))) c.dr (.ext ψ)) tr (.tup [y2, gv])) qa (.lst cs) qa = some (.lst cs) := upd_same
    have ahc := hcs4.same s5
    have hrow5 := hrow.same s5
    have hqa6 := md6.ls _ _ qals hqa
    have ah6 := ahc.mono md6.tp
    have hrow6 := Is.md md6 hrow5
    have hS6' : Srch P w c (upd (upd (upd (upd (upd HU c.dw (ND P w c.dw (xs2.filter fun x => decide (x.1 ≠ encK k)))) c.dr (.ext ψ)) tr (.tup [y2, gv])) qa (.lst cs)) l (.lst (cs ++ [.ref tr]))) (takeS S k g' (S.conts.set j (cs ++ [.ref tr]))) := by
      have : (takeS S k g' (S.conts.set j (cs ++ [.ref tr]))) = { rows := setA S.rows k g', waiting := S.waiting.filter fun r => decide (r.1 ≠ k), beyond := S.beyond, steps := S.steps, listed := S.listed ++ [(k, g')], conts := S.conts.set j (cs ++ [.ref tr]) } := by
        unfold takeS
        rw [setA_new (gd.dj k kw), hlist]
      rw [this]
      exact hS6
    have ⟨gd0, cov0⟩ := take_gd gd hr0 (S.conts.set j (cs ++ [.ref tr]))
    generalize hS0 : takeS S k g' (S.conts.set j (cs ++ [.ref tr])) = S0 at *
    have r0 : S0.rows = S.rows ++ [(k, g')] := by rw [← hS0]; rfl
    have li0 : S0.listed = S.rows ++ [(k, g')] := by rw [← hS0]; rfl
    have st0 : S0.steps = S.steps := by rw [← hS0]; rfl
    have cnt : Cnt c S0 S.rows.length := ⟨by rw [r0]; simp, by rw [st0]; exact hst, fun r hr => by
      rw [r0] at hr
      rcases List.mem_append.mp hr with hr | hr
      · exact gd.rs r hr
      · rw [List.mem_singleton.mp hr]; exact gd.ws _ hr0⟩
    have nwm : ((k, g') : Row) ∈ S0.rows := by rw [r0]; simp
    have mid0 : Mid P w c S0 (upd (upd (upd (upd (upd HU c.dw (ND P w c.dw (xs2.filter fun x => decide (x.1 ≠ encK k)))) c.dr (.ext ψ)) tr (.tup [y2, gv])) qa (.lst cs)) l (.lst (cs ++ [.ref tr]))) (upd (upd (upd (upd (upd HU c.dw (ND P w c.dw (xs2.filter fun x => decide (x.1 ≠ encK k)))) c.dr (.ext ψ)) tr (.tup [y2, gv])) qa (.lst cs)) l (.lst (cs ++ [.ref tr]))) S0 0 := ⟨hS6', Md.of (srefl (upd (upd (upd (upd (upd HU c.dw (ND P w c.dw (xs2.filter fun x => decide (x.1 ≠ encK k)))) c.dr (.ext ψ)) tr (.tup [y2, gv])) qa (.lst cs)) l (.lst (cs ++ [.ref tr])))), gd0, rfl, rfl, rfl, by omega, by rw [st0]; exact hst4, fun x hx => hx⟩
    -- the loop
    obtain ⟨ap, aps, ape, apr, ars, ev, hA⟩ := is_form (Is.md (Md.of (ls := c.ls) hS6'.same) ok.isA)
    obtain ⟨fsX, hiX, mX1, _⟩ := hS6'.inv
    rw [ev] at mX1
    have fX : ∀ {H1 : Hp}, Md c.ls (upd (upd (upd (upd (upd HU c.dw (ND P w c.dw (xs2.filter fun x => decide (x.1 ≠ encK k)))) c.dr (.ext ψ)) tr (.tup [y2, gv])) qa (.lst cs)) l (.lst (cs ++ [.ref tr]))) H1 → FormAt H1 ap c.A aps ape apr ars := fun m => hA.mono m.tp
    have R0 := ok.aok.rul
    have blen : ∀ k, (byKind S0.rows k).length ≤ S.rows.length + 1 := fun k => Nat.le_trans (byKind_len _ _) (by rw [r0]; simp)
    refine ⟨_, rfl, c.p, c.CS, c.dx, _, _, rfl, hiX, T.cl, T.nH, mX1, ap, _, 3, .ref apr, rfl, rfl, SqT.of hA.at_, rfl, apr, rfl, ⟨_, SqT.of hA.ru⟩, for_tup (a := apr) (xs := ars)
      (fun i σ H1 => ∃ v6 v7 v8 S1 n, σ = [some (.ref c.p), some (.ref e.2.1), some gv, some (.int k.1), some (.ref tr), some (.ref qa), v6, v7, v8] ∧ Mid P w c S0 (upd (upd (upd (upd (upd HU c.dw (ND P w c.dw (xs2.filter fun x => decide (x.1 ≠ encK k)))) c.dr (.ext ψ)) tr (.tup [y2, gv])) qa (.lst cs)) l (.lst (cs ++ [.ref tr]))) H1 S1 n ∧ n ≤ i * (2 * (S.rows.length + 1)) ∧ Done c S0 (k, g') i S1)
      ⟨_, _, _, S0, 0, rfl, mid0, by omega, fun r hr => by simp at hr⟩ (fun i σ H1 _ ⟨_, _, _, _, _, _, m, _⟩ => SqT.of (fX m.md).ru) ?_ ?_⟩
    · rintro i x σ H1 hi' ⟨v6, v7, v8, S1, n, rfl, m1, hn, hdone⟩
      obtain ⟨r, hr', hx⟩ := hA.rs.getm hi'
      have hil : i < c.A.rules.length := (List.getElem?_eq_some_iff.mp hr').1
      have rm := List.mem_of_getElem? hr'
      have hx1 := Is.md m1.md hx
      obtain ⟨rp, rfl, hrp⟩ := is_rule hx1
      obtain ⟨rk1, rk2, rk3⟩ := ok.aok.fok.ru r rm
      have hcount : ∀ n', n' < i * (2 * (S.rows.length + 1)) + 2 * (S.rows.length + 1) → n' < c.A.rules.length * (2 * (S.rows.length + 1)) := fun n' h => by
        have : (i + 1) * (2 * (S.rows.length + 1)) ≤ c.A.rules.length * (2 * (S.rows.length + 1)) := Nat.mul_le_mul_right _ hil
        rw [Nat.add_mul, Nat.one_mul] at this
        omega
      -- where a list of a kind stands
      have lists : ∀ (q : Int), 0 ≤ q → q < c.A.many → ∃ (j2 : Nat) (l2 : Addr) (cs2 : List V), q = (j2 : Int) ∧ c.ls[j2]? = some l2 ∧ S0.conts[j2]? = some cs2 ∧ ∀ {H2 : Hp} {S2 : SS} {n2 : Nat}, Mid P w c S0 (upd (upd (upd (upd (upd HU c.dw (ND P w c.dw (xs2.filter fun x => decide (x.1 ≠ encK k)))) c.dr (.ext ψ)) tr (.tup [y2, gv])) qa (.lst cs)) l (.lst (cs ++ [.ref tr]))) H2 S2 n2 → H2 l2 = some (.lst cs2) ∧ IsAll H2 ((byKind S0.rows q).map encRow) cs2 := by
        intro q q1 q2
        have jl2 : q.toNat < c.ls.length := by rw [ok.ll]; omega
        have jc2 : q.toNat < S0.conts.length := by rw [hS6'.cl]; exact jl2
        refine ⟨q.toNat, _, _, by omega, List.getElem?_eq_getElem jl2, List.getElem?_eq_getElem jc2, fun m => ?_⟩
        have := m.sr.li q.toNat _ _ (List.getElem?_eq_getElem jl2) (by rw [m.conts]; exact List.getElem?_eq_getElem jc2)
        rw [m.listed, li0, ← r0] at this
        rwa [show ((q.toNat : Nat) : Int) = q by omega] at this
      have covd : ∀ {S1 S2 : SS} {i : Nat}, Done c S0 (k, g') i S1 → (∀ x, cov S1 x → cov S2 x) → Done c S0 (k, g') i S2 := fun h f r hr a ha b hb h1 h2 h3 => f _ (h r hr a ha b hb h1 h2 h3)
      have bm1 : (S.rows.length + 1) * 2 = 2 * (S.rows.length + 1) := Nat.mul_comm _ _
      refine if_mid (fun σ H1 => ∃ v7 v8 S2 n2, σ = [some (.ref c.p), some (.ref e.2.1), some gv, some (.int k.1), some (.ref tr), some (.ref qa), some (.ref rp), v7, v8] ∧ Mid P w c S0 (upd (upd (upd (upd (upd HU c.dw (ND P w c.dw (xs2.filter fun x => decide (x.1 ≠ encK k)))) c.dr (.ext ψ)) tr (.tup [y2, gv])) qa (.lst cs)) l (.lst (cs ++ [.ref tr]))) H1 S2 n2 ∧ n2 ≤ i * (2 * (S.rows.length + 1)) + (S.rows.length + 1) ∧ Done c S0 (k, g') i S2 ∧
        (r.inner = k.1 → ∀ b ∈ S0.rows, b.1.1 = r.rest → cov S2 (r.kind, above c.F c.W c.M r.tag k.2 b.1.2))) ?_ (fun cont => ?_)
      rotate_left
      · -- if rule[2] == kind
        refine ⟨_, rfl, rp, _, 2, .int r.inner, rfl, rfl, SqT.of hrp, rfl, _, rfl, rfl, _, rfl, ?_⟩
        refine ite2 (fun z => ?_) (fun z => ?_)
        · have z := of_decide_eq_true z
          injection z with z
          obtain ⟨j2, l2, cs2, hq2, hl2, hc2, hst2⟩ := lists r.rest rk3.1 rk3.2
          obtain ⟨fs1, hi1, _, _, _, _, _, _, m17, _⟩ := m1.sr.inv
          refine ⟨_, rfl, c.p, c.CS, c.dx, _, _, rfl, hi1, T.cl, T.nL, m17, _, rfl, rp, _, 3, .int r.rest, rfl, rfl, SqT.of hrp, rfl, c.dl, _, r.rest, .ref l2, rfl, rfl, SqL.of m1.sr.dl, (by rw [hq2]; exact lat j2 l2 hl2), l2, rfl, ⟨cs2, SqL.of (hst2 m1).1⟩, for_list (a := l2) (xs := cs2)
            (fun j σ H1 => ∃ v7 v8 S2 n2, σ = [some (.ref c.p), some (.ref e.2.1), some gv, some (.int k.1), some (.ref tr), some (.ref qa), some (.ref rp), v7, v8] ∧ Mid P w c S0 (upd (upd (upd (upd (upd HU c.dw (ND P w c.dw (xs2.filter fun x => decide (x.1 ≠ encK k)))) c.dr (.ext ψ)) tr (.tup [y2, gv])) qa (.lst cs)) l (.lst (cs ++ [.ref tr]))) H1 S2 n2 ∧ n2 ≤ i * (2 * (S.rows.length + 1)) + j ∧ Done c S0 (k, g') i S2 ∧
              ∀ x ∈ (byKind S0.rows r.rest).take j, cov S2 (r.kind, above c.F c.W c.M r.tag k.2 x.1))
            ⟨_, _, S1, n, rfl, m1, by omega, hdone, fun x hx => by simp at hx⟩ (fun j σ H1 _ ⟨_, _, _, _, _, m, _⟩ => SqL.of (hst2 m).1) ?_ ?_⟩
          · rintro j y σ H2 hj ⟨v7, v8, S2, n2, rfl, m2, hn2, hd2', hcv⟩
            obtain ⟨x, hx', hy⟩ := (hst2 m2).2.getm hj
            have hbr : ((r.rest, x.1), x.2) ∈ S0.rows := mem_byKind.mp (List.mem_of_getElem? hx')
            have jlen : j < (byKind S0.rows r.rest).length := (List.getElem?_eq_some_iff.mp hx').1
            have := blen r.rest
            obtain ⟨fs2, hi2, _, _, _, _, _, _, _, _, m2s, _⟩ := m2.sr.inv
            refine ⟨_, rfl, c.p, c.dx, _, rfl, hi2, m2s, _, rfl, _, rfl, _, rfl, ?_⟩
            change sp _ _ _ _
            rw [hsp]
            refine mid_step rfl rfl ok m2 cnt (hcount n2 (by omega)) rm nwm hbr z.symm rfl (Is.md m2.md hx) (Is.md m2.md hrow6) hy (fun S' H' m' hc' hmono => ?_) ke
            refine ⟨_, _, S', n2 + 1, rfl, m', by omega, covd hd2' hmono, fun x' hx2 => ?_⟩
            rw [take_snoc hx', List.mem_append, List.mem_singleton] at hx2
            rcases hx2 with hx2 | rfl
            · exact hmono _ (hcv x' hx2)
            · exact hc'
          · rintro σ H2 ⟨v7, v8, S2, n2, rfl, m2, hn2, hd2', hcv⟩
            have e1 := (hst2 m2).2.lenm
            rw [e1, List.take_length] at hcv
            have := blen r.rest
            refine cont _ _ ⟨_, _, S2, n2, rfl, m2, by omega, hd2', fun _ b hb hbr => hcv (b.1.2, b.2) (mem_byKind.mpr (by rw [← hbr]; exact hb))⟩
        · exact cont _ _ ⟨_, _, S1, n, rfl, m1, by omega, hdone, fun e => absurd (decide_eq_true (by rw [e])) z⟩
      · -- if rule[3] == kind
        rintro σ H2 ⟨v7, v8, S2, n2, rfl, m2, hn2, hd2', hfirst⟩
        have hrp2 : H2 rp = some (.tup [.int r.kind, .str r.tag, .int r.inner, .int r.rest]) := by
          obtain ⟨rp', e', h'⟩ := is_rule (Is.md m2.md hx)
          injection e' with e'
          rw [e']; exact h'
        refine ⟨_, rfl, rp, _, 3, .int r.rest, rfl, rfl, SqT.of hrp2, rfl, _, rfl, rfl, _, rfl, ?_⟩
        refine ite2 (fun z => ?_) (fun z => ?_)
        rotate_left
        · -- no
          refine ⟨_, _, _, S2, n2, rfl, m2, by rw [Nat.add_mul, Nat.one_mul]; omega, fun r' hr2 a ha b hb h1 h2 h3 => ?_⟩
          rw [take_snoc hr', List.mem_append, List.mem_singleton] at hr2
          rcases hr2 with hr2 | rfl
          · exact hd2' r' hr2 a ha b hb h1 h2 h3
          · rcases h1 with rfl | rfl
            · exact hfirst h2.symm b hb h3
            · exact absurd (decide_eq_true (congrArg V.int h3.symm)) z
        · have z := of_decide_eq_true z
          injection z with z
          obtain ⟨j3, l3, cs3, hq3, hl3, hc3, hst3⟩ := lists r.inner rk2.1 rk2.2
          obtain ⟨fs2, hi2, _, _, _, _, _, _, m27, _⟩ := m2.sr.inv
          -- others = self.lists[rule[2]]
          refine ⟨_, rfl, c.p, c.CS, c.dx, _, _, rfl, hi2, T.cl, T.nL, m27, _, rfl, rp, _, 2, .int r.inner, rfl, rfl, SqT.of hrp2, rfl, c.dl, _, r.inner, .ref l3, rfl, rfl, SqL.of m2.sr.dl, (by rw [hq3]; exact lat j3 l3 hl3), ?_⟩
          -- if rule[2] == kind: others = ahead
          dsimp only [L2.gName]
          refine if_mid (fun σ H1 => H1 = H2 ∧ ∃ lo xso src, σ = [some (.ref c.p), some (.ref e.2.1), some gv, some (.int k.1), some (.ref tr), some (.ref qa), some (.ref rp), v7, some (.ref lo)] ∧ (∀ {H2 : Hp} {S2 : SS} {n2 : Nat}, Mid P w c S0 (upd (upd (upd (upd (upd HU c.dw (ND P w c.dw (xs2.filter fun x => decide (x.1 ≠ encK k)))) c.dr (.ext ψ)) tr (.tup [y2, gv])) qa (.lst cs)) l (.lst (cs ++ [.ref tr]))) H2 S2 n2 → H2 lo = some (.lst xso) ∧ IsAll H2 ((src : List (Val × G)).map encRow) xso) ∧
            (∀ x ∈ src, ((r.inner, x.1), x.2) ∈ S0.rows) ∧ (∀ a ∈ S0.rows, a.1.1 = r.inner → (a.1.2, a.2) ∈ src ∨ (a = (k, g') ∧ r.inner = k.1)) ∧ src.length ≤ S.rows.length + 1) ?_ (fun cont => ?_)
          rotate_left
          · refine ⟨_, rfl, rp, _, 2, .int r.inner, rfl, rfl, SqT.of hrp2, rfl, _, rfl, rfl, _, rfl, ?_⟩
            refine ite2 (fun y => ?_) (fun y => ?_)
            · have y := of_decide_eq_true y
              injection y with y
              refine ⟨_, rfl, cont _ _ ⟨rfl, qa, cs, byKind S.listed (j : Int), rfl, fun {H3 S3 n3} m => ⟨m.md.ls _ _ qals hqa6, ah6.mono m.md.tp⟩, fun x hx2 => ?_, fun a ha hai => ?_, ?_⟩⟩
              · rw [r0, y, hj]
                have := mem_byKind.mp hx2
                rw [hlist] at this
                exact List.mem_append_left _ this
              · rw [r0] at ha
                rcases List.mem_append.mp ha with ha | ha
                · refine .inl (mem_byKind.mpr ?_)
                  rw [hlist, ← hj, ← y, ← hai]; exact ha
                · exact .inr ⟨List.mem_singleton.mp ha, y⟩
              · refine Nat.le_trans (byKind_len _ _) ?_
                rw [hlist]; omega
            · refine cont _ _ ⟨rfl, l3, cs3, byKind S0.rows r.inner, rfl, fun {H3 S3 n3} m => hst3 m, fun x hx2 => mem_byKind.mp hx2, fun a ha hai => .inl (mem_byKind.mpr (by rw [← hai]; exact ha)), blen _⟩
          · rintro σ H3 ⟨rfl, lo, xso, src, rfl, hlo, hsrc, hall, hsl⟩
            refine ⟨_, rfl, lo, rfl, ⟨xso, SqL.of (hlo m2).1⟩, for_list (a := lo) (xs := xso)
              (fun j σ H1 => ∃ v7 S4 n4, σ = [some (.ref c.p), some (.ref e.2.1), some gv, some (.int k.1), some (.ref tr), some (.ref qa), some (.ref rp), v7, some (.ref lo)] ∧ Mid P w c S0 (upd (upd (upd (upd (upd HU c.dw (ND P w c.dw (xs2.filter fun x => decide (x.1 ≠ encK k)))) c.dr (.ext ψ)) tr (.tup [y2, gv])) qa (.lst cs)) l (.lst (cs ++ [.ref tr]))) H1 S4 n4 ∧ n4 ≤ i * (2 * (S.rows.length + 1)) + (S.rows.length + 1) + j ∧ (∀ x, cov S2 x → cov S4 x) ∧
                ∀ x ∈ src.take j, cov S4 (r.kind, above c.F c.W c.M r.tag x.1 k.2))
              ⟨_, S2, n2, rfl, m2, by omega, fun x hx => hx, fun x hx => by simp at hx⟩ (fun j σ H1 _ ⟨_, _, _, _, m, _⟩ => SqL.of (hlo m).1) ?_ ?_⟩
            · rintro j y σ H4 hj ⟨v7, S4, n4, rfl, m4, hn4, hmo, hcv⟩
              obtain ⟨x, hx', hy⟩ := (hlo m4).2.getm hj
              have har := hsrc x (List.mem_of_getElem? hx')
              have jlen : j < src.length := (List.getElem?_eq_some_iff.mp hx').1
              obtain ⟨fs4, hi4, _, _, _, _, _, _, _, _, m4s, _⟩ := m4.sr.inv
              refine ⟨_, rfl, c.p, c.dx, _, rfl, hi4, m4s, _, rfl, _, rfl, _, rfl, ?_⟩
              change sp _ _ _ _
              rw [hsp]
              refine mid_step rfl rfl ok m4 cnt (hcount n4 (by omega)) rm har nwm rfl z.symm (Is.md m4.md hx) hy (Is.md m4.md hrow6) (fun S' H' m' hc' hmono => ?_) ke
              refine ⟨_, S', n4 + 1, rfl, m', by omega, fun x hx => hmono x (hmo x hx), fun x' hx2 => ?_⟩
              rw [take_snoc hx', List.mem_append, List.mem_singleton] at hx2
              rcases hx2 with hx2 | rfl
              · exact hmono _ (hcv x' hx2)
              · exact hc'
            · rintro σ H4 ⟨v7, S4, n4, rfl, m4, hn4, hmo, hcv⟩
              have e1 := (hlo m4).2.lenm
              rw [e1, List.take_length] at hcv
              refine ⟨_, _, _, S4, n4, rfl, m4, by rw [Nat.add_mul, Nat.one_mul]; omega, fun r' hr2 a ha b hb h1 h2 h3 => ?_⟩
              rw [take_snoc hr', List.mem_append, List.mem_singleton] at hr2
              rcases hr2 with hr2 | rfl
              · exact hmo _ (hd2' r' hr2 a ha b hb h1 h2 h3)
              · rcases h1 with rfl | rfl
                · exact hmo _ (hfirst h2.symm b hb h3)
                · rcases hall a ha h2 with h4 | ⟨rfl, h5⟩
                  · exact hcv _ h4
                  · exact hmo _ (hfirst h5 _ hb h3)
    · rintro σ H1 ⟨v6, v7, v8, S1, n, rfl, m1, hn, hdone⟩
      have e1 := hA.rs.lenm
      rw [e1] at hn
      unfold Done at hdone
      rw [e1, List.take_length] at hdone
      have hl1 : S1.rows.length = S.rows.length + 1 := by rw [m1.rows, cnt.len]
      refine kq S1 H1 m1.sr m1.gd (by rw [m1.listed, m1.rows, li0, r0]) ⟨fun e' he' => m1.cv _ (cov0 _ (hcl.1 e' he')), fun r hr a ha b hb h1 h2 => ?_⟩ hl1 ?_ m1.st4
      · rw [m1.rows] at ha hb
        have ha' := ha
        have hb' := hb
        rw [r0] at ha' hb'
        rcases List.mem_append.mp ha' with ha' | ha'
        · rcases List.mem_append.mp hb' with hb' | hb'
          · exact m1.cv _ (cov0 _ (hcl.2 r hr a ha' b hb' h1 h2))
          · exact hdone r hr a ha b hb (.inr (List.mem_singleton.mp hb')) h1 h2
        · exact hdone r hr a ha b hb (.inl (List.mem_singleton.mp ha')) h1 h2
      · rw [hl1]
        have := m1.st
        have e2 : c.A.rules.length * ((S.rows.length + 1) * (S.rows.length + 1 + 1)) = c.A.rules.length * (S.rows.length * (S.rows.length + 1)) + c.A.rules.length * (2 * (S.rows.length + 1)) := by
          rw [← Nat.mul_add]
          congr 1
          rw [← Nat.add_mul, Nat.mul_comm]
        rw [e2]
        omega
end
end K76
set_option Elab.async false
set_option linter.all false
set_option maxRecDepth 100000
set_option maxHeartbeats 4000000
namespace K76
open PySem PySem.Spec PyProof.Rows L2
def spSInit (P : Program) (w : World) (CS CE : Addr) : Sp := fun vs H Q _ => ∃ (H0 : Hp) (p dx pm : Addr) (vA : V) (A F : Form) (W : Way) (M : Nat), vs = [.ref p, vA, .ref pm] ∧ L2.Same H0 H ∧ H0 p = none ∧ H p = some (.ins CS dx []) ∧ Is H0 (encF A) vA ∧ AOk A ∧ Eff CE H0 pm F W M ∧ Ctx F W M ∧
  ∀ c S H', c.H0 = H0 → c.p = p → c.CS = CS → c.CE = CE → c.A = A → c.F = F → c.W = W → c.M = M → c.Ok → Srch P w c H' S → Gd A F W M S → S.rows = [] → S.listed = [] → Cl A F W M S → S.steps = 0 → Q .non H'
abbrev st_SI : Stmt := inClass (top 22) 0
theorem sc_SI : FnScope ["self", "one", "measure", "kind", "k"] ["self", "one", "measure"] (defScope st_SI) := ⟨rfl, rfl, rfl, by decide +kernel, rfl, by decide +kernel, by decide +kernel⟩
section
variable {P : Program} {w : World} {K : PySem.W.Frag} {mg : Str → Option Value} {base : Heap} {CS CE CT : Addr}
theorem ok_SInit {f : Addr} {fd : FuncData} (F : Fun K "__init__" "Search.__init__" st_SI f fd) (B : Gb mg) (T : SCls K CS)
    (M_nothing : Methd P w K mg base CX0 2 CE "nothing" ["self"] (spNothing CE)) (M_meet : Methd P w K mg base (L2.CX P w) 2 CS "meet" ["self", "pair", "grove"] (spMeet P w CS CT)) :
    FnOk P w K mg base CX0 3 f fd ["self", "one", "measure"] (spSInit P w CS CE) := by
  refine F.ok sc_SI (fun vs H Q E h => ?_) (fun cdv A outer s H vs Q E hr h => ?_)
  · obtain ⟨_, _, _, _, _, _, _, _, _, rfl, _⟩ := h
    rfl
  · obtain ⟨H0, p, dx, pm, vA, AA, F, W, M, rfl, s0, f0, hp, hA, aok, hE, hc, kq⟩ := h
    have hu := hr.units
    refine ⟨_, (pss_cons (ps_fld (pv 0) (pv 1) rfl)
      (pss_cons (ps_fld (pv 0) (pv 2) rfl)
      (pss_cons (ps_fld (pv 0) pe_nnew rfl)
      (pss_cons (ps_fld (pv 0) pe_nnew rfl)
      (pss_cons (ps_fld (pv 0) pe_nnew rfl)
      (pss_cons (ps_fld (pv 0) pe_int rfl)
      (pss_cons (ps_fld (pv 0) (pe_lc (own := [("k", 4)]) rfl sc_SI.nd (pi_range1 rfl B.range (pa_cons (pe_ix ix_tup (pv 1) pe_int (fun _ _ => rfl)) pa_nil)) (blkOk_by (own := [("k", 4)]) (N := ["self", "one", "measure", "kind", "k"]) (sc := defScope st_SI) (by decide +kernel)) (fun _ _ _ _ _ => (pg_name (i := 4) sc_SI.nd rfl (Or.inl rfl))) (fun _ _ _ _ _ => pts_nil) (fun _ _ _ _ _ => (pe_lst pa_nil))) rfl)
      (pss_one (ps_for PassesOwn.never rfl (pi_tup (pe_ix ix_tup (pv 1) pe_int (fun _ _ => rfl))) (pg_name (i := 3) sc_SI.nd rfl (Or.inl rfl)) (pss_one (ps_expr (pe_methF (pv 0) M_meet (hr.mono (by decide)) passN (pa_cons (pe_tup (pa_cons (pv 3) (pa_cons (pe_methF0 (pv 2) M_nothing (hr.mono (by decide)) pass0) pa_nil))) (pa_cons (pe_tup pa_nil) pa_nil)))))))))))))), ?_⟩
    have s1 := smut (o := .ins CS dx [("held", vA)]) s0 f0
    have p1 : upd H p (.ins CS dx [("held", vA)]) p = some (.ins CS dx [("held", vA)]) := upd_same
    refine ⟨_, rfl, _, rfl, p, CS, dx, [], rfl, hp, T.cl, T.nH, (by show 0 < 1000; decide), ?_⟩
    refine ⟨_, rfl, _, rfl, p, CS, dx, _, rfl, p1, T.cl, T.nM, (by show 1 < 1000; decide), ?_⟩
    have s2 := smut (o := .ins CS dx [("held", vA), ("measure", .ref pm)]) s1 f0
    have p2 : upd (upd H p (.ins CS dx [("held", vA)])) p (.ins CS dx [("held", vA), ("measure", .ref pm)]) p = some (.ins CS dx [("held", vA), ("measure", .ref pm)]) := upd_same
    intro dr n3
    have n3' := n3
    obtain ⟨d1, n3'⟩ := upd_none n3'
    obtain ⟨_, n3'⟩ := upd_none n3'
    have fr := s0.free n3'
    refine ⟨_, rfl, p, CS, dx, [("held", vA), ("measure", .ref pm)], rfl, (by repeat (first | exact K76.us | assumption | refine Eq.trans (L2.upd_ne (by first | assumption | exact Ne.symm (by assumption))) ?_)), T.cl, T.nR, (by show 2 < 1000; decide), ?_⟩
    intro dw n5
    have n5' := n5
    obtain ⟨d2, n5'⟩ := upd_none n5'
    obtain ⟨d3, n5'⟩ := upd_none n5'
    obtain ⟨_, n5'⟩ := upd_none n5'
    obtain ⟨_, n5'⟩ := upd_none n5'
    have fw := s0.free n5'
    refine ⟨_, rfl, p, CS, dx, [("held", vA), ("measure", .ref pm), ("rows", .ref dr)], rfl, (by repeat (first | exact K76.us | assumption | refine Eq.trans (L2.upd_ne (by first | assumption | exact Ne.symm (by assumption))) ?_)), T.cl, T.nW, (by show 3 < 1000; decide), ?_⟩
    intro db n6
    have n6' := n6
    obtain ⟨d4, n6'⟩ := upd_none n6'
    obtain ⟨d5, n6'⟩ := upd_none n6'
    obtain ⟨_, n6'⟩ := upd_none n6'
    obtain ⟨d6, n6'⟩ := upd_none n6'
    obtain ⟨_, n6'⟩ := upd_none n6'
    obtain ⟨_, n6'⟩ := upd_none n6'
    have fb := s0.free n6'
    refine ⟨_, rfl, p, CS, dx, [("held", vA), ("measure", .ref pm), ("rows", .ref dr), ("waiting", .ref dw)], rfl, (by repeat (first | exact K76.us | assumption | refine Eq.trans (L2.upd_ne (by first | assumption | exact Ne.symm (by assumption))) ?_)), T.cl, T.nB, (by show 4 < 1000; decide), ?_⟩
    refine ⟨_, rfl, p, CS, dx, [("held", vA), ("measure", .ref pm), ("rows", .ref dr), ("waiting", .ref dw), ("beyond", .ref db)], rfl, (by repeat (first | exact K76.us | assumption | refine Eq.trans (L2.upd_ne (by first | assumption | exact Ne.symm (by assumption))) ?_)), T.cl, T.nS, (by show 5 < 1000; decide), ?_⟩
    have sH := smut (o := .ins CS dx [("held", vA), ("measure", .ref pm), ("rows", .ref dr), ("waiting", .ref dw), ("beyond", .ref db), ("steps", .int 0)]) (smut (o := .ins CS dx [("held", vA), ("measure", .ref pm), ("rows", .ref dr), ("waiting", .ref dw), ("beyond", .ref db)]) (smut (o := ND P w db []) (smut (o := .ins CS dx [("held", vA), ("measure", .ref pm), ("rows", .ref dr), ("waiting", .ref dw)]) (smut (o := ND P w dw []) (smut (o := .ins CS dx [("held", vA), ("measure", .ref pm), ("rows", .ref dr)]) (smut (o := ND P w dr []) (smut (o := .ins CS dx [("held", vA), ("measure", .ref pm)]) (smut (o := .ins CS dx [("held", vA)]) s0 f0) f0) fr) f0) fw) f0) fb) f0) f0
    obtain ⟨ap, aps, ape, apr, ars, rfl, hAA⟩ := is_form (hA.same sH)
    have hm3 := aok.few
    -- self.lists = [[] for k in range(one[0])]
    refine ⟨_, rfl, ap, _, 0, _, rfl, rfl, SqT.of hAA.at_, rfl, _, rfl, by omega, by omega, fun D nD => ?_⟩
    refine lc_range (lo := 0) (n := AA.many) (fun i H2 => ∃ ls : List Addr, ls.length = i ∧ ls.Nodup ∧ D ∉ ls ∧ L2.Same H0 H2 ∧ H2 p = some (.ins CS dx [("held", .ref ap), ("measure", .ref pm), ("rows", .ref dr), ("waiting", .ref dw), ("beyond", .ref db), ("steps", .int 0)]) ∧ H2 dr = some (ND P w dr []) ∧ H2 dw = some (ND P w dw []) ∧ H2 db = some (ND P w db []) ∧
      H2 D = some (.lst (ls.map V.ref)) ∧ ∀ l ∈ ls, H2 l = some (.lst []) ∧ H0 l = none)
      ⟨[], rfl, .nil, by simp, snew sH nD, get_new (by repeat (first | exact K76.us | assumption | refine Eq.trans (L2.upd_ne (by first | assumption | exact Ne.symm (by assumption))) ?_)) nD, get_new (by repeat (first | exact K76.us | assumption | refine Eq.trans (L2.upd_ne (by first | assumption | exact Ne.symm (by assumption))) ?_)) nD, get_new (by repeat (first | exact K76.us | assumption | refine Eq.trans (L2.upd_ne (by first | assumption | exact Ne.symm (by assumption))) ?_)) nD, get_new (by repeat (first | exact K76.us | assumption | refine Eq.trans (L2.upd_ne (by first | assumption | exact Ne.symm (by assumption))) ?_)) nD, upd_same, fun l hl => by cases hl⟩ ?_ ?_
    · rintro i H2 hi ⟨ls, e1, e2, e3, s2, g1, g2, g3, g4, g5, g6⟩
      refine ⟨rfl, (Nat.zero_le _), fun l nl => ⟨_, get_new g5 nl, ?_, ls ++ [l], by simp [e1], ?_, ?_, ?_, ?_, ?_, ?_, ?_, ?_, ?_⟩⟩
      · rw [List.length_map, e1]; exact szL (by omega)
      · rw [List.nodup_append]
        refine ⟨e2, by simp, fun a ha b hb e => ?_⟩
        simp at hb
        subst hb e
        have := (g6 a ha).1
        rw [nl] at this; cases this
      · rw [List.mem_append, List.mem_singleton]
        rintro (h | h)
        · exact e3 h
        · subst h; rw [nl] at g5; cases g5
      · exact smut (snew s2 nl) (sH.free nD)
      · rw [upd_ne (ne_of g1 g5 (by intro z; cases z))]; exact get_new g1 nl
      · rw [upd_ne (ne_of g2 g5 (by intro z; cases z))]; exact get_new g2 nl
      · rw [upd_ne (ne_of g3 g5 (by intro z; cases z))]; exact get_new g3 nl
      · rw [upd_ne (ne_of g4 g5 (by intro z; cases z))]; exact get_new g4 nl
      · rw [upd_same]; simp
      · intro l' hl'
        rcases List.mem_append.mp hl' with h | h
        · refine ⟨?_, (g6 l' h).2⟩
          rw [upd_ne (fun z => e3 (by rw [← z]; exact h))]
          exact get_new (g6 l' h).1 nl
        · rw [List.mem_singleton.mp h]
          refine ⟨?_, s2.free nl⟩
          rw [upd_ne (ne_of_none g5 nl).symm, upd_same]
    · rintro H2 ⟨ls, e1, e2, e3, s2, g1, g2, g3, g4, g5, g6⟩
      refine ⟨_, rfl, p, CS, dx, _, rfl, g1, T.cl, T.nL, (by show 6 < 1000; decide), ?_⟩
      let c : SC := ⟨H0, CE, CS, p, dx, pm, dr, dw, db, D, .ref ap, ls, AA, F, W, M⟩
      have ok : c.Ok := ⟨f0, fr, fw, fb, fun l hl => (g6 l hl).2, d3.symm, d6.symm, d5.symm, e1, e2, e3, hE, hc, hA, aok⟩
      let S0 : SS := ⟨[], [], [], 0, [], List.replicate AA.many []⟩
      have hS : Srch P w c (upd H2 p (.ins CS dx (sfs (.ref ap) (.ref pm) (.ref dr) (.ref dw) (.ref db) (.ref D) ((0 : Nat) : Int)))) S0 := by
        refine ⟨smut s2 f0, upd_same, ⟨[], ⟨[], rfl, by rw [upd_ne d1]; exact g2, fun p hp => by cases hp⟩, .nil⟩, ⟨[], ⟨[], rfl, by rw [upd_ne d2]; exact g3, fun p hp => by cases hp⟩, .nil⟩, ⟨[], ⟨[], rfl, by rw [upd_ne d4]; exact g4, fun p hp => by cases hp⟩, rfl⟩, ?_, ?_, fun k l xs h1 h2 => ?_⟩
        · rw [upd_ne (ne_of g5 g1 (by intro z; cases z))]; exact g5
        · show (List.replicate AA.many []).length = ls.length
          rw [List.length_replicate, e1]
        · have lm : l ∈ ls := List.mem_of_getElem? h1
          have h2 : (List.replicate AA.many ([] : List V))[k]? = some xs := h2
          have : xs = [] := by
            rw [List.getElem?_replicate] at h2
            split at h2
            · cases h2; rfl
            · cases h2
          subst this
          exact ⟨by rw [upd_ne (ne_of (g6 l lm).1 g1 (by intro z; cases z))]; exact (g6 l lm).1, rfl⟩
      have gd : Gd AA F W M S0 := ⟨fun r hr => (nomatch hr), fun r hr => (nomatch hr), .nil, .nil, fun k hk => (nomatch hk), fun r hr => (nomatch hr), fun r hr => (nomatch hr), (by show 0 + 0 ≤ 64; omega), Nat.le_refl _, fun _ => rfl, fun k hk => (nomatch hk)⟩
      have hAF : FormAt (upd H2 p (.ins CS dx (sfs (.ref ap) (.ref pm) (.ref dr) (.ref dw) (.ref db) (.ref D) ((0 : Nat) : Int)))) ap AA aps ape apr ars := by
        obtain ⟨a', b', c', d', e', ev, h'⟩ := is_form (hA.same hS.same)
        injection ev with ev
        subst ev
        have hb := (hAA.at_)
        have := is_form hA
        obtain ⟨a2, b2, c2, d2, e2', ev2, h2⟩ := this
        injection ev2 with ev2
        subst ev2
        have t := h2.mono (Tp.of sH)
        have u1 := t.at_.symm.trans hAA.at_
        injection u1 with u1
        injection u1 with u1
        simp at u1
        obtain ⟨rfl, rfl, rfl⟩ := u1
        have u2 := t.ru.symm.trans hAA.ru
        injection u2 with u2
        injection u2 with u2
        subst u2
        exact h2.mono (Tp.of hS.same)
      refine ⟨_, rfl, ap, _, 2, _, rfl, rfl, SqT.of hAF.at_, rfl, ape, rfl, ⟨_, SqT.of hAF.en⟩, for_tup (a := ape) (xs := AA.ends.map V.int) (fun i σ H3 => ∃ v3 S, σ = [some (.ref p), some (.ref ap), some (.ref pm), v3, none] ∧ Srch P w c H3 S ∧ Md ls (upd H2 p (.ins CS dx (sfs (.ref ap) (.ref pm) (.ref dr) (.ref dw) (.ref db) (.ref D) ((0 : Nat) : Int)))) H3 ∧ Gd AA F W M S ∧ S.rows = [] ∧ S.listed = [] ∧ S.steps = 0 ∧ S.beyond = [] ∧ S.waiting.length ≤ i ∧ ∀ e ∈ AA.ends.take i, cov S (e, nothing F M))
        ⟨_, S0, rfl, hS, Md.of (srefl _), gd, rfl, rfl, rfl, rfl, Nat.le_refl _, fun e he => by simp at he⟩ (fun i σ H3 _ ⟨_, _, _, _, h, _⟩ => SqT.of (hAF.mono h.tp).en) ?_ ?_⟩
      · rintro i x σ H3 hi ⟨v3, S, rfl, hS3, md, gd3, q1, q2, q3, q4, q5, q6⟩
        rw [List.getElem?_map] at hi
        obtain ⟨e, he, rfl⟩ := Option.map_eq_some_iff.mp hi
        have hel : i < AA.ends.length := (List.getElem?_eq_some_iff.mp he).1
        have he10 := aok.end_
        obtain ⟨fs3, hi3, _, _, _, _, _, _, _, m8, _⟩ := hS3.inv
        have hE3 := hE.same hS3.same
        obtain ⟨edx, ed, ev, hpm, _⟩ := id hE3
        refine ⟨_, rfl, p, dx, _, rfl, hi3, m8, _, rfl, _, rfl, pm, edx, _, rfl, hpm, efs_no _ (by decide +kernel) (by decide +kernel) (by decide +kernel), pm, F, W, M, rfl, hE3, hc, fun H4 vn s4 hvn => ⟨(by show 2 ≤ sizeLine; decide), fun t1 n1 => ⟨(Nat.zero_le _), fun t2 n2 => ?_⟩⟩⟩
        have s5 := same_new (o := .tup [.int e, vn]) n1
        have s6 := same_new (o := .tup []) n2
        refine ⟨c, S, (e, nothing F M), .nil, .ref t1, .ref t2, rfl, rfl, ok, (hS3.new s4).new (strans s5 s6), ⟨t1, _, rfl, s6 _ _ upd_same, _, _, rfl, rfl, _, _, rfl, (hvn.same s5).same s6, rfl⟩, ⟨t2, [], rfl, upd_same, rfl⟩, by show 0 ≤ 1000; omega, by rw [q1]; show 0 ≤ 1000; omega, by omega, by rw [q4]; show 0 ≤ 10000; omega, fun S' H' hm hs hmd => ?_, fun hb => ?_⟩
        · have hm' : Meet { S with steps := 0 } (e, nothing F M) .nil S' := by rw [← q3]; exact hm
          obtain ⟨z1, z2, z3, z4, z5, z6, z7⟩ := meet_gd (n := 0) gd3 hm' (by rw [isOf, List.contains_iff_mem]; exact List.mem_of_getElem? he) rfl (by rw [q1]; show 0 + 1 ≤ 2 ^ 0; decide) (by rw [q4]; exact Nat.le_refl _) (fun h => absurd h (by show ¬ 300 < 0; omega))
          refine ⟨_, S', rfl, hs, md.trans ((Md.of (strans s4 (strans s5 s6))).trans hmd), z1, z2.trans q1, z3.trans q2, z5, ?_, ?_, fun e' he' => ?_⟩
          · rcases hm with ⟨_, rfl⟩ | ⟨_, ⟨h, _⟩ | ⟨_, rfl | ⟨_, rfl⟩, _⟩⟩
            · exact q4
            · exact absurd h (by show ¬ 300 < 0; omega)
            · exact q4
            · exact q4
          · rcases hm with ⟨_, rfl⟩ | ⟨_, ⟨h, _⟩ | ⟨_, rfl | ⟨_, rfl⟩, _⟩⟩
            · omega
            · exact absurd h (by show ¬ 300 < 0; omega)
            · show (setA S.waiting (e, nothing F M) .nil).length ≤ i + 1
              have := congrArg List.length (keys_setA S.waiting (e, nothing F M) .nil)
              rw [List.length_map] at this
              rw [this]
              refine Nat.le_trans addP_len ?_
              rw [List.length_map]; omega
            · omega
          · rw [take_snoc he, List.mem_append, List.mem_singleton] at he'
            rcases he' with he' | rfl
            · exact z7 _ (q6 e' he')
            · exact z6
        · obtain ⟨_, _, ⟨_, hb⟩ | hb⟩ := hb
          · rw [q1] at hb
            have hb : 64 < 0 + S.waiting.length := hb
            omega
          · rw [q1] at hb
            have := congrArg List.length (keys_setA S.waiting (e, nothing F M) .nil)
            rw [List.length_map] at this
            have h2 := addP_len (l := S.waiting.map (·.1)) (x := (e, nothing F M))
            rw [List.length_map] at h2
            have hb : 64 < 0 + (setA S.waiting (e, nothing F M) .nil).length := hb
            omega
      · rintro σ H3 ⟨v3, S, rfl, hS3, md, gd3, q1, q2, q3, q4, q5, q6⟩
        rw [List.length_map, List.take_length] at q6
        refine kq c S H3 rfl rfl rfl rfl rfl rfl rfl rfl ok hS3 gd3 q1 q2 ⟨q6, fun r hr a ha => ?_⟩ q3
        rw [q1] at ha; cases ha
end
end K76
set_option Elab.async false
set_option linter.all false
set_option maxRecDepth 100000
set_option maxHeartbeats 4000000
namespace K76
open PySem PySem.Spec PyProof.Rows L2
def Maker (P : Program) (w : World) (K : PySem.W.Frag) (mg : Str → Option Value) (base : Heap) (CX : CXT) (k : Nat) (x : Str) (C : Addr) (ps : List Str) (sp : Sp) : Prop :=
  mg x = some (.ref C) ∧ ∃ f fd, Mk K C f ∧ L2.Binds K fd ps [] ∧ FnOk P w K mg base CX k f fd ps sp
theorem pe_makeF {X : Cx} {CX : CXT} {k : Nat} {ps : List Str} {sp : Sp} {E : XK} {x : Str} {C : Addr} {p pos : Pos} {e : Expr} {es : List Expr} {t : TA} (F : Maker X.prog X.w X.K X.mg X.base CX k x C ps sp) (hr : Room (k + 1) X.A) (hg : Gl X x) (tk : Passes CX X E) (pa : PA X (e :: es) t)
    (h1 : (x == Str.ofString "__debug__") = false := by decide) (h2 : starEach (e :: es) X.env = (false, eval e X.env) :: starEach es X.env := by rfl)
    (h3 : ((backTo pos (starEach es X.env)).any fun (x : Bool × Sem Value) => x.fst) = false := by rfl) :
    PE X ((Expr.Name x p).Call (e :: es) [] pos) (tMake C sp [] E t) := by
  obtain ⟨h, f, fd, mk, b, F⟩ := F
  exact pe_make mk F hr hg h b .nil tk pa h1 h2 h3
def encT (r : Row) : D := .tup [.num r.1.1, encV r.1.2, gr r.2]
/-- what a table of rows is -/
structure Tab (A F : Form) (W : Way) (M : Nat) (rows : List Row) : Prop where
  ent : ∀ r ∈ rows, Ent1 A F W M r
  nd : (rows.map (·.1)).Nodup
  cl : Closed A F W M (rows.map (·.1))
  len : rows.length ≤ 64
def spTable (P : Program) (w : World) (CE CT CB : Addr) : Sp := fun vs H Q E => ∃ (pm : Addr) (vA : V) (A F : Form) (W : Way) (M : Nat), vs = [vA, .ref pm] ∧ Is H (encF A) vA ∧ AOk A ∧ Eff CE H pm F W M ∧ Ctx F W M ∧
  (∀ H' D zs rows, L2.Same H H' → H D = none → H' D = some (.lst zs) → IsAll H' (rows.map encT) zs → Tab A F W M rows → Q (.ref D) H') ∧ (¬ Few A F W M → ∀ H' C, L2.Same H H' → (C = CT ∨ C = CB) → E (.ref C) none H')
abbrev st_table : Stmt := top 23
theorem sc_table : FnScope ["one", "measure", "search", "pair", "kind", "value"] ["one", "measure"] (defScope st_table) := ⟨rfl, rfl, rfl, by decide +kernel, rfl, by decide +kernel, by decide +kernel⟩
section
variable {P : Program} {w : World} {K : PySem.W.Frag} {mg : Str → Option Value} {base : Heap} {CS CE CT CB : Addr}
theorem ok_table {f : Addr} {fd : FuncData} (F : Fun K "table" "table" st_table f fd) (B : Gb mg) (T : SCls K CS) (TB : ETxt K mg "TooBig" CB)
    (MKS : Maker P w K mg base CX0 3 "Search" CS ["self", "one", "measure"] (spSInit P w CS CE)) (M_take_least : Methd P w K mg base (L2.CX P w) 9 CS "take_least" ["self"] (spTake P w CS CE CT)) :
    FnOk P w K mg base (L2.CX P w) 10 f fd ["one", "measure"] (spTable P w CE CT CB) := by
  refine F.okX sc_table (fun vs H Q E h => ?_) (fun cdv A outer s H vs Q E hr h => ?_)
  · obtain ⟨_, _, _, _, _, _, rfl, _⟩ := h
    rfl
  · obtain ⟨pm, vA, AA, F, W, M, rfl, hA, aok, hE, hc, kq, ke⟩ := h
    have hu := hr.units
    refine ⟨_, (pss_cons (ps_set (i := 2) sc_table.nd rfl (Or.inr rfl) (pe_makeF MKS (hr.mono (by decide)) rfl pass0 (pa_cons (pv 0) (pa_cons (pv 1) pa_nil))))
      (pss_cons (ps_while PassesOwn.leaving (pt_cmpR op_gt (pe_callB call_len_N (by rfl) B.len PySem.boot_len (pa_cons (pe_fld (pv 2) rfl) pa_nil)) pe_int (nomark _)) (pss_one (ps_expr (pe_methF0 (pv 2) M_take_least (hr.mono (by decide)) (passes_call (takes_of rfl rfl rfl rfl) fun _ _ _ _ h => h)))))
      (pss_cons (ps_lock (ps_for PassesOwn.leaving rfl (pi_nkeys (pe_fld (pv 2) rfl)) (pg_name (i := 3) sc_table.nd rfl (Or.inl rfl)) (pss_one (ps_if (pt_cmp (pc_nnotin hu (pv 3) (pe_fld (pv 2) rfl))) (pss_one (ps_raise rfl (takes_of rfl rfl rfl rfl) (pmk_own PySem.F.excBase_ValueError TB.xe TB.g TB.kp (raises_own TB.b TB.t) rfl))) pss_nil))))
      (pss_one (ps_ret (pe_lc (own := [("kind", 4), ("value", 5)]) rfl sc_table.nd (pi_list (pe_callB (cr_sortN rfl hu) (by rfl) B.sorted (by decide +kernel) (pa_cons (pe_fld (pv 2) rfl) pa_nil))) (blkOk_by (own := [("kind", 4), ("value", 5)]) (N := ["one", "measure", "search", "pair", "kind", "value"]) (sc := defScope st_table) (by decide +kernel)) (fun _ _ _ _ _ => (pg_tupK (K := K) (n := 2) rfl rfl (pgs_cons (pg_name (i := 4) sc_table.nd rfl (Or.inl rfl)) (pgs_cons (pg_name (i := 5) sc_table.nd rfl (Or.inl rfl)) pgs_nil)) rfl)) (fun _ _ _ _ _ => pts_nil) (fun _ _ _ _ _ => (pe_tup (pa_cons (pv 4) (pa_cons (pv 5) (pa_cons (pe_ngetK (P := P) (w := w) rfl rfl hu (pe_fldK (K := K) rfl (pv 2) rfl) (pe_tup (pa_cons (pv 4) (pa_cons (pv 5) pa_nil))) (fun _ _ => rfl)) pa_nil))))))))))), ?_⟩
    -- search = Search(one, measure)
    refine ⟨_, rfl, _, rfl, fun x dx nx ndx nex => ?_⟩
    have sx : L2.Same H (upd (upd H dx (.own x)) x (.ins CS dx [])) := smut (same_new ndx) nx
    refine ⟨H, x, dx, pm, vA, AA, F, W, M, rfl, sx, nx, upd_same, hA, aok, hE, hc, fun c S0 H1 h1 h2 h3 h4 h5 h6 h7 h8 ok hS0 gd0 r0 li0 cl0 st0 => ⟨rfl, ?_⟩⟩
    subst h1 h2 h3 h4 h5 h6 h7 h8
    -- while len(search.waiting) > 0
    refine ⟨fun m σ H2 => ∃ S, σ = [some vA, some (.ref pm), some (.ref c.p), none, none, none] ∧ Srch P w c H2 S ∧ Gd c.A c.F c.W c.M S ∧ S.listed = S.rows ∧ Cl c.A c.F c.W c.M S ∧ S.steps ≤ c.A.rules.length * (S.rows.length * (S.rows.length + 1)) ∧ S.steps ≤ 4000 ∧ m = 65 - S.rows.length,
      ⟨_, S0, rfl, hS0, gd0, by rw [r0, li0], cl0, by rw [st0]; omega, by rw [st0]; omega, rfl⟩, ?_⟩
    rintro m σ H2 ⟨S, rfl, hS, gd, li, cl, st, st4, rfl⟩
    obtain ⟨fs, hi, l1, l2, l3, l4, l5, l6, l7, l8, l9, l10, l11⟩ := hS.inv
    obtain ⟨wk, wN, wP⟩ := hS.wait
    refine ⟨_, rfl, c.p, c.CS, c.dx, _, _, rfl, hi, T.cl, T.nW, l4, c.dw, _, rfl, wN, _, _, rfl, rfl, _, rfl, ?_⟩
    have wl : wk.length = S.waiting.length := paired_len wP
    rw [wl]
    refine ite2 (fun z => ?_) (fun z => ?_)
    · have z := of_decide_eq_true z
      refine ⟨_, fun _ _ h => h, ?_⟩
      have hne : S.waiting ≠ [] := fun e => by rw [e] at z; simp at z
      refine ⟨_, rfl, c.p, c.dx, _, rfl, hi, l10, c, S, rfl, rfl, rfl, ok, hS, gd, li, hne, cl, st, st4, fun S' H' a1 a2 a3 a4 a5 a6 a7 => ?_, fun hf H' sH => ke hf H' CT sH (.inl rfl)⟩
      have := gd.tot
      have : S.waiting.length ≠ 0 := fun e => hne (List.length_eq_zero_iff.mp e)
      exact ⟨65 - S'.rows.length, by omega, S', rfl, a1, a2, a3, a4, a6, a7, rfl⟩
    · have wn : S.waiting = [] := by
        cases e : S.waiting with
        | nil => rfl
        | cons a b => exact absurd (decide_eq_true (by rw [e]; simp)) z
      -- for pair in search.beyond
      obtain ⟨bk, bN, bP⟩ := hS.bey
      obtain ⟨bx, rfl, hdb, hbk⟩ := id bN
      refine ⟨c.db, _, hdb, trivial, fun od => ?_⟩
      have tpl : Tp H2 (upd H2 c.db (.frz od (ND P w c.db bx))) := Tp.mut hdb (by intro z y; cases y)
      have pb : c.p ≠ c.db := hS.ned.2.2
      have hiL : upd H2 c.db (.frz od (ND P w c.db bx)) c.p = some (.ins c.CS c.dx fs) := by rw [upd_ne pb]; exact hi
      obtain ⟨rk, rN, rP⟩ := hS.rows
      have rNL : NAt P w (upd H2 c.db (.frz od (ND P w c.db bx))) c.dr rk := rN.mono tpl (upd_ne ok.rb)
      have hbkL := hbk.mono tpl
      refine ⟨_, rfl, c.p, c.CS, c.dx, _, _, rfl, hiL, T.cl, T.nB, l5, c.db, od, bx, rfl, upd_same, ?_⟩
      have bS : ∀ e ∈ bx, ∃ k ∈ S.beyond, e.1 = encK k := by
        intro e he
        have : e.1 ∈ (pairN bx).map (·.1) := by
          rw [pairN, List.map_map]
          exact List.mem_map_of_mem (f := fun x : D × Addr × V => x.1) he
        rw [bP] at this
        obtain ⟨k, hk, e2⟩ := List.mem_map.mp this
        exact ⟨k, hk, e2.symm⟩
      have lenb : bx.length = S.beyond.length := by
        have := congrArg List.length bP
        simpa [pairN] using this
      refine ⟨fun i m σ H3 => m = bx.length - i ∧ i ≤ bx.length ∧ H3 = upd H2 c.db (.frz od (ND P w c.db bx)) ∧ (∃ v3, σ = [some vA, some (.ref pm), some (.ref c.p), v3, none, none]) ∧ ∀ (j : Nat) (e : D × Addr × V), j < i → bx[j]? = some e → ∀ k, e.1 = encK k → k ∈ S.rows.map (·.1),
        ⟨_, rfl, Nat.zero_le _, rfl, ⟨_, rfl⟩, fun j e hj => absurd hj (Nat.not_lt_zero _)⟩, ?_⟩
      rintro i m σ H3 ⟨rfl, hi', rfl, ⟨v3, rfl⟩, hall⟩
      by_cases hlt : i < bx.length
      · refine .inr ⟨⟨upd_same, hlt⟩, _, fun _ _ h => h, ?_⟩
        rintro x H' ⟨rfl, e, he, rfl⟩
        obtain ⟨k, hk, ek⟩ := bS e (List.mem_of_getElem? he)
        have vk : Is (upd H2 c.db (.frz od (ND P w c.db bx))) (encK k) (.ref e.2.1) := by rw [← ek]; exact (hbkL e (List.mem_of_getElem? he)).1
        refine ⟨_, rfl, _, rfl, c.p, c.CS, c.dx, _, _, rfl, hiL, T.cl, T.nR, l3, c.dr, _, rfl, nat_get rNL (encK_ok k) vk, _, rfl, ?_⟩
        rcases paired_val rP (fun _ _ h => h.1) k with ⟨f1, f2⟩ | ⟨g', v', f1, f2, f3⟩
        · rw [f2]
          refine iteT ?_
          refine ke (fun hf => ?_) _ CB (smut hS.same ok.fb) (.inr rfl)
          rw [gd.fb hf] at hk; cases hk
        · rw [f2]
          refine iteF ?_
          refine ⟨bx.length - (i + 1), by omega, rfl, hlt, rfl, ⟨_, rfl⟩, fun j e' hj he' k' ek' => ?_⟩
          rcases Nat.lt_succ_iff_lt_or_eq.mp hj with hj | rfl
          · exact hall j e' hj he' k' ek'
          · rw [he] at he'; cases he'
            rw [ek] at ek'
            have := encK_inj ek'
            subst this
            have := look_mem f1
            exact List.mem_map_of_mem (f := (·.1)) this
      · refine .inl ⟨⟨upd_same, by omega⟩, upd_same, ?_⟩
        have hcov : ∀ k ∈ S.beyond, k ∈ S.rows.map (·.1) := by
          intro k hk
          have : encK k ∈ (pairN bx).map (·.1) := by rw [bP]; exact List.mem_map_of_mem hk
          rw [pairN, List.map_map] at this
          obtain ⟨e, he, e2⟩ := List.mem_map.mp this
          obtain ⟨j, hj⟩ := List.getElem?_of_mem he
          have := (List.getElem?_eq_some_iff.mp hj).1
          exact hall j e (by omega) hj k e2
        have sU : L2.Same H2 (upd (upd H2 c.db (.frz od (ND P w c.db bx))) c.db (ND P w c.db bx)) := fun b o hbo => by
          by_cases z : b = c.db
          · subst z; rw [upd_same, ← hdb]; exact hbo
          · rw [upd_ne z, upd_ne z]; exact hbo
        have hSU := hS.new sU
        obtain ⟨fsU, hiU, _, _, mU3, _⟩ := hSU.inv
        obtain ⟨rk2, rN2, rP2⟩ := hSU.rows
        obtain ⟨rx, rfl, hdr, hrk⟩ := id rN2
        have rkeys : rx.map (·.1) = S.rows.map fun r => encK r.1 := by
          have := paired_keys rP2 (fun _ _ h => h.1)
          rw [pairN, List.map_map] at this
          exact this
        -- sorted(search.rows)
        refine ⟨_, rfl, c.p, c.CS, c.dx, _, _, rfl, hiU, T.cl, T.nR, mU3, c.dr, rx, rfl, hdr, hrk, ?_, fun ys q hperm nq => ?_⟩
        · rw [rkeys]
          have := srt_keys (S.rows.map (·.1))
          rw [List.map_map] at this
          exact this
        have hall0 : IsAll (upd (upd H2 c.db (.frz od (ND P w c.db bx))) c.db (ND P w c.db bx)) (S.rows.map fun r => encK r.1) (nRefs rx) := by
          have := nkeys_all hrk
          rw [rkeys] at this
          exact this
        obtain ⟨rows', hp', hys⟩ := IsAll.perm_set hall0 hperm
        have sq := same_new (o := .lst ys) nq
        have hysq := hys.same sq
        have hSq := hSU.new sq
        refine ⟨q, rfl, ⟨ys, SqL.of upd_same⟩, fun DD nDD => lc_list (a := q) (xs := ys) (fun i H4 => L2.Same (upd (upd (upd H2 c.db (.frz od (ND P w c.db bx))) c.db (ND P w c.db bx)) q (.lst ys)) H4 ∧ ∃ zs, H4 DD = some (.lst zs) ∧ IsAll H4 ((rows'.take i).map encT) zs)
          ⟨same_new nDD, [], upd_same, rfl⟩ (fun i H4 _ ⟨h, _⟩ => SqL.of (h _ _ upd_same)) ?_ ?_⟩
        · rintro i x H4 hi4 ⟨s4, zs, hD4, hz4⟩
          obtain ⟨r, hr', hx⟩ := hysq.getm hi4
          have rm : r ∈ S.rows := hp'.mem_iff.mp (List.mem_of_getElem? hr')
          have hS4 := hSq.new s4
          obtain ⟨tp, y1, y2, rfl, htp, hy1, hy2⟩ := is_two (hx.same s4)
          cases hy1
          obtain ⟨fs4, hi5, _, _, m43, _⟩ := hS4.inv
          refine ⟨tp, _, rfl, SqT.of htp, rfl, _, _, rfl, _, _, rfl, rfl, rfl, _, rfl, _, rfl, _, rfl, c.p, c.CS, c.dx, _, _, rfl, hi5, T.cl, T.nR, m43, _, rfl, _, rfl, (by show 2 ≤ sizeLine; decide), fun t1 n1 => ?_⟩
          have s5 := same_new (o := .tup [.int r.1.1, y2]) n1
          have hS5 := hS4.new s5
          obtain ⟨rk5, rN5, rP5⟩ := hS5.rows
          rcases paired_val rP5 (fun _ _ h => h.1) r.1 with ⟨f1, _⟩ | ⟨g', v', f1, f2, f3⟩
          · exact absurd (List.mem_map_of_mem (f := (·.1)) rm) (look_none.mp f1)
          have eg : g' = r.2 := by
            have := look_of_mem gd.rn (k := r.1) (g := r.2) rm
            rw [this] at f1; cases f1; rfl
          subst eg
          have vk : Is (upd H4 t1 (.tup [.int r.1.1, y2])) (encK r.1) (.ref t1) := ⟨t1, _, rfl, upd_same, _, _, rfl, rfl, _, _, rfl, hy2.same s5, rfl⟩
          refine ⟨c.dr, v', rfl, ⟨rk5, encK r.1, rN5.r, encK_ok r.1, vk, f2.symm⟩, (by show 3 ≤ sizeLine; decide), fun t2 n2 => ⟨zs, get_new (s5 _ _ hD4) n2, ?_, ?_, _, upd_same, ?_⟩⟩
          · have := hz4.lenm
            rw [List.length_take] at this
            have h64 : rows'.length = S.rows.length := hp'.length_eq
            have := gd.tot
            exact szL (by omega)
          · exact smut (snew (snew s4 n1) n2) nDD
          · have s6 := same_new (o := .tup [.int r.1.1, y2, v']) n2
            have hDD6 := get_new (o := .tup [.int r.1.1, y2, v']) (s5 _ _ hD4) n2
            have tp67 : Tp (upd (upd H4 t1 (.tup [.int r.1.1, y2])) t2 (.tup [.int r.1.1, y2, v'])) (upd (upd (upd H4 t1 (.tup [.int r.1.1, y2])) t2 (.tup [.int r.1.1, y2, v'])) DD (.lst (zs ++ [.ref t2]))) := Tp.mut hDD6 (by intro z y; cases y)
            have tp7 := (Tp.of (strans s5 s6)).trans tp67
            rw [take_snoc hr', List.map_append]
            refine (hz4.mono tp7).append ⟨_, _, rfl, ⟨t2, _, rfl, tp67 _ _ upd_same, _, _, rfl, rfl, _, _, rfl, Is.mono tp7 _ hy2, _, _, rfl, Is.mono tp67 _ (f3.2.same s6), rfl⟩, rfl⟩
        · rintro H4 ⟨s4, zs, hD4, hz4⟩
          have hS4 := hSq.new s4
          have e1 := hys.lenm
          rw [e1, List.take_length] at hz4
          refine kq _ DD zs rows' hS4.same (hSq.same.free nDD) hD4 hz4 ⟨fun r hr => gd.re r (hp'.mem_iff.mp hr), (hp'.map (·.1)).nodup_iff.mpr gd.rn, ⟨fun e he => ?_, fun r hr v w' hv hw => ?_⟩, by rw [hp'.length_eq]; have := gd.tot; omega⟩
          · have := cl.1 e he
            refine (hp'.map (·.1)).mem_iff.mpr ?_
            rcases this with h | h | h
            · exact h
            · rw [wn] at h; cases h
            · exact hcov _ h
          · have hv' := (hp'.map (·.1)).mem_iff.mp hv
            have hw' := (hp'.map (·.1)).mem_iff.mp hw
            obtain ⟨a, ha, ea⟩ := List.mem_map.mp hv'
            obtain ⟨b, hb, eb⟩ := List.mem_map.mp hw'
            have := cl.2 r hr a ha b hb (by rw [ea]) (by rw [eb])
            rw [ea, eb] at this
            refine (hp'.map (·.1)).mem_iff.mpr ?_
            rcases this with h | h | h
            · exact h
            · rw [wn] at h; cases h
            · exact hcov _ h
end
end K76
set_option Elab.async false
set_option linter.all false
set_option maxRecDepth 100000
set_option maxHeartbeats 4000000
namespace K76
open PySem PySem.Spec PyProof.Rows L2
def spHolds (CE : Addr) : Sp := fun vs H Q _ => ∃ (pm a : Addr) (vA : V) (xs : List V) (rows : List Row) (A F : Form) (W : Way) (M : Nat), vs = [vA, .ref pm, .ref a] ∧ Is H (encF A) vA ∧ AOk A ∧ Eff CE H pm F W M ∧ Ctx F W M ∧ H a = some (.lst xs) ∧ IsAll H (rows.map encT) xs ∧
  (∀ r ∈ rows, Ent1 A F W M r) ∧ rows.length ≤ 1000 ∧ ∀ H' b, L2.Same H H' → (b = true ↔ Closed A F W M (rows.map (·.1))) → Q (.bl b) H'
/-- lists of values, one for each kind -/
def VL (H : Hp) (ls : List Addr) (vs : Nat → List Val) : Prop := ∀ (k : Nat) (l : Addr), ls[k]? = some l → ∃ xs, H l = some (.lst xs) ∧ IsAll H ((vs k).map encV) xs
def ins1 (vs : Nat → List Val) (j : Nat) (v : Val) : Nat → List Val := fun k => if k = j then vs k ++ [v] else vs k
theorem ins1_same {vs : Nat → List Val} {j : Nat} {v : Val} : ins1 vs j v j = vs j ++ [v] := by unfold ins1; rw [if_pos rfl]
theorem ins1_ne {vs : Nat → List Val} {j k : Nat} {v : Val} (h : k ≠ j) : ins1 vs j v k = vs k := by unfold ins1; rw [if_neg h]
/-- a dict whose keys are ks -/
def KD (P : Program) (w : World) (H : Hp) (d : Addr) (ks : List KV2) : Prop := ∃ kvs, NAt P w H d kvs ∧ kvs.map (·.1) = ks.map encK
section
variable {P : Program} {w : World} {H H' : Hp} {d b : Addr} {ks : List KV2} {k : KV2}
theorem KD.same (h : KD P w H d ks) (s : L2.Same H H') : KD P w H' d ks := by
  obtain ⟨kvs, h1, h2⟩ := h
  exact ⟨kvs, h1.same s, h2⟩
theorem KD.mono (h : KD P w H d ks) (t : Tp H H') (e : H' d = H d) : KD P w H' d ks := by
  obtain ⟨kvs, h1, h2⟩ := h
  exact ⟨kvs, h1.mono t e, h2⟩
theorem mem_encK : encK k ∈ ks.map encK ↔ k ∈ ks := by
  constructor
  · intro z
    obtain ⟨y, hy, e⟩ := List.mem_map.mp z
    rw [← encK_inj e]; exact hy
  · exact fun z => List.mem_map_of_mem z
theorem KD.get (h : KD P w H d ks) {v : V} (hk : Is H (encK k) v) : ∃ o, NGet P w H d v o ∧ (o.isSome = true ↔ k ∈ ks) := by
  obtain ⟨kvs, h1, h2⟩ := h
  refine ⟨_, nat_get h1 (encK_ok k) hk, ?_⟩
  rw [valV_mem, h2, mem_encK]
theorem KD.put (h : KD P w H d ks) (hk : Is H (encK k) (.ref b)) (hl : ks.length ≤ 100000) (v : V) : ∃ φ ψ, H d = some (.ext φ) ∧ NPut P w H d (.ref b) v (upd H d (.ext ψ)) ∧ KD P w (upd H d (.ext ψ)) d (addP ks k) := by
  obtain ⟨kvs, h1, h2⟩ := h
  have hlen : kvs.length = ks.length := by have := congrArg List.length h2; simpa using this
  obtain ⟨φ, ψ, e1, e2, e3⟩ := nat_put h1 (encK_ok k) hk (by omega) v
  refine ⟨φ, ψ, e1, e2, _, e3, ?_⟩
  rw [keys_putK, h2]
  unfold addP
  by_cases z : k ∈ ks
  · rw [if_pos (mem_encK.mpr z), if_pos z]
  · rw [if_neg (fun q => z (mem_encK.mp q)), if_neg z]; simp
theorem KD.ext (h : KD P w H d ks) : ∃ φ, H d = some (.ext φ) := by
  obtain ⟨kvs, h1, _⟩ := h
  exact h1.some
theorem VL.same {ls : List Addr} {vs : Nat → List Val} (h : VL H ls vs) (s : L2.Same H H') : VL H' ls vs := fun k l e => by
  obtain ⟨xs, a, b⟩ := h k l e
  exact ⟨xs, s _ _ a, b.same s⟩
end
abbrev st_holds : Stmt := top 24
theorem sc_holds : FnScope ["one", "measure", "rows", "values", "there", "row", "kind", "tag", "inner", "rest", "within", "behind", "k"] ["one", "measure", "rows"] (defScope st_holds) := ⟨rfl, rfl, rfl, by decide +kernel, rfl, by decide +kernel, by decide +kernel⟩
section
variable {P : Program} {w : World} {K : PySem.W.Frag} {mg : Str → Option Value} {base : Heap} {CS CE CT CB : Addr}
theorem ok_holds {f : Addr} {fd : FuncData} (F : Fun K "holds" "holds" st_holds f fd) (B : Gb mg)
    (M_nothing : Methd P w K mg base CX0 2 CE "nothing" ["self"] (spNothing CE)) (M_above : Methd P w K mg base CX0 7 CE "above" ["self", "tag", "inner", "rest"] (spAbove CE)) :
    FnOk P w K mg base CX0 8 f fd ["one", "measure", "rows"] (spHolds CE) := by
  refine F.ok sc_holds (fun vs H Q E h => ?_) (fun cdv A outer s H vs Q E hr h => ?_)
  · obtain ⟨_, _, _, _, _, _, _, _, _, rfl, _⟩ := h
    rfl
  · obtain ⟨pm, a, vA, xs, rows, AA, F, W, M, rfl, hA, aok, hE, hc, ha, hxs, hent, hlen, kq⟩ := h
    have hu := hr.units
    refine ⟨_, (pss_cons (ps_setLc (i := 3) (own := [("k", 12)]) rfl sc_holds.nd rfl rfl (sw_true rfl rfl rfl (by decide +kernel)) (pi_range1 rfl B.range (pa_cons (pe_ix ix_tup (pv 0) pe_int (fun _ _ => rfl)) pa_nil)) (blkOk_by (own := [("k", 12)]) (N := ["one", "measure", "rows", "values", "there", "row", "kind", "tag", "inner", "rest", "within", "behind", "k"]) (sc := defScope st_holds) (by decide +kernel)) (fun _ _ _ _ _ => (pg_name (i := 12) sc_holds.nd rfl (Or.inl rfl))) (fun _ _ _ _ _ => pts_nil) (fun _ _ _ _ _ => (pe_lst pa_nil)))
      (pss_cons (ps_set (i := 4) sc_holds.nd rfl (Or.inl rfl) pe_nnew)
      (pss_cons (ps_for PassesOwn.never rfl (pi_list (pv 2)) (pg_name (i := 5) sc_holds.nd rfl (Or.inl rfl)) (pss_one (ps_if (pt_cmp (pc_nnotin hu (pe_tup (pa_cons (pe_ix ix_tup (pv 5) pe_int (fun _ _ => rfl)) (pa_cons (pe_ix ix_tup (pv 5) pe_int (fun _ _ => rfl)) pa_nil))) (pv 4))) (pss_cons (ps_nput hu (pv 4) (pe_tup (pa_cons (pe_ix ix_tup (pv 5) pe_int (fun _ _ => rfl)) (pa_cons (pe_ix ix_tup (pv 5) pe_int (fun _ _ => rfl)) pa_nil))) pe_bl rfl)
      (pss_one (ps_expr (pe_bm PySem.F.plainAttrs_list PySem.F.slot_list_append PySem.F.type_list_append mt_append (pe_ix ix_list (pv 3) (pe_ix ix_tup (pv 5) pe_int (fun _ _ => rfl)) (fun _ _ => rfl)) (pa_cons (pe_ix ix_tup (pv 5) pe_int (fun _ _ => rfl)) pa_nil))))) pss_nil)))
      (pss_cons (ps_for PassesOwn.never rfl (pi_tup (pe_ix ix_tup (pv 0) pe_int (fun _ _ => rfl))) (pg_name (i := 6) sc_holds.nd rfl (Or.inl rfl)) (pss_one (ps_if (pt_cmp (pc_nnotin hu (pe_tup (pa_cons (pv 6) (pa_cons (pe_methF0 (pv 1) M_nothing (hr.mono (by decide)) pass0) pa_nil))) (pv 4))) (pss_one (ps_ret pe_bl)) pss_nil)))
      (pss_cons (ps_for PassesOwn.never rfl (pi_tup (pe_ix ix_tup (pv 0) pe_int (fun _ _ => rfl))) (pg_tup rfl (pgs_cons (pg_name (i := 6) sc_holds.nd rfl (Or.inl rfl)) (pgs_cons (pg_name (i := 7) sc_holds.nd rfl (Or.inl rfl)) (pgs_cons (pg_name (i := 8) sc_holds.nd rfl (Or.inl rfl)) (pgs_cons (pg_name (i := 9) sc_holds.nd rfl (Or.inl rfl)) pgs_nil))))) (pss_one (ps_for PassesOwn.never rfl (pi_list (pe_ix ix_list (pv 3) (pv 8) (fun _ _ => rfl))) (pg_name (i := 10) sc_holds.nd rfl (Or.inl rfl)) (pss_one (ps_for PassesOwn.never rfl (pi_list (pe_ix ix_list (pv 3) (pv 9) (fun _ _ => rfl))) (pg_name (i := 11) sc_holds.nd rfl (Or.inl rfl)) (pss_one (ps_if (pt_cmp (pc_nnotin hu (pe_tup (pa_cons (pv 6) (pa_cons (pe_methF (pv 1) M_above (hr.mono (by decide)) pass0 (pa_cons (pv 7) (pa_cons (pv 10) (pa_cons (pv 11) pa_nil)))) pa_nil))) (pv 4))) (pss_one (ps_ret pe_bl)) pss_nil)))))))
      (pss_one (ps_ret pe_bl))))))), ?_⟩
    obtain ⟨ap, aps, ape, apr, ars, rfl, hAA⟩ := is_form hA
    obtain ⟨edx, ed, ev, hpm, _⟩ := id hE
    have hm3 := aok.few
    -- values = [[] for k in range(one[0])]
    refine ⟨_, rfl, ap, _, 0, _, rfl, rfl, SqT.of hAA.at_, rfl, _, rfl, by omega, by omega, fun D nD => ?_⟩
    refine lc_range (lo := 0) (n := AA.many) (fun i H2 => ∃ ls : List Addr, ls.length = i ∧ ls.Nodup ∧ D ∉ ls ∧ L2.Same H H2 ∧ H2 D = some (.lst (ls.map V.ref)) ∧ ∀ l ∈ ls, H2 l = some (.lst []) ∧ H l = none)
      ⟨[], rfl, .nil, by simp, same_new nD, upd_same, fun l hl => by cases hl⟩ ?_ ?_
    · rintro i H2 hi ⟨ls, e1, e2, e3, s2, g5, g6⟩
      refine ⟨rfl, (Nat.zero_le _), fun l nl => ⟨_, get_new g5 nl, ?_, ls ++ [l], by simp [e1], ?_, ?_, ?_, ?_, ?_⟩⟩
      · rw [List.length_map, e1]; exact szL (by omega)
      · rw [List.nodup_append]
        refine ⟨e2, by simp, fun a ha b hb e => ?_⟩
        simp at hb
        subst hb e
        have := (g6 a ha).1
        rw [nl] at this; cases this
      · rw [List.mem_append, List.mem_singleton]
        rintro (h | h)
        · exact e3 h
        · subst h; rw [nl] at g5; cases g5
      · exact smut (snew s2 nl) nD
      · rw [upd_same]; simp
      · intro l' hl'
        rcases List.mem_append.mp hl' with h | h
        · refine ⟨?_, (g6 l' h).2⟩
          rw [upd_ne (fun z => e3 (by rw [← z]; exact h))]
          exact get_new (g6 l' h).1 nl
        · rw [List.mem_singleton.mp h]
          refine ⟨?_, s2.free nl⟩
          rw [upd_ne (ne_of_none g5 nl).symm, upd_same]
    rintro H2 ⟨ls, e1, e2, e3, s2, g5, g6⟩
    intro dT nT
    have s3 := same_new (o := ND P w dT []) nT
    have kd0 : KD P w (upd H2 dT (ND P w dT [])) dT [] := ⟨[], ⟨[], rfl, upd_same, fun p hp => by cases hp⟩, rfl⟩
    have sx := strans s2 s3
    have fT : H dT = none := s2.free nT
    -- for row in rows
    refine ⟨_, rfl, a, rfl, ⟨xs, SqL.of (sx _ _ ha)⟩, for_list (a := a) (xs := xs) (fun i σ H4 => ∃ v5 ks vs, σ = [some (.ref ap), some (.ref pm), some (.ref a), some (.ref D), some (.ref dT), v5, none, none, none, none, none, none, none] ∧ L2.Same H H4 ∧ H4 D = some (.lst (ls.map V.ref)) ∧ KD P w H4 dT ks ∧ VL H4 ls vs ∧
      ks.length ≤ i ∧ (∀ k, k ∈ ks ↔ k ∈ (rows.take i).map (·.1)) ∧ (∀ k v, v ∈ vs k ↔ ((k : Int), v) ∈ ks) ∧ ∀ k, (vs k).length ≤ i)
      ⟨_, [], fun _ => [], rfl, sx, s3 _ _ g5, kd0, fun k l hk => ⟨[], s3 _ _ (g6 l (List.mem_of_getElem? hk)).1, rfl⟩, Nat.le_refl _, fun k => by simp, fun k v => by simp, fun k => Nat.le_refl _⟩ (fun i σ H4 _ ⟨_, _, _, _, h, _⟩ => SqL.of (h _ _ ha)) ?_ ?_⟩
    · rintro i x σ H4 hi ⟨v5, ks, vs, rfl, s4, hD4, kd4, vl4, hkl, hks, hvs, hvl⟩
      obtain ⟨r, hr', hx⟩ := hxs.getm hi
      have hil : i < rows.length := (List.getElem?_eq_some_iff.mp hr').1
      obtain ⟨tp, y1, y2, y3, rfl, htp, hy1, hy2, hy3⟩ := is_three (hx.same s4)
      cases hy1
      refine ⟨_, rfl, tp, _, 0, .int r.1.1, rfl, rfl, SqT.of htp, rfl, _, rfl, tp, _, 1, y2, rfl, rfl, SqT.of htp, rfl, (by show 2 ≤ sizeLine; decide), fun t1 n1 => ?_⟩
      have s5 := same_new (o := .tup [.int r.1.1, y2]) n1
      have vk : Is (upd H4 t1 (.tup [.int r.1.1, y2])) (encK r.1) (.ref t1) := ⟨t1, _, rfl, upd_same, _, _, rfl, rfl, _, _, rfl, hy2.same s5, rfl⟩
      obtain ⟨o, ho1, ho2⟩ := (kd4.same s5).get vk
      refine ⟨_, rfl, dT, o, rfl, ho1, _, rfl, ?_⟩
      by_cases hin : r.1 ∈ ks
      · rw [ho2.mpr hin]
        refine iteF ?_
        refine ⟨_, ks, vs, rfl, strans s4 s5, s5 _ _ hD4, kd4.same s5, vl4.same s5, by omega, fun k => ?_, hvs, fun k => Nat.le_succ_of_le (hvl k)⟩
        rw [hks, take_snoc hr', List.map_append, List.mem_append]
        constructor
        · exact .inl
        · rintro (h | h)
          · exact h
          · rw [List.mem_singleton.mp h]; exact (hks _).mp hin
      · have : o.isSome = false := by
          cases e : o.isSome with
          | false => rfl
          | true => exact absurd (ho2.mp e) hin
        rw [this]
        refine iteT ?_
        -- there[row[0], row[1]] = True
        refine ⟨_, rfl, _, rfl, tp, _, 0, .int r.1.1, rfl, rfl, SqT.of (s5 _ _ htp), rfl, _, rfl, tp, _, 1, y2, rfl, rfl, SqT.of (s5 _ _ htp), rfl, (by show 2 ≤ sizeLine; decide), fun t2 n2 => ?_⟩
        have s6 := same_new (o := .tup [.int r.1.1, y2]) n2
        have vk2 : Is (upd (upd H4 t1 (.tup [.int r.1.1, y2])) t2 (.tup [.int r.1.1, y2])) (encK r.1) (.ref t2) := ⟨t2, _, rfl, upd_same, _, _, rfl, rfl, _, _, rfl, (hy2.same s5).same s6, rfl⟩
        obtain ⟨φ, ψ, q1, q2, q3⟩ := ((kd4.same s5).same s6).put vk2 (by omega) (.bl true)
        refine ⟨dT, _, rfl, q2, ?_⟩
        have s46 := strans s5 s6
        have md7 : Tp _ (upd (upd (upd H4 t1 (.tup [.int r.1.1, y2])) t2 (.tup [.int r.1.1, y2])) dT (.ext ψ)) := Tp.mut q1 (by intro z y; cases y)
        have hD7 : upd (upd (upd H4 t1 (.tup [.int r.1.1, y2])) t2 (.tup [.int r.1.1, y2])) dT (.ext ψ) D = some (.lst (ls.map V.ref)) := by
          rw [upd_ne (ne_of (s46 _ _ hD4) q1 (by intro z; cases z))]; exact s46 _ _ hD4
        have hent' := hent r (List.mem_of_getElem? hr')
        have kr : 0 ≤ r.1.1 ∧ r.1.1 < AA.many := isOf_range aok.fok hent'.1
        obtain ⟨j, hj⟩ : ∃ j : Nat, r.1.1 = (j : Int) := ⟨r.1.1.toNat, by omega⟩
        have jl : j < ls.length := by omega
        obtain ⟨l, hl⟩ : ∃ l, ls[j]? = some l := ⟨_, List.getElem?_eq_getElem jl⟩
        obtain ⟨ws, hl4, hws4⟩ := vl4 j l hl
        have hl7 : upd (upd (upd H4 t1 (.tup [.int r.1.1, y2])) t2 (.tup [.int r.1.1, y2])) dT (.ext ψ) l = some (.lst ws) := by
          rw [upd_ne (ne_of (s46 _ _ hl4) q1 (by intro z; cases z))]; exact s46 _ _ hl4
        have htp7 := md7 _ _ (s46 _ _ htp)
        -- values[row[0]].append(row[1])
        refine ⟨_, rfl, _, rfl, tp, _, 0, .int r.1.1, rfl, rfl, SqT.of htp7, rfl, D, _, r.1.1, .ref l, rfl, rfl, SqL.of hD7, (by rw [hj]; exact atI_nat (by rw [List.getElem?_map, hl]; rfl)), .inl ⟨rfl, _, SqL.of hl7⟩, _, rfl, tp, _, 1, y2, rfl, rfl, SqT.of htp7, rfl, l, ws, _, rfl, rfl, hl7, ?_, ?_⟩
        · have := hws4.lenm
          have := hvl j
          exact szL (by omega)
        have lm : l ∈ ls := List.mem_of_getElem? hl
        have t8 : Tp _ (upd (upd (upd (upd H4 t1 (.tup [.int r.1.1, y2])) t2 (.tup [.int r.1.1, y2])) dT (.ext ψ)) l (.lst (ws ++ [y2]))) := Tp.mut hl7 (by intro z y; cases y)
        have t48 := (Tp.of s46).trans (md7.trans t8)
        refine ⟨_, addP ks r.1, ins1 vs j r.1.2, rfl, smut (smut (strans s4 s46) fT) (g6 l lm).2, ?_, ?_, ?_, Nat.le_trans addP_len (by omega), fun k => ?_, fun k v => ?_, fun k => ?_⟩
        · rw [upd_ne (fun z => e3 (by rw [z]; exact lm))]; exact hD7
        · obtain ⟨φ', e'⟩ := q3.ext
          exact q3.mono t8 (upd_ne (ne_of e' hl7 (by intro z; cases z)))
        · intro k l' hk'
          by_cases z : k = j
          · subst z
            rw [hl] at hk'; cases hk'
            refine ⟨ws ++ [y2], upd_same, ?_⟩
            rw [ins1_same, List.map_append]
            exact (hws4.mono t48).append ⟨_, _, rfl, Is.mono t48 _ hy2, rfl⟩
          · obtain ⟨ws', h1, h2⟩ := vl4 k l' hk'
            have i1 : k < ls.length := (List.getElem?_eq_some_iff.mp hk').1
            have ne : l' ≠ l := fun y => by subst y; exact z ((List.getElem?_inj i1 e2).mp (hk'.trans hl.symm))
            refine ⟨ws', ?_, ?_⟩
            · rw [upd_ne ne, upd_ne (ne_of (s46 _ _ h1) q1 (by intro z; cases z))]; exact s46 _ _ h1
            · rw [ins1_ne z]; exact h2.mono t48
        · rw [mem_addP, hks, take_snoc hr', List.map_append, List.mem_append]
          simp
        · by_cases z : k = j
          · subst z
            rw [ins1_same, List.mem_append, hvs, mem_addP, List.mem_singleton]
            constructor
            · rintro (h | rfl)
              · exact .inl h
              · exact .inr (by rw [← hj])
            · rintro (h | h)
              · exact .inl h
              · exact .inr (by rw [← h])
          · rw [ins1_ne z, hvs, mem_addP]
            constructor
            · exact .inl
            · rintro (h | h)
              · exact h
              · rw [← h] at hj
                exact absurd (by have : (k : Int) = (j : Int) := hj; omega) z
        · by_cases z : k = j
          · subst z; rw [ins1_same, List.length_append, List.length_singleton]; have := hvl k; omega
          · rw [ins1_ne z]; have := hvl k; omega
    · rintro σ H4 ⟨v5, ks, vs, rfl, s4, hD4, kd4, vl4, hkl, hks, hvs, hvl⟩
      rw [hxs.lenm, List.take_length] at hks
      have sx4 : ∀ {H5 : Hp}, L2.Same H4 H5 → FormAt H5 ap AA aps ape apr ars := fun s => hAA.mono (Tp.of (strans s4 s))
      have notin : ∀ {x : KV2}, x ∉ ks → x ∉ rows.map (·.1) := fun h h' => h ((hks _).mpr h')
      -- for kind in one[2]
      refine ⟨_, rfl, ap, _, 2, _, rfl, rfl, SqT.of (sx4 (srefl H4)).at_, rfl, ape, rfl, ⟨_, SqT.of (sx4 (srefl H4)).en⟩, for_tup (a := ape) (xs := AA.ends.map V.int) (fun i σ H5 => ∃ v6, σ = [some (.ref ap), some (.ref pm), some (.ref a), some (.ref D), some (.ref dT), v5, v6, none, none, none, none, none, none] ∧ L2.Same H4 H5 ∧ ∀ e ∈ AA.ends.take i, (e, nothing F M) ∈ ks)
        ⟨_, rfl, srefl H4, fun e he => by simp at he⟩ (fun i σ H5 _ ⟨_, _, s5, _⟩ => SqT.of (sx4 s5).en) ?_ ?_⟩
      · rintro i x σ H5 hi ⟨v6, rfl, s5, hall⟩
        rw [List.getElem?_map] at hi
        obtain ⟨e, he, rfl⟩ := Option.map_eq_some_iff.mp hi
        have s45 := strans s4 s5
        refine ⟨_, rfl, _, rfl, pm, edx, _, rfl, s45 _ _ hpm, efs_no _ (by decide +kernel) (by decide +kernel) (by decide +kernel), pm, F, W, M, rfl, hE.same s45, hc, fun H6 vn s6 hvn => ⟨(by show 2 ≤ sizeLine; decide), fun t nt => ?_⟩⟩
        have s7 := same_new (o := .tup [.int e, vn]) nt
        have s57 := strans s5 (strans s6 s7)
        obtain ⟨o, ho1, ho2⟩ := (kd4.same s57).get (k := (e, nothing F M)) ⟨t, _, rfl, upd_same, _, _, rfl, rfl, _, _, rfl, hvn.same s7, rfl⟩
        refine ⟨_, rfl, dT, o, rfl, ho1, _, rfl, ?_⟩
        by_cases hin : (e, nothing F M) ∈ ks
        · rw [ho2.mpr hin]
          refine iteF ?_
          refine ⟨_, rfl, s57, fun e' he' => ?_⟩
          rw [take_snoc he, List.mem_append, List.mem_singleton] at he'
          rcases he' with h | rfl
          · exact hall e' h
          · exact hin
        · have : o.isSome = false := by
            cases e : o.isSome with
            | false => rfl
            | true => exact absurd (ho2.mp e) hin
          rw [this]
          refine iteT ?_
          exact kq _ false (strans s4 s57) ⟨fun h => (by cases h), fun c => absurd (c.base e (List.mem_of_getElem? he)) (notin hin)⟩
      · rintro σ H5 ⟨v6, rfl, s5, hall⟩
        rw [List.length_map, List.take_length] at hall
        have vok : ∀ (q : Int) (v : Val), (q, v) ∈ ks → VOk F M v := fun q v h => by
          obtain ⟨r, hr, e⟩ := List.mem_map.mp ((hks _).mp h)
          have : valueOf F W M r.2 = v := by have := (hent r hr).2.1; rw [e] at this; exact this
          rw [← this]; exact value_ok hc.fok hc.wok _
        have lists : ∀ (q : Int), 0 ≤ q → q < AA.many → ∃ (j : Nat) (l : Addr) (ws : List V), q = (j : Int) ∧ ls[j]? = some l ∧ (∀ {H6 : Hp}, L2.Same H4 H6 → H6 l = some (.lst ws) ∧ IsAll H6 ((vs j).map encV) ws) := fun q q1 q2 => by
          obtain ⟨ws, h1, h2⟩ := vl4 q.toNat _ (List.getElem?_eq_getElem (by omega : q.toNat < ls.length))
          exact ⟨q.toNat, _, ws, by omega, List.getElem?_eq_getElem (by omega), fun s => ⟨s _ _ h1, h2.same s⟩⟩
        have lat : ∀ (j : Nat) (l : Addr), ls[j]? = some l → atI (ls.map V.ref) (j : Int) = some (.ref l) := fun j l h => atI_nat (by rw [List.getElem?_map, h]; rfl)
        -- for kind, tag, inner, rest in one[3]
        refine ⟨_, rfl, ap, _, 3, _, rfl, rfl, SqT.of (sx4 s5).at_, rfl, apr, rfl, ⟨_, SqT.of (sx4 s5).ru⟩, for_tup (a := apr) (xs := ars) (fun i σ H6 => ∃ v6 v7 v8 v9 v10 v11, σ = [some (.ref ap), some (.ref pm), some (.ref a), some (.ref D), some (.ref dT), v5, v6, v7, v8, v9, v10, v11, none] ∧ L2.Same H4 H6 ∧
          ∀ r ∈ AA.rules.take i, ∀ v w, (r.inner, v) ∈ ks → (r.rest, w) ∈ ks → (r.kind, above F W M r.tag v w) ∈ ks)
          ⟨_, _, _, _, _, _, rfl, s5, fun r hr => by simp at hr⟩ (fun i σ H6 _ ⟨_, _, _, _, _, _, _, s6, _⟩ => SqT.of (sx4 s6).ru) ?_ ?_⟩
        · rintro i x σ H6 hi ⟨v6, v7, v8, v9, v10, v11, rfl, s6, hr6⟩
          obtain ⟨r, hr', hx⟩ := hAA.rs.getm hi
          have rm := List.mem_of_getElem? hr'
          obtain ⟨rk1, rk2, rk3⟩ := aok.fok.ru r rm
          obtain ⟨rp, rfl, hrp⟩ := is_rule (hx.same (strans s4 s6))
          obtain ⟨j1, l1, w1, hj1, hl1, hlist1⟩ := lists r.inner rk2.1 rk2.2
          obtain ⟨j2, l2, w2, hj2, hl2, hlist2⟩ := lists r.rest rk3.1 rk3.2
          refine ⟨rp, _, rfl, SqT.of hrp, rfl, _, _, rfl, _, _, rfl, _, _, rfl, _, _, rfl, rfl, ?_⟩
          refine ⟨_, rfl, _, rfl, D, _, r.inner, .ref l1, rfl, rfl, SqL.of (s6 _ _ hD4), (by rw [hj1]; exact lat j1 l1 hl1), l1, rfl, ⟨w1, SqL.of (hlist1 s6).1⟩, for_list (a := l1) (xs := w1) (fun p σ H7 => ∃ v10 v11, σ = [some (.ref ap), some (.ref pm), some (.ref a), some (.ref D), some (.ref dT), v5, some (.int r.kind), some (.str r.tag), some (.int r.inner), some (.int r.rest), v10, v11, none] ∧ L2.Same H4 H7 ∧
            ∀ v ∈ (vs j1).take p, ∀ w, (r.rest, w) ∈ ks → (r.kind, above F W M r.tag v w) ∈ ks)
            ⟨_, _, rfl, s6, fun v hv => by simp at hv⟩ (fun p σ H7 _ ⟨_, _, _, s7, _⟩ => SqL.of (hlist1 s7).1) ?_ ?_⟩
          · rintro p y σ H7 hp ⟨v10, v11, rfl, s7, hp7⟩
            obtain ⟨v, hv, hy⟩ := (hlist1 (srefl H4)).2.getm hp
            have hvk : (r.inner, v) ∈ ks := by rw [hj1]; exact (hvs j1 v).mp (List.mem_of_getElem? hv)
            refine ⟨_, rfl, _, rfl, D, _, r.rest, .ref l2, rfl, rfl, SqL.of (s7 _ _ hD4), (by rw [hj2]; exact lat j2 l2 hl2), l2, rfl, ⟨w2, SqL.of (hlist2 s7).1⟩, for_list (a := l2) (xs := w2) (fun q σ H8 => ∃ v11, σ = [some (.ref ap), some (.ref pm), some (.ref a), some (.ref D), some (.ref dT), v5, some (.int r.kind), some (.str r.tag), some (.int r.inner), some (.int r.rest), some y, v11, none] ∧ L2.Same H4 H8 ∧
              ∀ w ∈ (vs j2).take q, (r.kind, above F W M r.tag v w) ∈ ks)
              ⟨_, rfl, s7, fun v hv => by simp at hv⟩ (fun q σ H8 _ ⟨_, _, s8, _⟩ => SqL.of (hlist2 s8).1) ?_ ?_⟩
            · rintro q z σ H8 hq ⟨v11, rfl, s8, hq8⟩
              obtain ⟨u, hu', hz⟩ := (hlist2 (srefl H4)).2.getm hq
              have huk : (r.rest, u) ∈ ks := by rw [hj2]; exact (hvs j2 u).mp (List.mem_of_getElem? hu')
              have s48 := strans s4 s8
              refine ⟨_, rfl, _, rfl, pm, edx, _, rfl, s48 _ _ hpm, efs_no _ (by decide +kernel) (by decide +kernel) (by decide +kernel), _, rfl, _, rfl, _, rfl, ?_⟩
              refine ⟨pm, r.tag, y, z, v, u, F, W, M, rfl, hE.same s48, hc, hy.same s8, hz.same s8, vok _ _ hvk, vok _ _ huk, fun H9 va s9 hva => ⟨(by show 2 ≤ sizeLine; decide), fun t nt => ?_⟩⟩
              have s10 := same_new (o := .tup [.int r.kind, va]) nt
              have sF := strans s8 (strans s9 s10)
              obtain ⟨o, ho1, ho2⟩ := (kd4.same sF).get (k := (r.kind, above F W M r.tag v u)) ⟨t, _, rfl, upd_same, _, _, rfl, rfl, _, _, rfl, hva.same s10, rfl⟩
              refine ⟨_, rfl, dT, o, rfl, ho1, _, rfl, ?_⟩
              by_cases hin : (r.kind, above F W M r.tag v u) ∈ ks
              · rw [ho2.mpr hin]
                refine iteF ?_
                refine ⟨_, rfl, sF, fun w hw => ?_⟩
                rw [take_snoc hu', List.mem_append, List.mem_singleton] at hw
                rcases hw with h | rfl
                · exact hq8 w h
                · exact hin
              · have : o.isSome = false := by
                  cases e : o.isSome with
                  | false => rfl
                  | true => exact absurd (ho2.mp e) hin
                rw [this]
                refine iteT ?_
                exact kq _ false (strans s4 sF) ⟨fun h => (by cases h), fun c => absurd (c.step r rm v u ((hks _).mp hvk) ((hks _).mp huk)) (notin hin)⟩
            · rintro σ H8 ⟨v11, rfl, s8, hq8⟩
              have := (hlist2 (srefl H4)).2.lenm
              rw [this, List.take_length] at hq8
              refine ⟨_, _, rfl, s8, fun v' hv' w hw => ?_⟩
              rw [take_snoc hv, List.mem_append, List.mem_singleton] at hv'
              rcases hv' with h | rfl
              · exact hp7 v' h w hw
              · exact hq8 w ((hvs j2 w).mpr (by rw [← hj2]; exact hw))
          · rintro σ H7 ⟨v10, v11, rfl, s7, hp7⟩
            have := (hlist1 (srefl H4)).2.lenm
            rw [this, List.take_length] at hp7
            refine ⟨_, _, _, _, _, _, rfl, s7, fun r' hr2 v w hv hw => ?_⟩
            rw [take_snoc hr', List.mem_append, List.mem_singleton] at hr2
            rcases hr2 with h | rfl
            · exact hr6 r' h v w hv hw
            · exact hp7 v ((hvs j1 v).mpr (by rw [← hj1]; exact hv)) w hw
        · rintro σ H6 ⟨v6, v7, v8, v9, v10, v11, rfl, s6, hr6⟩
          rw [hAA.rs.lenm, List.take_length] at hr6
          refine kq _ true (strans s4 s6) ⟨fun _ => ⟨fun e he => (hks _).mp (hall e he), fun r hr v w hv hw => (hks _).mp (hr6 r hr v w ((hks _).mpr hv) ((hks _).mpr hw))⟩, fun _ => rfl⟩
end
end K76
set_option Elab.async false
set_option linter.all false
set_option maxRecDepth 100000
set_option maxHeartbeats 4000000
namespace K76
open PySem PySem.Spec PyProof.Rows L2
def spSafe (CT CB : Addr) : Sp := fun vs H Q E => ∃ (vc vA vF : V) (A F : Form) (W : Way) (M : Nat) (tbl : List Ent), vs = [vc, vA, vF] ∧ Is H (encC M tbl) vc ∧ Tells tbl W ∧ tbl.length ≤ 1000 ∧ Is H (encF A) vA ∧ AOk A ∧ Is H (encF F) vF ∧ Ctx F W M ∧
  (∀ H' t D zs rows, L2.Same H H' → H' t = some (.tup [.str "safe", .ref D]) → H D = none → H' D = some (.lst zs) → IsAll H' (rows.map encT) zs → Tab A F W M rows → (∀ r ∈ rows, r.1.1 ∈ A.starts → good F r.1.2 = true) → Q (.ref t) H') ∧
  (∀ H' t gv g q, L2.Same H H' → H' t = some (.tup [.str "unsafe", gv]) → Is H' (gr g) gv → g.size ≤ 300 → q ∈ A.starts → isOf A g q = true → good F (valueOf F W M g) = false → Q (.ref t) H') ∧
  (¬ Few A F W M → ∀ H' C, L2.Same H H' → (C = CT ∨ C = CB) → E (.ref C) none H')
abbrev st_safe : Stmt := top 26
theorem sc_safe : FnScope ["changer", "one", "other", "measure", "rows", "spoiled", "kind", "value", "grove"] ["changer", "one", "other"] (defScope st_safe) := ⟨rfl, rfl, rfl, by decide +kernel, rfl, by decide +kernel, by decide +kernel⟩
def spoil (A F : Form) (rows : List Row) : List Row := rows.filter fun r => A.starts.contains r.1.1 && !good F r.1.2
section
variable {P : Program} {w : World} {K : PySem.W.Frag} {mg : Str → Option Value} {base : Heap} {CS CE CT CB : Addr}
theorem ok_safe {f : Addr} {fd : FuncData} (F : Fun K "safe" "safe" st_safe f fd) (B : Gb mg)
    (MKE : Maker P w K mg base CX0 2 "Effects" CE ["self", "changer", "form"] (spEffInit CE)) (F_table : Callable P w K mg base (L2.CX P w) 10 "table" ["one", "measure"] (spTable P w CE CT CB))
    (M_good : Methd P w K mg base CX0 1 CE "good" ["self", "value"] (spGood CE)) (F_least_among : Callable P w K mg base CX0 3 "least_among" ["groves"] spLeast) :
    FnOk P w K mg base (L2.CX P w) 11 f fd ["changer", "one", "other"] (spSafe CT CB) := by
  refine F.okX sc_safe (fun vs H Q E h => ?_) (fun cdv A outer s H vs Q E hr h => ?_)
  · obtain ⟨_, _, _, _, _, _, _, _, rfl, _⟩ := h
    rfl
  · obtain ⟨vc, vA, vF, AA, F, W, M, tbl, rfl, hC, hT, htl, hA, aok, hF, hc, kS, kU, ke⟩ := h
    have hu0 := Nat.lt_of_succ_lt (hu_of hr)
    refine ⟨_, (pss_cons (ps_set (i := 3) sc_safe.nd rfl (Or.inr rfl) (pe_makeF MKE (hr.mono (by decide)) rfl pass0 (pa_cons (pv 0) (pa_cons (pv 2) pa_nil))))
      (pss_cons (ps_set (i := 4) sc_safe.nd rfl (Or.inl rfl) (pe_callF F_table (hr.mono (by decide)) rfl (passes_call (takes_of rfl rfl rfl rfl) fun _ _ _ _ h => h) (pa_cons (pv 1) (pa_cons (pv 3) pa_nil))))
      (pss_cons (ps_setLc (i := 5) (own := [("kind", 6), ("value", 7), ("grove", 8)]) rfl sc_safe.nd rfl rfl (sw_true rfl rfl rfl (by decide +kernel)) (pi_list (pv 4)) (blkOk_by (own := [("kind", 6), ("value", 7), ("grove", 8)]) (N := ["changer", "one", "other", "measure", "rows", "spoiled", "kind", "value", "grove"]) (sc := defScope st_safe) (by decide +kernel)) (fun _ _ _ _ _ => (pg_tupK (K := K) (n := 3) rfl rfl (pgs_cons (pg_name (i := 6) sc_safe.nd rfl (Or.inl rfl)) (pgs_cons (pg_name (i := 7) sc_safe.nd rfl (Or.inl rfl)) (pgs_cons (pg_name (i := 8) sc_safe.nd rfl (Or.inl rfl)) pgs_nil))) rfl)) (fun _ _ _ _ _ => (pts_one (PW.pt (pw_and (pt_cmpR (op_in_seqK (K := K) rfl) (pv 6) (pe_ix (ix_tupK (K := K) rfl) (pv 1) pe_int (fun _ _ => rfl)) (by rfl)) (pw_and1 (pt_not (pt_val (pe_methF (pv 3) M_good (hr.mono (by decide)) pass0 (pa_cons (pv 7) pa_nil))))))))) (fun _ _ _ _ _ => (pv 8)))
      (pss_cons (ps_if (pt_cmpR (op_eqL0 hu0) (pv 5) (pe_lst pa_nil) (nomark _)) (pss_one (ps_ret (pe_tup (pa_cons pe_str (pa_cons (pv 4) pa_nil))))) pss_nil)
      (pss_one (ps_ret (pe_tup (pa_cons pe_str (pa_cons (pe_callF F_least_among (hr.mono (by decide)) rfl pass0 (pa_cons (pv 5) pa_nil)) pa_nil))))))))), ?_⟩
    -- measure = Effects(changer, other)
    refine ⟨_, rfl, _, rfl, fun x dx nx ndx nex => ?_⟩
    have sx : L2.Same H (upd (upd H dx (.own x)) x (.ins CE dx [])) := smut (same_new ndx) nx
    refine ⟨x, dx, vc, vF, M, tbl, W, F, rfl, upd_same, hC.same sx, hT, htl, hF.same sx, fun H1 hk1 hE1 => ⟨rfl, ?_⟩⟩
    have s1 : L2.Same H H1 := fun b o e => hk1 b o (sx b o e) (ne_of_none e nx)
    -- rows = table(one, measure)
    refine ⟨_, rfl, _, rfl, x, vA, AA, F, W, M, rfl, hA.same s1, aok, hE1, hc, fun H2 D zs rows s2 nD hD hz tab => ?_, fun hf H' C sH hC => ke hf H' C (strans s1 sH) hC⟩
    have s02 := strans s1 s2
    obtain ⟨ap, aps, ape, apr, ars, rfl, hAA⟩ := is_form (hA.same s02)
    have hE2 := hE1.same s2
    obtain ⟨edx, ed, ev, hpm, _⟩ := id hE2
    -- spoiled = [..]
    refine ⟨_, rfl, D, rfl, ⟨zs, SqL.of hD⟩, fun DD nDD => lc_list (a := D) (xs := zs) (fun i H3 => L2.Same H2 H3 ∧ ∃ ws, H3 DD = some (.lst ws) ∧ IsAll H3 ((spoil AA F (rows.take i)).map fun r => gr r.2) ws)
      ⟨same_new nDD, [], upd_same, rfl⟩ (fun i H3 _ ⟨s3, _⟩ => SqL.of (s3 _ _ hD)) ?_ ?_⟩
    · rintro i y H3 hi ⟨s3, ws, hDD, hws⟩
      obtain ⟨r, hr', hy⟩ := hz.getm hi
      obtain ⟨tp, y1, y2, y3, rfl, htp, hy1, hy2, hy3⟩ := is_three (hy.same s3)
      cases hy1
      have hA3 := hAA.mono (Tp.of s3)
      have hil : i < rows.length := (List.getElem?_eq_some_iff.mp hr').1
      have wl : ws.length ≤ 64 := by
        have := hws.lenm
        have h2 := List.length_filter_le (fun r : Row => AA.starts.contains r.1.1 && !good F r.1.2) (rows.take i)
        have h3 := tab.len
        rw [List.length_take] at h2
        unfold spoil at this
        omega
      have ent := tab.ent r (List.mem_of_getElem? hr')
      have vok : VOk F M r.1.2 := by rw [← ent.2.1]; exact value_ok hc.fok hc.wok _
      have sk : spoil AA F (rows.take (i + 1)) = spoil AA F (rows.take i) ++ (if (AA.starts.contains r.1.1 && !good F r.1.2) = true then [r] else []) := by
        rw [take_snoc hr']
        unfold spoil
        rw [List.filter_append]
        by_cases z : (AA.starts.contains r.1.1 && !good F r.1.2) = true
        · rw [if_pos z, List.filter_cons_of_pos (by simpa using z)]; rfl
        · rw [if_neg z, List.filter_cons_of_neg (by simpa using z)]; rfl
      refine ⟨tp, _, rfl, SqT.of htp, rfl, _, _, rfl, _, _, rfl, _, _, rfl, rfl, rfl, ?_⟩
      refine ⟨_, rfl, _, rfl, ap, _, 1, _, rfl, rfl, SqT.of hA3.at_, rfl, aps, _, rfl, .inr (SqT.of hA3.st), rfl, flat_ints _, AA.starts.contains r.1.1, inI _ _, ?_⟩
      refine ite2 (fun z => ?_) (fun z => ?_)
      · refine ⟨_, rfl, x, edx, _, rfl, s3 _ _ hpm, efs_no _ (by decide +kernel) (by decide +kernel) (by decide +kernel), _, rfl, x, y2, r.1.2, F, W, M, rfl, hE2.same s3, hc, hy2, vok, _, rfl, ?_⟩
        cases hg : good F r.1.2 with
        | true =>
          refine iteF ?_
          rw [if_neg (by rw [hg]; simp)] at sk
          rw [sk, List.append_nil]
          exact ⟨s3, ws, hDD, hws⟩
        | false =>
          refine iteT ?_
          rw [if_pos (by rw [z, hg]; rfl)] at sk
          refine ⟨_, rfl, ws, hDD, szL (by omega), smut s3 nDD, _, upd_same, ?_⟩
          have tp4 : Tp H3 (upd H3 DD (.lst (ws ++ [y3]))) := Tp.mut hDD (by intro z y; cases y)
          rw [sk, List.map_append]
          exact (hws.mono tp4).append ⟨_, _, rfl, Is.mono tp4 _ hy3, rfl⟩
      · rw [if_neg (by rw [Bool.not_eq_true] at z; rw [z]; simp)] at sk
        rw [sk, List.append_nil]
        exact ⟨s3, ws, hDD, hws⟩
    · rintro H3 ⟨s3, ws, hDD, hws⟩
      rw [hz.lenm, List.take_length] at hws
      -- if spoiled == []
      refine ⟨_, rfl, (Nat.zero_le _), fun t1 n1 => ?_⟩
      have s4 := same_new (o := .lst []) n1
      refine ⟨DD, t1, ws, rfl, rfl, SqL.of (s4 _ _ hDD), SqL.of upd_same, _, rfl, ?_⟩
      have s04 := strans s02 (strans s3 s4)
      cases ws with
      | nil =>
        refine iteT ?_
        have e0 : spoil AA F rows = [] := by
          have := hws.lenm
          exact List.length_eq_zero_iff.mp this.symm
        refine ⟨_, rfl, (by show 2 ≤ sizeLine; decide), fun t2 n2 => ?_⟩
        have s5 := same_new (o := .tup [.str "safe", .ref D]) n2
        refine kS _ t2 D zs rows (strans s04 s5) upd_same (s1.free nD) (s5 _ _ (s4 _ _ (s3 _ _ hD))) (((hz.same s3).same s4).same s5) tab fun r hr hs => ?_
        cases e : good F r.1.2 with
        | true => rfl
        | false =>
          have : r ∈ spoil AA F rows := by
            unfold spoil
            rw [List.mem_filter]
            exact ⟨hr, by rw [e, List.contains_iff_mem.mpr hs]; rfl⟩
          rw [e0] at this; cases this
      | cons w0 ws =>
        refine iteF ?_
        have ne : spoil AA F rows ≠ [] := by
          intro e
          rw [e] at hws; cases hws
        refine ⟨_, rfl, DD, _, (spoil AA F rows).map (·.2), rfl, s4 _ _ hDD, (by rw [List.map_map]; exact hws.same s4), fun g hg => ?_, by simpa using ne, fun H5 gv g s5 hg hgv => ⟨(by show 2 ≤ sizeLine; decide), fun t2 n2 => ?_⟩⟩
        · obtain ⟨r, hr, rfl⟩ := List.mem_map.mp hg
          unfold spoil at hr
          have := (tab.ent r (List.mem_filter.mp hr).1).2.2
          omega
        · obtain ⟨r, hr, rfl⟩ := List.mem_map.mp hg
          unfold spoil at hr
          obtain ⟨hr1, hr2⟩ := List.mem_filter.mp hr
          rw [Bool.and_eq_true, Bool.not_eq_true', List.contains_iff_mem] at hr2
          have ent := tab.ent r hr1
          have s6 := same_new (o := .tup [.str "unsafe", gv]) n2
          exact kU _ t2 gv r.2 r.1.1 (strans (strans s04 s5) s6) upd_same (hgv.same s6) ent.2.2 hr2.1 ent.1 (by rw [ent.2.1]; exact hr2.2)
end
end K76
set_option Elab.async false
set_option linter.all false
set_option maxRecDepth 100000
set_option maxHeartbeats 4000000
namespace K76
open PySem PySem.Spec PyProof.Rows L2
/-! ### _law_turned -/
def spLTurn : Sp := fun vs H Q _ => ∃ (a : Addr) (v : V) (xs ys : List V) (one other : Pr) (n : Nat), vs = [.ref a, v] ∧ H a = some (.tup xs) ∧ IsAll H (one.map encP) xs ∧
  (∃ b, v = .ref b ∧ (H b = some (.lst ys) ∨ H b = some (.tup ys))) ∧ IsAll H (other.map encP) ys ∧ InSq n one ∧ InSq n other ∧ n ≤ 10 ∧ 
  ∀ H' v, L2.Same H H' → Is H' (encL (turn one other)) v → Q v H'
abbrev st_l_turned : Stmt := top 35
theorem sc_l_turned : FnScope ["_law_ones", "_law_others", "_law_found", "_law_first", "_law_middle", "_law_start", "_law_last"] ["_law_ones", "_law_others"] (defScope st_l_turned) := ⟨rfl, rfl, rfl, by decide +kernel, rfl, by decide +kernel, by decide +kernel⟩
theorem sorted_pairs1 {K : PySem.W.Frag} {H : Hp} {d p : Addr} {kvs : List (List Key × V)} {bs : List Addr} {ps : List (Int × Int)} {Q : VK} (h : PD kp H d ps) (nd : ps.Nodup) (h1 : H d = some (.dT kvs)) (np : H p = none) (hb : IsKeys H kvs bs)
    (k : ∀ (H' : Hp) (p : Addr), L2.Same H H' → H p = none → (∃ xs, H' p = some (.lst xs) ∧ IsAll H' ((canon ps).map encP) xs) → Q (.ref p) H') : rSortedPO K [.ref p] (upd H p (.lst (bs.map V.ref))) Q := by
  obtain ⟨d', kvs', e1, e2, e3⟩ := sorted_pairs (K := K) h nd k
  cases e1
  have e : kvs' = kvs := by
    rcases e2 with e2 | ⟨ob, e2⟩
    · rw [h1] at e2
      cases e2
      rfl
    · rw [h1] at e2
      cases e2
  subst e
  exact e3 p bs np hb
section
variable {P : Program} {w : World} {K : PySem.W.Frag} {mg : Str → Option Value} {base : Heap}
theorem ok_lturn {f : Addr} {fd : FuncData} (F : Fun K "_law_turned" "_law_turned" st_l_turned f fd) (B : Gb mg) : FnOk P w K mg base CX0 1 f fd ["_law_ones", "_law_others"] spLTurn := by
  obtain ⟨rs, hrs⟩ : ∃ rs, rs = L2.rSortedPO K := ⟨_, rfl⟩
  have crs : ∀ X : Cx, X.K = K → CallR X (.builtin "sorted") rs := fun X h => by rw [hrs, ← h]; exact cr_sortedPO
  refine F.ok sc_l_turned (fun vs H Q E h => ?_) (fun cdv A outer s H vs Q E hr h => ?_)
  · obtain ⟨_, _, _, _, _, _, _, rfl, _⟩ := h
    rfl
  · obtain ⟨a, v, xs, ys, one, other, n, rfl, ha, hxs, ⟨b, rfl, hb⟩, hys, hsq, hso, hn, k⟩ := h
    have hu1 := hu_of hr
    rcases hb with hb | hb
    · skip
      refine ⟨_, (pss_cons (ps_set (i := 2) sc_l_turned.nd rfl (Or.inl rfl) pe_dnewT)
      (pss_cons (ps_for PassesOwn.never rfl (pi_tup (pv 0)) (pg_tup rfl (pgs_cons (pg_name (i := 3) sc_l_turned.nd rfl (Or.inl rfl)) (pgs_cons (pg_name (i := 4) sc_l_turned.nd rfl (Or.inl rfl)) pgs_nil))) (pss_one (ps_for PassesOwn.never rfl (pi_list (pv 1)) (pg_tup rfl (pgs_cons (pg_name (i := 5) sc_l_turned.nd rfl (Or.inl rfl)) (pgs_cons (pg_name (i := 6) sc_l_turned.nd rfl (Or.inl rfl)) pgs_nil))) (pss_one (ps_if (pt_cmpR op_eq (pv 5) (pv 4) (nomark _)) (pss_one (ps_dput hu1 (pv 2) (pe_tup (pa_cons (pv 3) (pa_cons (pv 6) pa_nil))) pe_bl rfl)) pss_nil)))))
      (pss_one (ps_ret (pe_callTy call_tuple_of (by rfl) B.tuple (by decide +kernel) (pa_cons (pe_callB (crs _ rfl) (by rfl) B.sorted (by decide +kernel) (pa_cons (pe_callTy (call_list_dT rfl) (by rfl) B.list (by decide +kernel) (pa_cons (pv 2) pa_nil)) pa_nil)) pa_nil)))))), ?_⟩
      refine fun f nf => ?_
      have s0 : L2.Same H (upd H f (.dT [])) := same_new nf
      refine ⟨_, rfl, a, rfl, ⟨xs, SqT.of (s0 _ _ ha)⟩, for_tup (a := a) (xs := xs) (fun i σ H2 => ∃ ps v3 v4 v5 v6, σ = [some (.ref a), some (.ref b), some (.ref f), v3, v4, v5, v6] ∧ L2.Same H H2 ∧ PD kp H2 f ps ∧ ps.Nodup ∧ ∀ y, y ∈ ps ↔ y ∈ meets (one.take i) other)
        ⟨[], _, _, _, _, rfl, s0, ⟨[], upd_same, rfl⟩, .nil, fun y => by simp [meets]⟩ (fun i σ H2 _ ⟨_, _, _, _, _, _, s3, _⟩ => SqT.of (s3 _ _ ha)) ?_ ?_⟩
      · rintro i x σ H2 hi ⟨ps, v3, v4, v5, v6, rfl, s3, hP, hnd, hm⟩
        obtain ⟨q, hq, hx⟩ := hxs.getm hi
        obtain ⟨p, rfl, hp⟩ := is_pair (hx.same s3)
        refine ⟨p, _, rfl, SqT.of hp, rfl, _, _, rfl, _, _, rfl, rfl, ?_⟩
        refine ⟨_, rfl, b, rfl, ⟨ys, SqL.of (s3 _ _ hb)⟩, for_list (a := b) (xs := ys) (fun j σ H3 => ∃ ps v5 v6, σ = [some (.ref a), some (.ref b), some (.ref f), some (.int q.1), some (.int q.2), v5, v6] ∧ L2.Same H H3 ∧ PD kp H3 f ps ∧ ps.Nodup ∧ ∀ y, y ∈ ps ↔ y ∈ meets (one.take i) other ∨ (y.1 = q.1 ∧ (q.2, y.2) ∈ other.take j))
          ⟨ps, _, _, rfl, s3, hP, hnd, fun y => by rw [hm]; simp⟩ (fun j σ H3 _ ⟨_, _, _, _, s5, _⟩ => SqL.of (s5 _ _ hb)) ?_ ?_⟩
        · rintro j y σ H3 hj ⟨ps, v5, v6, rfl, s5, hP, hnd, hm⟩
          obtain ⟨c, hc, hy⟩ := hys.getm hj
          obtain ⟨pc, rfl, hpc⟩ := is_pair (hy.same s5)
          refine ⟨pc, _, rfl, SqT.of hpc, rfl, _, _, rfl, _, _, rfl, rfl, ?_⟩
          refine ⟨_, rfl, _, rfl, rfl, _, rfl, ?_⟩
          refine ite2 (fun z => ?_) (fun z => ?_)
          · have z := of_decide_eq_true z
            injection z with z
            refine ⟨_, rfl, _, rfl, _, rfl, (by show 2 ≤ sizeLine; decide), fun t nt => ?_⟩
            have hin : ∀ y ∈ ps, (0 ≤ y.1 ∧ y.1 < n) ∧ 0 ≤ y.2 ∧ y.2 < n := by
              intro y hy
              have hqs := hsq _ (List.mem_of_getElem? hq)
              rcases (hm y).mp hy with h | ⟨h1, h2⟩
              · obtain ⟨b', hb1, hb2⟩ := mem_meets.mp (show (y.1, y.2) ∈ _ from h)
                exact ⟨(hsq _ (List.mem_of_mem_take hb1)).1, (hso _ hb2).2⟩
              · exact ⟨h1 ▸ hqs.1, (hso _ (List.mem_of_mem_take h2)).2⟩
            have hlen := InSq.len hin hnd
            have hlen2 : n * n ≤ 10 * 10 := Nat.mul_le_mul hn hn
            have hP5 : PD kp (upd H3 t (.tup [.int q.1, .int c.2])) f ps := by
              obtain ⟨ks, e1, e2⟩ := hP
              exact ⟨ks, get_new e1 nt, e2⟩
            obtain ⟨H4, hput, hP6, o, u, e1, e2, rfl⟩ := hP5.put (x := (q.1, c.2)) (fun _ _ => kp_inj) upd_same rfl (.bl true) (by omega)
            refine ⟨f, _, rfl, hput, ?_⟩
            refine ⟨addP ps (q.1, c.2), _, _, rfl, smut (snew s5 nt) nf, hP6, nodup_addP hnd, fun y => ?_⟩
            rw [mem_addP, hm, take_snoc hc]
            simp only [List.mem_append, List.mem_singleton]
            constructor
            · rintro ((h | h) | rfl)
              · exact .inl h
              · exact .inr ⟨h.1, .inl h.2⟩
              · exact .inr ⟨rfl, .inr (by rw [← z])⟩
            · rintro (h | ⟨h, h2 | h2⟩)
              · exact .inl (.inl h)
              · exact .inl (.inr ⟨h, h2⟩)
              · exact .inr (Prod.ext h (by rw [← h2]))
          · refine ⟨ps, _, _, rfl, s5, hP, hnd, fun y => ?_⟩
            rw [hm, take_snoc hc]
            simp only [List.mem_append, List.mem_singleton]
            constructor
            · rintro (h | h)
              · exact .inl h
              · exact .inr ⟨h.1, .inl h.2⟩
            · rintro (h | ⟨h, h2 | h2⟩)
              · exact .inl h
              · exact .inr ⟨h, h2⟩
              · exact absurd (decide_eq_true (by rw [← h2])) z
        · rintro σ H3 ⟨ps, v5, v6, rfl, s5, hP, hnd, hm⟩
          refine ⟨ps, _, _, _, _, rfl, s5, hP, hnd, fun y => ?_⟩
          rw [hm, hys.lenm, List.take_length, take_snoc hq]
          simp only [meets, List.flatMap_append, List.mem_append, List.flatMap_cons, List.flatMap_nil, List.append_nil, List.mem_map, List.mem_filter]
          constructor
          · rintro (h | ⟨h, h2⟩)
            · exact .inl h
            · exact .inr ⟨_, ⟨h2, by simp⟩, Prod.ext h.symm rfl⟩
          · rintro (h | ⟨z, ⟨h1, h2⟩, rfl⟩)
            · exact .inl h
            · refine .inr ⟨rfl, ?_⟩
              have : z.1 = q.2 := by simpa using h2
              rw [← this]; exact h1
      · rintro σ H2 ⟨ps, v3, v4, v5, v6, rfl, s3, hP, hnd, hm⟩
        have lo : xs.length = one.length := by rw [hxs.length, List.length_map]
        rw [lo, List.take_length] at hm
        obtain ⟨kvs0, hk1, hk2⟩ := id hP
        refine ⟨_, rfl, f, kvs0, rfl, .inl hk1, fun p1 bs1 np1 hb1 => ?_⟩
        change rs _ _ _
        rw [hrs]
        refine sorted_pairs1 hP hnd hk1 np1 hb1 fun H' p s5 np h => ?_
        obtain ⟨zs, hz1, hz2⟩ := h
        refine ⟨p, zs, rfl, .inl ⟨SqL.of hz1, fun l nl => ?_⟩⟩
        refine k _ _ (strans s3 (snew s5 nl)) ⟨l, zs, rfl, upd_same, ?_⟩
        have : canon ps = turn one other := canon_congr hm
        rw [← this]
        exact hz2.same (same_new nl)
    · skip
      refine ⟨_, (pss_cons (ps_set (i := 2) sc_l_turned.nd rfl (Or.inl rfl) pe_dnewT)
      (pss_cons (ps_for PassesOwn.never rfl (pi_tup (pv 0)) (pg_tup rfl (pgs_cons (pg_name (i := 3) sc_l_turned.nd rfl (Or.inl rfl)) (pgs_cons (pg_name (i := 4) sc_l_turned.nd rfl (Or.inl rfl)) pgs_nil))) (pss_one (ps_for PassesOwn.never rfl (pi_tup (pv 1)) (pg_tup rfl (pgs_cons (pg_name (i := 5) sc_l_turned.nd rfl (Or.inl rfl)) (pgs_cons (pg_name (i := 6) sc_l_turned.nd rfl (Or.inl rfl)) pgs_nil))) (pss_one (ps_if (pt_cmpR op_eq (pv 5) (pv 4) (nomark _)) (pss_one (ps_dput hu1 (pv 2) (pe_tup (pa_cons (pv 3) (pa_cons (pv 6) pa_nil))) pe_bl rfl)) pss_nil)))))
      (pss_one (ps_ret (pe_callTy call_tuple_of (by rfl) B.tuple (by decide +kernel) (pa_cons (pe_callB (crs _ rfl) (by rfl) B.sorted (by decide +kernel) (pa_cons (pe_callTy (call_list_dT rfl) (by rfl) B.list (by decide +kernel) (pa_cons (pv 2) pa_nil)) pa_nil)) pa_nil)))))), ?_⟩
      refine fun f nf => ?_
      have s0 : L2.Same H (upd H f (.dT [])) := same_new nf
      refine ⟨_, rfl, a, rfl, ⟨xs, SqT.of (s0 _ _ ha)⟩, for_tup (a := a) (xs := xs) (fun i σ H2 => ∃ ps v3 v4 v5 v6, σ = [some (.ref a), some (.ref b), some (.ref f), v3, v4, v5, v6] ∧ L2.Same H H2 ∧ PD kp H2 f ps ∧ ps.Nodup ∧ ∀ y, y ∈ ps ↔ y ∈ meets (one.take i) other)
        ⟨[], _, _, _, _, rfl, s0, ⟨[], upd_same, rfl⟩, .nil, fun y => by simp [meets]⟩ (fun i σ H2 _ ⟨_, _, _, _, _, _, s3, _⟩ => SqT.of (s3 _ _ ha)) ?_ ?_⟩
      · rintro i x σ H2 hi ⟨ps, v3, v4, v5, v6, rfl, s3, hP, hnd, hm⟩
        obtain ⟨q, hq, hx⟩ := hxs.getm hi
        obtain ⟨p, rfl, hp⟩ := is_pair (hx.same s3)
        refine ⟨p, _, rfl, SqT.of hp, rfl, _, _, rfl, _, _, rfl, rfl, ?_⟩
        refine ⟨_, rfl, b, rfl, ⟨ys, SqT.of (s3 _ _ hb)⟩, for_tup (a := b) (xs := ys) (fun j σ H3 => ∃ ps v5 v6, σ = [some (.ref a), some (.ref b), some (.ref f), some (.int q.1), some (.int q.2), v5, v6] ∧ L2.Same H H3 ∧ PD kp H3 f ps ∧ ps.Nodup ∧ ∀ y, y ∈ ps ↔ y ∈ meets (one.take i) other ∨ (y.1 = q.1 ∧ (q.2, y.2) ∈ other.take j))
          ⟨ps, _, _, rfl, s3, hP, hnd, fun y => by rw [hm]; simp⟩ (fun j σ H3 _ ⟨_, _, _, _, s5, _⟩ => SqT.of (s5 _ _ hb)) ?_ ?_⟩
        · rintro j y σ H3 hj ⟨ps, v5, v6, rfl, s5, hP, hnd, hm⟩
          obtain ⟨c, hc, hy⟩ := hys.getm hj
          obtain ⟨pc, rfl, hpc⟩ := is_pair (hy.same s5)
          refine ⟨pc, _, rfl, SqT.of hpc, rfl, _, _, rfl, _, _, rfl, rfl, ?_⟩
          refine ⟨_, rfl, _, rfl, rfl, _, rfl, ?_⟩
          refine ite2 (fun z => ?_) (fun z => ?_)
          · have z := of_decide_eq_true z
            injection z with z
            refine ⟨_, rfl, _, rfl, _, rfl, (by show 2 ≤ sizeLine; decide), fun t nt => ?_⟩
            have hin : ∀ y ∈ ps, (0 ≤ y.1 ∧ y.1 < n) ∧ 0 ≤ y.2 ∧ y.2 < n := by
              intro y hy
              have hqs := hsq _ (List.mem_of_getElem? hq)
              rcases (hm y).mp hy with h | ⟨h1, h2⟩
              · obtain ⟨b', hb1, hb2⟩ := mem_meets.mp (show (y.1, y.2) ∈ _ from h)
                exact ⟨(hsq _ (List.mem_of_mem_take hb1)).1, (hso _ hb2).2⟩
              · exact ⟨h1 ▸ hqs.1, (hso _ (List.mem_of_mem_take h2)).2⟩
            have hlen := InSq.len hin hnd
            have hlen2 : n * n ≤ 10 * 10 := Nat.mul_le_mul hn hn
            have hP5 : PD kp (upd H3 t (.tup [.int q.1, .int c.2])) f ps := by
              obtain ⟨ks, e1, e2⟩ := hP
              exact ⟨ks, get_new e1 nt, e2⟩
            obtain ⟨H4, hput, hP6, o, u, e1, e2, rfl⟩ := hP5.put (x := (q.1, c.2)) (fun _ _ => kp_inj) upd_same rfl (.bl true) (by omega)
            refine ⟨f, _, rfl, hput, ?_⟩
            refine ⟨addP ps (q.1, c.2), _, _, rfl, smut (snew s5 nt) nf, hP6, nodup_addP hnd, fun y => ?_⟩
            rw [mem_addP, hm, take_snoc hc]
            simp only [List.mem_append, List.mem_singleton]
            constructor
            · rintro ((h | h) | rfl)
              · exact .inl h
              · exact .inr ⟨h.1, .inl h.2⟩
              · exact .inr ⟨rfl, .inr (by rw [← z])⟩
            · rintro (h | ⟨h, h2 | h2⟩)
              · exact .inl (.inl h)
              · exact .inl (.inr ⟨h, h2⟩)
              · exact .inr (Prod.ext h (by rw [← h2]))
          · refine ⟨ps, _, _, rfl, s5, hP, hnd, fun y => ?_⟩
            rw [hm, take_snoc hc]
            simp only [List.mem_append, List.mem_singleton]
            constructor
            · rintro (h | h)
              · exact .inl h
              · exact .inr ⟨h.1, .inl h.2⟩
            · rintro (h | ⟨h, h2 | h2⟩)
              · exact .inl h
              · exact .inr ⟨h, h2⟩
              · exact absurd (decide_eq_true (by rw [← h2])) z
        · rintro σ H3 ⟨ps, v5, v6, rfl, s5, hP, hnd, hm⟩
          refine ⟨ps, _, _, _, _, rfl, s5, hP, hnd, fun y => ?_⟩
          rw [hm, hys.lenm, List.take_length, take_snoc hq]
          simp only [meets, List.flatMap_append, List.mem_append, List.flatMap_cons, List.flatMap_nil, List.append_nil, List.mem_map, List.mem_filter]
          constructor
          · rintro (h | ⟨h, h2⟩)
            · exact .inl h
            · exact .inr ⟨_, ⟨h2, by simp⟩, Prod.ext h.symm rfl⟩
          · rintro (h | ⟨z, ⟨h1, h2⟩, rfl⟩)
            · exact .inl h
            · refine .inr ⟨rfl, ?_⟩
              have : z.1 = q.2 := by simpa using h2
              rw [← this]; exact h1
      · rintro σ H2 ⟨ps, v3, v4, v5, v6, rfl, s3, hP, hnd, hm⟩
        have lo : xs.length = one.length := by rw [hxs.length, List.length_map]
        rw [lo, List.take_length] at hm
        obtain ⟨kvs0, hk1, hk2⟩ := id hP
        refine ⟨_, rfl, f, kvs0, rfl, .inl hk1, fun p1 bs1 np1 hb1 => ?_⟩
        change rs _ _ _
        rw [hrs]
        refine sorted_pairs1 hP hnd hk1 np1 hb1 fun H' p s5 np h => ?_
        obtain ⟨zs, hz1, hz2⟩ := h
        refine ⟨p, zs, rfl, .inl ⟨SqL.of hz1, fun l nl => ?_⟩⟩
        refine k _ _ (strans s3 (snew s5 nl)) ⟨l, zs, rfl, upd_same, ?_⟩
        have : canon ps = turn one other := canon_congr hm
        rw [← this]
        exact hz2.same (same_new nl)
end
end K76
set_option Elab.async false
set_option linter.all false
set_option maxRecDepth 100000
set_option maxHeartbeats 4000000
namespace K76
open PySem PySem.Spec PyProof.Rows L2
/-! ### t * k, k = 1: the same tuple -/
theorem tuple_mul1 (l : Addr) (items : Array Value) (n : Nat) (sl : Array (Option Value)) (u : Tok) (dd : Option Addr) :
    Meets (Builtin.«tuple.__mul__» ⟨[.ref l, .int 1 u], []⟩) (fun _ R s => s.heap.get? l = some { cls := .type "tuple", dict := dd, data := .seq items n, slots := sl } ∧
      R (.ok (.ret (Value.ref l))) s) :=
  .of_wp fun prog w A R s h => by
    obtain ⟨hp, g, d, tk, os⟩ := s
    obtain ⟨hl, h⟩ := h
    have f1 := AutoSeq1.idx_int
    wp_walk using wpAny_loadPart' hl
    exact ⟨_, rfl, h⟩
/-- t * k, k one or more -/
def rMulT (K : PySem.W.Frag) : R2 := fun x y H Q => ∃ l k xs, x = .ref l ∧ y = .int k ∧ SqT K H l xs ∧ xs ≠ [] ∧ 1 ≤ k ∧ k ≤ 1000 ∧ xs.length ≤ 1000 ∧ (k = 1 → Q (.ref l) H) ∧ (2 ≤ k → ∀ p, H p = none → Q (.ref p) (upd H p (.tup (List.replicate k.toNat xs).flatten)))
theorem op_mulT {X : Cx} : OpR X (binaryOp .Mult) (rMulT X.K) := by
  intro pins s σ H x y v u Q I rx ry h
  obtain ⟨l, k, xs, ex, ey, hT, hne, h1, h2, hz, q1, q2⟩ := h
  by_cases hk : 2 ≤ k
  · exact op_repT pins s σ H x y v u Q I rx ry ⟨l, k, xs, ex, ey, hT, hne, hk, h2, hz, q2 hk⟩
  · obtain rfl : k = 1 := by omega
    subst ex ey
    cases rx
    obtain ⟨t, rfl⟩ := ry
    obtain ⟨its, r, ⟨⟨cls, dd, data, sl⟩, ho, hc, n, hd⟩, hs⟩ := I.tuple hT
    simp only at hc hd
    subst hc hd
    refine wpAny_binaryOp_repeat_ref (T := "tuple") (U := "int") (by decide) ⟨_, ho, rfl⟩ (fun s' => typeIs_int s' 1 t) noFill_tuple_mul F.fills_int_mul F.slot_int_rmul repeat_tuple F.slot_int_index.lookup
      (call_meets F.slot_int_rmul (typeIs_int s 1 t) F.entry_int_rmul (F.args_int_rmul_2 _ _) (int_rmul_tuple 1 t l its.toArray n dd sl)
        ⟨ho, rfl, ⟨_, ho, rfl⟩, call_meets F.slot_tuple_mul ⟨_, ho, rfl⟩ F.entry_tuple_mul (F.args_tuple_mul_2 _ _) (tuple_mul1 l its.toArray n sl t dd) ⟨ho, ?_⟩⟩)
    exact ⟨.ref l, H, I, rfl, q1 rfl⟩
end K76
set_option Elab.async false
set_option linter.all false
set_option maxRecDepth 100000
set_option maxHeartbeats 4000000
namespace K76
open PySem PySem.Spec PyProof.Rows L2
/-! ### _law_idle, _law_wanted -/
def spLIdle : Sp := fun vs H Q _ => ∃ (vF : V) (F : Form) (W : Way) (M : Nat), vs = [vF, .int (M : Int)] ∧ Is H (encF F) vF ∧ Ctx F W M ∧ ∀ H' v, L2.Same H H' → Is H' (encV (nothing F M)) v → Q v H'
def spLWanted : Sp := fun vs H Q _ => ∃ (vF vv : V) (F : Form) (W : Way) (M : Nat) (v : Val), vs = [vF, vv] ∧ Is H (encF F) vF ∧ Ctx F W M ∧ Is H (encV v) vv ∧ VOk F M v ∧ ∀ H', L2.Same H H' → Q (.bl (good F v)) H'
abbrev st_l_idle : Stmt := top 38
theorem sc_l_idle : FnScope ["_law_shape_here", "_law_modes", "_law_kind"] ["_law_shape_here", "_law_modes"] (defScope st_l_idle) := ⟨rfl, rfl, rfl, by decide +kernel, rfl, by decide +kernel, by decide +kernel⟩
abbrev st_l_wanted : Stmt := top 39
theorem sc_l_wanted : FnScope ["_law_shape_here", "_law_value_here", "_law_pair"] ["_law_shape_here", "_law_value_here"] (defScope st_l_wanted) := ⟨rfl, rfl, rfl, by decide +kernel, rfl, by decide +kernel, by decide +kernel⟩
theorem isall_rep {H : Hp} {k : D} {x : V} (h : Is H k x) : ∀ n, IsAll H (List.replicate n k) (List.replicate n x)
  | 0 => rfl
  | n + 1 => ⟨_, _, rfl, h, isall_rep h n⟩
theorem flat_rep (x : V) : ∀ n, (List.replicate n [x]).flatten = List.replicate n x
  | 0 => rfl
  | n + 1 => by rw [List.replicate_succ, List.flatten_cons, flat_rep x n]; rfl
section
variable {P : Program} {w : World} {K : PySem.W.Frag} {mg : Str → Option Value} {base : Heap}
theorem ok_lidle {f : Addr} {fd : FuncData} (F : Fun K "_law_idle" "_law_idle" st_l_idle f fd) (B : Gb mg) : FnOk P w K mg base CX0 1 f fd ["_law_shape_here", "_law_modes"] spLIdle := by
  refine F.ok sc_l_idle (fun vs H Q E h => ?_) (fun cdv A outer s H vs Q E hr h => ?_)
  · obtain ⟨_, _, _, _, rfl, _⟩ := h
    rfl
  · obtain ⟨vF, F, W, M, rfl, hF, hc, k⟩ := h
    refine ⟨_, (pss_one (ps_ret (pe_op op_mulT (pe_tup (pa_cons (pe_callTy call_tuple_of (by rfl) B.tuple (by decide +kernel) (pa_cons (pe_lc (own := [("_law_kind", 2)]) rfl sc_l_idle.nd (pi_range1 rfl B.range (pa_cons (pe_ix ix_tup (pv 0) pe_int (fun _ _ => rfl)) pa_nil)) (blkOk_by (own := [("_law_kind", 2)]) (N := ["_law_shape_here", "_law_modes", "_law_kind"]) (sc := defScope st_l_idle) (by decide +kernel)) (fun _ _ _ _ _ => (pg_name (i := 2) sc_l_idle.nd rfl (Or.inl rfl))) (fun _ _ _ _ _ => pts_nil) (fun _ _ _ _ _ => (pe_tup (pa_cons (pv 2) (pa_cons (pv 2) pa_nil))))) pa_nil)) pa_nil)) (pv 1)))), ?_⟩
    obtain ⟨a, ps, pe, pr, rs, rfl, hA⟩ := is_form hF
    have h3 := hc.few
    have h4 := hc.mod
    have h5 := hc.mp
    refine ⟨_, rfl, a, _, 0, _, rfl, rfl, SqT.of hA.at_, rfl, _, rfl, by omega, by omega, fun D nD => lc_range (lo := 0) (n := F.many) (fun i H2 => L2.Same H H2 ∧ ∃ zs, H2 D = some (.lst zs) ∧ IsAll H2 (((idle F.many).take i).map encP) zs) ⟨same_new nD, [], upd_same, rfl⟩ ?_ ?_⟩
    · rintro i H2 hi ⟨s2, zs, hD, hz⟩
      refine ⟨rfl, ?_⟩
      refine ⟨_, rfl, _, rfl, (by show 2 ≤ sizeLine; decide), fun t nt => ⟨zs, get_new hD nt, ?_, smut (snew s2 nt) nD, _, upd_same, ?_⟩⟩
      · have := hz.lenm
        rw [List.length_take] at this
        exact szL (by omega)
      · rw [idle_succ _ _ hi, List.map_append]
        have tp : Tp H2 (upd (upd H2 t (.tup [.int (0 + (i : Int)), .int (0 + (i : Int))])) D (.lst (zs ++ [.ref t]))) := (Tp.new nt).trans (Tp.mut (get_new hD nt) (by intro z y; cases y))
        refine (hz.mono tp).append ⟨_, _, rfl, ⟨t, _, rfl, ?_, _, _, rfl, rfl, _, _, rfl, rfl, rfl⟩, rfl⟩
        rw [upd_ne (ne_of_none hD nt).symm, upd_same, Int.zero_add]
    · rintro H2 ⟨s2, zs, hD, hz⟩
      rw [List.take_of_length_le (by unfold idle; simp)] at hz
      refine ⟨D, zs, rfl, .inl ⟨SqL.of hD, fun t nt => ⟨(by show 1 ≤ sizeLine; decide), fun u nu => ?_⟩⟩⟩
      have s3 := same_new (o := .tup zs) nt
      have s4 := same_new (o := .tup [.ref t]) nu
      have one : Is (upd (upd H2 t (.tup zs)) u (.tup [.ref t])) (encL (idle F.many)) (.ref t) := ⟨t, zs, rfl, s4 _ _ upd_same, (hz.same s3).same s4⟩
      refine ⟨_, rfl, u, _, [.ref t], rfl, rfl, SqT.of upd_same, (by intro z; cases z), by omega, by omega, (by show 1 ≤ 1000; omega), fun e1 => ?_, fun e2 p np => ?_⟩
      · have : M = 1 := by omega
        subst this
        exact k _ _ (strans s2 (strans s3 s4)) ⟨u, _, rfl, upd_same, _, _, rfl, one, rfl⟩
      · refine k _ _ (strans s2 (strans s3 (strans s4 (same_new np)))) ⟨p, _, rfl, upd_same, ?_⟩
        rw [flat_rep, show ((M : Int)).toNat = M from rfl]
        unfold nothing
        rw [List.map_replicate]
        exact (isall_rep one M).same (same_new np)
theorem ok_lwanted {f : Addr} {fd : FuncData} (F : Fun K "_law_wanted" "_law_wanted" st_l_wanted f fd) : FnOk P w K mg base CX0 1 f fd ["_law_shape_here", "_law_value_here"] spLWanted := by
  refine F.ok sc_l_wanted (fun vs H Q E h => ?_) (fun cdv A outer s H vs Q E hr h => ?_)
  · obtain ⟨_, _, _, _, _, _, rfl, _⟩ := h
    rfl
  · obtain ⟨vF, vv, F, W, M, v, rfl, hF, hc, hv, hV, k⟩ := h
    have hu0 := Nat.lt_of_succ_lt (hu_of hr)
    refine ⟨_, (pss_one (ps_ret (pe_cmpR (op_neL0 hu0) (pe_lc (own := [("_law_pair", 2)]) rfl sc_l_wanted.nd (pi_tup (pe_ix ix_tup (pv 1) pe_int (fun _ _ => rfl))) (blkOk_by (own := [("_law_pair", 2)]) (N := ["_law_shape_here", "_law_value_here", "_law_pair"]) (sc := defScope st_l_wanted) (by decide +kernel)) (fun _ _ _ _ _ => (pg_name (i := 2) sc_l_wanted.nd rfl (Or.inl rfl))) (fun _ _ _ _ _ => (pts_one (PW.pt (pw_and (pt_cmpR (op_in_seqK (K := K) rfl) (pe_ix (ix_tupK (K := K) rfl) (pv 2) pe_int (fun _ _ => rfl)) (pe_ix (ix_tupK (K := K) rfl) (pv 0) pe_int (fun _ _ => rfl)) (by rfl)) (pw_and1 (pt_cmpR (op_in_seqK (K := K) rfl) (pe_ix (ix_tupK (K := K) rfl) (pv 2) pe_int (fun _ _ => rfl)) (pe_ix (ix_tupK (K := K) rfl) (pv 0) pe_int (fun _ _ => rfl)) (by rfl))))))) (fun _ _ _ _ _ => (pv 2))) (pe_lst pa_nil) (nomark _)))), ?_⟩
    obtain ⟨b, ys, rfl, hb, hys⟩ := is_tup hv
    obtain ⟨tb, ps, pe, pr, rs, rfl, hA⟩ := is_form hF
    obtain ⟨yb, ws, hy, hyb, hws⟩ := val_at (b := b) hV hc.mp hys
    refine ⟨_, rfl, b, _, 0, _, rfl, rfl, SqT.of hb, atI_nat (j := 0) hy, yb, rfl, ⟨_, SqT.of hyb⟩, fun D nD => lc_tup (a := yb) (xs := ws) (fun i H1 => L2.Same H H1 ∧ ∃ zs, H1 D = some (.lst zs) ∧ zs.length ≤ i ∧ (zs.isEmpty = !((v.getD 0 []).take i).any (fun p => F.starts.contains p.1 && F.ends.contains p.2)))
      ⟨same_new nD, [], upd_same, Nat.le_refl _, rfl⟩ (fun i H1 _ ⟨s1, _⟩ => SqT.of (s1 _ _ hyb)) ?_ ?_⟩
    · rintro i x H1 hi ⟨s1, zs, hD, hzl, hz⟩
      obtain ⟨q, hq, hx⟩ := hws.getm hi
      obtain ⟨c, rfl, hcp⟩ := is_pair (hx.same s1)
      have hA1 := hA.mono (Tp.of s1)
      have any1 : ((v.getD 0 []).take (i + 1)).any (fun p => F.starts.contains p.1 && F.ends.contains p.2) = (((v.getD 0 []).take i).any (fun p => F.starts.contains p.1 && F.ends.contains p.2) || (F.starts.contains q.1 && F.ends.contains q.2)) := by
        rw [take_snoc hq, List.any_append, List.any_cons, List.any_nil, Bool.or_false]
      have h9 := sq_len9 (hV.2 0 hc.mp).1 (hV.2 0 hc.mp).2.nodup hc.few
      have i9 : i < (v.getD 0 []).length := (List.getElem?_eq_some_iff.mp hq).1
      refine ⟨rfl, ?_⟩
      refine ⟨_, rfl, c, _, 0, _, rfl, rfl, SqT.of hcp, rfl, _, rfl, tb, _, 1, _, rfl, rfl, SqT.of hA1.at_, rfl, ps, _, rfl, .inr (SqT.of hA1.st), rfl, flat_ints _, F.starts.contains q.1, inI _ _, ?_⟩
      refine ite2 (fun z => ?_) (fun z => ?_)
      · refine ⟨_, rfl, c, _, 1, _, rfl, rfl, SqT.of hcp, rfl, _, rfl, tb, _, 2, _, rfl, rfl, SqT.of hA1.at_, rfl, pe, _, rfl, .inr (SqT.of hA1.en), rfl, flat_ints _, F.ends.contains q.2, inI _ _, ?_⟩
        refine ite2 (fun z2 => ?_) (fun z2 => ?_)
        · refine ⟨_, rfl, zs, hD, szL (by omega), smut s1 nD, _, upd_same, by simp; omega, ?_⟩
          rw [any1, z, z2, Bool.and_self, Bool.or_true]
          simp
        · refine ⟨s1, zs, hD, by omega, ?_⟩
          rw [Bool.not_eq_true] at z2
          rw [any1, z2, Bool.and_false, Bool.or_false]; exact hz
      · refine ⟨s1, zs, hD, by omega, ?_⟩
        rw [Bool.not_eq_true] at z
        rw [any1, z, Bool.false_and, Bool.or_false]; exact hz
    · rintro H1 ⟨s1, zs, hD, hzl, hz⟩
      rw [hws.lenm, List.take_length] at hz
      refine ⟨(Nat.zero_le _), fun t nt => ⟨D, t, zs, rfl, rfl, SqL.of (get_new hD nt), SqL.of upd_same, ?_⟩⟩
      rw [hz, Bool.not_not]
      exact k _ (snew s1 nt)
end
end K76
set_option Elab.async false
set_option linter.all false
set_option maxRecDepth 100000
set_option maxHeartbeats 4000000
namespace K76
open PySem PySem.Spec PyProof.Rows L2
def spLThr (n : Nat) : Sp := fun vs H Q _ => ∃ (vF vp vv : V) (ps : Ps) (v : Val) (F : Form) (W : Way) (M : Nat), vs = [vF, vp, vv] ∧ Is H (encF F) vF ∧ Ctx F W M ∧ Is H (.tup (encPs ps)) vp ∧ Is H (encV v) vv ∧
  ps.deep < n ∧ ps.ok M ∧ ps.size ≤ 4 ∧ VOk F M v ∧ ∀ H' v', L2.Same H H' → Is H' (encL (through F v ps (idle F.many))) v' → Q v' H'
abbrev st_l_through : Stmt := top 36
theorem sc_l_through : FnScope ["_law_shape_here", "_law_parts_here", "_law_value_here", "_law_pairs", "_law_part", "_law_good", "_law_step", "_law_kind", "_law_first", "_law_last", "_law_rule"] ["_law_shape_here", "_law_parts_here", "_law_value_here"] (defScope st_l_through) := ⟨rfl, rfl, rfl, by decide +kernel, rfl, by decide +kernel, by decide +kernel⟩
section
variable {P : Program} {w : World} {K : PySem.W.Frag} {mg : Str → Option Value} {base : Heap}
theorem ok_lthr {f : Addr} {fd : FuncData} (F : Fun K "_law_through" "_law_through" st_l_through f fd) (hg : mg "_law_through" = some (.ref f)) (hb : L2.Binds K fd ["_law_shape_here", "_law_parts_here", "_law_value_here"] []) (B : Gb mg)
    (Fl_turned : Callable P w K mg base CX0 1 "_law_turned" ["_law_ones", "_law_others"] spLTurn) : ∀ n, FnOk P w K mg base CX0 (n + 1) f fd ["_law_shape_here", "_law_parts_here", "_law_value_here"] (spLThr n)
  | 0 => ⟨fun vs H Q E ⟨_, _, _, _, _, _, _, _, _, _, _, _, _, h, _⟩ => absurd h (Nat.not_lt_zero _), fun A outer s H args us vs Q E _ _ _ _ ⟨_, _, _, _, _, _, _, _, _, _, _, _, _, h, _⟩ => absurd h (Nat.not_lt_zero _)⟩
  | n + 1 => by
    have Fl_through : Callable P w K mg base CX0 (n + 1) "_law_through" ["_law_shape_here", "_law_parts_here", "_law_value_here"] (spLThr n) := ⟨f, fd, hg, F.kp, hb, ok_lthr F hg hb B Fl_turned n⟩
    refine F.ok sc_l_through (fun vs H Q E h => ?_) (fun cdv A outer s H vs Q E hr h => ?_)
    · obtain ⟨_, _, _, _, _, _, _, _, rfl, _⟩ := h
      rfl
    · obtain ⟨vF, vp, vv, ps, v, F, W, M, rfl, hF, hc, hp, hv, hd, hok, hs, hV, k⟩ := h
      have hr1 : Room 1 _ := hr.mono (by omega)
      refine ⟨_, (pss_cons (ps_set (i := 3) sc_l_through.nd rfl (Or.inl rfl) (pe_callTy call_tuple_of (by rfl) B.tuple (by decide +kernel) (pa_cons (pe_lc (own := [("_law_kind", 7)]) rfl sc_l_through.nd (pi_range1 rfl B.range (pa_cons (pe_ix ix_tup (pv 0) pe_int (fun _ _ => rfl)) pa_nil)) (blkOk_by (own := [("_law_kind", 7)]) (N := ["_law_shape_here", "_law_parts_here", "_law_value_here", "_law_pairs", "_law_part", "_law_good", "_law_step", "_law_kind", "_law_first", "_law_last", "_law_rule"]) (sc := defScope st_l_through) (by decide +kernel)) (fun _ _ _ _ _ => (pg_name (i := 7) sc_l_through.nd rfl (Or.inl rfl))) (fun _ _ _ _ _ => pts_nil) (fun _ _ _ _ _ => (pe_tup (pa_cons (pv 7) (pa_cons (pv 7) pa_nil))))) pa_nil)))
      (pss_cons (ps_for PassesOwn.never rfl (pi_tup (pv 1)) (pg_name (i := 4) sc_l_through.nd rfl (Or.inr rfl)) (pss_cons (ps_if (pt_cmpR op_eq (pe_ix ix_tup (pv 4) pe_int (fun _ _ => rfl)) pe_str (nomark _)) (pss_cons (ps_set (i := 3) sc_l_through.nd rfl (Or.inl rfl) (pe_callF Fl_turned hr1 rfl pass0 (pa_cons (pv 3) (pa_cons (pe_ix ix_tup (pv 2) (pe_ix ix_tup (pv 4) pe_int (fun _ _ => rfl)) (fun _ _ => rfl)) pa_nil))))
      (pss_one ps_continue)) pss_nil)
      (pss_cons (ps_set (i := 5) sc_l_through.nd rfl (Or.inr rfl) (pe_lc (own := [("_law_first", 8), ("_law_last", 9)]) rfl sc_l_through.nd (pi_tup (pe_callF Fl_through hr rfl pass0 (pa_cons (pv 0) (pa_cons (pe_ix ix_tup (pv 4) pe_int (fun _ _ => rfl)) (pa_cons (pv 2) pa_nil))))) (blkOk_by (own := [("_law_first", 8), ("_law_last", 9)]) (N := ["_law_shape_here", "_law_parts_here", "_law_value_here", "_law_pairs", "_law_part", "_law_good", "_law_step", "_law_kind", "_law_first", "_law_last", "_law_rule"]) (sc := defScope st_l_through) (by decide +kernel)) (fun _ _ _ _ _ => (pg_tupK (K := K) (n := 2) rfl rfl (pgs_cons (pg_name (i := 8) sc_l_through.nd rfl (Or.inl rfl)) (pgs_cons (pg_name (i := 9) sc_l_through.nd rfl (Or.inl rfl)) pgs_nil)) rfl)) (fun _ _ _ _ _ => (pts_one (pt_cmpR (op_in_seqK (K := K) rfl) (pv 9) (pe_ix (ix_tupK (K := K) rfl) (pv 0) pe_int (fun _ _ => rfl)) (by rfl)))) (fun _ _ _ _ _ => (pv 8))))
      (pss_cons (ps_setLc (i := 6) (own := [("_law_rule", 10)]) rfl sc_l_through.nd rfl rfl (sw_true rfl rfl rfl (by decide +kernel)) (pi_tup (pe_ix ix_tup (pv 0) pe_int (fun _ _ => rfl))) (blkOk_by (own := [("_law_rule", 10)]) (N := ["_law_shape_here", "_law_parts_here", "_law_value_here", "_law_pairs", "_law_part", "_law_good", "_law_step", "_law_kind", "_law_first", "_law_last", "_law_rule"]) (sc := defScope st_l_through) (by decide +kernel)) (fun _ _ _ _ _ => (pg_name (i := 10) sc_l_through.nd rfl (Or.inl rfl))) (fun _ _ _ _ _ => (pts_one (PW.pt (pw_and (pt_cmpR op_eq (pe_ix (ix_tupK (K := K) rfl) (pv 10) pe_int (fun _ _ => rfl)) (pe_ix (ix_tupK (K := K) rfl) (pv 4) pe_int (fun _ _ => rfl)) (nomark _)) (pw_and1 (pt_cmpR (op_in_seqK (K := K) rfl) (pe_ix (ix_tupK (K := K) rfl) (pv 10) pe_int (fun _ _ => rfl)) (pv 5) (by rfl))))))) (fun _ _ _ _ _ => (pe_tup (pa_cons (pe_ix (ix_tupK (K := K) rfl) (pv 10) pe_int (fun _ _ => rfl)) (pa_cons (pe_ix (ix_tupK (K := K) rfl) (pv 10) pe_int (fun _ _ => rfl)) pa_nil)))))
      (pss_one (ps_set (i := 3) sc_l_through.nd rfl (Or.inl rfl) (pe_callF Fl_turned hr1 rfl pass0 (pa_cons (pv 3) (pa_cons (pv 6) pa_nil)))))))))
      (pss_one (ps_ret (pv 3))))), ?_⟩
      obtain ⟨a, fs, fe, fr, rs, rfl, hA⟩ := is_form hF
      rw [encPs_toL] at hp
      obtain ⟨pa, xs, rfl, hpa, hxs⟩ := is_tup hp
      obtain ⟨vb, ys, rfl, hvb, hys⟩ := is_tup hv
      have hall := toL_ok hok hd hs
      have h3 := hc.few
      refine ⟨_, rfl, a, _, 0, _, rfl, rfl, SqT.of hA.at_, rfl, _, rfl, by omega, by omega, fun D nD => lc_range (lo := 0) (n := F.many) (fun i H2 => L2.Same H H2 ∧ ∃ zs, H2 D = some (.lst zs) ∧ IsAll H2 (((idle F.many).take i).map encP) zs) ⟨same_new nD, [], upd_same, rfl⟩ ?_ ?_⟩
      · rintro i H2 hi ⟨s2, zs, hD, hz⟩
        refine ⟨rfl, ?_⟩
        refine ⟨_, rfl, _, rfl, (by show 2 ≤ sizeLine; decide), fun t nt => ⟨zs, get_new hD nt, ?_, smut (snew s2 nt) nD, _, upd_same, ?_⟩⟩
        · have := hz.lenm
          rw [List.length_take] at this
          exact szL (by omega)
        · rw [idle_succ _ _ hi, List.map_append]
          have tp : Tp H2 (upd (upd H2 t (.tup [.int (0 + (i : Int)), .int (0 + (i : Int))])) D (.lst (zs ++ [.ref t]))) := (Tp.new nt).trans (Tp.mut (get_new hD nt) (by intro z y; cases y))
          refine (hz.mono tp).append ⟨_, _, rfl, ⟨t, _, rfl, ?_, _, _, rfl, rfl, _, _, rfl, rfl, rfl⟩, rfl⟩
          rw [upd_ne (ne_of_none hD nt).symm, upd_same, Int.zero_add]
      · rintro H2 ⟨s2, zs, hD, hz⟩
        rw [List.take_of_length_le (by unfold idle; simp)] at hz
        refine ⟨D, zs, rfl, .inl ⟨SqL.of hD, fun t0 nt0 => ?_⟩⟩
        have s1 := snew (o := .tup zs) s2 nt0
        refine ⟨_, rfl, pa, rfl, ⟨xs, SqT.of (s1 _ _ hpa)⟩, for_tup (a := pa) (xs := xs) (fun i σ H3 => ∃ v3 v4 v5 v6, σ = [some (.ref a), some (.ref pa), some (.ref vb), some v3, v4, v5, v6, none, none, none, none] ∧ L2.Same H H3 ∧ Is H3 (encL ((ps.toL.take i).foldl (thr1 F v) (idle F.many))) v3)
          ⟨_, _, _, _, rfl, s1, t0, zs, rfl, upd_same, hz.same (same_new nt0)⟩ (fun i σ H3 _ ⟨_, _, _, _, _, s3, _⟩ => SqT.of (s3 _ _ hpa)) ?_ ?_⟩
        · rintro i x σ H3 hi ⟨v3, v4, v5, v6, rfl, s3, h3'⟩
          obtain ⟨e, he, hx⟩ := hxs.getm hi
          have hin := hall e (List.mem_of_getElem? he)
          have hacc : InSq F.many ((ps.toL.take i).foldl (thr1 F v) (idle F.many)) := fold_sq hc.fok hV (idle_sq _) fun y hy => hall y (List.mem_of_mem_take hy)
          have hstep : (ps.toL.take (i + 1)).foldl (thr1 F v) (idle F.many) = thr1 F v ((ps.toL.take i).foldl (thr1 F v) (idle F.many)) e := by
            rw [take_snoc he, List.foldl_append]; rfl
          obtain ⟨qa, qs, rfl, hqa, hqs⟩ := is_tup h3'
          cases e with
          | inl m =>
            obtain ⟨c, x1, x2, rfl, hcp, h1, h2⟩ := is_two (hx.same s3)
            cases h1
            cases h2
            refine ⟨_, rfl, c, _, 0, _, rfl, rfl, SqT.of hcp, rfl, rfl, _, rfl, ?_⟩
            refine iteT ?_
            have hm' : m < M := hin
            obtain ⟨yb, ws, hy, hyb, hws⟩ := val_at (b := vb) hV hm' (hys.same s3)
            refine ⟨_, rfl, _, rfl, _, rfl, c, _, 1, .int m, rfl, rfl, SqT.of hcp, rfl, vb, _, _, _, rfl, rfl, SqT.of (s3 _ _ hvb), atI_nat hy, ?_⟩
            refine ⟨qa, _, qs, ws, _, _, F.many, rfl, hqa, hqs, ⟨yb, rfl, .inr hyb⟩, hws, hacc, (hV.2 m hm').1, by omega, fun H4 q4 s4 h => ⟨q4, _, _, _, rfl, strans s3 s4, ?_⟩⟩
            rw [hstep]; exact h
          | inr ti =>
            obtain ⟨t, pi⟩ := ti
            obtain ⟨c, x1, x2, x3, rfl, hcp, h1, h2, h3x⟩ := is_three (hx.same s3)
            cases h1
            cases h2
            refine ⟨_, rfl, c, _, 0, _, rfl, rfl, SqT.of hcp, rfl, rfl, _, rfl, ?_⟩
            refine iteF ?_
            -- _law_good
            have hF3 := hF.same s3
            have hin3 : InSq F.many (through F v pi (idle F.many)) := through_sq hc.fok hV hin.1 (idle_sq _)
            refine ⟨_, rfl, _, rfl, c, _, 2, x3, rfl, rfl, SqT.of hcp, rfl, _, rfl, .ref a, x3, .ref vb, pi, v, F, W, M, rfl, hF3, hc, h3x, hv.same s3, hin.2.1, hin.1, hin.2.2, hV, fun H4 v4' s4 hv4 => ?_⟩
            obtain ⟨ta, ts, rfl, hta, hts⟩ := is_tup hv4
            have s04 := strans s3 s4
            refine ⟨ta, rfl, ⟨ts, SqT.of hta⟩, fun D5 nD5 => lc_tup (a := ta) (xs := ts) (fun j H5 => L2.Same H4 H5 ∧ H5 D5 = some (.lst ((goods F ((through F v pi (idle F.many)).take j)).map V.int))) ⟨same_new nD5, upd_same⟩ (fun j H5 _ ⟨s5, _⟩ => SqT.of (s5 _ _ hta)) ?_ ?_⟩
            · rintro j y H5 hj ⟨s5, hD5⟩
              obtain ⟨q, hq, hy⟩ := hts.getm hj
              obtain ⟨cq, rfl, hcq⟩ := is_pair (hy.same s5)
              have hA5 := hA.mono (Tp.of (strans s04 s5))
              refine ⟨cq, _, rfl, SqT.of hcq, rfl, _, _, rfl, _, _, rfl, rfl, rfl, ?_⟩
              refine ⟨_, rfl, _, rfl, a, _, 2, _, rfl, rfl, SqT.of hA5.at_, rfl, fe, _, rfl, .inr (SqT.of hA5.en), rfl, flat_ints _, F.ends.contains q.2, inI _ _, ?_⟩
              have e2 : goods F ((through F v pi (idle F.many)).take (j + 1)) = goods F ((through F v pi (idle F.many)).take j) ++ (if F.ends.contains q.2 = true then [q.1] else []) := by
                rw [take_snoc hq]
                unfold goods
                rw [List.filter_append, List.map_append]
                by_cases z : F.ends.contains q.2 = true
                · rw [if_pos z, List.filter_cons_of_pos (by simpa using z)]; rfl
                · rw [if_neg z, List.filter_cons_of_neg (by simpa using z)]; rfl
              have gl : (goods F ((through F v pi (idle F.many)).take j)).length ≤ 9 := by
                unfold goods
                rw [List.length_map]
                refine Nat.le_trans (List.length_filter_le _ _) ?_
                have := sq_len9 hin3 (through_sr (sr_idle _)).nodup h3
                rw [List.length_take]; omega
              refine ite2 (fun z => ?_) (fun z => ?_)
              · rw [if_pos z] at e2
                refine ⟨_, rfl, _, hD5, by rw [List.length_map]; exact szL (by omega), smut s5 nD5, ?_⟩
                rw [upd_same, e2]; simp
              · rw [if_neg z] at e2
                refine ⟨s5, ?_⟩
                rw [e2, List.append_nil]; exact hD5
            rintro H5 ⟨s5, hD5⟩
            rw [hts.lenm, List.take_length] at hD5
            -- _law_step
            have s05 := strans s04 s5
            have hA5 := hA.mono (Tp.of s05)
            refine ⟨_, rfl, a, _, 3, _, rfl, rfl, SqT.of hA5.at_, rfl, fr, rfl, ⟨_, SqT.of hA5.ru⟩, fun D6 nD6 => lc_tup (a := fr) (xs := rs) (fun j H6 => L2.Same H5 H6 ∧ ∃ zs, H6 D6 = some (.lst zs) ∧ zs.length ≤ j ∧ IsAll H6 ((steps { F with rules := F.rules.take j } t (through F v pi (idle F.many))).map encP) zs) ⟨same_new nD6, [], upd_same, Nat.le_refl _, rfl⟩ (fun j H6 _ ⟨s6, _⟩ => SqT.of (s6 _ _ hA5.ru)) ?_ ?_⟩
            · rintro j y H6 hj ⟨s6, zs, hD6, hzl, hz6⟩
              obtain ⟨r, hr', hy⟩ := hA.rs.getm hj
              have s06 := strans s05 s6
              obtain ⟨cr, rfl, hcr⟩ := is_rule (hy.same s06)
              have hjl : j < F.rules.length := (List.getElem?_eq_some_iff.mp hr').1
              have hrul := hc.rul
              have e2 : steps { F with rules := F.rules.take (j + 1) } t (through F v pi (idle F.many)) = steps { F with rules := F.rules.take j } t (through F v pi (idle F.many)) ++ (if (decide (r.tag = t) && (goods F (through F v pi (idle F.many))).contains r.inner) = true then [(r.kind, r.rest)] else []) := by
                unfold steps
                show ((F.rules.take (j + 1)).filter _).map _ = _
                rw [take_snoc hr', List.filter_append, List.map_append]
                by_cases z : (decide (r.tag = t) && (goods F (through F v pi (idle F.many))).contains r.inner) = true
                · rw [if_pos z, List.filter_cons_of_pos (by exact z)]; rfl
                · rw [if_neg z, List.filter_cons_of_neg (by exact z)]; rfl
              have hcp6 : H6 c = some _ := strans s4 (strans s5 s6) _ _ hcp
              refine ⟨rfl, ?_⟩
              refine ⟨_, rfl, cr, _, 1, .str r.tag, rfl, rfl, SqT.of hcr, rfl, _, rfl, c, _, 1, .str t, rfl, rfl, SqT.of hcp6, rfl, rfl, _, rfl, ?_⟩
              have no : ¬ (r.tag = t ∧ (goods F (through F v pi (idle F.many))).contains r.inner = true) → L2.Same H5 H6 ∧ ∃ zs, H6 D6 = some (.lst zs) ∧ zs.length ≤ j + 1 ∧ IsAll H6 ((steps { F with rules := F.rules.take (j + 1) } t (through F v pi (idle F.many))).map encP) zs := fun hno => by
                rw [if_neg (by rw [Bool.and_eq_true, decide_eq_true_eq]; exact hno), List.append_nil] at e2
                exact ⟨s6, zs, hD6, by omega, by rw [e2]; exact hz6⟩
              refine ite2 (fun z => ?_) (fun z => ?_)
              · have zt : r.tag = t := by
                  have := of_decide_eq_true z
                  injection this
                refine ⟨_, rfl, cr, _, 2, .int r.inner, rfl, rfl, SqT.of hcr, rfl, _, rfl, D5, _, rfl, .inl (SqL.of (s6 _ _ hD5)), rfl, flat_ints _, (goods F (through F v pi (idle F.many))).contains r.inner, inI _ _, ?_⟩
                refine ite2 (fun z2 => ?_) (fun z2 => ?_)
                · refine ⟨_, rfl, cr, _, 0, .int r.kind, rfl, rfl, SqT.of hcr, rfl, _, rfl, cr, _, 3, .int r.rest, rfl, rfl, SqT.of hcr, rfl, (by show 2 ≤ sizeLine; decide), fun u nu => ⟨zs, get_new hD6 nu, szL (by omega), smut (snew s6 nu) nD6, _, upd_same, by simp; omega, ?_⟩⟩
                  rw [if_pos (by rw [Bool.and_eq_true, decide_eq_true_eq]; exact ⟨zt, z2⟩)] at e2
                  rw [e2, List.map_append]
                  have tp : Tp H6 (upd (upd H6 u (.tup [.int r.kind, .int r.rest])) D6 (.lst (zs ++ [.ref u]))) := (Tp.new nu).trans (Tp.mut (get_new hD6 nu) (by intro z y; cases y))
                  refine (hz6.mono tp).append ⟨_, _, rfl, ⟨u, _, rfl, ?_, _, _, rfl, rfl, _, _, rfl, rfl, rfl⟩, rfl⟩
                  rw [upd_ne (ne_of_none hD6 nu).symm, upd_same]
                · exact no fun h => z2 h.2
              · exact no fun h => z (decide_eq_true (by rw [h.1]))
            rintro H6 ⟨s6, zs, hD6, hzl, hz6⟩
            rw [hA.rs.lenm, List.take_length] at hz6
            have hz6' : IsAll H6 ((steps F t (through F v pi (idle F.many))).map encP) zs := hz6
            have s36 := strans s4 (strans s5 s6)
            refine ⟨_, rfl, _, rfl, qa, _, qs, zs, _, _, F.many, rfl, s36 _ _ hqa, hqs.same s36, ⟨D6, rfl, .inl hD6⟩, hz6', hacc, steps_sq hc.fok, by omega, fun H7 q7 s7 h => ⟨q7, _, _, _, rfl, strans s3 (strans s36 s7), ?_⟩⟩
            rw [hstep]; exact h
        · rintro σ H3 ⟨v3, v4, v5, v6, rfl, s3, h3'⟩
          rw [hxs.lenm, List.take_length, ← through_fold] at h3'
          exact ⟨_, rfl, k _ _ s3 h3'⟩
end
end K76
set_option Elab.async false
set_option linter.all false
set_option maxRecDepth 100000
set_option maxHeartbeats 4000000
namespace K76
open PySem PySem.Spec PyProof.Rows L2
theorem for_rev {K : PySem.W.Frag} {a : Addr} {xs : List V} {g : TG} {tb : TS} {D : Ends} {σ : L2.St} {H : Hp} (Pv : Nat → L2.St → Hp → Prop) (h0 : Pv 0 σ H)
    (hl : ∀ (i : Nat) (σ : L2.St) (H : Hp), i ≤ xs.length → Pv i σ H → SqL K H a xs)
    (hs : ∀ (i : Nat) (x : V) (σ : L2.St) (H : Hp), i < xs.length → xs[xs.length - 1 - i]? = some x → Pv i σ H → g x σ H fun σ2 H2 => tb { nx := Pv (i + 1), rt := D.rt, bk := D.nx, ct := Pv (i + 1) } σ2 H2)
    (hd : ∀ (σ : L2.St) (H : Hp), Pv xs.length σ H → D.nx σ H) :
    ∃ (W : Nat → Nat → L2.St → Hp → Prop), (∃ m, W 0 m σ H) ∧ ∀ (i m : Nat) (σ : L2.St) (H : Hp), W i m σ H → (Itv K a xs.length).stop i H ∧ D.nx σ H ∨
      (Itv K a xs.length).go i H ∧ ∃ (N : L2.St → Hp → Prop), (∀ σ' H', N σ' H' → ∃ m', m' < m ∧ W (i + 1) m' σ' H') ∧ ∀ x H', (Itv K a xs.length).yld i H x H' → g x σ H' fun σ2 H2 => tb { nx := N, rt := D.rt, bk := D.nx, ct := N } σ2 H2 := by
  refine ⟨fun i m σ H => i + m = xs.length ∧ Pv i σ H, ⟨xs.length, by omega, h0⟩, ?_⟩
  rintro i m σ H ⟨e, hp⟩
  have sq := hl i σ H (by omega) hp
  cases m with
  | zero =>
    have e' : i = xs.length := by omega
    subst e'
    exact .inl ⟨Nat.le_refl _, hd σ H hp⟩
  | succ m =>
    have hi : i < xs.length := by omega
    have hj : xs.length - 1 - i < xs.length := by omega
    refine .inr ⟨⟨hi, xs, _, sq, List.getElem?_eq_getElem hj⟩, Pv (i + 1), fun σ' H' h => ⟨m, Nat.lt_succ_self m, by omega, h⟩, ?_⟩
    rintro x H' ⟨rfl, hx⟩
    exact hs i x σ H' hi (hx xs sq) hp
theorem cut1 (x : V) (r : List V) : cutV (x :: r) (some 1) none = r := by
  unfold cutV
  have e1 : HT.sIx (x :: r).length 0 (some 1) = 1 := by
    simp [HT.sIx]
  have e2 : HT.sIx (x :: r).length (x :: r).length none = (x :: r).length := by
    simp [HT.sIx]
  rw [e1, e2]
  simp
theorem cut1_ne (x : V) (r : List V) : ¬(HT.sIx (x :: r).length 0 (some 1) = 0 ∧ HT.sIx (x :: r).length (x :: r).length none = (x :: r).length) := by
  rintro ⟨h, _⟩
  simp [HT.sIx] at h
/-! ### _law_over -/
def spLOver : Sp := fun vs H Q _ => ∃ (vF : V) (d : Addr) (t : Tag) (vi vo : V) (inner rest : Val) (F : Form) (W : Way) (M : Nat), vs = [vF, .ref d, .int (M : Int), .str t, vi, vo] ∧ Is H (encF F) vF ∧ WayAt H d W ∧ Ctx F W M ∧ Is H (encV inner) vi ∧ Is H (encV rest) vo ∧ VOk F M inner ∧ VOk F M rest ∧
  ∀ H' v, L2.Same H H' → Is H' (encV (above F W M t inner rest)) v → Q v H'
abbrev st_l_over : Stmt := top 37
theorem sc_l_over : FnScope ["_law_shape_here", "_law_ways_here", "_law_modes", "_law_tag", "_law_inner", "_law_others", "_law_found", "_law_mode", "_law_parts_here"] ["_law_shape_here", "_law_ways_here", "_law_modes", "_law_tag", "_law_inner", "_law_others"] (defScope st_l_over) := ⟨rfl, rfl, rfl, by decide +kernel, rfl, by decide +kernel, by decide +kernel⟩
section
variable {P : Program} {w : World} {K : PySem.W.Frag} {mg : Str → Option Value} {base : Heap}
theorem ok_lover {f : Addr} {fd : FuncData} (F : Fun K "_law_over" "_law_over" st_l_over f fd) (B : Gb mg)
    (Fl_turned : Callable P w K mg base CX0 1 "_law_turned" ["_law_ones", "_law_others"] spLTurn) (Fl_through : Callable P w K mg base CX0 6 "_law_through" ["_law_shape_here", "_law_parts_here", "_law_value_here"] (spLThr 5)) :
    FnOk P w K mg base CX0 7 f fd ["_law_shape_here", "_law_ways_here", "_law_modes", "_law_tag", "_law_inner", "_law_others"] spLOver := by
  refine F.ok sc_l_over (fun vs H Q E h => ?_) (fun cdv A outer s H vs Q E hr h => ?_)
  · obtain ⟨_, _, _, _, _, _, _, _, _, _, rfl, _⟩ := h
    rfl
  · obtain ⟨vF, d, t, vi, vo, inner, rest, F, W, M, rfl, hF, hW, hc, hi, ho, hVi, hVo, k⟩ := h
    have hu1 := hu_of hr
    refine ⟨_, (pss_cons (ps_set (i := 6) sc_l_over.nd rfl (Or.inl rfl) (pe_lst pa_nil))
      (pss_cons (ps_for PassesOwn.never rfl (pi_range1 rfl B.range (pa_cons (pv 2) pa_nil)) (pg_name (i := 7) sc_l_over.nd rfl (Or.inl rfl)) (pss_cons (ps_set (i := 8) sc_l_over.nd rfl (Or.inl rfl) (pe_dget2 hu1 (pv 1) (pe_tup (pa_cons (pv 7) (pa_cons (pv 3) pa_nil))) (pe_tup (pa_cons (pe_tup (pa_cons pe_str (pa_cons (pv 3) (pa_cons (pe_tup (pa_cons (pe_tup (pa_cons pe_str (pa_cons (pv 7) pa_nil))) pa_nil)) pa_nil)))) pa_nil)) ⟨rfl, rfl, rfl, rfl⟩))
      (pss_one (ps_expr (pe_bm PySem.F.plainAttrs_list PySem.F.slot_list_append PySem.F.type_list_append mt_append (pv 6) (pa_cons (pe_callF Fl_turned (hr.mono (by decide)) rfl pass0 (pa_cons (pe_callF Fl_through (hr.mono (by decide)) rfl pass0 (pa_cons (pv 0) (pa_cons (pv 8) (pa_cons (pv 4) pa_nil)))) (pa_cons (pe_ix ix_tup (pv 5) (pv 7) (fun _ _ => rfl)) pa_nil))) pa_nil))))))
      (pss_one (ps_ret (pe_callTy call_tuple_of (by rfl) B.tuple (by decide +kernel) (pa_cons (pv 6) pa_nil)))))), ?_⟩
    obtain ⟨b, ys, rfl, hb, hys⟩ := is_tup ho
    have h3 := hc.few
    have h4 := hc.mod
    refine ⟨(Nat.zero_le _), fun D nD => ?_⟩
    have s0 : L2.Same H (upd H D (.lst [])) := same_new nD
    refine ⟨_, rfl, _, rfl, by omega, by omega, for_range (lo := 0) (n := M) (fun i σ H1 => ∃ v7 v8, σ = [some vF, some (.ref d), some (.int (M : Int)), some (.str t), some vi, some (.ref b), some (.ref D), v7, v8] ∧ L2.Same H H1 ∧ ∃ zs, H1 D = some (.lst zs) ∧ IsAll H1 (((List.range i).map (above1 F W t inner rest)).map encL) zs)
      ⟨_, _, rfl, s0, [], upd_same, rfl⟩ ?_ ?_⟩
    · rintro i σ H1 hi' ⟨v7, v8, rfl, s1, zs, hD, hz⟩
      obtain ⟨yb, ws, hy, hyb, hws⟩ := val_at (b := b) hVo hi' (hys.same s1)
      obtain ⟨po, ps⟩ := parts_ok hc.wok (t := t) hi'
      have ez : (V.int (0 + (i : Int))) = V.int (i : Int) := by rw [Int.zero_add]
      rw [ez]
      obtain ⟨kvs, hd, hk⟩ := id (hW.same s1)
      -- the parts
      refine ⟨_, rfl, d, rfl, .inr ⟨kvs, .inl hd⟩, _, rfl, _, rfl, (by show 2 ≤ sizeLine; decide), fun p1 n1 => ?_⟩
      refine ⟨_, rfl, _, rfl, (by show 2 ≤ sizeLine; decide), fun p2 n2 => ⟨(by show 1 ≤ sizeLine; decide), fun p3 n3 => ⟨(by show 3 ≤ sizeLine; decide), fun p4 n4 => ⟨(by show 1 ≤ sizeLine; decide), fun p5 n5 => ?_⟩⟩⟩⟩
      have t1 := same_new (o := .tup [V.int i, V.str t]) n1
      have t2 := same_new (o := .tup [V.str "kids", V.int i]) n2
      have t3 := same_new (o := .tup [V.ref p2]) n3
      have t4 := same_new (o := .tup [V.str "tag", V.str t, V.ref p3]) n4
      have t5 := same_new (o := .tup [V.ref p4]) n5
      have sA := strans t2 (strans t3 (strans t4 t5))
      have s15 := strans t1 sA
      have hparts : ∃ o, DGet (upd (upd (upd (upd (upd H1 p1 (.tup [V.int i, V.str t])) p2 (.tup [V.str "kids", V.int i])) p3 (.tup [V.ref p2])) p4 (.tup [V.str "tag", V.str t, V.ref p3])) p5 (.tup [V.ref p4])) d (.ref p1) o ∧ Is (upd (upd (upd (upd (upd H1 p1 (.tup [V.int i, V.str t])) p2 (.tup [V.str "kids", V.int i])) p3 (.tup [V.ref p2])) p4 (.tup [V.str "tag", V.str t, V.ref p3])) p5 (.tup [V.ref p4])) (.tup (encPs (partsFor W i t))) (o.getD (.ref p5)) := by
        refine ⟨_, .inr ⟨kvs, kw i t, p1, .inl (s15 _ _ hd), rfl, sA _ _ upd_same, rfl⟩, ?_⟩
        rcases hk i t with ⟨h1, h2⟩ | ⟨ps, v, h1, h2, h3⟩
        · rw [h2]
          unfold partsFor
          rw [h1]
          exact ⟨p5, _, rfl, upd_same, _, _, rfl, ⟨p4, _, rfl, t5 _ _ upd_same, _, _, rfl, rfl, _, _, rfl, rfl, _, _, rfl, ⟨p3, _, rfl, t5 _ _ (t4 _ _ upd_same), _, _, rfl, ⟨p2, _, rfl, t5 _ _ (t4 _ _ (t3 _ _ upd_same)), _, _, rfl, rfl, _, _, rfl, rfl, rfl⟩, rfl⟩, rfl⟩, rfl⟩
        · rw [h2]
          unfold partsFor
          rw [h1]
          exact h3.same s15
      obtain ⟨o, ho1, ho2⟩ := hparts
      refine ⟨o, ho1, ?_⟩
      have s05 := strans s1 s15
      have hD5 := s15 _ _ hD
      -- found.append(turned(through(..), others[mode]))
      refine ⟨_, rfl, .inl ⟨rfl, _, SqL.of hD5⟩, _, rfl, _, rfl, _, rfl, vF, o.getD (.ref p5), vi, _, inner, F, W, M, rfl, hF.same s05, hc, ho2, hi.same s05, Nat.lt_of_le_of_lt (Ps.deep_le _) (by omega), po, ps, hVi, fun H6 q s6 hq => ?_⟩
      obtain ⟨qa, qs, rfl, hqa, hqs⟩ := is_tup hq
      have s16 := strans s15 s6
      refine ⟨_, rfl, _, rfl, b, _, _, _, rfl, rfl, SqT.of (s6 _ _ (s05 _ _ hb)), atI_nat hy, ?_⟩
      have hin3 : InSq F.many (through F inner (partsFor W i t) (idle F.many)) := through_sq hc.fok hVi po (idle_sq _)
      refine ⟨qa, _, qs, ws, _, _, F.many, rfl, hqa, hqs, ⟨yb, rfl, .inr (s16 _ _ hyb)⟩, hws.same s16, hin3, (hVo.2 i hi').1, by omega, fun H7 v7' s7 h7 => ?_⟩
      have hD7 := s7 _ _ (s6 _ _ hD5)
      have s17 := strans s16 s7
      refine ⟨D, zs, _, rfl, rfl, hD7, ?_, ?_⟩
      · have := hz.lenm
        rw [List.length_map, List.length_range] at this
        exact szL (by omega)
      · refine ⟨_, _, rfl, smut (strans s1 s17) nD, _, upd_same, ?_⟩
        have tp : Tp H7 (upd H7 D (.lst (zs ++ [v7']))) := Tp.mut hD7 (by intro z y; cases y)
        rw [List.range_succ, List.map_append, List.map_append]
        exact ((hz.same s17).mono tp).append ⟨_, _, rfl, Is.mono tp _ h7, rfl⟩
    · rintro σ H1 ⟨v7, v8, rfl, s1, zs, hD, hz⟩
      refine ⟨_, rfl, D, zs, rfl, .inl ⟨SqL.of hD, fun l nl => k _ _ (snew s1 nl) ⟨l, zs, rfl, upd_same, hz.same (same_new nl)⟩⟩⟩
end
end K76
set_option Elab.async false
set_option linter.all false
set_option maxRecDepth 100000
set_option maxHeartbeats 4000000
namespace K76
open PySem PySem.Spec PyProof.Rows L2
abbrev st_l_words_of : Stmt := top 40
theorem sc_l_words_of : FnScope ["_law_grove", "_law_words", "_law_rows", "_law_row"] ["_law_grove"] (defScope st_l_words_of) := ⟨rfl, rfl, rfl, by decide +kernel, rfl, by decide +kernel, by decide +kernel⟩
theorem isall_last {α : Type} {f : α → D} {H : Hp} {sl : List α} {es : List V} (h : IsAll H (sl.map f) es) (hne : 0 < es.length) : ∃ es' v sl' r, es = es' ++ [v] ∧ sl = sl' ++ [r] ∧ IsAll H (sl'.map f) es' ∧ Is H (f r) v := by
  have hl := h.lenm
  rcases List.eq_nil_or_concat sl with e | ⟨sl', r, e⟩
  · subst e; simp at hl; subst hl; simp at hne
  · rw [List.concat_eq_append] at e
    subst e
    rw [List.map_append] at h
    obtain ⟨ys, zs, rfl, h1, x, r', e2, h2, h3⟩ := h.split
    cases h3
    subst e2
    exact ⟨ys, x, sl', r, rfl, rfl, h1, h2⟩
section
variable {P : Program} {w : World} {K : PySem.W.Frag} {mg : Str → Option Value} {base : Heap}
theorem ok_lwords {f : Addr} {fd : FuncData} (F : Fun K "_law_words_of" "_law_words_of" st_l_words_of f fd) (B : Gb mg) : FnOk P w K mg base CX0 1 f fd ["_law_grove"] spWords := by
  refine F.ok sc_l_words_of (fun vs H Q E h => ?_) (fun cdv A outer s H vs Q E hr h => ?_)
  · obtain ⟨v, g, rfl, _⟩ := h
    rfl
  · obtain ⟨v, g, rfl, hg, hs, k⟩ := h
    have hu0 := Nat.lt_of_succ_lt (hu_of hr)
    refine ⟨_, (pss_cons (ps_set (i := 1) sc_l_words_of.nd rfl (Or.inl rfl) (pe_lst pa_nil))
      (pss_cons (ps_set (i := 2) sc_l_words_of.nd rfl (Or.inl rfl) (pe_lst (pa_cons (pv 0) pa_nil)))
      (pss_cons (ps_while PassesOwn.never (pt_cmpR op_gt (pe_callB call_len_seq (by rfl) B.len PySem.boot_len (pa_cons (pv 2) pa_nil)) pe_int (nomark _)) (pss_cons (ps_set (i := 3) sc_l_words_of.nd rfl (Or.inl rfl) (pe_bm0 PySem.F.plainAttrs_list PySem.F.slot_list_pop PySem.F.type_list_pop mt_pop (pv 2)))
      (pss_one (ps_if (pt_cmpR (op_neT0 hu0) (pv 3) (pe_tup pa_nil) (nomark _)) (pss_cons (ps_expr (pe_bm PySem.F.plainAttrs_list PySem.F.slot_list_append PySem.F.type_list_append mt_append (pv 1) (pa_cons (pe_ix ix_tup (pe_ix ix_tup (pv 3) pe_int (fun _ _ => rfl)) pe_int (fun _ _ => rfl)) pa_nil)))
      (pss_cons (ps_expr (pe_bm PySem.F.plainAttrs_list PySem.F.slot_list_append PySem.F.type_list_append mt_append (pv 2) (pa_cons (pe_slice sl_tup (pv 3) (po_some pe_int) po_none) pa_nil)))
      (pss_one (ps_expr (pe_bm PySem.F.plainAttrs_list PySem.F.slot_list_append PySem.F.type_list_append mt_append (pv 2) (pa_cons (pe_ix ix_tup (pe_ix ix_tup (pv 3) pe_int (fun _ _ => rfl)) pe_int (fun _ _ => rfl)) pa_nil)))))) (pss_one (ps_if (pt_cmpR op_gt (pe_callB call_len_seq (by rfl) B.len PySem.boot_len (pa_cons (pv 2) pa_nil)) pe_int (nomark _)) (pss_one (ps_expr (pe_bm PySem.F.plainAttrs_list PySem.F.slot_list_append PySem.F.type_list_append mt_append (pv 1) (pa_cons pe_str pa_nil)))) pss_nil))))))
      (pss_one (ps_ret (pv 1)))))), ?_⟩
    refine ⟨(Nat.zero_le _), fun p0 n0 => ?_⟩
    refine ⟨_, rfl, (by show 1 ≤ sizeLine; decide), fun p2 n2 => ?_⟩
    have s0 : L2.Same H (upd H p0 (.lst [])) := same_new n0
    have s2 := same_new (o := .lst [v]) n2
    have sH := strans s0 s2
    have n2' : H p2 = none := s0.free n2
    have h20 : p0 ≠ p2 := ne_of_none upd_same n2
    refine ⟨fun m σ H1 => ∃ acc es sl v3, σ = [some v, some (.ref p0), some (.ref p2), v3] ∧ L2.Same H H1 ∧ H1 p0 = some (.lst ((acc : List Tag).map V.str)) ∧ H1 p2 = some (.lst es) ∧ IsAll H1 ((sl : List G).map gr) es ∧
      acc ++ outs sl.reverse = words g ∧ m = tot sl.reverse ∧ tot sl.reverse ≤ 2001, ⟨_, [], [v], [g], none, rfl, sH, s2 _ _ upd_same, upd_same, ⟨_, _, rfl, hg.same sH, rfl⟩, by simp [outs], rfl, by simp only [List.reverse_singleton, tot]; omega⟩, ?_⟩
    rintro m σ H1 ⟨acc, es, sl, v3, rfl, s3, a0, a2, hE, hw, rfl, ht⟩
    refine ⟨_, rfl, p2, es, rfl, .inl (SqL.of a2), _, _, rfl, rfl, _, rfl, ?_⟩
    have wl : acc.length ≤ 2000 := by
      have := congrArg List.length hw
      rw [List.length_append, words_len] at this
      omega
    refine ite2 (fun hc => ?_) (fun hc => ?_)
    · refine ⟨_, fun _ _ h => h, ?_⟩
      have hc := of_decide_eq_true hc
      obtain ⟨es', u, sl', r, rfl, rfl, hE', hr'⟩ := isall_last hE (by omega)
      rw [List.reverse_append] at hw ht
      have hw : acc ++ outs (r :: sl'.reverse) = words g := hw
      have ht : tot (r :: sl'.reverse) ≤ 2001 := ht
      have el : es'.length ≤ 2001 := by
        have h1 := hE'.lenm
        have h2 := tot_len (r :: sl'.reverse)
        simp only [List.length_cons, List.length_reverse] at h2
        omega
      rw [List.reverse_append]
      refine ⟨_, rfl, .inl ⟨rfl, _, SqL.of a2⟩, p2, _, u, rfl, rfl, a2, by simp, ?_⟩
      rw [List.dropLast_concat]
      have t1 : Tp H1 (upd H1 p2 (.lst es')) := Tp.mut a2 (by intro xs z; cases z)
      have s4 : L2.Same H (upd H1 p2 (.lst es')) := smut s3 n2'
      obtain ⟨ra, rxs, rfl, hra, hrxs⟩ := is_tup (Is.mono t1 _ hr')
      refine ⟨_, rfl, (Nat.zero_le _), fun t0 nt0 => ?_⟩
      have st0 := same_new (o := .tup []) nt0
      refine ⟨ra, t0, rxs, rfl, rfl, SqT.of (st0 _ _ hra), SqT.of upd_same, _, rfl, ?_⟩
      have a2' := get_new (o := .tup []) (upd_same (H := H1) (a := p2) (o := .lst es')) nt0
      have a0' := get_new (o := .tup []) (show upd H1 p2 (.lst es') p0 = some (.lst (acc.map V.str)) by rw [upd_ne h20]; exact a0) nt0
      have s5 := snew (o := .tup []) s4 nt0
      have t2 : Tp H1 _ := t1.trans (Tp.new (o := .tup []) nt0)
      cases r with
      | nil =>
        cases hrxs
        refine iteF ?_
        -- elif len(rows) > 0
        refine ⟨_, rfl, p2, es', rfl, .inl (SqL.of a2'), _, _, rfl, rfl, _, rfl, ?_⟩
        have hEl := hE'.lenm
        refine ite2 (fun hc2 => ?_) (fun hc2 => ?_)
        · have hc2 := of_decide_eq_true hc2
          refine ⟨_, rfl, .inl ⟨rfl, _, SqL.of a0'⟩, p0, _, _, rfl, rfl, a0', by rw [List.length_map]; exact szL (by omega), ?_⟩
          have t3 : Tp H1 _ := t2.trans (Tp.mut (p := p0) (o := .lst (acc.map V.str ++ [.str END])) a0' (by intro xs z; cases z))
          refine ⟨tot sl'.reverse, by simp only [List.reverse_singleton, List.singleton_append, tot, G.size]; omega, acc ++ [END], es', sl', _, rfl, smut s5 n0, by rw [upd_same, List.map_append]; rfl, by rw [upd_ne h20.symm]; exact a2', hE'.mono t3, ?_, rfl, ?_⟩
          · rw [← hw]
            cases e : sl'.reverse with
            | nil => (have h9 : sl'.length = 0 := by have := congrArg List.length e; simpa using this); omega
            | cons a b => simp [outs, words]
          · simp only [tot, G.size] at ht; omega
        · have hz : es'.length = 0 := by
            have : ¬ (0 : Int) < ((es'.length : Nat) : Int) := fun q => hc2 (decide_eq_true q)
            omega
          have e1 : sl' = [] := List.length_eq_zero_iff.mp (by omega)
          subst e1
          refine ⟨tot [], by simp only [List.reverse_nil, List.reverse_singleton, List.append_nil, tot, G.size]; omega, acc, es', [], _, rfl, s5, a0', a2', hE'.mono t2, ?_, rfl, by simp only [List.reverse_nil, tot]; omega⟩
          rw [← hw]; simp [outs, words]
      | cons t u' o =>
        obtain ⟨x0, rest, rfl, hx0, hrest⟩ := hrxs
        obtain ⟨px, x1, x2, rfl, hpx, hx1, hx2⟩ := is_two hx0
        cases hx1
        refine iteT ?_
        have hra' := st0 _ _ hra
        have hpx' := st0 _ _ hpx
        -- words.append(row[0][0])
        refine ⟨_, rfl, .inl ⟨rfl, _, SqL.of a0'⟩, _, rfl, ra, _, 0, _, rfl, rfl, SqT.of hra', atI_nat (j := 0) rfl, px, _, 0, .str t, rfl, rfl, SqT.of hpx', rfl, p0, _, _, rfl, rfl, a0', by rw [List.length_map]; exact szL (by omega), ?_⟩
        have t3 := Tp.mut (p := p0) (o := .lst (acc.map V.str ++ [.str t])) a0' (by intro xs z; cases z)
        have s6 := smut (o := .lst (acc.map V.str ++ [.str t])) s5 n0
        have b0 : upd (upd (upd H1 p2 (.lst es')) t0 (.tup [])) p0 (.lst (acc.map V.str ++ [.str t])) p2 = some (.lst es') := by rw [upd_ne h20.symm]; exact a2'
        have hra3 := t3 _ _ hra'
        have hpx3 := t3 _ _ hpx'
        -- rows.append(row[1:])
        refine ⟨_, rfl, .inl ⟨rfl, _, SqL.of b0⟩, _, rfl, _, rfl, ra, _, rfl, SqT.of hra3, cut1_ne _ _, fun t4 nt4 => ?_⟩
        rw [cut1]
        have s7 := snew (o := .tup rest) s6 nt4
        have b1 := get_new (o := .tup rest) b0 nt4
        have sx4 := same_new (o := .tup rest) nt4
        refine ⟨p2, _, _, rfl, rfl, b1, szL (by omega), ?_⟩
        have s8 := smut (o := .lst (es' ++ [.ref t4])) s7 n2'
        have t5 := Tp.mut (p := p2) (o := .lst (es' ++ [.ref t4])) b1 (by intro xs z; cases z)
        have t35 := t3.trans ((Tp.of sx4).trans t5)
        -- rows.append(row[0][1])
        refine ⟨_, rfl, .inl ⟨rfl, _, SqL.of upd_same⟩, _, rfl, ra, _, 0, _, rfl, rfl, SqT.of (t35 _ _ hra'), atI_nat (j := 0) rfl, px, _, 1, x2, rfl, rfl, SqT.of (t35 _ _ hpx'), rfl, p2, _, _, rfl, rfl, upd_same, szL (by simp; omega), ?_⟩
        have t6 := Tp.mut (p := p2) (o := .lst (es' ++ [.ref t4] ++ [x2])) (upd_same (H := upd (upd (upd (upd H1 p2 (.lst es')) t0 (.tup [])) p0 (.lst (acc.map V.str ++ [.str t]))) t4 (.tup rest)) (a := p2) (o := .lst (es' ++ [.ref t4]))) (by intro xs z; cases z)
        have t36 := t35.trans t6
        have t26 := t2.trans t36
        have h04 : t4 ≠ p0 := (ne_of_none upd_same nt4).symm
        refine ⟨tot (u' :: o :: sl'.reverse), by simp only [List.reverse_singleton, List.singleton_append, tot, G.size]; omega, acc ++ [t], es' ++ [.ref t4] ++ [x2], sl' ++ [o] ++ [u'], _, rfl, smut s8 n2', ?_, upd_same, ?_, ?_, ?_, ?_⟩
        · rw [upd_ne h20, upd_ne h20, upd_ne h04.symm, upd_same]; simp
        · rw [List.map_append, List.map_append]
          exact IsAll.snoc (k := gr u') (IsAll.snoc (k := gr o) (hE'.mono t26) ⟨t4, rest, rfl, t6 _ _ (t5 _ _ upd_same), hrest.mono ((Tp.of st0).trans t36)⟩) (Is.mono ((Tp.of st0).trans t36) _ hx2)
        · rw [List.reverse_append, List.reverse_append, ← hw, outs_step]; simp
        · rw [List.reverse_append, List.reverse_append]; rfl
        · rw [List.reverse_append, List.reverse_append]
          show tot (u' :: o :: sl'.reverse) ≤ 2001
          simp only [tot, G.size] at ht ⊢
          omega
    · have e : es = [] := by
        cases es with
        | nil => rfl
        | cons a b => exact absurd (decide_eq_true (by simp)) hc
      subst e
      have z : sl = [] := List.length_eq_zero_iff.mp hE.lenm.symm
      subst z
      refine ⟨_, rfl, ?_⟩
      simp [outs] at hw
      subst hw
      exact k _ _ s3 n0 a0
end
end K76
set_option Elab.async false
set_option linter.all false
set_option maxRecDepth 100000
set_option maxHeartbeats 4000000
namespace K76
open PySem PySem.Spec PyProof.Rows L2
theorem drop_back {α : Type} {l : List α} {i : Nat} {x : α} (hi : i < l.length) (h : l[l.length - 1 - i]? = some x) : l.drop (l.length - (i + 1)) = x :: l.drop (l.length - i) := by
  have hj : l.length - (i + 1) < l.length := by omega
  rw [List.drop_eq_getElem_cons hj]
  have e1 : l.length - (i + 1) + 1 = l.length - i := by omega
  rw [e1]
  congr 1
  have e2 : l.length - 1 - i = l.length - (i + 1) := by omega
  rw [e2, List.getElem?_eq_getElem hj] at h
  exact Option.some.inj h
theorem runR_all {α : Type} {step : Tag → α → α → α} {init : α} {Pr : α → Prop} (h0 : Pr init) (hs : ∀ t x y, Pr x → Pr y → Pr (step t x y)) : ∀ (l : List Tag) (st : List α), (∀ x ∈ st, Pr x) → ∀ x ∈ runR step init l st, Pr x
  | [], st, h => h
  | t :: l, st, h => by
    have ih := runR_all h0 hs l st h
    show ∀ x ∈ tok1 step init t (runR step init l st), Pr x
    unfold tok1
    split
    · intro x hx
      rcases List.mem_cons.mp hx with rfl | hx
      · exact h0
      · exact ih x hx
    · split
      · rename_i e
        rw [e] at ih
        intro x hx
        rcases List.mem_cons.mp hx with rfl | hx
        · exact hs _ _ _ (ih _ (by simp)) (ih _ (by simp))
        · exact ih x (by simp [hx])
      · exact ih
/-- two at the top where a tag stands -/
theorem runR_tag {α : Type} (step : Tag → α → α → α) (init : α) {g : G} (ok : g.ok) {i : Nat} {t : Tag} (hi : i < (words g).length) (h : (words g)[(words g).length - 1 - i]? = some t) (ht : t ≠ END) (x : α) (st : List α) :
    ∃ u v r, runR step init ((words g).drop ((words g).length - i)) (x :: st) = u :: v :: r := by
  refine runR_two step init g x st ok ((words g).take ((words g).length - (i + 1))) t _ ?_ ht
  rw [← drop_back hi h, List.take_append_drop]
def spLValue : Sp := fun vs H Q _ => ∃ (vF : V) (d a : Addr) (F : Form) (W : Way) (M : Nat) (g : G), vs = [vF, .ref d, .int (M : Int), .ref a] ∧ Is H (encF F) vF ∧ WayAt H d W ∧ Ctx F W M ∧ H a = some (.lst ((words g).map V.str)) ∧ g.ok ∧ g.size ≤ 1000 ∧
  ∀ H' v, L2.Same H H' → Is H' (encV (valueOf F W M g)) v → Q v H'
abbrev st_l_value : Stmt := top 41
theorem sc_l_value : FnScope ["_law_shape_here", "_law_ways_here", "_law_modes", "_law_words", "_law_values", "_law_word", "_law_inner", "_law_others"] ["_law_shape_here", "_law_ways_here", "_law_modes", "_law_words"] (defScope st_l_value) := ⟨rfl, rfl, rfl, by decide +kernel, rfl, by decide +kernel, by decide +kernel⟩
section
variable {P : Program} {w : World} {K : PySem.W.Frag} {mg : Str → Option Value} {base : Heap}
theorem ok_lvalue {f : Addr} {fd : FuncData} (F : Fun K "_law_value" "_law_value" st_l_value f fd) (B : Gb mg)
    (Fl_idle : Callable P w K mg base CX0 1 "_law_idle" ["_law_shape_here", "_law_modes"] spLIdle) (Fl_over : Callable P w K mg base CX0 7 "_law_over" ["_law_shape_here", "_law_ways_here", "_law_modes", "_law_tag", "_law_inner", "_law_others"] spLOver) :
    FnOk P w K mg base CX0 8 f fd ["_law_shape_here", "_law_ways_here", "_law_modes", "_law_words"] spLValue := by
  refine F.ok sc_l_value (fun vs H Q E h => ?_) (fun cdv A outer s H vs Q E hr h => ?_)
  · obtain ⟨_, _, _, _, _, _, _, rfl, _⟩ := h
    rfl
  · obtain ⟨vF, d, a, F, W, M, g, rfl, hF, hW, hc, ha, gok, gs, k⟩ := h
    refine ⟨_, (pss_cons (ps_set (i := 4) sc_l_value.nd rfl (Or.inl rfl) (pe_lst (pa_cons (pe_callF Fl_idle (hr.mono (by decide)) rfl pass0 (pa_cons (pv 0) (pa_cons (pv 2) pa_nil))) pa_nil)))
      (pss_cons (ps_for PassesOwn.never rfl (pi_reversed (by rfl) B.reversed (pa_cons (pv 3) pa_nil)) (pg_name (i := 5) sc_l_value.nd rfl (Or.inl rfl)) (pss_one (ps_if (pt_cmpR op_eq (pv 5) pe_str (nomark _)) (pss_one (ps_expr (pe_bm PySem.F.plainAttrs_list PySem.F.slot_list_append PySem.F.type_list_append mt_append (pv 4) (pa_cons (pe_callF Fl_idle (hr.mono (by decide)) rfl pass0 (pa_cons (pv 0) (pa_cons (pv 2) pa_nil))) pa_nil)))) (pss_cons (ps_set (i := 6) sc_l_value.nd rfl (Or.inl rfl) (pe_bm0 PySem.F.plainAttrs_list PySem.F.slot_list_pop PySem.F.type_list_pop mt_pop (pv 4)))
      (pss_cons (ps_set (i := 7) sc_l_value.nd rfl (Or.inl rfl) (pe_bm0 PySem.F.plainAttrs_list PySem.F.slot_list_pop PySem.F.type_list_pop mt_pop (pv 4)))
      (pss_one (ps_expr (pe_bm PySem.F.plainAttrs_list PySem.F.slot_list_append PySem.F.type_list_append mt_append (pv 4) (pa_cons (pe_callF Fl_over (hr.mono (by decide)) rfl pass0 (pa_cons (pv 0) (pa_cons (pv 1) (pa_cons (pv 2) (pa_cons (pv 5) (pa_cons (pv 6) (pa_cons (pv 7) pa_nil))))))) pa_nil)))))))))
      (pss_one (ps_ret (pe_ix ix_list (pv 4) (pe_un un_neg pe_int) (fun _ _ => rfl)))))), ?_⟩
    have wl := words_len g
    refine ⟨_, rfl, _, rfl, vF, F, W, M, rfl, hF, hc, fun H1 v1 s1 h1 => ⟨(by show 1 ≤ sizeLine; decide), fun p0 n0 => ?_⟩⟩
    have n0' : H p0 = none := s1.free n0
    have s01 := snew (o := .lst [v1]) s1 n0
    have ap : a ≠ p0 := ne_of_none (s1 _ _ ha) n0
    have vok : ∀ (l : List Tag), ∀ x ∈ runR (above F W M) (nothing F M) l [nothing F M], VOk F M x := fun l => runR_all nothing_ok (fun t x y hx hy => above_ok hc.fok hc.wok hx hy) l _ (fun x hx => by rw [List.mem_singleton.mp hx]; exact nothing_ok)
    have key : ∃ xs : List V, xs = (words g).map V.str := ⟨_, rfl⟩
    refine ⟨_, rfl, a, (words g).map V.str, rfl, SqL.of (s01 _ _ ha), for_rev (a := a) (xs := (words g).map V.str) (fun i σ H2 => ∃ es v5 v6 v7, σ = [some vF, some (.ref d), some (.int (M : Int)), some (.ref a), some (.ref p0), v5, v6, v7] ∧ L2.Same H H2 ∧ H2 p0 = some (.lst es) ∧
      IsAll H2 ((runR (above F W M) (nothing F M) ((words g).drop ((words g).length - i)) [nothing F M]).reverse.map encV) es)
      ⟨[v1], _, _, _, rfl, s01, upd_same, by rw [Nat.sub_zero, List.drop_length]; exact ⟨_, _, rfl, h1.same (same_new n0), rfl⟩⟩ (fun i σ H2 _ ⟨_, _, _, _, _, s2, _⟩ => SqL.of (s2 _ _ ha)) ?_ ?_⟩
    · rintro i x σ H2 hil hx ⟨es, v5, v6, v7, rfl, s2, hp0, hes⟩
      rw [List.length_map] at hil hx
      rw [List.getElem?_map] at hx
      obtain ⟨t, ht, rfl⟩ := Option.map_eq_some_iff.mp hx
      have hlen := runR_len (above F W M) (nothing F M) ((words g).drop ((words g).length - i)) [nothing F M]
      have el := hes.lenm
      rw [List.length_reverse] at el
      rw [List.length_drop] at hlen
      simp only [List.length_singleton] at hlen
      refine ⟨_, rfl, rfl, _, rfl, ?_⟩
      have edrop := drop_back hil ht
      refine ite2 (fun z => ?_) (fun z => ?_)
      · have z : t = END := by
          have := of_decide_eq_true z
          injection this
        refine ⟨_, rfl, .inl ⟨rfl, _, SqL.of hp0⟩, _, rfl, _, rfl, vF, F, W, M, rfl, hF.same s2, hc, fun H3 v3 s3 h3 => ?_⟩
        have hp3 := s3 _ _ hp0
        refine ⟨p0, es, _, rfl, rfl, hp3, szL (by omega), es ++ [v3], _, _, _, rfl, smut (strans s2 s3) n0', upd_same, ?_⟩
        have tp : Tp H3 (upd H3 p0 (.lst (es ++ [v3]))) := Tp.mut hp3 (by intro z y; cases y)
        rw [edrop]
        show IsAll _ ((tok1 (above F W M) (nothing F M) t _).reverse.map encV) _
        unfold tok1
        rw [if_pos z, List.reverse_cons, List.map_append]
        exact ((hes.same s3).mono tp).append ⟨_, _, rfl, Is.mono tp _ h3, rfl⟩
      · have z : t ≠ END := fun e => z (decide_eq_true (by rw [e]; rfl))
        obtain ⟨x1, x2, r, er⟩ := runR_tag (above F W M) (nothing F M) gok hil ht z (nothing F M) []
        have hv := vok ((words g).drop ((words g).length - i))
        rw [er] at hes hv
        have hes' : IsAll H2 ((r.reverse ++ [x2] ++ [x1]).map encV) es := by
          have : (x1 :: x2 :: r).reverse = r.reverse ++ [x2] ++ [x1] := by simp
          rw [← this]; exact hes
        obtain ⟨es1, y1, sl1, q1, e1, e2, hes1, hy1⟩ := isall_last hes' (by rw [hes'.lenm]; simp)
        have e2 := List.append_inj' e2 rfl
        obtain ⟨e3, e4⟩ := e2
        cases e4
        subst e3 e1
        obtain ⟨es2, y2, sl2, q2, e1, e2, hes2, hy2⟩ := isall_last hes1 (by rw [hes1.lenm]; simp)
        have e2 := List.append_inj' e2 rfl
        obtain ⟨e3, e4⟩ := e2
        cases e4
        subst e3 e1
        have ta := Tp.mut (p := p0) (o := .lst (es2 ++ [y2])) hp0 (by intro z y; cases y)
        have tb := Tp.mut (p := p0) (o := .lst es2) (upd_same (H := H2) (a := p0) (o := .lst (es2 ++ [y2]))) (by intro z y; cases y)
        refine ⟨_, rfl, .inl ⟨rfl, _, SqL.of hp0⟩, p0, _, y1, rfl, rfl, hp0, by simp, ?_⟩
        rw [List.dropLast_concat]
        refine ⟨_, rfl, .inl ⟨rfl, _, SqL.of upd_same⟩, p0, _, y2, rfl, rfl, upd_same, by simp, ?_⟩
        rw [List.dropLast_concat]
        have s3 := smut (o := .lst es2) (smut (o := .lst (es2 ++ [y2])) s2 n0') n0'
        refine ⟨_, rfl, .inl ⟨rfl, _, SqL.of upd_same⟩, _, rfl, _, rfl, _, rfl, _, rfl, _, rfl, _, rfl, ?_⟩
        refine ⟨vF, d, t, y1, y2, x1, x2, F, W, M, rfl, hF.same s3, hW.same s3, hc, Is.mono (ta.trans tb) _ hy1, Is.mono (ta.trans tb) _ hy2, hv _ (by simp), hv _ (by simp), fun H4 v4 s4 h4 => ?_⟩
        have hp4 := s4 _ _ (upd_same (H := upd H2 p0 (.lst (es2 ++ [y2]))) (a := p0) (o := .lst es2))
        refine ⟨p0, es2, _, rfl, rfl, hp4, szL (by simp at el; omega), es2 ++ [v4], _, _, _, rfl, smut (strans s3 s4) n0', upd_same, ?_⟩
        have tp : Tp H4 (upd H4 p0 (.lst (es2 ++ [v4]))) := Tp.mut hp4 (by intro z y; cases y)
        rw [edrop]
        show IsAll _ ((tok1 (above F W M) (nothing F M) t (runR (above F W M) (nothing F M) ((words g).drop ((words g).length - i)) [nothing F M])).reverse.map encV) _
        rw [er]
        unfold tok1
        rw [if_neg z, List.reverse_cons, List.map_append]
        exact ((hes2.mono (ta.trans (tb.trans (Tp.of s4)))).mono tp).append ⟨_, _, rfl, Is.mono tp _ h4, rfl⟩
    · rintro σ H2 ⟨es, v5, v6, v7, rfl, s2, hp0, hes⟩
      rw [List.length_map, Nat.sub_self, List.drop_zero, runR_words (above F W M) (nothing F M) g (nothing F M) [] gok, foldG_value] at hes
      obtain ⟨y, r, rfl, hy, hr⟩ := hes
      cases hr
      exact ⟨_, rfl, 1, rfl, p0, _, -1, y, rfl, rfl, SqL.of hp0, atI_last [] y, k _ _ s2 hy⟩
end
end K76
set_option Elab.async false
set_option linter.all false
set_option maxRecDepth 100000
set_option maxHeartbeats 4000000
namespace K76
open PySem PySem.Spec PyProof.Rows L2
/-- a list of kinds, not the list at p -/
def KL (p : Addr) (H : Hp) (v : V) (ks : List Int) : Prop := ∃ r, v = .ref r ∧ r ≠ p ∧ H r = some (.lst (ks.map V.int))
theorem KL.same {p : Addr} {H H' : Hp} {v : V} {ks : List Int} (h : KL p H v ks) (s : L2.Same H H') : KL p H' v ks := by
  obtain ⟨r, e, a, b⟩ := h
  exact ⟨r, e, a, s _ _ b⟩
theorem KL.mut {p : Addr} {H : Hp} {v : V} {ks : List Int} {o : HO} (h : KL p H v ks) : KL p (upd H p o) v ks := by
  obtain ⟨r, e, a, b⟩ := h
  exact ⟨r, e, a, by rw [upd_ne a]; exact b⟩
theorem KL.mutD {p q : Addr} {H : Hp} {v : V} {ks : List Int} {o : HO} {kvs : List (Key × V)} (h : KL p H v ks) (hq : H q = some (.dK kvs)) : KL p (upd H q o) v ks := by
  obtain ⟨r, e, a, b⟩ := h
  exact ⟨r, e, a, by rw [upd_ne (ne_of b hq (by intro z; cases z))]; exact b⟩
theorem paired_last {α β : Type} {R : α → β → Prop} {es : List α} {sl : List β} {x : β} (h : Paired R es (sl ++ [x])) : ∃ es' v, es = es' ++ [v] ∧ Paired R es' sl ∧ R v x := by
  induction sl generalizing es with
  | nil =>
    cases h with
    | cons h t =>
      cases t
      exact ⟨[], _, rfl, .nil, h⟩
  | cons y sl ih =>
    cases h with
    | cons h t =>
      obtain ⟨es', v, rfl, h1, h2⟩ := ih t
      exact ⟨_ :: es', v, rfl, .cons h h1, h2⟩
theorem keysI_put (kvs : List (Key × V)) (ks : List Int) (q : Int) (v : V) (h : kvs.map (·.1) = ks.map (Sum.inl : Int → Key)) : (putK kvs (Sum.inl q) v).map (·.1) = (addP ks q).map (Sum.inl : Int → Key) := by
  rw [keys_putK, h]
  unfold addP
  have : (Sum.inl q : Key) ∈ ks.map (Sum.inl : Int → Key) ↔ q ∈ ks := by
    constructor
    · intro z
      obtain ⟨y, hy, e⟩ := List.mem_map.mp z
      injection e with e
      rw [← e]; exact hy
    · exact fun z => List.mem_map_of_mem z
  by_cases z : q ∈ ks
  · rw [if_pos (this.mpr z), if_pos z]
  · rw [if_neg (fun y => z (this.mp y)), if_neg z]; simp
theorem once_fold (l : List Int) : once l = l.foldl addP [] := rfl
def spLKinds : Sp := fun vs H Q _ => ∃ (vA : V) (a : Addr) (A : Form) (g : G), vs = [vA, .ref a] ∧ Is H (encF A) vA ∧ A.rules.length ≤ 100 ∧ A.ends.length ≤ 100 ∧ H a = some (.lst ((words g).map V.str)) ∧ g.ok ∧ g.size ≤ 1000 ∧
  ∀ H' p (l : List Int), L2.Same H H' → H' p = some (.lst (l.map V.int)) → (∀ q, q ∈ l ↔ isOf A g q = true) → Q (.ref p) H'
def spLFitting : Sp := fun vs H Q _ => ∃ (vA : V) (a : Addr) (A : Form) (g : G), vs = [vA, .ref a] ∧ Is H (encF A) vA ∧ A.rules.length ≤ 100 ∧ A.ends.length ≤ 100 ∧ A.starts.length ≤ 100 ∧ H a = some (.lst ((words g).map V.str)) ∧ g.ok ∧ g.size ≤ 1000 ∧
  ∀ H', L2.Same H H' → Q (.bl (fits A g)) H'
abbrev st_l_kinds : Stmt := top 42
theorem sc_l_kinds : FnScope ["_law_shape_here", "_law_words", "_law_rows", "_law_word", "_law_kids", "_law_others", "_law_found", "_law_rule"] ["_law_shape_here", "_law_words"] (defScope st_l_kinds) := ⟨rfl, rfl, rfl, by decide +kernel, rfl, by decide +kernel, by decide +kernel⟩
abbrev st_l_fitting : Stmt := top 43
theorem sc_l_fitting : FnScope ["_law_shape_here", "_law_words", "_law_kinds_here", "_law_kind"] ["_law_shape_here", "_law_words"] (defScope st_l_fitting) := ⟨rfl, rfl, rfl, by decide +kernel, rfl, by decide +kernel, by decide +kernel⟩
theorem kstep_ends {A : Form} {t : Tag} {x y : List Int} : (kstep A t x y).length ≤ A.rules.length := by
  unfold kstep
  rw [once_fold]
  have : ∀ (l acc : List Int), (l.foldl addP acc).length ≤ acc.length + l.length := by
    intro l
    induction l with
    | nil => intro acc; exact Nat.le_refl _
    | cons z l ih => intro acc; rw [List.foldl_cons]; have := ih (addP acc z); have := addP_len (l := acc) (x := z); simp only [List.length_cons]; omega
  have h1 := this ((A.rules.filter fun r => decide (r.tag = t) && x.contains r.inner && y.contains r.rest).map (·.kind)) []
  have h2 := List.length_filter_le (fun r : Rule => decide (r.tag = t) && x.contains r.inner && y.contains r.rest) A.rules
  rw [List.length_map] at h1
  simp only [List.length_nil] at h1
  omega
section
variable {P : Program} {w : World} {K : PySem.W.Frag} {mg : Str → Option Value} {base : Heap}
theorem ok_lkinds {f : Addr} {fd : FuncData} (F : Fun K "_law_kinds" "_law_kinds" st_l_kinds f fd) (B : Gb mg) : FnOk P w K mg base CX0 1 f fd ["_law_shape_here", "_law_words"] spLKinds := by
  refine F.ok sc_l_kinds (fun vs H Q E h => ?_) (fun cdv A outer s H vs Q E hr h => ?_)
  · obtain ⟨_, _, _, _, rfl, _⟩ := h
    rfl
  · obtain ⟨vA, a, AA, g, rfl, hA, hrl, hel, ha, gok, gs, k⟩ := h
    have hu1 := hu_of hr
    refine ⟨_, (pss_cons (ps_set (i := 2) sc_l_kinds.nd rfl (Or.inl rfl) (pe_lst (pa_cons (pe_callTy call_list_of (by rfl) B.list (by decide +kernel) (pa_cons (pe_ix ix_tup (pv 0) pe_int (fun _ _ => rfl)) pa_nil)) pa_nil)))
      (pss_cons (ps_for PassesOwn.never rfl (pi_reversed (by rfl) B.reversed (pa_cons (pv 1) pa_nil)) (pg_name (i := 3) sc_l_kinds.nd rfl (Or.inl rfl)) (pss_cons (ps_if (pt_cmpR op_eq (pv 3) pe_str (nomark _)) (pss_cons (ps_expr (pe_bm PySem.F.plainAttrs_list PySem.F.slot_list_append PySem.F.type_list_append mt_append (pv 2) (pa_cons (pe_callTy call_list_of (by rfl) B.list (by decide +kernel) (pa_cons (pe_ix ix_tup (pv 0) pe_int (fun _ _ => rfl)) pa_nil)) pa_nil)))
      (pss_one ps_continue)) pss_nil)
      (pss_cons (ps_set (i := 4) sc_l_kinds.nd rfl (Or.inl rfl) (pe_bm0 PySem.F.plainAttrs_list PySem.F.slot_list_pop PySem.F.type_list_pop mt_pop (pv 2)))
      (pss_cons (ps_set (i := 5) sc_l_kinds.nd rfl (Or.inl rfl) (pe_bm0 PySem.F.plainAttrs_list PySem.F.slot_list_pop PySem.F.type_list_pop mt_pop (pv 2)))
      (pss_cons (ps_set (i := 6) sc_l_kinds.nd rfl (Or.inl rfl) pe_dnewK)
      (pss_cons (ps_for PassesOwn.never rfl (pi_tup (pe_ix ix_tup (pv 0) pe_int (fun _ _ => rfl))) (pg_name (i := 7) sc_l_kinds.nd rfl (Or.inl rfl)) (pss_one (ps_if (PW.pt (pw_and (pt_cmpR op_eq (pe_ix ix_tup (pv 7) pe_int (fun _ _ => rfl)) (pv 3) (nomark _)) (pw_and (pt_cmpR op_in_seq (pe_ix ix_tup (pv 7) pe_int (fun _ _ => rfl)) (pv 4) (by rfl)) (pw_and1 (pt_cmpR op_in_seq (pe_ix ix_tup (pv 7) pe_int (fun _ _ => rfl)) (pv 5) (by rfl)))))) (pss_one (ps_dput hu1 (pv 6) (pe_ix ix_tup (pv 7) pe_int (fun _ _ => rfl)) pe_bl rfl)) pss_nil)))
      (pss_one (ps_expr (pe_bm PySem.F.plainAttrs_list PySem.F.slot_list_append PySem.F.type_list_append mt_append (pv 2) (pa_cons (pe_callTy (call_list_dK rfl) (by rfl) B.list (by decide +kernel) (pa_cons (pv 6) pa_nil)) pa_nil))))))))))
      (pss_one (ps_ret (pe_ix ix_list (pv 2) (pe_un un_neg pe_int) (fun _ _ => rfl)))))), ?_⟩
    have wl := words_len g
    obtain ⟨ap, as, ae, ar, rs, rfl, hAA⟩ := is_form hA
    refine ⟨_, rfl, ap, _, 2, _, rfl, rfl, SqT.of hAA.at_, rfl, ae, _, rfl, .inr (SqT.of hAA.en), fun p1 n1 => ⟨(by show 1 ≤ sizeLine; decide), fun p0 n0 => ?_⟩⟩
    have s1 := same_new (o := .lst (AA.ends.map V.int)) n1
    have n0' : H p0 = none := s1.free n0
    have s01 := snew (o := .lst [.ref p1]) s1 n0
    have p10 : p1 ≠ p0 := ne_of_none upd_same n0
    refine ⟨_, rfl, a, (words g).map V.str, rfl, SqL.of (s01 _ _ ha), for_rev (a := a) (xs := (words g).map V.str) (fun i σ H2 => ∃ es v3 v4 v5 v6 v7, σ = [some (.ref ap), some (.ref a), some (.ref p0), v3, v4, v5, v6, v7] ∧ L2.Same H H2 ∧ H2 p0 = some (.lst es) ∧
      Paired (KL p0 H2) es (runR (kstep AA) AA.ends ((words g).drop ((words g).length - i)) [AA.ends]).reverse)
      ⟨[.ref p1], _, _, _, _, _, rfl, s01, upd_same, by rw [Nat.sub_zero, List.drop_length]; exact .cons ⟨p1, rfl, p10, get_new upd_same n0⟩ .nil⟩ (fun i σ H2 _ ⟨_, _, _, _, _, _, _, s2, _⟩ => SqL.of (s2 _ _ ha)) ?_ ?_⟩
    · rintro i x σ H2 hil hx ⟨es, v3, v4, v5, v6, v7, rfl, s2, hp0, hes⟩
      rw [List.length_map] at hil hx
      rw [List.getElem?_map] at hx
      obtain ⟨t, ht, rfl⟩ := Option.map_eq_some_iff.mp hx
      have hlen := runR_len (kstep AA) AA.ends ((words g).drop ((words g).length - i)) [AA.ends]
      have el := paired_len hes
      rw [List.length_reverse] at el
      rw [List.length_drop] at hlen
      simp only [List.length_singleton] at hlen
      have hA2 := hAA.mono (Tp.of s2)
      refine ⟨_, rfl, rfl, _, rfl, ?_⟩
      have edrop := drop_back hil ht
      refine ite2 (fun z => ?_) (fun z => ?_)
      · have z : t = END := by
          have := of_decide_eq_true z
          injection this
        refine ⟨_, rfl, .inl ⟨rfl, _, SqL.of hp0⟩, _, rfl, ap, _, 2, _, rfl, rfl, SqT.of hA2.at_, rfl, ae, _, rfl, .inr (SqT.of hA2.en), fun p3 n3 => ?_⟩
        have s3 := same_new (o := .lst (AA.ends.map V.int)) n3
        have hp3 := s3 _ _ hp0
        have p30 : p3 ≠ p0 := (ne_of_none hp0 n3).symm
        refine ⟨p0, es, _, rfl, rfl, hp3, szL (by omega), es ++ [.ref p3], _, _, _, _, _, rfl, smut (strans s2 s3) n0', upd_same, ?_⟩
        rw [edrop]
        show Paired _ _ (tok1 (kstep AA) AA.ends t _).reverse
        unfold tok1
        rw [if_pos z, List.reverse_cons]
        exact Paired.snoc (paired_imp hes fun _ _ h => (h.same s3).mut) ⟨p3, rfl, p30, by rw [upd_ne p30, upd_same]⟩
      · have z : t ≠ END := fun e => z (decide_eq_true (by rw [e]; rfl))
        obtain ⟨x1, x2, r, er⟩ := runR_tag (kstep AA) AA.ends gok hil ht z AA.ends []
        have hes' : Paired (KL p0 H2) es (r.reverse ++ [x2] ++ [x1]) := by
          have : (x1 :: x2 :: r).reverse = r.reverse ++ [x2] ++ [x1] := by simp
          rw [← this, ← er]; exact hes
        obtain ⟨es1, y1, rfl, hes1, hy1⟩ := paired_last hes'
        obtain ⟨es2, y2, rfl, hes2, hy2⟩ := paired_last hes1
        refine ⟨_, rfl, .inl ⟨rfl, _, SqL.of hp0⟩, p0, _, y1, rfl, rfl, hp0, by simp, ?_⟩
        rw [List.dropLast_concat]
        refine ⟨_, rfl, .inl ⟨rfl, _, SqL.of upd_same⟩, p0, _, y2, rfl, rfl, upd_same, by simp, ?_⟩
        rw [List.dropLast_concat]
        intro f nf
        have s3 := smut (o := .lst es2) (smut (o := .lst (es2 ++ [y2])) s2 n0') n0'
        have sf := same_new (o := .dK []) nf
        have fH : H f = none := s3.free nf
        have hp4 := sf _ _ (upd_same (H := upd H2 p0 (.lst (es2 ++ [y2]))) (a := p0) (o := .lst es2))
        have e3 : Paired (KL p0 (upd (upd (upd H2 p0 (.lst (es2 ++ [y2]))) p0 (.lst es2)) f (.dK []))) es2 r.reverse := paired_imp hes2 fun _ _ h => ((h.mut).mut).same sf
        have k1 := ((hy1.mut (o := .lst (es2 ++ [y2]))).mut (o := .lst es2)).same sf
        have k2 := ((hy2.mut (o := .lst (es2 ++ [y2]))).mut (o := .lst es2)).same sf
        have hA4 := hAA.mono (Tp.of (strans s3 sf))
        obtain ⟨q1, rfl, _⟩ := id k1
        obtain ⟨q2, rfl, _⟩ := id k2
        -- for rule in shape[3]
        refine ⟨_, rfl, ap, _, 3, _, rfl, rfl, SqT.of hA4.at_, rfl, ar, rfl, ⟨_, SqT.of hA4.ru⟩, for_tup (a := ar) (xs := rs) (fun j σ H5 => ∃ v7 kvs, σ = [some (.ref ap), some (.ref a), some (.ref p0), some (.str t), some (.ref q1), some (.ref q2), some (.ref f), v7] ∧ L2.Same H H5 ∧ H5 p0 = some (.lst es2) ∧ H5 f = some (.dK kvs) ∧
          Paired (KL p0 H5) es2 r.reverse ∧ KL p0 H5 (.ref q1) x1 ∧ KL p0 H5 (.ref q2) x2 ∧ kvs.map (·.1) = ((((AA.rules.take j).filter fun r => decide (r.tag = t) && x1.contains r.inner && x2.contains r.rest).map (·.kind)).foldl addP []).map (Sum.inl : Int → Key) ∧ kvs.length ≤ j)
          ⟨_, [], rfl, strans s3 sf, hp4, upd_same, e3, k1, k2, rfl, Nat.le_refl _⟩ (fun j σ H5 _ ⟨_, _, _, s5, _⟩ => SqT.of (hAA.mono (Tp.of s5)).ru) ?_ ?_⟩
        · rintro j y σ H5 hj ⟨v7, kvs, rfl, s5, hp5, hf5, e5, k15, k25, hk5, hkl⟩
          obtain ⟨ru, hr', hy⟩ := hAA.rs.getm hj
          obtain ⟨cr, rfl, hcr⟩ := is_rule (hy.same s5)
          have hjl : j < AA.rules.length := (List.getElem?_eq_some_iff.mp hr').1
          obtain ⟨_, ea, _, hq1⟩ := id k15
          cases ea
          obtain ⟨_, ea, _, hq2⟩ := id k25
          cases ea
          have no : ¬ (ru.tag = t ∧ x1.contains ru.inner = true ∧ x2.contains ru.rest = true) → (((AA.rules.take (j + 1)).filter fun r => decide (r.tag = t) && x1.contains r.inner && x2.contains r.rest).map (·.kind)) = (((AA.rules.take j).filter fun r => decide (r.tag = t) && x1.contains r.inner && x2.contains r.rest).map (·.kind)) := fun hno => by
            rw [take_snoc hr', List.filter_append, List.filter_cons_of_neg (by rw [Bool.and_eq_true, Bool.and_eq_true, decide_eq_true_eq]; exact fun h => hno ⟨h.1.1, h.1.2, h.2⟩)]
            simp
          have same5 : ¬ (ru.tag = t ∧ x1.contains ru.inner = true ∧ x2.contains ru.rest = true) → ∃ v7 kvs', [some (V.ref ap), some (.ref a), some (.ref p0), some (.str t), some (.ref q1), some (.ref q2), some (.ref f), some (.ref cr)] = [some (V.ref ap), some (.ref a), some (.ref p0), some (.str t), some (.ref q1), some (.ref q2), some (.ref f), v7] ∧ L2.Same H H5 ∧ H5 p0 = some (.lst es2) ∧ H5 f = some (.dK kvs') ∧
              Paired (KL p0 H5) es2 r.reverse ∧ KL p0 H5 (.ref q1) x1 ∧ KL p0 H5 (.ref q2) x2 ∧ kvs'.map (·.1) = ((((AA.rules.take (j + 1)).filter fun r => decide (r.tag = t) && x1.contains r.inner && x2.contains r.rest).map (·.kind)).foldl addP []).map (Sum.inl : Int → Key) ∧ kvs'.length ≤ j + 1 :=
            fun hno => ⟨_, kvs, rfl, s5, hp5, hf5, e5, k15, k25, by rw [no hno]; exact hk5, by omega⟩
          refine ⟨_, rfl, cr, _, 1, .str ru.tag, rfl, rfl, SqT.of hcr, rfl, _, rfl, rfl, _, rfl, ?_⟩
          refine ite2 (fun z1 => ?_) (fun z1 => ?_)
          · have zt : ru.tag = t := by
              have := of_decide_eq_true z1
              injection this
            refine ⟨_, rfl, cr, _, 2, .int ru.inner, rfl, rfl, SqT.of hcr, rfl, _, rfl, q1, _, rfl, .inl (SqL.of hq1), rfl, flat_ints _, x1.contains ru.inner, inI _ _, ?_⟩
            refine ite2 (fun z2 => ?_) (fun z2 => ?_)
            · refine ⟨_, rfl, cr, _, 3, .int ru.rest, rfl, rfl, SqT.of hcr, rfl, _, rfl, q2, _, rfl, .inl (SqL.of hq2), rfl, flat_ints _, x2.contains ru.rest, inI _ _, ?_⟩
              refine ite2 (fun z3 => ?_) (fun z3 => ?_)
              · refine ⟨_, rfl, _, rfl, cr, _, 0, .int ru.kind, rfl, rfl, SqT.of hcr, rfl, f, _, rfl, DPut.k (k := Sum.inl ru.kind) hf5 (szL (by omega)), ?_⟩
                refine ⟨_, putK kvs (Sum.inl ru.kind) (.bl true), rfl, smut s5 fH, ?_, upd_same, paired_imp e5 fun _ _ h => h.mutD hf5, k15.mutD hf5, k25.mutD hf5, ?_, ?_⟩
                · rw [upd_ne (ne_of hp5 hf5 (by intro z; cases z))]; exact hp5
                · rw [keysI_put _ _ _ _ hk5]
                  rw [take_snoc hr', List.filter_append, List.filter_cons_of_pos (by rw [Bool.and_eq_true, Bool.and_eq_true, decide_eq_true_eq]; exact ⟨⟨zt, z2⟩, z3⟩), List.map_append, List.foldl_append]
                  rfl
                · have := putK_len1 kvs (Sum.inl ru.kind) (.bl true)
                  omega
              · exact same5 fun h => z3 h.2.2
            · exact same5 fun h => z2 h.2.1
          · exact same5 fun h => z1 (decide_eq_true (by rw [h.1]))
        · rintro σ H5 ⟨v7, kvs, rfl, s5, hp5, hf5, e5, k15, k25, hk5, hkl⟩
          rw [hAA.rs.lenm, List.take_length] at hk5
          have hk6 : kvs.map (·.1) = (kstep AA t x1 x2).map (Sum.inl : Int → Key) := hk5
          refine ⟨_, rfl, .inl ⟨rfl, _, SqL.of hp5⟩, _, rfl, f, kvs, rfl, hf5, fun p6 n6 => ?_⟩
          have e6 : (kvs.map fun kv => kV kv.1) = (kstep AA t x1 x2).map V.int := by
            have := congrArg (List.map kV) hk6
            rw [List.map_map, List.map_map] at this
            exact this
          rw [e6]
          have s6 := same_new (o := .lst ((kstep AA t x1 x2).map V.int)) n6
          have hp6 := s6 _ _ hp5
          have p60 : p6 ≠ p0 := (ne_of_none hp5 n6).symm
          refine ⟨p0, es2, _, rfl, rfl, hp6, szL (by simp at el; omega), es2 ++ [.ref p6], _, _, _, _, _, rfl, smut (strans s5 s6) n0', upd_same, ?_⟩
          rw [edrop]
          show Paired _ _ (tok1 (kstep AA) AA.ends t (runR (kstep AA) AA.ends ((words g).drop ((words g).length - i)) [AA.ends])).reverse
          rw [er]
          unfold tok1
          rw [if_neg z, List.reverse_cons]
          exact Paired.snoc (paired_imp e5 fun _ _ h => (h.same s6).mut) ⟨p6, rfl, p60, by rw [upd_ne p60, upd_same]⟩
    · rintro σ H2 ⟨es, v3, v4, v5, v6, v7, rfl, s2, hp0, hes⟩
      rw [List.length_map, Nat.sub_self, List.drop_zero, runR_words (kstep AA) AA.ends g AA.ends [] gok] at hes
      cases hes with
      | cons h t =>
        cases t
        obtain ⟨r, rfl, hr0, hr'⟩ := h
        exact ⟨_, rfl, 1, rfl, p0, _, -1, .ref r, rfl, rfl, SqL.of hp0, atI_last [] _, k _ r _ s2 hr' fun q => mem_kinds⟩
theorem ok_lfitting {f : Addr} {fd : FuncData} (F : Fun K "_law_fitting" "_law_fitting" st_l_fitting f fd) (B : Gb mg) (Fl_kinds : Callable P w K mg base CX0 1 "_law_kinds" ["_law_shape_here", "_law_words"] spLKinds) : FnOk P w K mg base CX0 2 f fd ["_law_shape_here", "_law_words"] spLFitting := by
  refine F.ok sc_l_fitting (fun vs H Q E h => ?_) (fun cdv A outer s H vs Q E hr h => ?_)
  · obtain ⟨_, _, _, _, rfl, _⟩ := h
    rfl
  · obtain ⟨vA, a, AA, g, rfl, hA, hrl, hel, hsl, ha, gok, gs, k⟩ := h
    have hu0 := Nat.lt_of_succ_lt (hu_of hr)
    refine ⟨_, (pss_cons (ps_set (i := 2) sc_l_fitting.nd rfl (Or.inr rfl) (pe_callF Fl_kinds (hr.mono (by decide)) rfl pass0 (pa_cons (pv 0) (pa_cons (pv 1) pa_nil))))
      (pss_one (ps_ret (pe_cmpR (op_neL0 hu0) (pe_lc (own := [("_law_kind", 3)]) rfl sc_l_fitting.nd (pi_tup (pe_ix ix_tup (pv 0) pe_int (fun _ _ => rfl))) (blkOk_by (own := [("_law_kind", 3)]) (N := ["_law_shape_here", "_law_words", "_law_kinds_here", "_law_kind"]) (sc := defScope st_l_fitting) (by decide +kernel)) (fun _ _ _ _ _ => (pg_name (i := 3) sc_l_fitting.nd rfl (Or.inl rfl))) (fun _ _ _ _ _ => (pts_one (pt_cmpR (op_in_seqK (K := K) rfl) (pv 3) (pv 2) (by rfl)))) (fun _ _ _ _ _ => (pv 3))) (pe_lst pa_nil) (nomark _))))), ?_⟩
    refine ⟨_, rfl, _, rfl, vA, a, AA, g, rfl, hA, hrl, hel, ha, gok, gs, fun H1 p l s1 hp hl => ?_⟩
    obtain ⟨ap, as, ae, ar, rs, rfl, hAA⟩ := is_form (hA.same s1)
    refine ⟨_, rfl, ap, _, 1, _, rfl, rfl, SqT.of hAA.at_, rfl, as, rfl, ⟨_, SqT.of hAA.st⟩, fun D nD => lc_tup (a := as) (xs := AA.starts.map V.int) (fun i H2 => L2.Same H1 H2 ∧ ∃ zs, H2 D = some (.lst zs) ∧ zs.length ≤ i ∧ (zs.isEmpty = !(AA.starts.take i).any (isOf AA g)))
      ⟨same_new nD, [], upd_same, Nat.le_refl _, rfl⟩ (fun i H2 _ ⟨s2, _⟩ => SqT.of (hAA.mono (Tp.of s2)).st) ?_ ?_⟩
    · rintro i x H2 hi ⟨s2, zs, hD, hzl, hz⟩
      rw [List.getElem?_map] at hi
      obtain ⟨q, hq, rfl⟩ := Option.map_eq_some_iff.mp hi
      have hil : i < AA.starts.length := (List.getElem?_eq_some_iff.mp hq).1
      have e1 : (AA.starts.take (i + 1)).any (isOf AA g) = ((AA.starts.take i).any (isOf AA g) || isOf AA g q) := by
        rw [take_snoc hq, List.any_append, List.any_cons, List.any_nil, Bool.or_false]
      refine ⟨rfl, ?_⟩
      refine ⟨_, rfl, _, rfl, p, _, rfl, .inl (SqL.of (s2 _ _ hp)), rfl, flat_ints _, l.contains q, inI _ _, ?_⟩
      have e2 : l.contains q = isOf AA g q := by
        have := hl q
        rw [← List.contains_iff_mem] at this
        exact Bool.eq_iff_iff.mpr this
      refine ite2 (fun z => ?_) (fun z => ?_)
      · refine ⟨_, rfl, zs, hD, szL (by omega), smut s2 nD, _, upd_same, by simp; omega, ?_⟩
        rw [e1, ← e2, z, Bool.or_true]
        simp
      · refine ⟨s2, zs, hD, by omega, ?_⟩
        rw [Bool.not_eq_true] at z
        rw [e1, ← e2, z, Bool.or_false]; exact hz
    · rintro H2 ⟨s2, zs, hD, hzl, hz⟩
      rw [List.length_map, List.take_length] at hz
      refine ⟨(Nat.zero_le _), fun t nt => ⟨D, t, zs, rfl, rfl, SqL.of (get_new hD nt), SqL.of upd_same, ?_⟩⟩
      rw [hz, Bool.not_not]
      exact k _ (strans s1 (snew s2 nt))
end
end K76
set_option Elab.async false
set_option linter.all false
set_option maxRecDepth 100000
set_option maxHeartbeats 4000000
namespace K76
open PySem PySem.Spec PyProof.Rows L2
def encJ : Job → D
  | .row g m => .tup [.text "row", gr g, .num (m : Int)]
  | .parts p g => .tup [.text "parts", .tup (encPs p), gr g]
  | .fin => .tup [.text "end", .none, .none]
def outJ (W : Way) (js : List Job) : List Tag := js.flatMap (Job.out W)
def wtJ (W : Way) : List Job → Nat
  | [] => 0
  | j :: js => j.wt W + wtJ W js
theorem wtJ_len (W : Way) : ∀ js : List Job, js.length ≤ wtJ W js
  | [] => Nat.le_refl _
  | j :: js => by have := wtJ_len W js; have := wt_pos W j; simp only [wtJ, List.length_cons]; omega
def spLComing : Sp := fun vs H Q _ => ∃ (d : Addr) (vg : V) (W : Way) (M : Nat) (g : G), vs = [.ref d, vg] ∧ WayAt H d W ∧ WOk M W ∧ Is H (gr g) vg ∧ g.size ≤ 8 ∧
  ∀ H' p (l : List Tag), L2.Same H H' → H' p = some (.lst (l.map V.str)) → (900 ≤ l.length ∨ (l.length < 900 ∧ l = words (change W g 0))) → Q (.ref p) H'
abbrev st_l_coming : Stmt := top 44
theorem sc_l_coming : FnScope ["_law_ways_here", "_law_grove", "_law_found", "_law_jobs", "_law_job", "_law_tag", "_law_kids", "_law_part"] ["_law_ways_here", "_law_grove"] (defScope st_l_coming) := ⟨rfl, rfl, rfl, by decide +kernel, rfl, by decide +kernel, by decide +kernel⟩
theorem szJ {n : Nat} (h : n ≤ 3000000) : n < sizeLine := by rw [sizeLine_eq]; omega
section
variable {P : Program} {w : World} {K : PySem.W.Frag} {mg : Str → Option Value} {base : Heap}
theorem ok_lcoming {f : Addr} {fd : FuncData} (F : Fun K "_law_coming" "_law_coming" st_l_coming f fd) (B : Gb mg) : FnOk P w K mg base CX0 1 f fd ["_law_ways_here", "_law_grove"] spLComing := by
  refine F.ok sc_l_coming (fun vs H Q E h => ?_) (fun cdv A outer s H vs Q E hr h => ?_)
  · obtain ⟨_, _, _, _, _, rfl, _⟩ := h
    rfl
  · obtain ⟨d, vg, W, M, g, rfl, hW, wok, hg, gs, k⟩ := h
    have hu0 := Nat.lt_of_succ_lt (hu_of hr)
    have hu1 := hu_of hr
    refine ⟨_, (pss_cons (ps_set (i := 2) sc_l_coming.nd rfl (Or.inl rfl) (pe_lst pa_nil))
      (pss_cons (ps_set (i := 3) sc_l_coming.nd rfl (Or.inl rfl) (pe_lst (pa_cons (pe_tup (pa_cons pe_str (pa_cons (pv 1) (pa_cons pe_int pa_nil)))) pa_nil)))
      (pss_cons (ps_while PassesOwn.never (PW.pt (pw_and (pt_cmpR op_gt (pe_callB call_len_seq (by rfl) B.len PySem.boot_len (pa_cons (pv 3) pa_nil)) pe_int (nomark _)) (pw_and1 (pt_cmpR op_lt (pe_callB call_len_seq (by rfl) B.len PySem.boot_len (pa_cons (pv 2) pa_nil)) pe_int (nomark _))))) (pss_cons (ps_set (i := 4) sc_l_coming.nd rfl (Or.inl rfl) (pe_bm0 PySem.F.plainAttrs_list PySem.F.slot_list_pop PySem.F.type_list_pop mt_pop (pv 3)))
      (pss_one (ps_if (pt_cmpR op_eq (pe_ix ix_tup (pv 4) pe_int (fun _ _ => rfl)) pe_str (nomark _)) (pss_one (ps_expr (pe_bm PySem.F.plainAttrs_list PySem.F.slot_list_append PySem.F.type_list_append mt_append (pv 2) (pa_cons pe_str pa_nil)))) (pss_one (ps_if (PW.pt (pw_and (pt_cmpR op_eq (pe_ix ix_tup (pv 4) pe_int (fun _ _ => rfl)) pe_str (nomark _)) (pw_and1 (pt_cmpR (op_neT0 hu0) (pe_ix ix_tup (pv 4) pe_int (fun _ _ => rfl)) (pe_tup pa_nil) (nomark _))))) (pss_cons (ps_expr (pe_bm PySem.F.plainAttrs_list PySem.F.slot_list_append PySem.F.type_list_append mt_append (pv 3) (pa_cons (pe_tup (pa_cons pe_str (pa_cons (pe_slice sl_tup (pe_ix ix_tup (pv 4) pe_int (fun _ _ => rfl)) (po_some pe_int) po_none) (pa_cons (pe_ix ix_tup (pv 4) pe_int (fun _ _ => rfl)) pa_nil)))) pa_nil)))
      (pss_cons (ps_asg (pe_ix ix_tup (pe_ix ix_tup (pv 4) pe_int (fun _ _ => rfl)) pe_int (fun _ _ => rfl)) (pg_tup rfl (pgs_cons (pg_name (i := 5) sc_l_coming.nd rfl (Or.inl rfl)) (pgs_cons (pg_name (i := 6) sc_l_coming.nd rfl (Or.inl rfl)) pgs_nil))))
      (pss_one (ps_expr (pe_bm PySem.F.plainAttrs_list PySem.F.slot_list_append PySem.F.type_list_append mt_append (pv 3) (pa_cons (pe_tup (pa_cons pe_str (pa_cons (pe_dget2 hu1 (pv 0) (pe_tup (pa_cons (pe_ix ix_tup (pv 4) pe_int (fun _ _ => rfl)) (pa_cons (pv 5) pa_nil))) (pe_tup (pa_cons (pe_tup (pa_cons pe_str (pa_cons (pv 5) (pa_cons (pe_tup (pa_cons (pe_tup (pa_cons pe_str (pa_cons (pe_ix ix_tup (pv 4) pe_int (fun _ _ => rfl)) pa_nil))) pa_nil)) pa_nil)))) pa_nil)) ⟨rfl, rfl, rfl, rfl⟩) (pa_cons (pv 6) pa_nil)))) pa_nil)))))) (pss_one (ps_if (PW.pt (pw_and (pt_cmpR op_eq (pe_ix ix_tup (pv 4) pe_int (fun _ _ => rfl)) pe_str (nomark _)) (pw_and1 (pt_cmpR (op_neT0 hu0) (pe_ix ix_tup (pv 4) pe_int (fun _ _ => rfl)) (pe_tup pa_nil) (nomark _))))) (pss_cons (ps_expr (pe_bm PySem.F.plainAttrs_list PySem.F.slot_list_append PySem.F.type_list_append mt_append (pv 3) (pa_cons (pe_tup (pa_cons pe_str (pa_cons (pe_slice sl_tup (pe_ix ix_tup (pv 4) pe_int (fun _ _ => rfl)) (po_some pe_int) po_none) (pa_cons (pe_ix ix_tup (pv 4) pe_int (fun _ _ => rfl)) pa_nil)))) pa_nil)))
      (pss_cons (ps_set (i := 7) sc_l_coming.nd rfl (Or.inl rfl) (pe_ix ix_tup (pe_ix ix_tup (pv 4) pe_int (fun _ _ => rfl)) pe_int (fun _ _ => rfl)))
      (pss_one (ps_if (pt_cmpR op_eq (pe_ix ix_tup (pv 7) pe_int (fun _ _ => rfl)) pe_str (nomark _)) (pss_one (ps_expr (pe_bm PySem.F.plainAttrs_list PySem.F.slot_list_append PySem.F.type_list_append mt_append (pv 3) (pa_cons (pe_tup (pa_cons pe_str (pa_cons (pe_ix ix_tup (pv 4) pe_int (fun _ _ => rfl)) (pa_cons (pe_ix ix_tup (pv 7) pe_int (fun _ _ => rfl)) pa_nil)))) pa_nil)))) (pss_cons (ps_expr (pe_bm PySem.F.plainAttrs_list PySem.F.slot_list_append PySem.F.type_list_append mt_append (pv 2) (pa_cons (pe_ix ix_tup (pv 7) pe_int (fun _ _ => rfl)) pa_nil)))
      (pss_cons (ps_expr (pe_bm PySem.F.plainAttrs_list PySem.F.slot_list_append PySem.F.type_list_append mt_append (pv 3) (pa_cons (pe_tup (pa_cons pe_str (pa_cons pe_non (pa_cons pe_non pa_nil)))) pa_nil)))
      (pss_one (ps_expr (pe_bm PySem.F.plainAttrs_list PySem.F.slot_list_append PySem.F.type_list_append mt_append (pv 3) (pa_cons (pe_tup (pa_cons pe_str (pa_cons (pe_ix ix_tup (pv 7) pe_int (fun _ _ => rfl)) (pa_cons (pe_ix ix_tup (pv 4) pe_int (fun _ _ => rfl)) pa_nil)))) pa_nil)))))))))) pss_nil))))))))
      (pss_one (ps_ret (pv 2)))))), ?_⟩
    refine ⟨(Nat.zero_le _), fun p0 n0 => ?_⟩
    have s0 : L2.Same H (upd H p0 (.lst [])) := same_new n0
    refine ⟨_, rfl, (by show 3 ≤ sizeLine; decide), fun j0 nj0 => ⟨(by show 1 ≤ sizeLine; decide), fun p2 n2 => ?_⟩⟩
    have s1 := same_new (o := .tup [.str "row", vg, .int 0]) nj0
    have s2 := same_new (o := .lst [.ref j0]) n2
    have sH := strans s0 (strans s1 s2)
    have n2' : H p2 = none := s0.free (s1.free n2)
    have h20 : p0 ≠ p2 := ne_of_none (s1 _ _ upd_same) n2
    have w0 : wtG W g 0 ≤ 1999999 := by
      have := wtG_le (fun m t ps h => (wok m t ps h).2) g 0
      have h5 : 5 ^ g.size ≤ 5 ^ 8 := Nat.pow_le_pow_right (by omega) gs
      omega
    refine ⟨fun m σ H1 => ∃ acc es js v4 v5 v6 v7, σ = [some (.ref d), some vg, some (.ref p0), some (.ref p2), v4, v5, v6, v7] ∧ L2.Same H H1 ∧ H1 p0 = some (.lst ((acc : List Tag).map V.str)) ∧ H1 p2 = some (.lst es) ∧ IsAll H1 ((js : List Job).map encJ) es ∧
      acc ++ outJ W js.reverse = words (change W g 0) ∧ acc.length ≤ 900 ∧ m = wtJ W js.reverse ∧ wtJ W js.reverse ≤ 1999999,
      ⟨_, [], [.ref j0], [.row g 0], _, _, _, _, rfl, sH, s2 _ _ (s1 _ _ upd_same), upd_same, ⟨_, _, rfl, ⟨j0, _, rfl, s2 _ _ upd_same, _, _, rfl, rfl, _, _, rfl, hg.same sH, _, _, rfl, rfl, rfl⟩, rfl⟩, by simp [outJ, Job.out], Nat.zero_le _, rfl, by simp only [List.reverse_singleton, wtJ, Job.wt]; omega⟩, ?_⟩
    rintro m σ H1 ⟨acc, es, js, v4, v5, v6, v7, rfl, s3, a0, a2, hE, hw, hal, rfl, ht⟩
    refine ⟨_, rfl, p2, es, rfl, .inl (SqL.of a2), _, _, rfl, rfl, _, rfl, ?_⟩
    have al : (acc.map V.str).length = acc.length := List.length_map _
    refine ite2 (fun hc => ?_) (fun hc => ?_)
    rotate_left
    · have e : es = [] := by
        cases es with
        | nil => rfl
        | cons a b => exact absurd (decide_eq_true (by simp)) hc
      subst e
      have z : js = [] := List.length_eq_zero_iff.mp hE.lenm.symm
      subst z
      simp only [List.reverse_nil, outJ, List.flatMap_nil, List.append_nil] at hw
      refine ⟨_, rfl, k _ p0 acc s3 a0 ?_⟩
      rcases Nat.lt_or_ge acc.length 900 with h | h
      · exact .inr ⟨h, hw⟩
      · exact .inl h
    refine ⟨_, rfl, p0, _, rfl, .inl (SqL.of a0), _, _, rfl, rfl, _, rfl, ?_⟩
    rw [al]
    refine ite2 (fun hc2 => ?_) (fun hc2 => ?_)
    rotate_left
    · have : ¬ ((acc.length : Nat) : Int) < 900 := fun q => hc2 (decide_eq_true q)
      exact ⟨_, rfl, k _ p0 acc s3 a0 (.inl (by omega))⟩
    have hlt := of_decide_eq_true hc2
    have hc := of_decide_eq_true hc
    refine ⟨_, fun _ _ h => h, ?_⟩
    obtain ⟨es', u, js', j, rfl, rfl, hE', hj⟩ := isall_last hE (by omega)
    have erev : (js' ++ [j]).reverse = j :: js'.reverse := by simp
    rw [erev] at hw ht ⊢
    have el : es'.length ≤ 1999999 := by
      have h1 := hE'.lenm
      have h2 := wtJ_len W (j :: js'.reverse)
      simp only [List.length_cons, List.length_reverse] at h2
      omega
    refine ⟨_, rfl, .inl ⟨rfl, _, SqL.of a2⟩, p2, _, u, rfl, rfl, a2, by simp, ?_⟩
    rw [List.dropLast_concat]
    have t1 : Tp H1 (upd H1 p2 (.lst es')) := Tp.mut a2 (by intro xs z; cases z)
    have s4 : L2.Same H (upd H1 p2 (.lst es')) := smut s3 n2'
    have b0 : upd H1 p2 (.lst es') p0 = some (.lst (acc.map V.str)) := by rw [upd_ne h20]; exact a0
    have b2 : upd H1 p2 (.lst es') p2 = some (.lst es') := upd_same
    have hE1 := hE'.mono t1
    have hj1 := Is.mono t1 _ hj
    generalize upd H1 p2 (.lst es') = H2 at *
    cases j with
    | fin =>
      obtain ⟨ja, y1, y2, y3, rfl, hja, hy1, hy2, hy3⟩ := is_three hj1
      cases hy1
      refine ⟨_, rfl, ja, _, 0, .str "end", rfl, rfl, SqT.of hja, rfl, rfl, _, rfl, ?_⟩
      refine iteT ?_
      refine ⟨_, rfl, .inl ⟨rfl, _, SqL.of b0⟩, p0, _, _, rfl, rfl, b0, szL (by omega), ?_⟩
      have t3 := Tp.mut (p := p0) (o := .lst (acc.map V.str ++ [.str "/"])) b0 (by intro xs z; cases z)
      refine ⟨wtJ W js'.reverse, by simp only [wtJ, Job.wt]; omega, acc ++ [END], es', js', _, _, _, _, rfl, smut s4 n0, by rw [upd_same, List.map_append]; rfl, by rw [upd_ne h20.symm]; exact b2, hE1.mono t3, ?_, by simp; omega, rfl, by simp only [wtJ, Job.wt] at ht; omega⟩
      rw [← hw]
      simp [outJ, Job.out]
    | row gg mm =>
      obtain ⟨ja, y1, y2, y3, rfl, hja, hy1, hy2, hy3⟩ := is_three hj1
      cases hy1
      cases hy3
      obtain ⟨ra, rxs, rfl, hra, hrxs⟩ := is_tup hy2
      refine ⟨_, rfl, ja, _, 0, .str "row", rfl, rfl, SqT.of hja, rfl, rfl, _, rfl, ?_⟩
      refine iteF ?_
      refine ⟨_, rfl, ja, _, 0, .str "row", rfl, rfl, SqT.of hja, rfl, rfl, _, rfl, ?_⟩
      refine iteT ?_
      refine ⟨_, rfl, ja, _, 1, .ref ra, rfl, rfl, SqT.of hja, rfl, (Nat.zero_le _), fun t0 nt0 => ?_⟩
      have st0 := same_new (o := .tup []) nt0
      refine ⟨ra, t0, rxs, rfl, rfl, SqT.of (st0 _ _ hra), SqT.of upd_same, _, rfl, ?_⟩
      have s5 := snew (o := .tup []) s4 nt0
      have c0 := st0 _ _ b0
      have c2 := st0 _ _ b2
      have hE2 := hE1.same st0
      have hja2 := st0 _ _ hja
      have hra2 := st0 _ _ hra
      cases gg with
      | nil =>
        cases hrxs
        refine iteF ?_
        refine ⟨_, rfl, ja, _, 0, .str "row", rfl, rfl, SqT.of hja2, rfl, rfl, _, rfl, ?_⟩
        refine iteF ?_
        refine ⟨wtJ W js'.reverse, by simp only [wtJ, Job.wt, wtG]; omega, acc, es', js', _, _, _, _, rfl, s5, c0, c2, hE2, ?_, hal, rfl, by simp only [wtJ, Job.wt, wtG] at ht; omega⟩
        rw [← hw]
        simp [outJ, Job.out, change, words]
      | cons t ww oo =>
        obtain ⟨x0, rest, rfl, hx0, hrest⟩ := hrxs
        obtain ⟨px, x1, x2, rfl, hpx, hx1, hx2⟩ := is_two hx0
        cases hx1
        refine iteT ?_
        generalize upd H2 t0 (.tup []) = H3 at *
        have hpx3 := st0 _ _ hpx
        -- jobs.append(('row', job[1][1:], job[2]))
        refine ⟨_, rfl, .inl ⟨rfl, _, SqL.of c2⟩, _, rfl, ja, _, 1, .ref ra, rfl, rfl, SqT.of hja2, rfl, _, rfl, ra, _, rfl, SqT.of hra2, cut1_ne _ _, fun t4 nt4 => ?_⟩
        rw [cut1]
        have st4 := same_new (o := .tup rest) nt4
        refine ⟨_, rfl, ja, _, 2, .int mm, rfl, rfl, SqT.of (st4 _ _ hja2), rfl, (by show 3 ≤ sizeLine; decide), fun t5 nt5 => ?_⟩
        have st5 := same_new (o := .tup [.str "row", .ref t4, .int mm]) nt5
        have st45 := strans st4 st5
        refine ⟨p2, _, _, rfl, rfl, st45 _ _ c2, szJ (by omega), ?_⟩
        have q2 := Tp.mut (p := p2) (o := .lst (es' ++ [.ref t5])) (st45 _ _ c2) (by intro xs z; cases z)
        have s6 := smut (o := .lst (es' ++ [.ref t5])) (strans s5 st45) n2'
        have d0 : upd (upd (upd H3 t4 (.tup rest)) t5 (.tup [.str "row", .ref t4, .int mm])) p2 (.lst (es' ++ [.ref t5])) p0 = some (.lst (acc.map V.str)) := by rw [upd_ne h20]; exact st45 _ _ c0
        have tq := (Tp.of st45).trans q2
        have d2 : upd (upd (upd H3 t4 (.tup rest)) t5 (.tup [.str "row", .ref t4, .int mm])) p2 (.lst (es' ++ [.ref t5])) p2 = some (.lst (es' ++ [.ref t5])) := upd_same
        have hrow : Is (upd (upd (upd H3 t4 (.tup rest)) t5 (.tup [.str "row", .ref t4, .int mm])) p2 (.lst (es' ++ [.ref t5]))) (encJ (.row oo mm)) (.ref t5) := ⟨t5, _, rfl, q2 _ _ upd_same, _, _, rfl, rfl, _, _, rfl, ⟨t4, rest, rfl, q2 _ _ (st5 _ _ upd_same), (hrest.same st0).mono tq⟩, _, _, rfl, rfl, rfl⟩
        have hja6 := tq _ _ hja2
        have hra6 := tq _ _ hra2
        have hpx6 := tq _ _ hpx3
        have hx26 := Is.mono tq _ (hx2.same st0)
        have hE6 := hE2.mono tq
        generalize upd (upd (upd H3 t4 (.tup rest)) t5 (.tup [.str "row", .ref t4, .int mm])) p2 (.lst (es' ++ [.ref t5])) = H6 at *
        -- tag, kids = job[1][0]
        refine ⟨_, rfl, ja, _, 1, .ref ra, rfl, rfl, SqT.of hja6, rfl, ra, _, 0, .ref px, rfl, rfl, SqT.of hra6, atI_nat (j := 0) rfl, px, _, rfl, SqT.of hpx6, rfl, _, _, rfl, _, _, rfl, rfl, ?_⟩
        obtain ⟨kvs, hd, hk⟩ := id (hW.same s6)
        -- jobs.append(('parts', ways.get(..), kids))
        refine ⟨_, rfl, .inl ⟨rfl, _, SqL.of d2⟩, _, rfl, d, rfl, .inr ⟨kvs, .inl hd⟩, _, rfl, ja, _, 2, .int mm, rfl, rfl, SqT.of hja6, rfl, _, rfl, (by show 2 ≤ sizeLine; decide), fun u1 m1 => ?_⟩
        have r1 := same_new (o := .tup [V.int mm, V.str t]) m1
        refine ⟨_, rfl, _, rfl, ja, _, 2, .int mm, rfl, rfl, SqT.of (r1 _ _ hja6), rfl, (by show 2 ≤ sizeLine; decide), fun u2 m2 => ⟨(by show 1 ≤ sizeLine; decide), fun u3 m3 => ⟨(by show 3 ≤ sizeLine; decide), fun u4 m4 => ⟨(by show 1 ≤ sizeLine; decide), fun u5 m5 => ?_⟩⟩⟩⟩
        have r2 := same_new (o := .tup [V.str "kids", V.int mm]) m2
        have r3 := same_new (o := .tup [V.ref u2]) m3
        have r4 := same_new (o := .tup [V.str "tag", V.str t, V.ref u3]) m4
        have r5 := same_new (o := .tup [V.ref u4]) m5
        have rA := strans r2 (strans r3 (strans r4 r5))
        have r15 := strans r1 rA
        have hparts : ∃ o, DGet (upd (upd (upd (upd (upd H6 u1 (.tup [V.int mm, V.str t])) u2 (.tup [V.str "kids", V.int mm])) u3 (.tup [V.ref u2])) u4 (.tup [V.str "tag", V.str t, V.ref u3])) u5 (.tup [V.ref u4])) d (.ref u1) o ∧ Is (upd (upd (upd (upd (upd H6 u1 (.tup [V.int mm, V.str t])) u2 (.tup [V.str "kids", V.int mm])) u3 (.tup [V.ref u2])) u4 (.tup [V.str "tag", V.str t, V.ref u3])) u5 (.tup [V.ref u4])) (.tup (encPs (partsFor W mm t))) (o.getD (.ref u5)) := by
          refine ⟨_, .inr ⟨kvs, kw mm t, u1, .inl (r15 _ _ hd), rfl, rA _ _ upd_same, rfl⟩, ?_⟩
          rcases hk mm t with ⟨h1, h2⟩ | ⟨ps, v, h1, h2, h3⟩
          · rw [h2]
            unfold partsFor
            rw [h1]
            exact ⟨u5, _, rfl, upd_same, _, _, rfl, ⟨u4, _, rfl, r5 _ _ upd_same, _, _, rfl, rfl, _, _, rfl, rfl, _, _, rfl, ⟨u3, _, rfl, r5 _ _ (r4 _ _ upd_same), _, _, rfl, ⟨u2, _, rfl, r5 _ _ (r4 _ _ (r3 _ _ upd_same)), _, _, rfl, rfl, _, _, rfl, rfl, rfl⟩, rfl⟩, rfl⟩, rfl⟩
          · rw [h2]
            unfold partsFor
            rw [h1]
            exact h3.same r15
        obtain ⟨o, ho1, ho2⟩ := hparts
        refine ⟨o, ho1, ?_⟩
        have s7 := strans s6 r15
        have e0 := r15 _ _ d0
        have e2 := r15 _ _ d2
        have hE7 := hE6.same r15
        have hrow7 := hrow.same r15
        have hx27 := hx26.same r15
        generalize (upd (upd (upd (upd (upd H6 u1 (.tup [V.int mm, V.str t])) u2 (.tup [V.str "kids", V.int mm])) u3 (.tup [V.ref u2])) u4 (.tup [V.str "tag", V.str t, V.ref u3])) u5 (.tup [V.ref u4])) = H7 at *
        refine ⟨_, rfl, (by show 3 ≤ sizeLine; decide), fun u6 m6 => ?_⟩
        have r6 := same_new (o := .tup [.str "parts", o.getD (.ref u5), x2]) m6
        refine ⟨p2, _, _, rfl, rfl, r6 _ _ e2, szJ (by simp; omega), ?_⟩
        have q8 := Tp.mut (p := p2) (o := .lst (es' ++ [.ref t5] ++ [.ref u6])) (r6 _ _ e2) (by intro xs z; cases z)
        have tq8 := (Tp.of r6).trans q8
        refine ⟨wtJ W (.parts (partsFor W mm t) ww :: .row oo mm :: js'.reverse), ?_, acc, es' ++ [.ref t5] ++ [.ref u6], js' ++ [.row oo mm] ++ [.parts (partsFor W mm t) ww], _, _, _, _, rfl, smut (strans s7 r6) n2', by rw [upd_ne h20]; exact r6 _ _ e0, upd_same, ?_, ?_, hal, ?_, ?_⟩
        · simp only [wtJ, Job.wt, wtG]; omega
        · rw [List.map_append, List.map_append]
          exact IsAll.snoc (k := encJ (.parts (partsFor W mm t) ww)) (IsAll.snoc (k := encJ (.row oo mm)) (hE7.mono tq8) (Is.mono tq8 _ hrow7)) ⟨u6, _, rfl, q8 _ _ upd_same, _, _, rfl, rfl, _, _, rfl, Is.mono tq8 _ ho2, _, _, rfl, Is.mono tq8 _ hx27, rfl⟩
        · rw [← hw, List.reverse_append, List.reverse_append]
          simp [outJ, Job.out, change, words_app]
        · rw [List.reverse_append, List.reverse_append]; rfl
        · rw [List.reverse_append, List.reverse_append]
          show wtJ W (.parts (partsFor W mm t) ww :: .row oo mm :: js'.reverse) ≤ 1999999
          simp only [wtJ, Job.wt, wtG] at ht ⊢
          omega
    | parts pp gg =>
      obtain ⟨ja, y1, y2, y3, rfl, hja, hy1, hy2, hy3⟩ := is_three hj1
      cases hy1
      obtain ⟨ra, rxs, rfl, hra, hrxs⟩ := is_tup hy2
      refine ⟨_, rfl, ja, _, 0, .str "parts", rfl, rfl, SqT.of hja, rfl, rfl, _, rfl, ?_⟩
      refine iteF ?_
      refine ⟨_, rfl, ja, _, 0, .str "parts", rfl, rfl, SqT.of hja, rfl, rfl, _, rfl, ?_⟩
      refine iteF ?_
      refine ⟨_, rfl, ja, _, 0, .str "parts", rfl, rfl, SqT.of hja, rfl, rfl, _, rfl, ?_⟩
      refine iteT ?_
      refine ⟨_, rfl, ja, _, 1, .ref ra, rfl, rfl, SqT.of hja, rfl, (Nat.zero_le _), fun t0 nt0 => ?_⟩
      have st0 := same_new (o := .tup []) nt0
      refine ⟨ra, t0, rxs, rfl, rfl, SqT.of (st0 _ _ hra), SqT.of upd_same, _, rfl, ?_⟩
      have s5 := snew (o := .tup []) s4 nt0
      have c0 := st0 _ _ b0
      have c2 := st0 _ _ b2
      have hE2 := hE1.same st0
      have hja2 := st0 _ _ hja
      have hra2 := st0 _ _ hra
      have hg2 := hy3.same st0
      cases pp with
      | nil =>
        cases hrxs
        refine iteF ?_
        refine ⟨wtJ W js'.reverse, by simp only [wtJ, Job.wt, wtP]; omega, acc, es', js', _, _, _, _, rfl, s5, c0, c2, hE2, ?_, hal, rfl, by simp only [wtJ, Job.wt, wtP] at ht; omega⟩
        rw [← hw]
        simp [outJ, Job.out, mk, words]
      | kids mm rr =>
        obtain ⟨x0, rest, rfl, hx0, hrest⟩ := hrxs
        refine iteT ?_
        generalize upd H2 t0 (.tup []) = H3 at *
        have hx03 := hx0.same st0
        -- jobs.append(('parts', job[1][1:], job[2]))
        refine ⟨_, rfl, .inl ⟨rfl, _, SqL.of c2⟩, _, rfl, ja, _, 1, .ref ra, rfl, rfl, SqT.of hja2, rfl, _, rfl, ra, _, rfl, SqT.of hra2, cut1_ne _ _, fun t4 nt4 => ?_⟩
        rw [cut1]
        have st4 := same_new (o := .tup rest) nt4
        refine ⟨_, rfl, ja, _, 2, y3, rfl, rfl, SqT.of (st4 _ _ hja2), rfl, (by show 3 ≤ sizeLine; decide), fun t5 nt5 => ?_⟩
        have st5 := same_new (o := .tup [.str "parts", .ref t4, y3]) nt5
        have st45 := strans st4 st5
        refine ⟨p2, _, _, rfl, rfl, st45 _ _ c2, szJ (by omega), ?_⟩
        have q2 := Tp.mut (p := p2) (o := .lst (es' ++ [.ref t5])) (st45 _ _ c2) (by intro xs z; cases z)
        have s6 := smut (o := .lst (es' ++ [.ref t5])) (strans s5 st45) n2'
        have d0 : upd (upd (upd H3 t4 (.tup rest)) t5 (.tup [.str "parts", .ref t4, y3])) p2 (.lst (es' ++ [.ref t5])) p0 = some (.lst (acc.map V.str)) := by rw [upd_ne h20]; exact st45 _ _ c0
        have tq := (Tp.of st45).trans q2
        have d2 : upd (upd (upd H3 t4 (.tup rest)) t5 (.tup [.str "parts", .ref t4, y3])) p2 (.lst (es' ++ [.ref t5])) p2 = some (.lst (es' ++ [.ref t5])) := upd_same
        have hg6 := Is.mono tq _ hg2
        have hrow : Is (upd (upd (upd H3 t4 (.tup rest)) t5 (.tup [.str "parts", .ref t4, y3])) p2 (.lst (es' ++ [.ref t5]))) (encJ (.parts rr gg)) (.ref t5) := ⟨t5, _, rfl, q2 _ _ upd_same, _, _, rfl, rfl, _, _, rfl, ⟨t4, rest, rfl, q2 _ _ (st5 _ _ upd_same), (hrest.same st0).mono tq⟩, _, _, rfl, hg6, rfl⟩
        have hja6 := tq _ _ hja2
        have hra6 := tq _ _ hra2
        have hx06 := Is.mono tq _ hx03
        have hE6 := hE2.mono tq
        generalize upd (upd (upd H3 t4 (.tup rest)) t5 (.tup [.str "parts", .ref t4, y3])) p2 (.lst (es' ++ [.ref t5])) = H6 at *
        obtain ⟨px, x1, x2, rfl, hpx, hx1, hx2⟩ := is_two hx06
        cases hx1
        cases hx2
        -- part = job[1][0]
        refine ⟨_, rfl, ja, _, 1, .ref ra, rfl, rfl, SqT.of hja6, rfl, ra, _, 0, .ref px, rfl, rfl, SqT.of hra6, atI_nat (j := 0) rfl, ?_⟩
        refine ⟨_, rfl, px, _, 0, .str "kids", rfl, rfl, SqT.of hpx, rfl, rfl, _, rfl, ?_⟩
        refine iteT ?_
        refine ⟨_, rfl, .inl ⟨rfl, _, SqL.of d2⟩, _, rfl, ja, _, 2, y3, rfl, rfl, SqT.of hja6, rfl, _, rfl, px, _, 1, .int mm, rfl, rfl, SqT.of hpx, rfl, (by show 3 ≤ sizeLine; decide), fun u6 m6 => ?_⟩
        have r6 := same_new (o := .tup [.str "row", y3, .int mm]) m6
        refine ⟨p2, _, _, rfl, rfl, r6 _ _ d2, szJ (by simp; omega), ?_⟩
        have q8 := Tp.mut (p := p2) (o := .lst (es' ++ [.ref t5] ++ [.ref u6])) (r6 _ _ d2) (by intro xs z; cases z)
        have tq8 := (Tp.of r6).trans q8
        refine ⟨wtJ W (.row gg mm :: .parts rr gg :: js'.reverse), ?_, acc, es' ++ [.ref t5] ++ [.ref u6], js' ++ [.parts rr gg] ++ [.row gg mm], _, _, _, _, rfl, smut (strans s6 r6) n2', by rw [upd_ne h20]; exact r6 _ _ d0, upd_same, ?_, ?_, hal, ?_, ?_⟩
        · simp only [wtJ, Job.wt, wtP]; omega
        · rw [List.map_append, List.map_append]
          exact IsAll.snoc (k := encJ (.row gg mm)) (IsAll.snoc (k := encJ (.parts rr gg)) (hE6.mono tq8) (Is.mono tq8 _ hrow)) ⟨u6, _, rfl, q8 _ _ upd_same, _, _, rfl, rfl, _, _, rfl, Is.mono tq8 _ hg6, _, _, rfl, rfl, rfl⟩
        · rw [← hw, List.reverse_append, List.reverse_append]
          simp [outJ, Job.out, mk, words_app]
        · rw [List.reverse_append, List.reverse_append]; rfl
        · rw [List.reverse_append, List.reverse_append]
          show wtJ W (.row gg mm :: .parts rr gg :: js'.reverse) ≤ 1999999
          simp only [wtJ, Job.wt, wtP] at ht ⊢
          omega
      | tag t ii rr =>
        obtain ⟨x0, rest, rfl, hx0, hrest⟩ := hrxs
        refine iteT ?_
        generalize upd H2 t0 (.tup []) = H3 at *
        have hx03 := hx0.same st0
        -- jobs.append(('parts', job[1][1:], job[2]))
        refine ⟨_, rfl, .inl ⟨rfl, _, SqL.of c2⟩, _, rfl, ja, _, 1, .ref ra, rfl, rfl, SqT.of hja2, rfl, _, rfl, ra, _, rfl, SqT.of hra2, cut1_ne _ _, fun t4 nt4 => ?_⟩
        rw [cut1]
        have st4 := same_new (o := .tup rest) nt4
        refine ⟨_, rfl, ja, _, 2, y3, rfl, rfl, SqT.of (st4 _ _ hja2), rfl, (by show 3 ≤ sizeLine; decide), fun t5 nt5 => ?_⟩
        have st5 := same_new (o := .tup [.str "parts", .ref t4, y3]) nt5
        have st45 := strans st4 st5
        refine ⟨p2, _, _, rfl, rfl, st45 _ _ c2, szJ (by omega), ?_⟩
        have q2 := Tp.mut (p := p2) (o := .lst (es' ++ [.ref t5])) (st45 _ _ c2) (by intro xs z; cases z)
        have s6 := smut (o := .lst (es' ++ [.ref t5])) (strans s5 st45) n2'
        have d0 : upd (upd (upd H3 t4 (.tup rest)) t5 (.tup [.str "parts", .ref t4, y3])) p2 (.lst (es' ++ [.ref t5])) p0 = some (.lst (acc.map V.str)) := by rw [upd_ne h20]; exact st45 _ _ c0
        have tq := (Tp.of st45).trans q2
        have d2 : upd (upd (upd H3 t4 (.tup rest)) t5 (.tup [.str "parts", .ref t4, y3])) p2 (.lst (es' ++ [.ref t5])) p2 = some (.lst (es' ++ [.ref t5])) := upd_same
        have hg6 := Is.mono tq _ hg2
        have hrow : Is (upd (upd (upd H3 t4 (.tup rest)) t5 (.tup [.str "parts", .ref t4, y3])) p2 (.lst (es' ++ [.ref t5]))) (encJ (.parts rr gg)) (.ref t5) := ⟨t5, _, rfl, q2 _ _ upd_same, _, _, rfl, rfl, _, _, rfl, ⟨t4, rest, rfl, q2 _ _ (st5 _ _ upd_same), (hrest.same st0).mono tq⟩, _, _, rfl, hg6, rfl⟩
        have hja6 := tq _ _ hja2
        have hra6 := tq _ _ hra2
        have hx06 := Is.mono tq _ hx03
        have hE6 := hE2.mono tq
        generalize upd (upd (upd H3 t4 (.tup rest)) t5 (.tup [.str "parts", .ref t4, y3])) p2 (.lst (es' ++ [.ref t5])) = H6 at *
        obtain ⟨px, x1, x2, x3, rfl, hpx, hx1, hx2, hx3⟩ := is_three hx06
        cases hx1
        cases hx2
        -- part = job[1][0]
        refine ⟨_, rfl, ja, _, 1, .ref ra, rfl, rfl, SqT.of hja6, rfl, ra, _, 0, .ref px, rfl, rfl, SqT.of hra6, atI_nat (j := 0) rfl, ?_⟩
        refine ⟨_, rfl, px, _, 0, .str "tag", rfl, rfl, SqT.of hpx, rfl, rfl, _, rfl, ?_⟩
        refine iteF ?_
        refine ⟨_, rfl, .inl ⟨rfl, _, SqL.of d0⟩, _, rfl, px, _, 1, .str t, rfl, rfl, SqT.of hpx, rfl, p0, _, _, rfl, rfl, d0, szL (by omega), ?_⟩
        have q7 := Tp.mut (p := p0) (o := .lst (acc.map V.str ++ [.str t])) d0 (by intro xs z; cases z)
        have s7 := smut (o := .lst (acc.map V.str ++ [.str t])) s6 n0
        have e2 : upd H6 p0 (.lst (acc.map V.str ++ [.str t])) p2 = some (.lst (es' ++ [.ref t5])) := by rw [upd_ne h20.symm]; exact d2
        have e0 : upd H6 p0 (.lst (acc.map V.str ++ [.str t])) p0 = some (.lst (acc.map V.str ++ [.str t])) := upd_same
        have hja7 := q7 _ _ hja6
        have hpx7 := q7 _ _ hpx
        have hx37 := Is.mono q7 _ hx3
        have hg7 := Is.mono q7 _ hg6
        have hrow7 := Is.mono q7 _ hrow
        have hE7 := hE6.mono q7
        generalize upd H6 p0 (.lst (acc.map V.str ++ [.str t])) = H7 at *
        -- jobs.append(('end', None, None))
        refine ⟨_, rfl, .inl ⟨rfl, _, SqL.of e2⟩, (by show 3 ≤ sizeLine; decide), fun u6 m6 => ?_⟩
        have r6 := same_new (o := .tup [.str "end", .non, .non]) m6
        refine ⟨p2, _, _, rfl, rfl, r6 _ _ e2, szJ (by simp; omega), ?_⟩
        have q8 := Tp.mut (p := p2) (o := .lst (es' ++ [.ref t5] ++ [.ref u6])) (r6 _ _ e2) (by intro xs z; cases z)
        have tq8 := (Tp.of r6).trans q8
        have s8 := smut (o := .lst (es' ++ [.ref t5] ++ [.ref u6])) (strans s7 r6) n2'
        have f0 : upd (upd H7 u6 (.tup [.str "end", .non, .non])) p2 (.lst (es' ++ [.ref t5] ++ [.ref u6])) p0 = some (.lst (acc.map V.str ++ [.str t])) := by rw [upd_ne h20]; exact r6 _ _ e0
        have hfin : Is (upd (upd H7 u6 (.tup [.str "end", .non, .non])) p2 (.lst (es' ++ [.ref t5] ++ [.ref u6]))) (encJ .fin) (.ref u6) := ⟨u6, _, rfl, q8 _ _ upd_same, _, _, rfl, rfl, _, _, rfl, rfl, _, _, rfl, rfl, rfl⟩
        -- jobs.append(('parts', part[2], job[2]))
        refine ⟨_, rfl, .inl ⟨rfl, _, SqL.of upd_same⟩, _, rfl, px, _, 2, x3, rfl, rfl, SqT.of (tq8 _ _ hpx7), rfl, _, rfl, ja, _, 2, y3, rfl, rfl, SqT.of (tq8 _ _ hja7), rfl, (by show 3 ≤ sizeLine; decide), fun u7 m7 => ?_⟩
        have r7 := same_new (o := .tup [.str "parts", x3, y3]) m7
        have g2 := r7 _ _ (upd_same (H := upd H7 u6 (.tup [.str "end", .non, .non])) (a := p2) (o := .lst (es' ++ [.ref t5] ++ [.ref u6])))
        refine ⟨p2, _, _, rfl, rfl, g2, szJ (by simp; omega), ?_⟩
        have q9 := Tp.mut (p := p2) (o := .lst (es' ++ [.ref t5] ++ [.ref u6] ++ [.ref u7])) g2 (by intro xs z; cases z)
        have tq9 := (Tp.of r7).trans q9
        have tq89 := tq8.trans tq9
        refine ⟨wtJ W (.parts ii gg :: .fin :: .parts rr gg :: js'.reverse), ?_, acc ++ [t], es' ++ [.ref t5] ++ [.ref u6] ++ [.ref u7], js' ++ [.parts rr gg] ++ [.fin] ++ [.parts ii gg], _, _, _, _, rfl, smut (strans s8 r7) n2', ?_, upd_same, ?_, ?_, by simp; omega, ?_, ?_⟩
        · simp only [wtJ, Job.wt, wtP]; omega
        · rw [upd_ne h20, r7 _ _ f0, List.map_append]; rfl
        · rw [List.map_append, List.map_append, List.map_append]
          exact IsAll.snoc (k := encJ (.parts ii gg)) (IsAll.snoc (k := encJ .fin) (IsAll.snoc (k := encJ (.parts rr gg)) (hE7.mono tq89) (Is.mono tq89 _ hrow7)) (Is.mono tq9 _ hfin)) ⟨u7, _, rfl, q9 _ _ upd_same, _, _, rfl, rfl, _, _, rfl, Is.mono tq89 _ hx37, _, _, rfl, Is.mono tq89 _ hg7, rfl⟩
        · rw [← hw, List.reverse_append, List.reverse_append, List.reverse_append]
          simp [outJ, Job.out, mk, words]
        · rw [List.reverse_append, List.reverse_append, List.reverse_append]; rfl
        · rw [List.reverse_append, List.reverse_append, List.reverse_append]
          show wtJ W (.parts ii gg :: .fin :: .parts rr gg :: js'.reverse) ≤ 1999999
          simp only [wtJ, Job.wt, wtP] at ht ⊢
          omega
end
end K76
set_option Elab.async false
set_option linter.all false
set_option maxRecDepth 100000
set_option maxHeartbeats 4000000
namespace K76
open PySem PySem.Spec PyProof.Rows L2
def spLSpoiled : Sp := fun vs H Q _ => ∃ (vA vF : V) (d : Addr) (vg : V) (A F : Form) (W : Way) (M : Nat) (g : G) (q : Int), vs = [vA, vF, .ref d, .int (M : Int), vg] ∧ Is H (encF A) vA ∧ AOk A ∧ Is H (encF F) vF ∧ WayAt H d W ∧ Ctx F W M ∧ WTok W ∧ Is H (gr g) vg ∧
  g.size ≤ 300 ∧ q ∈ A.starts ∧ isOf A g q = true ∧ good F (valueOf F W M g) = false ∧ ∀ H', L2.Same H H' → Q (.bl true) H'
abbrev st_l_spoiled : Stmt := top 49
theorem sc_l_spoiled : FnScope ["_law_one", "_law_shape_here", "_law_ways_here", "_law_modes", "_law_grove", "_law_words", "_law_coming_here"] ["_law_one", "_law_shape_here", "_law_ways_here", "_law_modes", "_law_grove"] (defScope st_l_spoiled) := ⟨rfl, rfl, rfl, by decide +kernel, rfl, by decide +kernel, by decide +kernel⟩
section
variable {P : Program} {w : World} {K : PySem.W.Frag} {mg : Str → Option Value} {base : Heap}
theorem ok_lspoiled {f : Addr} {fd : FuncData} (F : Fun K "_law_spoiled" "_law_spoiled" st_l_spoiled f fd) (B : Gb mg)
    (Fl_words_of : Callable P w K mg base CX0 1 "_law_words_of" ["_law_grove"] spWords) (Fl_fitting : Callable P w K mg base CX0 2 "_law_fitting" ["_law_shape_here", "_law_words"] spLFitting)
    (Fl_wanted : Callable P w K mg base CX0 1 "_law_wanted" ["_law_shape_here", "_law_value_here"] spLWanted) (Fl_value : Callable P w K mg base CX0 8 "_law_value" ["_law_shape_here", "_law_ways_here", "_law_modes", "_law_words"] spLValue)
    (Fl_coming : Callable P w K mg base CX0 1 "_law_coming" ["_law_ways_here", "_law_grove"] spLComing) :
    FnOk P w K mg base CX0 9 f fd ["_law_one", "_law_shape_here", "_law_ways_here", "_law_modes", "_law_grove"] spLSpoiled := by
  refine F.ok sc_l_spoiled (fun vs H Q E h => ?_) (fun cdv A outer s H vs Q E hr h => ?_)
  · obtain ⟨_, _, _, _, _, _, _, _, _, _, rfl, _⟩ := h
    rfl
  · obtain ⟨vA, vF, d, vg, AA, F, W, M, g, q, rfl, hA, aok, hF, hW, hc, wt, hg, gs, hq, hi, hbad, k⟩ := h
    refine ⟨_, (pss_cons (ps_set (i := 5) sc_l_spoiled.nd rfl (Or.inl rfl) (pe_callF Fl_words_of (hr.mono (by decide)) rfl pass0 (pa_cons (pv 4) pa_nil)))
      (pss_cons (ps_if (PW.pt (pw_or (pt_not (pt_val (pe_callF Fl_fitting (hr.mono (by decide)) rfl pass0 (pa_cons (pv 0) (pa_cons (pv 5) pa_nil))))) (pw_or1 (pt_val (pe_callF Fl_wanted (hr.mono (by decide)) rfl pass0 (pa_cons (pv 1) (pa_cons (pe_callF Fl_value (hr.mono (by decide)) rfl pass0 (pa_cons (pv 1) (pa_cons (pv 2) (pa_cons (pv 3) (pa_cons (pv 5) pa_nil))))) pa_nil))))))) (pss_one (ps_ret pe_bl)) pss_nil)
      (pss_cons (ps_if (pt_cmpR op_gt (pe_callB call_len_seq (by rfl) B.len PySem.boot_len (pa_cons (pv 5) pa_nil)) pe_int (nomark _)) (pss_one (ps_ret pe_bl)) pss_nil)
      (pss_cons (ps_set (i := 6) sc_l_spoiled.nd rfl (Or.inl rfl) (pe_callF Fl_coming (hr.mono (by decide)) rfl pass0 (pa_cons (pv 2) (pa_cons (pv 4) pa_nil))))
      (pss_one (ps_ret (pe_or (pe_cmpR op_ge (pe_callB call_len_seq (by rfl) B.len PySem.boot_len (pa_cons (pv 6) pa_nil)) pe_int (nomark _)) (pe_one (pe_not (pe_callF Fl_fitting (hr.mono (by decide)) rfl pass0 (pa_cons (pv 1) (pa_cons (pv 6) pa_nil)))))))))))), ?_⟩
    have gok := isOf_ok aok.tag hi
    have a1 := aok.rul
    have a2 := aok.end_
    have a3 := aok.sta
    have hfit : fits AA g = true := by
      unfold fits
      rw [List.any_eq_true]
      exact ⟨q, hq, hi⟩
    refine ⟨_, rfl, vg, g, rfl, hg, by omega, fun H1 p s1 n1 hp => ?_⟩
    -- not fitting(one, words) or wanted(..)
    refine ⟨_, rfl, _, rfl, vA, p, AA, g, rfl, hA.same s1, by omega, by omega, by omega, hp, gok, by omega, fun H2 s2 => ⟨_, rfl, ?_⟩⟩
    rw [hfit]
    refine iteF ?_
    have s02 := strans s1 s2
    refine ⟨_, rfl, _, rfl, _, rfl, _, rfl, _, rfl, vF, d, p, F, W, M, g, rfl, hF.same s02, hW.same s02, hc, s2 _ _ hp, gok, by omega, fun H3 v3 s3 h3 => ?_⟩
    have s03 := strans s02 s3
    refine ⟨vF, v3, F, W, M, valueOf F W M g, rfl, hF.same s03, hc, h3, value_ok hc.fok hc.wok g, fun H4 s4 => ⟨_, rfl, ?_⟩⟩
    rw [hbad]
    refine iteF ?_
    have s04 := strans s03 s4
    have hp4 := s4 _ _ (s3 _ _ (s2 _ _ hp))
    have wl : ((words g).map V.str).length = 2 * g.size := by rw [List.length_map, words_len]
    refine ⟨_, rfl, p, _, rfl, .inl (SqL.of hp4), _, _, rfl, rfl, _, rfl, ?_⟩
    rw [wl]
    refine ite2 (fun z => ?_) (fun z => ?_)
    · exact k _ s04
    · have z : ¬ (16 : Int) < ((2 * g.size : Nat) : Int) := fun q => z (decide_eq_true q)
      refine ⟨_, rfl, _, rfl, d, vg, W, M, g, rfl, hW.same s04, hc.wok, hg.same s04, by omega, fun H5 pc l s5 hpc hl => ?_⟩
      have s05 := strans s04 s5
      have ll : (l.map V.str).length = l.length := List.length_map _
      refine ⟨_, rfl, pc, _, rfl, .inl (SqL.of hpc), _, _, rfl, rfl, _, rfl, ?_⟩
      rw [ll]
      refine ite2 (fun z2 => ?_) (fun z2 => ?_)
      · exact k _ s05
      · have z2 : ¬ (900 : Int) ≤ ((l.length : Nat) : Int) := fun q => z2 (decide_eq_true q)
        rcases hl with h | ⟨h, rfl⟩
        · omega
        · have hsz : (change W g 0).size ≤ 1000 := by have := words_len (change W g 0); omega
          refine ⟨_, rfl, _, rfl, vF, pc, F, change W g 0, rfl, hF.same s05, hc.rul, hc.end_, hc.sta, hpc, change_ok wt 0 gok, hsz, fun H6 s6 => ⟨_, rfl, ?_⟩⟩
          rw [← good_fits hc.fok hc.wok hc.mp g, hbad]
          exact k _ (strans s05 s6)
end
/-! ### _law_closing -/
def spLClosing : Sp := fun vs H Q _ => ∃ (vA vF : V) (d a : Addr) (xs : List V) (st : Nat) (rows : List Row) (A F : Form) (W : Way) (M : Nat), vs = [vA, vF, .ref d, .int (M : Int), .ref a, .int (st : Int)] ∧ 1 ≤ st ∧ Is H (encF A) vA ∧ AOk A ∧ Is H (encF F) vF ∧ WayAt H d W ∧ Ctx F W M ∧
  H a = some (.lst xs) ∧ IsAll H (rows.map encT) xs ∧ Tab A F W M rows ∧ ∀ H', L2.Same H H' → Q (.bl true) H'
abbrev st_l_closing : Stmt := top 45
theorem sc_l_closing : FnScope ["_law_one", "_law_shape_here", "_law_ways_here", "_law_modes", "_law_rows", "_law_stride", "_law_known", "_law_kind", "_law_value_here", "_law_grove", "_law_turn", "_law_rule", "_law_inner", "_law_rest", "_law_other", "_law_behind", "_law_above"] ["_law_one", "_law_shape_here", "_law_ways_here", "_law_modes", "_law_rows", "_law_stride"] (defScope st_l_closing) := ⟨rfl, rfl, rfl, by decide +kernel, rfl, by decide +kernel, by decide +kernel⟩
section
variable {P : Program} {w : World} {K : PySem.W.Frag} {mg : Str → Option Value} {base : Heap}
theorem ok_lclosing {f : Addr} {fd : FuncData} (F : Fun K "_law_closing" "_law_closing" st_l_closing f fd) (B : Gb mg)
    (Fl_idle : Callable P w K mg base CX0 1 "_law_idle" ["_law_shape_here", "_law_modes"] spLIdle) (Fl_over : Callable P w K mg base CX0 7 "_law_over" ["_law_shape_here", "_law_ways_here", "_law_modes", "_law_tag", "_law_inner", "_law_others"] spLOver) :
    FnOk P w K mg base CX0 8 f fd ["_law_one", "_law_shape_here", "_law_ways_here", "_law_modes", "_law_rows", "_law_stride"] spLClosing := by
  refine F.ok sc_l_closing (fun vs H Q E h => ?_) (fun cdv A outer s H vs Q E hr h => ?_)
  · obtain ⟨_, _, _, _, _, _, _, _, _, _, _, rfl, _⟩ := h
    rfl
  · obtain ⟨vA, vF, d, a, xs, st, rows, AA, F, W, M, rfl, hst, hA, aok, hF, hW, hc, ha, hxs, tab, k⟩ := h
    have hu := hr.units
    refine ⟨_, (pss_cons (ps_set (i := 6) sc_l_closing.nd rfl (Or.inl rfl) pe_nnew)
      (pss_cons (ps_for PassesOwn.never rfl (pi_list (pv 4)) (pg_tup rfl (pgs_cons (pg_name (i := 7) sc_l_closing.nd rfl (Or.inl rfl)) (pgs_cons (pg_name (i := 8) sc_l_closing.nd rfl (Or.inl rfl)) (pgs_cons (pg_name (i := 9) sc_l_closing.nd rfl (Or.inl rfl)) pgs_nil)))) (pss_one (ps_nput hu (pv 6) (pe_tup (pa_cons (pv 7) (pa_cons (pv 8) pa_nil))) pe_bl rfl)))
      (pss_cons (ps_for PassesOwn.never rfl (pi_tup (pe_ix ix_tup (pv 0) pe_int (fun _ _ => rfl))) (pg_name (i := 7) sc_l_closing.nd rfl (Or.inl rfl)) (pss_one (ps_if (pt_cmp (pc_nnotin hu (pe_tup (pa_cons (pv 7) (pa_cons (pe_callF Fl_idle (hr.mono (by decide)) rfl pass0 (pa_cons (pv 1) (pa_cons (pv 3) pa_nil))) pa_nil))) (pv 6))) (pss_one (ps_ret pe_bl)) pss_nil)))
      (pss_cons (ps_set (i := 10) sc_l_closing.nd rfl (Or.inl rfl) pe_int)
      (pss_cons (ps_for PassesOwn.never rfl (pi_tup (pe_ix ix_tup (pv 0) pe_int (fun _ _ => rfl))) (pg_name (i := 11) sc_l_closing.nd rfl (Or.inl rfl)) (pss_one (ps_for PassesOwn.never rfl (pi_list (pv 4)) (pg_tup rfl (pgs_cons (pg_name (i := 12) sc_l_closing.nd rfl (Or.inl rfl)) (pgs_cons (pg_name (i := 8) sc_l_closing.nd rfl (Or.inl rfl)) (pgs_cons (pg_name (i := 9) sc_l_closing.nd rfl (Or.inl rfl)) pgs_nil)))) (pss_one (ps_for PassesOwn.never rfl (pi_list (pv 4)) (pg_tup rfl (pgs_cons (pg_name (i := 13) sc_l_closing.nd rfl (Or.inl rfl)) (pgs_cons (pg_name (i := 14) sc_l_closing.nd rfl (Or.inl rfl)) (pgs_cons (pg_name (i := 15) sc_l_closing.nd rfl (Or.inl rfl)) pgs_nil)))) (pss_cons (ps_if (PW.pt (pw_or (pt_cmpR op_ne (pv 12) (pe_ix ix_tup (pv 11) pe_int (fun _ _ => rfl)) (nomark _)) (pw_or1 (pt_cmpR op_ne (pv 13) (pe_ix ix_tup (pv 11) pe_int (fun _ _ => rfl)) (nomark _))))) (pss_one ps_continue) pss_nil)
      (pss_cons (ps_set (i := 10) sc_l_closing.nd rfl (Or.inl rfl) (pe_op op_add (pv 10) pe_int))
      (pss_cons (ps_if (pt_cmpR op_ne (pe_op op_modN (pv 10) (pv 5)) pe_int (nomark _)) (pss_one ps_continue) pss_nil)
      (pss_cons (ps_set (i := 16) sc_l_closing.nd rfl (Or.inl rfl) (pe_callF Fl_over (hr.mono (by decide)) rfl pass0 (pa_cons (pv 1) (pa_cons (pv 2) (pa_cons (pv 3) (pa_cons (pe_ix ix_tup (pv 11) pe_int (fun _ _ => rfl)) (pa_cons (pv 8) (pa_cons (pv 14) pa_nil))))))))
      (pss_one (ps_if (pt_cmp (pc_nnotin hu (pe_tup (pa_cons (pe_ix ix_tup (pv 11) pe_int (fun _ _ => rfl)) (pa_cons (pv 16) pa_nil))) (pv 6))) (pss_one (ps_ret pe_bl)) pss_nil)))))))))))
      (pss_one (ps_ret pe_bl))))))), ?_⟩
    obtain ⟨ap, aps, ape, apr, ars, rfl, hAA⟩ := is_form hA
    intro dT nT
    have s0 := same_new (o := ND P w dT []) nT
    have kd0 : KD P w (upd H dT (ND P w dT [])) dT [] := ⟨[], ⟨[], rfl, upd_same, fun p hp => by cases hp⟩, rfl⟩
    have tl := tab.len
    -- known
    refine ⟨_, rfl, a, rfl, ⟨xs, SqL.of (s0 _ _ ha)⟩, for_list (a := a) (xs := xs) (fun i σ H1 => ∃ v7 v8 v9 ks, σ = [some (.ref ap), some vF, some (.ref d), some (.int (M : Int)), some (.ref a), some (.int (st : Int)), some (.ref dT), v7, v8, v9, none, none, none, none, none, none, none] ∧ L2.Same H H1 ∧ KD P w H1 dT ks ∧ ks.length ≤ i ∧ ∀ k, k ∈ (rows.take i).map (·.1) → k ∈ ks)
      ⟨_, _, _, [], rfl, s0, kd0, Nat.le_refl _, fun k hk => by simp at hk⟩ (fun i σ H1 _ ⟨_, _, _, _, _, h, _⟩ => SqL.of (h _ _ ha)) ?_ ?_⟩
    · rintro i x σ H1 hi ⟨v7, v8, v9, ks, rfl, s1, kd1, hkl, hks⟩
      obtain ⟨r, hr', hx⟩ := hxs.getm hi
      have hil : i < rows.length := (List.getElem?_eq_some_iff.mp hr').1
      obtain ⟨tp, y1, y2, y3, rfl, htp, hy1, hy2, hy3⟩ := is_three (hx.same s1)
      cases hy1
      refine ⟨tp, _, rfl, SqT.of htp, rfl, _, _, rfl, _, _, rfl, _, _, rfl, rfl, ?_⟩
      refine ⟨_, rfl, _, rfl, _, rfl, (by show 2 ≤ sizeLine; decide), fun t1 n1 => ?_⟩
      have s5 := same_new (o := .tup [.int r.1.1, y2]) n1
      have vk : Is (upd H1 t1 (.tup [.int r.1.1, y2])) (encK r.1) (.ref t1) := ⟨t1, _, rfl, upd_same, _, _, rfl, rfl, _, _, rfl, hy2.same s5, rfl⟩
      obtain ⟨φ, ψ, q1, q2, q3⟩ := (kd1.same s5).put vk (by omega) (.bl true)
      refine ⟨dT, _, rfl, q2, _, _, _, addP ks r.1, rfl, smut (strans s1 s5) nT, q3, Nat.le_trans addP_len (by omega), fun k hk => ?_⟩
      rw [take_snoc hr', List.map_append, List.mem_append] at hk
      rcases hk with hk | hk
      · exact mem_addP.mpr (.inl (hks k hk))
      · exact mem_addP.mpr (.inr (List.mem_singleton.mp hk))
    · rintro σ H1 ⟨v7, v8, v9, ks, rfl, s1, kd1, hkl, hks⟩
      rw [hxs.lenm, List.take_length] at hks
      have sx : ∀ {H5 : Hp}, L2.Same H1 H5 → FormAt H5 ap AA aps ape apr ars := fun s => hAA.mono (Tp.of (strans s1 s))
      -- for kind in one[2]
      refine ⟨_, rfl, ap, _, 2, _, rfl, rfl, SqT.of (sx (srefl H1)).at_, rfl, ape, rfl, ⟨_, SqT.of (sx (srefl H1)).en⟩, for_tup (a := ape) (xs := AA.ends.map V.int) (fun i σ H5 => ∃ v7, σ = [some (.ref ap), some vF, some (.ref d), some (.int (M : Int)), some (.ref a), some (.int (st : Int)), some (.ref dT), v7, v8, v9, none, none, none, none, none, none, none] ∧ L2.Same H1 H5)
        ⟨_, rfl, srefl H1⟩ (fun i σ H5 _ ⟨_, _, s5⟩ => SqT.of (sx s5).en) ?_ ?_⟩
      · rintro i x σ H5 hi ⟨v7, rfl, s5⟩
        rw [List.getElem?_map] at hi
        obtain ⟨e, he, rfl⟩ := Option.map_eq_some_iff.mp hi
        have s15 := strans s1 s5
        refine ⟨_, rfl, _, rfl, _, rfl, vF, F, W, M, rfl, hF.same s15, hc, fun H6 vn s6 hvn => ⟨(by show 2 ≤ sizeLine; decide), fun t nt => ?_⟩⟩
        have s7 := same_new (o := .tup [.int e, vn]) nt
        have s57 := strans s5 (strans s6 s7)
        obtain ⟨o, ho1, ho2⟩ := (kd1.same s57).get (k := (e, nothing F M)) ⟨t, _, rfl, upd_same, _, _, rfl, rfl, _, _, rfl, hvn.same s7, rfl⟩
        refine ⟨_, rfl, dT, o, rfl, ho1, _, rfl, ?_⟩
        rw [ho2.mpr (hks _ (tab.cl.base e (List.mem_of_getElem? he)))]
        refine iteF ?_
        exact ⟨_, rfl, s57⟩
      · rintro σ H5 ⟨v7, rfl, s5⟩
        have vok : ∀ r ∈ rows, VOk F M r.1.2 := fun r h => by rw [← (tab.ent r h).2.1]; exact value_ok hc.fok hc.wok _
        -- for rule in one[3]
        refine ⟨_, rfl, ap, _, 3, _, rfl, rfl, SqT.of (sx s5).at_, rfl, apr, rfl, ⟨_, SqT.of (sx s5).ru⟩, for_tup (a := apr) (xs := ars) (fun i σ H6 => ∃ (tn : Nat) (v11 v12 v13 v14 v15 v16 v8' v9' : Option V), σ = [some (.ref ap), some vF, some (.ref d), some (.int (M : Int)), some (.ref a), some (.int (st : Int)), some (.ref dT), v7, v8', v9', some (.int (tn : Int)), v11, v12, v13, v14, v15, v16] ∧ L2.Same H1 H6)
          ⟨0, _, _, _, _, _, _, _, _, rfl, s5⟩ (fun i σ H6 _ ⟨_, _, _, _, _, _, _, _, _, _, s6⟩ => SqT.of (sx s6).ru) ?_ ?_⟩
        · rintro i x σ H6 hi ⟨tn, v11, v12, v13, v14, v15, v16, v8', v9', rfl, s6⟩
          obtain ⟨r, hr', hx⟩ := hAA.rs.getm hi
          have rm := List.mem_of_getElem? hr'
          obtain ⟨rp, rfl, hrp0⟩ := is_rule hx
          refine ⟨_, rfl, a, rfl, ⟨xs, SqL.of (strans s1 s6 _ _ ha)⟩, for_list (a := a) (xs := xs) (fun i σ H7 => ∃ (tn : Nat) (v12 v13 v14 v15 v16 v8' v9' : Option V), σ = [some (.ref ap), some vF, some (.ref d), some (.int (M : Int)), some (.ref a), some (.int (st : Int)), some (.ref dT), v7, v8', v9', some (.int (tn : Int)), some (.ref rp), v12, v13, v14, v15, v16] ∧ L2.Same H1 H7)
            ⟨tn, _, _, _, _, _, _, _, rfl, s6⟩ (fun i σ H7 _ ⟨_, _, _, _, _, _, _, _, _, s7⟩ => SqL.of (strans s1 s7 _ _ ha)) ?_ ?_⟩
          · rintro j y σ H7 hj ⟨tn, v12, v13, v14, v15, v16, v8', v9', rfl, s7⟩
            obtain ⟨ra, hra', hy⟩ := hxs.getm hj
            have ram := List.mem_of_getElem? hra'
            obtain ⟨ta, y1, y2, y3, rfl, hta, hy1, hy2, hy3⟩ := is_three (hy.same (strans s1 s7))
            cases hy1
            refine ⟨ta, _, rfl, SqT.of hta, rfl, _, _, rfl, _, _, rfl, _, _, rfl, rfl, ?_⟩
            refine ⟨_, rfl, a, rfl, ⟨xs, SqL.of (strans s1 s7 _ _ ha)⟩, for_list (a := a) (xs := xs) (fun i σ H8 => ∃ (tn : Nat) (v13 v14 v15 v16 : Option V), σ = [some (.ref ap), some vF, some (.ref d), some (.int (M : Int)), some (.ref a), some (.int (st : Int)), some (.ref dT), v7, some y2, some y3, some (.int (tn : Int)), some (.ref rp), some (.int ra.1.1), v13, v14, v15, v16] ∧ L2.Same H7 H8)
              ⟨tn, _, _, _, _, rfl, srefl H7⟩ (fun i σ H8 _ ⟨_, _, _, _, _, _, s8⟩ => SqL.of (strans s1 (strans s7 s8) _ _ ha)) ?_ ?_⟩
            · rintro l z σ H8 hl ⟨tn, v13, v14, v15, v16, rfl, s8⟩
              obtain ⟨rb, hrb', hz⟩ := hxs.getm hl
              have rbm := List.mem_of_getElem? hrb'
              have s18 := strans s1 (strans s7 s8)
              obtain ⟨tb, z1, z2, z3, rfl, htb, hz1, hz2, hz3⟩ := is_three (hz.same s18)
              cases hz1
              have hrp : H8 rp = some (.tup [.int r.kind, .str r.tag, .int r.inner, .int r.rest]) := s18 _ _ hrp0
              refine ⟨tb, _, rfl, SqT.of htb, rfl, _, _, rfl, _, _, rfl, _, _, rfl, rfl, ?_⟩
              refine ⟨_, rfl, _, rfl, rp, _, 2, .int r.inner, rfl, rfl, SqT.of hrp, rfl, rfl, _, rfl, ?_⟩
              refine ite2 (fun q1 => ?_) (fun q1 => ?_)
              · refine iteT ?_
                exact ⟨tn, _, _, _, _, rfl, s8⟩
              have e1 : ra.1.1 = r.inner := by
                simp only [Bool.not_eq_true', decide_eq_false_iff_not, Classical.not_not] at q1
                injection q1
              refine ⟨_, rfl, _, rfl, rp, _, 3, .int r.rest, rfl, rfl, SqT.of hrp, rfl, rfl, _, rfl, ?_⟩
              refine ite2 (fun q2 => ?_) (fun q2 => ?_)
              · exact ⟨tn, _, _, _, _, rfl, s8⟩
              have e2 : rb.1.1 = r.rest := by
                simp only [Bool.not_eq_true', decide_eq_false_iff_not, Classical.not_not] at q2
                injection q2
              -- turn = turn + 1
              refine ⟨_, rfl, _, _, rfl, rfl, ?_⟩
              refine ⟨_, rfl, _, rfl, _, _, rfl, rfl, (by omega), rfl, _, rfl, ?_⟩
              refine ite2 (fun q3 => ?_) (fun q3 => ?_)
              · exact ⟨tn + 1, _, _, _, _, rfl, s8⟩
              -- above
              refine ⟨_, rfl, _, rfl, _, rfl, _, rfl, rp, _, 1, .str r.tag, rfl, rfl, SqT.of hrp, rfl, _, rfl, _, rfl, ?_⟩
              refine ⟨vF, d, r.tag, y2, z2, ra.1.2, rb.1.2, F, W, M, rfl, hF.same s18, hW.same s18, hc, hy2.same s8, hz2, vok ra ram, vok rb rbm, fun H9 va s9 hva => ?_⟩
              refine ⟨_, rfl, rp, _, 0, .int r.kind, rfl, rfl, SqT.of (s9 _ _ hrp), rfl, _, rfl, (by show 2 ≤ sizeLine; decide), fun t nt => ?_⟩
              have s10 := same_new (o := .tup [.int r.kind, va]) nt
              have s710 := strans s8 (strans s9 s10)
              obtain ⟨o, ho1, ho2⟩ := (kd1.same (strans s7 s710)).get (k := (r.kind, above F W M r.tag ra.1.2 rb.1.2)) ⟨t, _, rfl, upd_same, _, _, rfl, rfl, _, _, rfl, hva.same s10, rfl⟩
              refine ⟨_, rfl, dT, o, rfl, ho1, _, rfl, ?_⟩
              rw [ho2.mpr (hks _ (tab.cl.step r rm ra.1.2 rb.1.2 (by rw [← e1]; exact List.mem_map_of_mem (f := (·.1)) ram) (by rw [← e2]; exact List.mem_map_of_mem (f := (·.1)) rbm)))]
              refine iteF ?_
              exact ⟨tn + 1, _, _, _, _, rfl, s710⟩
            · rintro σ H8 ⟨tn, v13, v14, v15, v16, rfl, s8⟩
              exact ⟨tn, _, _, _, _, _, _, _, rfl, strans s7 s8⟩
          · rintro σ H7 ⟨tn, v12, v13, v14, v15, v16, v8', v9', rfl, s7⟩
            exact ⟨tn, _, _, _, _, _, _, _, _, rfl, s7⟩
        · rintro σ H6 ⟨tn, v11, v12, v13, v14, v15, v16, v8', v9', rfl, s6⟩
          exact k _ (strans s1 s6)
end
end K76
set_option Elab.async false
set_option linter.all false
set_option maxRecDepth 100000
set_option maxHeartbeats 4000000
namespace K76
open PySem PySem.Spec PyProof.Rows L2
def StepCl (A F : Form) (W : Way) (M : Nat) (ks : List KV2) : Prop := ∀ r ∈ A.rules, ∀ v w, (r.inner, v) ∈ ks → (r.rest, w) ∈ ks → (r.kind, above F W M r.tag v w) ∈ ks
theorem addP_ex {ks ex : List KV2} {k : KV2} : ∃ ex', addP (ks ++ ex) k = ks ++ ex' ∧ ex'.length ≤ ex.length + 1 ∧ (k ∈ ks → ex' = ex) := by
  unfold addP
  by_cases z : k ∈ ks ++ ex
  · rw [if_pos z]; exact ⟨ex, rfl, by omega, fun _ => rfl⟩
  · rw [if_neg z]
    exact ⟨ex ++ [k], by simp, by simp, fun h => absurd (List.mem_append_left _ h) z⟩
def spLFew : Sp := fun vs H Q _ => ∃ (vA vF : V) (d : Addr) (A F : Form) (W : Way) (M : Nat), vs = [vA, vF, .ref d, .int (M : Int)] ∧ Is H (encF A) vA ∧ AOk A ∧ Is H (encF F) vF ∧ WayAt H d W ∧ Ctx F W M ∧
  ∀ H' b, L2.Same H H' → (b = true → Few A F W M) → Q (.bl b) H'
abbrev st_l_few : Stmt := top 48
theorem sc_l_few : FnScope ["_law_one", "_law_shape_here", "_law_ways_here", "_law_modes", "_law_known", "_law_kind", "_law_turn", "_law_rows", "_law_rule", "_law_value_here", "_law_rest", "_law_other"] ["_law_one", "_law_shape_here", "_law_ways_here", "_law_modes"] (defScope st_l_few) := ⟨rfl, rfl, rfl, by decide +kernel, rfl, by decide +kernel, by decide +kernel⟩
section
variable {P : Program} {w : World} {K : PySem.W.Frag} {mg : Str → Option Value} {base : Heap}
theorem ok_lfew {f : Addr} {fd : FuncData} (F : Fun K "_law_few" "_law_few" st_l_few f fd) (B : Gb mg)
    (Fl_idle : Callable P w K mg base CX0 1 "_law_idle" ["_law_shape_here", "_law_modes"] spLIdle) (Fl_over : Callable P w K mg base CX0 7 "_law_over" ["_law_shape_here", "_law_ways_here", "_law_modes", "_law_tag", "_law_inner", "_law_others"] spLOver) :
    FnOk P w K mg base CX0 8 f fd ["_law_one", "_law_shape_here", "_law_ways_here", "_law_modes"] spLFew := by
  refine F.ok sc_l_few (fun vs H Q E h => ?_) (fun cdv A outer s H vs Q E hr h => ?_)
  · obtain ⟨_, _, _, _, _, _, _, rfl, _⟩ := h
    rfl
  · obtain ⟨vA, vF, d, AA, F, W, M, rfl, hA, aok, hF, hW, hc, k⟩ := h
    have hu := hr.units
    refine ⟨_, (pss_cons (ps_set (i := 4) sc_l_few.nd rfl (Or.inl rfl) pe_nnew)
      (pss_cons (ps_for PassesOwn.never rfl (pi_tup (pe_ix ix_tup (pv 0) pe_int (fun _ _ => rfl))) (pg_name (i := 5) sc_l_few.nd rfl (Or.inl rfl)) (pss_one (ps_nput hu (pv 4) (pe_tup (pa_cons (pv 5) (pa_cons (pe_callF Fl_idle (hr.mono (by decide)) rfl pass0 (pa_cons (pv 1) (pa_cons (pv 3) pa_nil))) pa_nil))) pe_bl rfl)))
      (pss_cons (ps_for PassesOwn.never rfl (pi_range1 rfl B.range (pa_cons pe_int pa_nil)) (pg_name (i := 6) sc_l_few.nd rfl (Or.inl rfl)) (pss_cons (ps_set (i := 7) sc_l_few.nd rfl (Or.inl rfl) (pe_callTy (call_list_N rfl) (by rfl) B.list (by decide +kernel) (pa_cons (pv 4) pa_nil)))
      (pss_cons (ps_if (pt_cmpR op_gt (pe_callB call_len_seq (by rfl) B.len PySem.boot_len (pa_cons (pv 7) pa_nil)) pe_int (nomark _)) (pss_one (ps_ret pe_bl)) pss_nil)
      (pss_one (ps_for PassesOwn.never rfl (pi_tup (pe_ix ix_tup (pv 0) pe_int (fun _ _ => rfl))) (pg_name (i := 8) sc_l_few.nd rfl (Or.inl rfl)) (pss_one (ps_for PassesOwn.never rfl (pi_list (pv 7)) (pg_tup rfl (pgs_cons (pg_name (i := 5) sc_l_few.nd rfl (Or.inl rfl)) (pgs_cons (pg_name (i := 9) sc_l_few.nd rfl (Or.inl rfl)) pgs_nil))) (pss_one (ps_for PassesOwn.never rfl (pi_list (pv 7)) (pg_tup rfl (pgs_cons (pg_name (i := 10) sc_l_few.nd rfl (Or.inl rfl)) (pgs_cons (pg_name (i := 11) sc_l_few.nd rfl (Or.inl rfl)) pgs_nil))) (pss_one (ps_if (PW.pt (pw_and (pt_cmpR op_eq (pv 5) (pe_ix ix_tup (pv 8) pe_int (fun _ _ => rfl)) (nomark _)) (pw_and1 (pt_cmpR op_eq (pv 10) (pe_ix ix_tup (pv 8) pe_int (fun _ _ => rfl)) (nomark _))))) (pss_one (ps_nput hu (pv 4) (pe_tup (pa_cons (pe_ix ix_tup (pv 8) pe_int (fun _ _ => rfl)) (pa_cons (pe_callF Fl_over (hr.mono (by decide)) rfl pass0 (pa_cons (pv 1) (pa_cons (pv 2) (pa_cons (pv 3) (pa_cons (pe_ix ix_tup (pv 8) pe_int (fun _ _ => rfl)) (pa_cons (pv 9) (pa_cons (pv 11) pa_nil))))))) pa_nil))) pe_bl rfl)) pss_nil)))))))))))
      (pss_one (ps_ret (pe_cmpR op_lt (pe_callB call_len_N (by rfl) B.len PySem.boot_len (pa_cons (pv 4) pa_nil)) pe_int (nomark _))))))), ?_⟩
    obtain ⟨ap, aps, ape, apr, ars, rfl, hAA⟩ := is_form hA
    intro dT nT
    have s0 := same_new (o := ND P w dT []) nT
    have kd0 : KD P w (upd H dT (ND P w dT [])) dT [] := ⟨[], ⟨[], rfl, upd_same, fun p hp => by cases hp⟩, rfl⟩
    have sx : ∀ {H5 : Hp}, L2.Same H H5 → FormAt H5 ap AA aps ape apr ars := fun s => hAA.mono (Tp.of s)
    have e10 := aok.end_
    -- for kind in one[2]: known[kind, idle] = True
    refine ⟨_, rfl, ap, _, 2, _, rfl, rfl, SqT.of (sx s0).at_, rfl, ape, rfl, ⟨_, SqT.of (sx s0).en⟩, for_tup (a := ape) (xs := AA.ends.map V.int) (fun i σ H1 => ∃ v5 ks, σ = [some (.ref ap), some vF, some (.ref d), some (.int (M : Int)), some (.ref dT), v5, none, none, none, none, none, none] ∧ L2.Same H H1 ∧ KD P w H1 dT ks ∧ ks.length ≤ i ∧ (∀ x ∈ ks, VOk F M x.2) ∧ ∀ e ∈ AA.ends.take i, (e, nothing F M) ∈ ks)
      ⟨_, [], rfl, s0, kd0, Nat.le_refl _, fun x hx => (by cases hx), fun e he => (by simp at he)⟩ (fun i σ H1 _ ⟨_, _, _, s1, _⟩ => SqT.of (sx s1).en) ?_ ?_⟩
    · rintro i x σ H1 hi ⟨v5, ks, rfl, s1, kd1, hkl, hv, hks⟩
      rw [List.getElem?_map] at hi
      obtain ⟨e, he, rfl⟩ := Option.map_eq_some_iff.mp hi
      have hil : i < AA.ends.length := (List.getElem?_eq_some_iff.mp he).1
      refine ⟨_, rfl, _, rfl, _, rfl, _, rfl, vF, F, W, M, rfl, hF.same s1, hc, fun H2 vn s2 hvn => ⟨(by show 2 ≤ sizeLine; decide), fun t nt => ?_⟩⟩
      have s3 := same_new (o := .tup [.int e, vn]) nt
      have s23 := strans s2 s3
      obtain ⟨φ, ψ, q1, q2, q3⟩ := (kd1.same s23).put (k := (e, nothing F M)) ⟨t, _, rfl, upd_same, _, _, rfl, rfl, _, _, rfl, hvn.same s3, rfl⟩ (by omega) (.bl true)
      refine ⟨dT, _, rfl, q2, _, addP ks (e, nothing F M), rfl, smut (strans s1 s23) nT, q3, Nat.le_trans addP_len (by omega), fun x hx => ?_, fun e' he' => ?_⟩
      · rcases mem_addP.mp hx with h | rfl
        · exact hv x h
        · exact nothing_ok
      · rw [take_snoc he, List.mem_append, List.mem_singleton] at he'
        rcases he' with h | rfl
        · exact mem_addP.mpr (.inl (hks e' h))
        · exact mem_addP.mpr (.inr rfl)
    · rintro σ H1 ⟨v5, ks1, rfl, s1, kd1, hkl1, hv1, hks1⟩
      rw [List.length_map, List.take_length] at hks1
      have ne1 : 1 ≤ ks1.length := by
        cases e : AA.ends with
        | nil => exact absurd e aok.fok.ene
        | cons a b =>
          have := hks1 a (by rw [e]; simp)
          exact List.length_pos_of_mem this
      -- for turn in range(10)
      refine ⟨10, rfl, by decide, by decide, for_range (lo := 0) (n := 10) (fun i σ H2 => ∃ v5 v6 v7 v8 v9 v10 v11 ks, σ = [some (.ref ap), some vF, some (.ref d), some (.int (M : Int)), some (.ref dT), v5, v6, v7, v8, v9, v10, v11] ∧ L2.Same H H2 ∧ KD P w H2 dT ks ∧ (∀ x ∈ ks, VOk F M x.2) ∧ (∀ e ∈ AA.ends, (e, nothing F M) ∈ ks) ∧ (StepCl AA F W M ks ∨ i + 1 ≤ ks.length))
        ⟨_, _, _, _, _, _, _, ks1, rfl, s1, kd1, hv1, hks1, .inr ne1⟩ ?_ ?_⟩
      · rintro i σ H2 hi10 ⟨v5, v6, v7, v8, v9, v10, v11, ks0, rfl, s2, kd2, hv2, hb2, hcl2⟩
        obtain ⟨kvs, ⟨kx, rfl, hdT, hnk⟩, hkeys⟩ := id kd2
        have hkeys' : kx.map (·.1) = ks0.map encK := by
          rw [pairN, List.map_map] at hkeys
          exact hkeys
        have hall : IsAll H2 (ks0.map encK) (nRefs kx) := by
          have := nkeys_all hnk
          rw [hkeys'] at this
          exact this
        refine ⟨_, rfl, dT, kx, rfl, hdT, hnk, fun pr nr => ?_⟩
        have s3 := same_new (o := .lst (nRefs kx)) nr
        have s03 := strans s2 s3
        have hpr0 : upd H2 pr (.lst (nRefs kx)) pr = some (.lst (nRefs kx)) := upd_same
        have hall3 := hall.same s3
        have ln : (nRefs kx).length = ks0.length := hall.lenm
        refine ⟨_, rfl, pr, _, rfl, .inl (SqL.of hpr0), _, _, rfl, rfl, _, rfl, ?_⟩
        rw [ln]
        refine ite2 (fun z => ?_) (fun z => ?_)
        · exact k _ false s03 (fun h => by cases h)
        have z : ¬ (9 : Int) < ((ks0.length : Nat) : Int) := fun q => z (decide_eq_true q)
        have n9 : ks0.length ≤ 9 := by omega
        -- a heap in this turn: known has grown by ex, the rest stands
        generalize hH3 : upd H2 pr (.lst (nRefs kx)) = H3 at *
        have kd3 : KD P w H3 dT (ks0 ++ []) := by rw [List.append_nil]; exact kd2.same s3
        have sty : ∀ {H4 : Hp}, Tp H3 H4 → FormAt H4 ap AA aps ape apr ars := fun t => (sx s03).mono t
        refine ⟨_, rfl, ap, _, 3, _, rfl, rfl, SqT.of (sx s03).at_, rfl, apr, rfl, ⟨_, SqT.of (sx s03).ru⟩, for_tup (a := apr) (xs := ars) (fun i2 σ H4 => ∃ v5 v8 v9 v10 v11 ex, σ = [some (.ref ap), some vF, some (.ref d), some (.int (M : Int)), some (.ref dT), v5, some (.int (0 + (i : Int))), some (.ref pr), v8, v9, v10, v11] ∧ L2.Same H H4 ∧ Tp H3 H4 ∧ H4 pr = some (.lst (nRefs kx)) ∧ KD P w H4 dT (ks0 ++ ex) ∧ (StepCl AA F W M ks0 → ex = []) ∧ (∀ x ∈ ks0 ++ ex, VOk F M x.2) ∧ ex.length ≤ i2 * 81 ∧
          ∀ r ∈ AA.rules.take i2, ∀ x ∈ ks0, ∀ y ∈ ks0, x.1 = r.inner → y.1 = r.rest → (r.kind, above F W M r.tag x.2 y.2) ∈ ks0 ++ ex)
          ⟨_, _, _, _, _, [], rfl, s03, Tp.refl _, hpr0, kd3, fun _ => rfl, by rw [List.append_nil]; exact hv2, Nat.zero_le _, fun r hr => by simp at hr⟩ (fun i2 σ H4 _ ⟨_, _, _, _, _, _, _, _, t4, _⟩ => SqT.of (sty t4).ru) ?_ ?_⟩
        · rintro i2 x σ H4 hi2 ⟨v5, v8, v9, v10, v11, ex, rfl, s4, t4, hpr4, kd4, hex4, hv4, hel4, hd4⟩
          obtain ⟨r, hr', hx⟩ := hAA.rs.getm hi2
          have rm := List.mem_of_getElem? hr'
          have ril : i2 < AA.rules.length := (List.getElem?_eq_some_iff.mp hr').1
          have r12 := aok.rul
          obtain ⟨rp, rfl, hrp0⟩ := is_rule (hx.same s03)
          refine ⟨_, rfl, pr, rfl, ⟨_, SqL.of hpr4⟩, for_list (a := pr) (xs := nRefs kx) (fun j σ H5 => ∃ v5 v9 v10 v11 ex2, σ = [some (.ref ap), some vF, some (.ref d), some (.int (M : Int)), some (.ref dT), v5, some (.int (0 + (i : Int))), some (.ref pr), some (.ref rp), v9, v10, v11] ∧ L2.Same H H5 ∧ Tp H3 H5 ∧ H5 pr = some (.lst (nRefs kx)) ∧ KD P w H5 dT (ks0 ++ ex2) ∧ (StepCl AA F W M ks0 → ex2 = []) ∧ (∀ x ∈ ks0 ++ ex2, VOk F M x.2) ∧ ex2.length ≤ i2 * 81 + j * 9 ∧ (∀ y ∈ ks0 ++ ex, y ∈ ks0 ++ ex2) ∧
            ∀ x ∈ ks0.take j, ∀ y ∈ ks0, x.1 = r.inner → y.1 = r.rest → (r.kind, above F W M r.tag x.2 y.2) ∈ ks0 ++ ex2)
            ⟨_, _, _, _, ex, rfl, s4, t4, hpr4, kd4, hex4, hv4, by omega, fun y hy => hy, fun x hx => by simp at hx⟩ (fun j σ H5 _ ⟨_, _, _, _, _, _, _, _, h, _⟩ => SqL.of h) ?_ ?_⟩
          · rintro j y σ H5 hj ⟨v5, v9, v10, v11, ex2, rfl, s5, t5, hpr5, kd5, hex5, hv5, hel5, hm5, hd5⟩
            obtain ⟨x1, hx1', hy⟩ := hall3.getm hj
            have x1m := List.mem_of_getElem? hx1'
            have jl : j < ks0.length := (List.getElem?_eq_some_iff.mp hx1').1
            obtain ⟨ta, y1, y2, rfl, hta, hy1, hy2⟩ := is_two (Is.mono t5 _ hy)
            cases hy1
            refine ⟨ta, _, rfl, SqT.of hta, rfl, _, _, rfl, _, _, rfl, rfl, ?_⟩
            refine ⟨_, rfl, pr, rfl, ⟨_, SqL.of hpr5⟩, for_list (a := pr) (xs := nRefs kx) (fun l σ H6 => ∃ v10 v11 ex3, σ = [some (.ref ap), some vF, some (.ref d), some (.int (M : Int)), some (.ref dT), some (.int x1.1), some (.int (0 + (i : Int))), some (.ref pr), some (.ref rp), some y2, v10, v11] ∧ L2.Same H H6 ∧ Tp H3 H6 ∧ Tp H5 H6 ∧ H6 pr = some (.lst (nRefs kx)) ∧ KD P w H6 dT (ks0 ++ ex3) ∧ (StepCl AA F W M ks0 → ex3 = []) ∧ (∀ x ∈ ks0 ++ ex3, VOk F M x.2) ∧ ex3.length ≤ i2 * 81 + j * 9 + l ∧ (∀ y ∈ ks0 ++ ex2, y ∈ ks0 ++ ex3) ∧
              ∀ y ∈ ks0.take l, x1.1 = r.inner → y.1 = r.rest → (r.kind, above F W M r.tag x1.2 y.2) ∈ ks0 ++ ex3)
              ⟨_, _, ex2, rfl, s5, t5, Tp.refl _, hpr5, kd5, hex5, hv5, by omega, fun y hy => hy, fun x hx => by simp at hx⟩ (fun l σ H6 _ ⟨_, _, _, _, _, _, _, h, _⟩ => SqL.of h) ?_ ?_⟩
            · rintro l z σ H6 hl ⟨v10, v11, ex3, rfl, s6, t6, t56, hpr6, kd6, hex6, hv6, hel6, hm6, hd6⟩
              obtain ⟨x2, hx2', hz⟩ := hall3.getm hl
              have x2m := List.mem_of_getElem? hx2'
              have ll : l < ks0.length := (List.getElem?_eq_some_iff.mp hx2').1
              obtain ⟨tb, z1, z2, rfl, htb, hz1, hz2⟩ := is_two (Is.mono t6 _ hz)
              cases hz1
              have hrp : H6 rp = some (.tup [.int r.kind, .str r.tag, .int r.inner, .int r.rest]) := t6 _ _ hrp0
              have no : ¬ (x1.1 = r.inner ∧ x2.1 = r.rest) → ∃ v10 v11 ex3', [some (V.ref ap), some vF, some (.ref d), some (.int (M : Int)), some (.ref dT), some (.int x1.1), some (.int (0 + (i : Int))), some (.ref pr), some (.ref rp), some y2, some (.int x2.1), some z2] = [some (V.ref ap), some vF, some (.ref d), some (.int (M : Int)), some (.ref dT), some (.int x1.1), some (.int (0 + (i : Int))), some (.ref pr), some (.ref rp), some y2, v10, v11] ∧ L2.Same H H6 ∧ Tp H3 H6 ∧ Tp H5 H6 ∧ H6 pr = some (.lst (nRefs kx)) ∧ KD P w H6 dT (ks0 ++ ex3') ∧ (StepCl AA F W M ks0 → ex3' = []) ∧ (∀ x ∈ ks0 ++ ex3', VOk F M x.2) ∧ ex3'.length ≤ i2 * 81 + j * 9 + (l + 1) ∧ (∀ y ∈ ks0 ++ ex2, y ∈ ks0 ++ ex3') ∧
                  ∀ y ∈ ks0.take (l + 1), x1.1 = r.inner → y.1 = r.rest → (r.kind, above F W M r.tag x1.2 y.2) ∈ ks0 ++ ex3' := fun hno =>
                ⟨_, _, ex3, rfl, s6, t6, t56, hpr6, kd6, hex6, hv6, by omega, hm6, fun y hy h1 h2 => by
                  rw [take_snoc hx2', List.mem_append, List.mem_singleton] at hy
                  rcases hy with hy | rfl
                  · exact hd6 y hy h1 h2
                  · exact absurd ⟨h1, h2⟩ hno⟩
              refine ⟨tb, _, rfl, SqT.of htb, rfl, _, _, rfl, _, _, rfl, rfl, ?_⟩
              refine ⟨_, rfl, _, rfl, rp, _, 2, .int r.inner, rfl, rfl, SqT.of hrp, rfl, rfl, _, rfl, ?_⟩
              refine ite2 (fun q1 => ?_) (fun q1 => ?_)
              · have e1 : x1.1 = r.inner := by
                  have := of_decide_eq_true q1
                  injection this
                refine ⟨_, rfl, _, rfl, rp, _, 3, .int r.rest, rfl, rfl, SqT.of hrp, rfl, rfl, _, rfl, ?_⟩
                refine ite2 (fun q2 => ?_) (fun q2 => ?_)
                · have e2 : x2.1 = r.rest := by
                    have := of_decide_eq_true q2
                    injection this
                  -- known[rule[0], over(..)] = True
                  have vk1 := hv6 x1 (List.mem_append_left _ x1m)
                  have vk2 := hv6 x2 (List.mem_append_left _ x2m)
                  refine ⟨_, rfl, _, rfl, rp, _, 0, .int r.kind, rfl, rfl, SqT.of hrp, rfl, _, rfl, _, rfl, _, rfl, _, rfl, rp, _, 1, .str r.tag, rfl, rfl, SqT.of hrp, rfl, _, rfl, _, rfl, ?_⟩
                  refine ⟨vF, d, r.tag, y2, z2, x1.2, x2.2, F, W, M, rfl, hF.same s6, hW.same s6, hc, Is.mono t56 _ hy2, hz2, vk1, vk2, fun H7 va s7 hva => ⟨(by show 2 ≤ sizeLine; decide), fun t nt => ?_⟩⟩
                  have s8 := same_new (o := .tup [.int r.kind, va]) nt
                  have s68 := strans s7 s8
                  have exl : (ks0 ++ ex3).length ≤ 100000 := by
                    rw [List.length_append]
                    have : i2 * 81 ≤ 12 * 81 := Nat.mul_le_mul_right _ (by omega)
                    omega
                  obtain ⟨φ, ψ, p1, p2, p3⟩ := (kd6.same s68).put (k := (r.kind, above F W M r.tag x1.2 x2.2)) ⟨t, _, rfl, upd_same, _, _, rfl, rfl, _, _, rfl, hva.same s8, rfl⟩ exl (.bl true)
                  obtain ⟨ex4, f1, f2, f3⟩ := addP_ex (ks := ks0) (ex := ex3) (k := (r.kind, above F W M r.tag x1.2 x2.2))
                  have tp9 := Tp.mut (o := .ext ψ) p1 (by intro z y; cases y)
                  have t69 := (Tp.of s68).trans tp9
                  have mem4 : ∀ y, y ∈ ks0 ++ ex4 ↔ y ∈ ks0 ++ ex3 ∨ y = (r.kind, above F W M r.tag x1.2 x2.2) := fun y => by rw [← f1, mem_addP]
                  refine ⟨dT, _, rfl, p2, _, _, ex4, rfl, smut (strans s6 s68) nT, t6.trans t69, t56.trans t69, ?_, by rw [← f1]; exact p3, fun hs => ?_, fun x hx => ?_, by omega, fun y hy => (mem4 y).mpr (.inl (hm6 y hy)), fun y hy h1 h2 => ?_⟩
                  · rw [upd_ne (ne_of (s68 _ _ hpr6) p1 (by intro z; cases z))]; exact s68 _ _ hpr6
                  · have : (r.kind, above F W M r.tag x1.2 x2.2) ∈ ks0 := hs r rm x1.2 x2.2 (by rw [← e1]; exact x1m) (by rw [← e2]; exact x2m)
                    rw [f3 this]; exact hex6 hs
                  · rcases (mem4 x).mp hx with h | rfl
                    · exact hv6 x h
                    · exact above_ok hc.fok hc.wok vk1 vk2
                  · rw [take_snoc hx2', List.mem_append, List.mem_singleton] at hy
                    rcases hy with hy | rfl
                    · exact (mem4 _).mpr (.inl (hd6 y hy h1 h2))
                    · exact (mem4 _).mpr (.inr rfl)
                · exact no fun h => q2 (decide_eq_true (by rw [h.2]))
              · exact no fun h => q1 (decide_eq_true (by rw [h.1]))
            · rintro σ H6 ⟨v10, v11, ex3, rfl, s6, t6, t56, hpr6, kd6, hex6, hv6, hel6, hm6, hd6⟩
              rw [ln, List.take_length] at hd6
              rw [ln] at hel6
              refine ⟨_, _, _, _, ex3, rfl, s6, t6, hpr6, kd6, hex6, hv6, by omega, fun y hy => hm6 y (hm5 y hy), fun x' hx' y' hy' h1 h2 => ?_⟩
              rw [take_snoc hx1', List.mem_append, List.mem_singleton] at hx'
              rcases hx' with hx' | hx'
              · exact hm6 _ (hd5 x' hx' y' hy' h1 h2)
              · rw [hx'] at h1 ⊢
                exact hd6 y' hy' h1 h2
          · rintro σ H5 ⟨v5, v9, v10, v11, ex2, rfl, s5, t5, hpr5, kd5, hex5, hv5, hel5, hm5, hd5⟩
            rw [ln, List.take_length] at hd5
            rw [ln] at hel5
            refine ⟨_, _, _, _, _, ex2, rfl, s5, t5, hpr5, kd5, hex5, hv5, by omega, fun r2 hr2 x' hx' y' hy' h1 h2 => ?_⟩
            rw [take_snoc hr', List.mem_append, List.mem_singleton] at hr2
            rcases hr2 with hr2 | hr2
            · exact hm5 _ (hd4 r2 hr2 x' hx' y' hy' h1 h2)
            · rw [hr2] at h1 h2 ⊢
              exact hd5 x' hx' y' hy' h1 h2
        · rintro σ H4 ⟨v5, v8, v9, v10, v11, ex, rfl, s4, t4, hpr4, kd4, hex4, hv4, hel4, hd4⟩
          rw [hAA.rs.lenm, List.take_length] at hd4
          refine ⟨_, _, _, _, _, _, _, ks0 ++ ex, rfl, s4, kd4, hv4, fun e he => List.mem_append_left _ (hb2 e he), ?_⟩
          rcases hcl2 with h | h
          · rw [hex4 h, List.append_nil]; exact .inl h
          · cases ex with
            | nil =>
              refine .inl ?_
              rw [List.append_nil] at hd4 ⊢
              exact fun r hr v w hv hw => hd4 r hr (r.inner, v) hv (r.rest, w) hw rfl rfl
            | cons a b =>
              refine .inr ?_
              rw [List.length_append, List.length_cons]
              omega
      · rintro σ H2 ⟨v5, v6, v7, v8, v9, v10, v11, ks, rfl, s2, kd2, hv2, hb2, hcl2⟩
        obtain ⟨kvs, hN, hkeys⟩ := id kd2
        have hl : kvs.length = ks.length := by have := congrArg List.length hkeys; simpa using this
        refine ⟨_, rfl, dT, kvs, rfl, hN, _, _, rfl, rfl, ?_⟩
        rw [hl]
        refine k _ _ s2 fun hb => ?_
        have hb := of_decide_eq_true hb
        rcases hcl2 with h | h
        · exact ⟨ks, by omega, ⟨hb2, h⟩⟩
        · omega
end
end K76
set_option Elab.async false
set_option linter.all false
set_option maxRecDepth 100000
set_option maxHeartbeats 4000000
namespace K76
open PySem PySem.Spec PyProof.Rows L2
theorem lay_map {α : Type} {f : α → D} (h : ∀ a, (f a).data.canLay0 = true) : ∀ l : List α, PyData.canLayAll0 (NestedKey.datas (l.map f)) = true
  | [] => rfl
  | a :: l => by
    show ((f a).data.canLay0 && PyData.canLayAll0 (NestedKey.datas (l.map f))) = true
    rw [h a, lay_map h l]; rfl
theorem lay_V (v : Val) : (encV v).data.canLay0 = true := lay_map (f := encL) (fun l => lay_map (f := encP) (fun p => rfl) l) v
theorem shaped_V (v : Val) : SeqAt.shaped (encV v).data = true := by
  unfold SeqAt.shaped
  rw [lay_V, depth_data]
  have := encV_depth v
  simp
  omega
def spLSafe : Sp := fun vs H Q _ => ∃ (vA vF : V) (d a : Addr) (xs : List V) (rows : List Row) (A F : Form) (W : Way) (M : Nat), vs = [vA, vF, .ref d, .int (M : Int), .ref a] ∧ Is H (encF A) vA ∧ AOk A ∧ Is H (encF F) vF ∧ WayAt H d W ∧ Ctx F W M ∧
  H a = some (.lst xs) ∧ IsAll H (rows.map encT) xs ∧ Tab A F W M rows ∧ (∀ r ∈ rows, r.1.1 ∈ A.starts → good F r.1.2 = true) ∧ ∀ H', L2.Same H H' → Q (.bl true) H'
abbrev st_l_safe : Stmt := top 46
theorem sc_l_safe : FnScope ["_law_one", "_law_shape_here", "_law_ways_here", "_law_modes", "_law_rows", "_law_stride", "_law_k", "_law_kind", "_law_value_here", "_law_grove", "_law_words"] ["_law_one", "_law_shape_here", "_law_ways_here", "_law_modes", "_law_rows"] (defScope st_l_safe) := ⟨rfl, rfl, rfl, by decide +kernel, rfl, by decide +kernel, by decide +kernel⟩
section
variable {P : Program} {w : World} {K : PySem.W.Frag} {mg : Str → Option Value} {base : Heap}
theorem ok_lsafe {f : Addr} {fd : FuncData} (F : Fun K "_law_safe" "_law_safe" st_l_safe f fd) (B : Gb mg)
    (Fl_words_of : Callable P w K mg base CX0 1 "_law_words_of" ["_law_grove"] spWords) (Fl_kinds : Callable P w K mg base CX0 1 "_law_kinds" ["_law_shape_here", "_law_words"] spLKinds)
    (Fl_wanted : Callable P w K mg base CX0 1 "_law_wanted" ["_law_shape_here", "_law_value_here"] spLWanted) (Fl_value : Callable P w K mg base CX0 8 "_law_value" ["_law_shape_here", "_law_ways_here", "_law_modes", "_law_words"] spLValue)
    (Fl_closing : Callable P w K mg base CX0 8 "_law_closing" ["_law_one", "_law_shape_here", "_law_ways_here", "_law_modes", "_law_rows", "_law_stride"] spLClosing) :
    FnOk P w K mg base CX0 9 f fd ["_law_one", "_law_shape_here", "_law_ways_here", "_law_modes", "_law_rows"] spLSafe := by
  refine F.ok sc_l_safe (fun vs H Q E h => ?_) (fun cdv A outer s H vs Q E hr h => ?_)
  · obtain ⟨_, _, _, _, _, _, _, _, _, _, rfl, _⟩ := h
    rfl
  · obtain ⟨vA, vF, d, a, xs, rows, AA, F, W, M, rfl, hA, aok, hF, hW, hc, ha, hxs, tab, hgood, k⟩ := h
    have hu := hr.units
    refine ⟨_, (pss_cons (ps_set (i := 5) sc_l_safe.nd rfl (Or.inl rfl) (pe_op op_add pe_int (pe_op op_mul (pe_op op_fdiv (pe_callB call_len_seq (by rfl) B.len PySem.boot_len (pa_cons (pv 4) pa_nil)) pe_int) (pe_op op_fdiv (pe_callB call_len_seq (by rfl) B.len PySem.boot_len (pa_cons (pv 4) pa_nil)) pe_int))))
      (pss_cons (ps_if (PW.pt (pw_or (pt_not (pt_val (pe_callB call_isi (by rfl) B.isinstance (by decide +kernel) (pa_cons (pv 4) (pa_cons (pe_bltn (v := .ty "list") (by rfl) B.list (by decide +kernel) rfl) pa_nil))))) (pw_or1 (pt_not (pt_val (pe_callF Fl_closing (hr.mono (by decide)) rfl pass0 (pa_cons (pv 0) (pa_cons (pv 1) (pa_cons (pv 2) (pa_cons (pv 3) (pa_cons (pv 4) (pa_cons (pv 5) pa_nil)))))))))))) (pss_one (ps_ret pe_bl)) pss_nil)
      (pss_cons (ps_for PassesOwn.never rfl (pi_range1 rfl B.range (pa_cons (pe_callB call_len_seq (by rfl) B.len PySem.boot_len (pa_cons (pv 4) pa_nil)) pa_nil)) (pg_name (i := 6) sc_l_safe.nd rfl (Or.inl rfl)) (pss_cons (ps_asg (pe_ix ix_list (pv 4) (pv 6) (fun _ _ => rfl)) (pg_tup rfl (pgs_cons (pg_name (i := 7) sc_l_safe.nd rfl (Or.inl rfl)) (pgs_cons (pg_name (i := 8) sc_l_safe.nd rfl (Or.inl rfl)) (pgs_cons (pg_name (i := 9) sc_l_safe.nd rfl (Or.inl rfl)) pgs_nil)))))
      (pss_cons (ps_if (PW.pt (pw_and (pt_cmpR op_in_seq (pv 7) (pe_ix ix_tup (pv 0) pe_int (fun _ _ => rfl)) (by rfl)) (pw_and1 (pt_not (pt_val (pe_callF Fl_wanted (hr.mono (by decide)) rfl pass0 (pa_cons (pv 1) (pa_cons (pv 8) pa_nil)))))))) (pss_one (ps_ret pe_bl)) pss_nil)
      (pss_cons (ps_set (i := 10) sc_l_safe.nd rfl (Or.inl rfl) (pe_callF Fl_words_of (hr.mono (by decide)) rfl pass0 (pa_cons (pv 9) pa_nil)))
      (pss_one (ps_if (PW.pt (pw_and (pt_cmpR op_eq (pe_op op_modN (pv 6) (pv 5)) pe_int (nomark _)) (pw_and1 (pt_cmpR op_lt (pe_callB call_len_seq (by rfl) B.len PySem.boot_len (pa_cons (pv 10) pa_nil)) pe_int (nomark _))))) (pss_one (ps_if (PW.pt (pw_or (pt_cmpR op_notIn_seq (pv 7) (pe_callF Fl_kinds (hr.mono (by decide)) rfl pass0 (pa_cons (pv 0) (pa_cons (pv 10) pa_nil))) (by rfl)) (pw_or1 (pt_cmpR (op_neD hu) (pe_callF Fl_value (hr.mono (by decide)) rfl pass0 (pa_cons (pv 1) (pa_cons (pv 2) (pa_cons (pv 3) (pa_cons (pv 10) pa_nil))))) (pv 8) (nomark _))))) (pss_one (ps_ret pe_bl)) pss_nil)) pss_nil))))))
      (pss_one (ps_ret pe_bl))))), ?_⟩
    obtain ⟨ap, aps, ape, apr, ars, rfl, hAA⟩ := is_form hA
    have a1 := aok.rul
    have a2 := aok.end_
    have tl := tab.len
    have ln := hxs.lenm
    -- stride
    refine ⟨_, rfl, a, xs, rfl, .inl (SqL.of ha), _, _, rfl, rfl, ⟨by decide, by decide⟩, _, rfl, a, xs, rfl, .inl (SqL.of ha), _, _, rfl, rfl, ⟨by decide, by decide⟩, _, _, rfl, rfl, .inl ⟨by omega, by omega⟩, _, _, rfl, rfl, ?_⟩
    obtain ⟨st, hst, hst1⟩ : ∃ st : Nat, (1 : Int) + ((xs.length : Nat) : Int) / 10 * (((xs.length : Nat) : Int) / 10) = (st : Int) ∧ 1 ≤ st := ⟨1 + xs.length / 10 * (xs.length / 10), by push_cast; rfl, by omega⟩
    have hst' : V.int ((1 : Int) + ((xs.length : Nat) : Int) / 10 * (((xs.length : Nat) : Int) / 10)) = V.int (st : Int) := by rw [hst]
    -- isinstance
    refine ⟨_, rfl, _, _, _, _, true, rfl, .ty "list", .base (.lst ha), kit_ty (by decide +kernel), _, rfl, ?_⟩
    refine iteF ?_
    refine ⟨_, rfl, _, rfl, _, rfl, _, rfl, _, rfl, _, rfl, .ref ap, vF, d, a, xs, st, rows, AA, F, W, M, by rw [← hst]; rfl, hst1, hA, aok, hF, hW, hc, ha, hxs, tab, fun H1 s1 => ⟨_, rfl, ?_⟩⟩
    refine iteF ?_
    refine ⟨_, rfl, a, xs, rfl, .inl (SqL.of (s1 _ _ ha)), _, rfl, by omega, by omega, for_range (lo := 0) (n := xs.length) (fun i σ H2 => ∃ v6 v7 v8 v9 v10, σ = [some (.ref ap), some vF, some (.ref d), some (.int (M : Int)), some (.ref a), some (.int (st : Int)), v6, v7, v8, v9, v10] ∧ L2.Same H H2)
      ⟨_, _, _, _, _, by rw [← hst]; rfl, s1⟩ ?_ ?_⟩
    · rintro i σ H2 hi ⟨v6, v7, v8, v9, v10, rfl, s2⟩
      obtain ⟨x, hx⟩ : ∃ x, xs[i]? = some x := ⟨_, List.getElem?_eq_getElem hi⟩
      obtain ⟨r, hr', hxr⟩ := hxs.getm hx
      have rm := List.mem_of_getElem? hr'
      have ent := tab.ent r rm
      obtain ⟨tp, y1, y2, y3, rfl, htp, hy1, hy2, hy3⟩ := is_three (hxr.same s2)
      cases hy1
      have hA2 := hAA.mono (Tp.of s2)
      have gok := isOf_ok aok.tag ent.1
      have g3 := ent.2.2
      have vok : VOk F M r.1.2 := by rw [← ent.2.1]; exact value_ok hc.fok hc.wok _
      refine ⟨_, rfl, _, rfl, a, xs, (0 + (i : Int)), .ref tp, rfl, rfl, SqL.of (s2 _ _ ha), by rw [Int.zero_add]; exact atI_nat hx, tp, _, rfl, SqT.of htp, rfl, _, _, rfl, _, _, rfl, _, _, rfl, rfl, ?_⟩
      -- kind in one[1] and not wanted(..)
      dsimp only
      refine if_mid (fun σ H3 => L2.Same H2 H3 ∧ σ = [some (.ref ap), some vF, some (.ref d), some (.int (M : Int)), some (.ref a), some (.int (st : Int)), some (.int (0 + (i : Int))), some (.int r.1.1), some y2, some y3, v10]) ?_ (fun cont => ?_)
      rotate_left
      · refine ⟨_, rfl, _, rfl, ap, _, 1, _, rfl, rfl, SqT.of hA2.at_, rfl, aps, _, rfl, .inr (SqT.of hA2.st), rfl, flat_ints _, AA.starts.contains r.1.1, inI _ _, ?_⟩
        refine ite2 (fun z => ?_) (fun z => ?_)
        · refine ⟨_, rfl, _, rfl, vF, y2, F, W, M, r.1.2, rfl, hF.same s2, hc, hy2, vok, fun H3 s3 => ⟨_, rfl, ?_⟩⟩
          rw [hgood r rm (List.contains_iff_mem.mp z)]
          refine iteF ?_
          exact cont _ _ ⟨s3, rfl⟩
        · exact cont _ _ ⟨srefl H2, rfl⟩
      · rintro σ H3 ⟨s3, rfl⟩
        have s23 := strans s2 s3
        refine ⟨_, rfl, y3, r.2, rfl, hy3.same s3, by omega, fun H4 p s4 n4 hp => ?_⟩
        have s34 := strans s3 s4
        have s24 := strans s23 s4
        refine ⟨_, rfl, _, rfl, _, _, rfl, rfl, (by omega), rfl, _, rfl, ?_⟩
        refine ite2 (fun z => ?_) (fun z => ?_)
        rotate_left
        · exact ⟨_, _, _, _, _, rfl, s24⟩
        refine ⟨_, rfl, p, _, rfl, .inl (SqL.of hp), _, _, rfl, rfl, _, rfl, ?_⟩
        refine ite2 (fun z2 => ?_) (fun z2 => ?_)
        rotate_left
        · exact ⟨_, _, _, _, _, rfl, s24⟩
        -- kind not in kinds(..) or value(..) != ..
        refine ⟨_, rfl, _, rfl, _, rfl, .ref ap, p, AA, r.2, rfl, hA.same s24, by omega, by omega, hp, gok, by omega, fun H5 q l s5 hq hl => ⟨q, _, rfl, .inl (SqL.of hq), rfl, flat_ints _, false, ?_, ?_⟩⟩
        · show V.bl (!inV (.int r.1.1) (l.map V.int)) = V.bl false
          rw [inV_ints, List.contains_iff_mem.mpr ((hl r.1.1).mpr ent.1)]
          rfl
        refine iteF ?_
        have s25 := strans s24 s5
        refine ⟨_, rfl, _, rfl, _, rfl, _, rfl, vF, d, p, F, W, M, r.2, rfl, hF.same s25, hW.same s25, hc, s5 _ _ hp, gok, by omega, fun H6 v6' s6 h6 => ?_⟩
        rw [ent.2.1] at h6
        refine ⟨_, rfl, (encV r.1.2).data, (encV r.1.2).data, is_dp _ h6, is_dp _ (hy2.same (strans s34 (strans s5 s6))), shaped_V _, shaped_V _, _, rfl, ?_⟩
        rw [SeqAt.eqv_refl _ (lay_V _)]
        refine iteF ?_
        exact ⟨_, _, _, _, _, rfl, strans s25 s6⟩
    · rintro σ H2 ⟨v6, v7, v8, v9, v10, rfl, s2⟩
      exact k _ s2
end
end K76
set_option Elab.async false
set_option linter.all false
set_option maxRecDepth 100000
set_option maxHeartbeats 4000000
namespace K76
open PySem PySem.Spec PyProof.Rows L2
theorem sIx_nat (n d i : Nat) (h : i ≤ n) : HT.sIx n d (some (i : Int)) = i := by
  show (if (i : Int) < 0 then ((i : Int) + (n : Int)).toNat else min ((i : Int)).toNat n) = i
  rw [if_neg (by omega), Int.toNat_natCast]
  exact Nat.min_eq_left h
theorem cut_to (xs : List V) (i : Nat) (h : i ≤ xs.length) : cutV xs none (some (i : Int)) = xs.take i := by
  unfold cutV
  rw [sIx_nat _ _ _ h]
  have : HT.sIx xs.length 0 none = 0 := rfl
  rw [this]; simp
theorem cut_from (xs : List V) (i : Nat) (h : i ≤ xs.length) : cutV xs (some (i : Int)) none = xs.drop i := by
  unfold cutV
  rw [sIx_nat _ _ _ h]
  have : HT.sIx xs.length xs.length none = xs.length := rfl
  rw [this, List.take_of_length_le (by rw [List.length_drop]; exact Nat.le_refl _)]
def spLHolding (CE : Addr) : Sp := fun vs H Q _ => ∃ (pm a : Addr) (vA : V) (xs : List V) (n : Int) (rows : List Row) (A F : Form) (W : Way) (M : Nat), vs = [vA, .ref pm, .ref a, .int n] ∧ Is H (encF A) vA ∧ AOk A ∧ Eff CE H pm F W M ∧ Ctx F W M ∧ H a = some (.lst xs) ∧ IsAll H (rows.map encT) xs ∧ Tab A F W M rows ∧
  ∀ H', L2.Same H H' → Q (.bl true) H'
abbrev st_l_holding : Stmt := top 47
theorem sc_l_holding : FnScope ["_law_one", "_law_effects", "_law_rows", "_law_number", "_law_at"] ["_law_one", "_law_effects", "_law_rows", "_law_number"] (defScope st_l_holding) := ⟨rfl, rfl, rfl, by decide +kernel, rfl, by decide +kernel, by decide +kernel⟩
section
variable {P : Program} {w : World} {K : PySem.W.Frag} {mg : Str → Option Value} {base : Heap} {CE : Addr}
theorem ok_lholding {f : Addr} {fd : FuncData} (F : Fun K "_law_holding" "_law_holding" st_l_holding f fd) (B : Gb mg)
    (F_holds : Callable P w K mg base CX0 8 "holds" ["one", "measure", "rows"] (spHolds CE)) :
    FnOk P w K mg base CX0 9 f fd ["_law_one", "_law_effects", "_law_rows", "_law_number"] (spLHolding CE) := by
  refine F.ok sc_l_holding (fun vs H Q E h => ?_) (fun cdv A outer s H vs Q E hr h => ?_)
  · obtain ⟨_, _, _, _, _, _, _, _, _, _, rfl, _⟩ := h
    rfl
  · obtain ⟨pm, a, vA, xs, n, rows, AA, F, W, M, rfl, hA, aok, hE, hc, ha, hxs, tab, k⟩ := h
    refine ⟨_, (pss_cons (ps_if (pt_cmpR op_gt (pe_callB call_len_seq (by rfl) B.len PySem.boot_len (pa_cons (pv 2) pa_nil)) pe_int (nomark _)) (pss_one (ps_ret pe_bl)) pss_nil)
      (pss_cons (ps_set (i := 4) sc_l_holding.nd rfl (Or.inl rfl) (pe_op op_modN (pv 3) (pe_callB call_len_seq (by rfl) B.len PySem.boot_len (pa_cons (pv 2) pa_nil))))
      (pss_cons (ps_if (pt_cmpR op_notBl (pe_callF F_holds (hr.mono (by decide)) rfl pass0 (pa_cons (pv 0) (pa_cons (pv 1) (pa_cons (pe_callTy call_list_of (by rfl) B.list (by decide +kernel) (pa_cons (pv 2) pa_nil)) pa_nil)))) pe_bl (nomark _)) (pss_one (ps_ret pe_bl)) pss_nil)
      (pss_one (ps_ret (pe_cmpR op_isBl (pe_callF F_holds (hr.mono (by decide)) rfl pass0 (pa_cons (pv 0) (pa_cons (pv 1) (pa_cons (pe_op op_cat (pe_slice sl_list (pv 2) po_none (po_some (pv 4))) (pe_slice sl_list (pv 2) (po_some (pe_op op_add (pv 4) pe_int)) po_none)) pa_nil)))) pe_bl (nomark _))))))), ?_⟩
    have tl := tab.len
    have ln := hxs.lenm
    refine ⟨_, rfl, a, xs, rfl, .inl (SqL.of ha), _, _, rfl, rfl, _, rfl, ?_⟩
    refine ite2 (fun z => ?_) (fun z => ?_)
    · exact k H (srefl H)
    have hpos : 0 < xs.length := by
      cases e : AA.ends with
      | nil => exact absurd e aok.fok.ene
      | cons e1 b =>
        have := tab.cl.base e1 (by rw [e]; simp)
        have := List.length_pos_of_mem this
        rw [List.length_map] at this
        omega
    -- at = number % len(rows)
    refine ⟨_, rfl, _, rfl, a, xs, rfl, .inl (SqL.of ha), _, _, rfl, rfl, (by omega), ?_⟩
    have b1 := Int.fmod_nonneg_of_pos n (b := ((xs.length : Nat) : Int)) (by omega)
    have b2 := Int.fmod_lt_of_pos n (b := ((xs.length : Nat) : Int)) (by omega)
    obtain ⟨i, hi⟩ : ∃ i : Nat, n.fmod ((xs.length : Nat) : Int) = (i : Int) := ⟨(n.fmod ((xs.length : Nat) : Int)).toNat, by omega⟩
    have il : i < xs.length := by omega
    -- holds(one, effects, list(rows)) is not True
    refine ⟨_, rfl, _, rfl, _, rfl, a, xs, rfl, .inl (SqL.of ha), fun l1 n1 => ?_⟩
    have s1 := same_new (o := .lst xs) n1
    refine ⟨pm, l1, vA, xs, rows, AA, F, W, M, rfl, hA.same s1, aok, hE.same s1, hc, upd_same, hxs.same s1, tab.ent, by omega, fun H2 b s2 hb => ?_⟩
    have bt : b = true := hb.mpr tab.cl
    subst bt
    refine ⟨true, true, rfl, rfl, _, rfl, ?_⟩
    refine iteF ?_
    have s12 := strans s1 s2
    -- holds(one, effects, rows[:at] + rows[at + 1:]) is False
    have ea : V.int (n.fmod ((xs.length : Nat) : Int)) = V.int (i : Int) := by rw [hi]
    refine ⟨_, rfl, _, rfl, _, rfl, _, rfl, (i : Int), ea, a, xs, rfl, SqL.of (s12 _ _ ha), fun l2 n2 => ?_⟩
    rw [cut_to xs i (by omega)]
    have s3 := same_new (o := .lst (xs.take i)) n2
    refine ⟨_, rfl, _, rfl, (i : Int), 1, ea, rfl, (i : Int) + 1, rfl, a, xs, rfl, SqL.of (s3 _ _ (s12 _ _ ha)), fun l3 n3 => ?_⟩
    have ec : cutV xs (some ((i : Int) + 1)) none = xs.drop (i + 1) := by
      have := cut_from xs (i + 1) (by omega)
      rw [← this]
      rfl
    rw [ec]
    have s4 := same_new (o := .lst (xs.drop (i + 1))) n3
    refine ⟨l2, l3, xs.take i, xs.drop (i + 1), rfl, rfl, s4 _ _ upd_same, upd_same, sz1000 (by rw [List.length_take, List.length_drop]; omega), fun l4 n4 => ?_⟩
    have s5 := same_new (o := .lst (xs.take i ++ xs.drop (i + 1))) n4
    have s15 := strans s12 (strans s3 (strans s4 s5))
    have hrows : IsAll H ((rows.take i ++ rows.drop (i + 1)).map encT) (xs.take i ++ xs.drop (i + 1)) := by
      rw [List.map_append]
      refine IsAll.append ?_ ?_
      · have := hxs.take i
        rw [← List.map_take] at this
        exact this
      · have := hxs.drop (i + 1)
        rw [← List.map_drop] at this
        exact this
    have sub : ∀ r ∈ rows.take i ++ rows.drop (i + 1), r ∈ rows := fun r hr => by
      rcases List.mem_append.mp hr with h | h
      · exact List.mem_of_mem_take h
      · exact List.mem_of_mem_drop h
    refine ⟨pm, l4, vA, xs.take i ++ xs.drop (i + 1), rows.take i ++ rows.drop (i + 1), AA, F, W, M, rfl, hA.same s15, aok, hE.same s15, hc, upd_same, hrows.same s15, fun r hr => tab.ent r (sub r hr), by rw [List.length_append, List.length_take, List.length_drop]; omega, fun H6 b s6 hb => ?_⟩
    have bf : b = false := by
      cases b with
      | false => rfl
      | true =>
        exfalso
        have cl := hb.mp rfl
        have ir : i < rows.length := by omega
        have er : rows = rows.take i ++ rows[i] :: rows.drop (i + 1) := by
          rw [← List.drop_eq_getElem_cons ir, List.take_append_drop]
        have ent := tab.ent rows[i] (List.getElem_mem ir)
        have hk := cl.reach ent.1
        rw [ent.2.1] at hk
        have nd := tab.nd
        rw [er, List.map_append, List.map_cons, List.nodup_append] at nd
        rw [List.map_append, List.mem_append] at hk
        rcases hk with h | h
        · exact nd.2.2 _ h _ List.mem_cons_self rfl
        · exact (List.nodup_cons.mp nd.2.1).1 h
    subst bf
    exact ⟨false, false, rfl, rfl, k _ (strans s15 s6)⟩
end
end K76
set_option Elab.async false
set_option linter.all false
set_option maxRecDepth 100000
set_option maxHeartbeats 4000000
namespace K76
open PySem PySem.Spec PyProof.Rows L2
def spLCell (K : PySem.W.Frag) : Sp := fun vs H Q _ => ∃ (a : Addr) (ns : List Int) (i : Int), vs = [.ref a, .int i] ∧ SqL K H a (ns.map V.int) ∧ 0 ≤ i ∧ ∀ n, Q (.int n) H
def spLNumbers (K : PySem.W.Frag) : Sp := fun vs H Q _ => ∃ (a : Addr) (ns : List Int) (f m : Int), vs = [.ref a, .int f, .int m] ∧ SqL K H a (ns.map V.int) ∧ 0 ≤ f ∧ f ≤ 1000 ∧ 0 ≤ m ∧ m ≤ 1000 ∧
  ∀ H' p (l : List Int), L2.Same H H' → H' p = some (.lst (l.map V.int)) → (l.length : Int) = m → (∀ x ∈ l, 0 ≤ x ∧ x < 2147483647) → Q (.ref p) H'
abbrev st_l_cell_at : Stmt := top 28
theorem sc_l_cell_at : FnScope ["_law_script", "_law_k"] ["_law_script", "_law_k"] (defScope st_l_cell_at) := ⟨rfl, rfl, rfl, by decide +kernel, rfl, by decide +kernel, by decide +kernel⟩
abbrev st_l_numbers : Stmt := top 29
theorem sc_l_numbers : FnScope ["_law_script", "_law_first", "_law_many", "_law_found", "_law_number", "_law_k", "_law_cell"] ["_law_script", "_law_first", "_law_many"] (defScope st_l_numbers) := ⟨rfl, rfl, rfl, by decide +kernel, rfl, by decide +kernel, by decide +kernel⟩
section
variable {P : Program} {w : World} {K : PySem.W.Frag} {mg : Str → Option Value} {base : Heap}
theorem ok_lcell {f : Addr} {fd : FuncData} (F : Fun K "_law_cell_at" "_law_cell_at" st_l_cell_at f fd) (B : Gb mg) : FnOk P w K mg base CX0 1 f fd ["_law_script", "_law_k"] (spLCell K) := by
  refine F.ok sc_l_cell_at (fun vs H Q E h => ?_) (fun cdv A outer s H vs Q E hr h => ?_)
  · obtain ⟨_, _, _, rfl, _⟩ := h
    rfl
  · obtain ⟨a, ns, i, rfl, ha, hi, k⟩ := h
    refine ⟨_, (pss_cons (ps_if (pt_cmpR op_lt (pv 1) (pe_callB call_len_seq (by rfl) B.len PySem.boot_len (pa_cons (pv 0) pa_nil)) (nomark _)) (pss_one (ps_ret (pe_ix ix_list (pv 0) (pv 1) (fun _ _ => rfl)))) pss_nil)
      (pss_one (ps_ret pe_int))), ?_⟩
    refine ⟨_, rfl, _, rfl, a, _, rfl, .inl ha, _, _, rfl, rfl, _, rfl, ?_⟩
    refine ite2 (fun z => ?_) (fun z => ?_)
    · have z := of_decide_eq_true z
      rw [List.length_map] at z
      obtain ⟨j, rfl⟩ : ∃ j : Nat, i = (j : Int) := ⟨i.toNat, by omega⟩
      have hj : j < ns.length := by omega
      refine ⟨_, rfl, _, rfl, a, _, _, .int ns[j], rfl, rfl, ha, atI_nat (by rw [List.getElem?_map, List.getElem?_eq_getElem hj]; rfl), k _⟩
    · exact k _
theorem ok_lnumbers {f : Addr} {fd : FuncData} (F : Fun K "_law_numbers" "_law_numbers" st_l_numbers f fd) (B : Gb mg) (Fl_cell_at : Callable P w K mg base CX0 1 "_law_cell_at" ["_law_script", "_law_k"] (spLCell K)) : FnOk P w K mg base CX0 2 f fd ["_law_script", "_law_first", "_law_many"] (spLNumbers K) := by
  refine F.ok sc_l_numbers (fun vs H Q E h => ?_) (fun cdv A outer s H vs Q E hr h => ?_)
  · obtain ⟨_, _, _, _, rfl, _⟩ := h
    rfl
  · obtain ⟨a, ns, f0, m, rfl, ha, h1, h2, h3, h4, k⟩ := h
    refine ⟨_, (pss_cons (ps_set (i := 3) sc_l_numbers.nd rfl (Or.inl rfl) (pe_lst pa_nil))
      (pss_cons (ps_set (i := 4) sc_l_numbers.nd rfl (Or.inl rfl) (pe_op op_add pe_int (pv 1)))
      (pss_cons (ps_for PassesOwn.never rfl (pi_range1 rfl B.range (pa_cons (pv 2) pa_nil)) (pg_name (i := 5) sc_l_numbers.nd rfl (Or.inl rfl)) (pss_cons (ps_set (i := 6) sc_l_numbers.nd rfl (Or.inl rfl) (pe_callF Fl_cell_at (hr.mono (by decide)) rfl pass0 (pa_cons (pv 0) (pa_cons (pe_op op_add pe_int (pe_op op_modN (pe_op op_add (pv 1) (pv 5)) (pe_callB (call_max2 rfl) (by rfl) B.max (by decide +kernel) (pa_cons pe_int (pa_cons (pe_op op_sub (pe_callB call_len_seq (by rfl) B.len PySem.boot_len (pa_cons (pv 0) pa_nil)) pe_int) pa_nil))))) pa_nil))))
      (pss_cons (ps_set (i := 4) sc_l_numbers.nd rfl (Or.inl rfl) (pe_op op_mod (pe_op op_add (pe_op op_add (pe_op op_mul (pv 4) pe_int) (pv 6)) (pe_op op_mul (pv 5) (pv 5))) pe_int))
      (pss_one (ps_expr (pe_bm PySem.F.plainAttrs_list PySem.F.slot_list_append PySem.F.type_list_append mt_append (pv 3) (pa_cons (pv 4) pa_nil)))))))
      (pss_one (ps_ret (pv 3)))))), ?_⟩
    refine ⟨(Nat.zero_le _), fun p0 n0 => ?_⟩
    have s0 := same_new (o := .lst []) n0
    refine ⟨_, rfl, _, _, rfl, rfl, ?_⟩
    refine ⟨_, rfl, _, rfl, by omega, by omega, for_range (lo := 0) (n := m.toNat) (fun i σ H1 => ∃ (x : Int) (v6 v7 : Option V) (l : List Int), σ = [some (.ref a), some (.int f0), some (.int m), some (.ref p0), some (.int x), v6, v7] ∧ L2.Same H H1 ∧ H1 p0 = some (.lst (l.map V.int)) ∧ l.length = i ∧ (0 ≤ x ∧ x < 2147483647) ∧ ∀ x ∈ l, 0 ≤ x ∧ x < 2147483647)
      ⟨_, _, _, [], rfl, s0, upd_same, rfl, ⟨by omega, by omega⟩, fun x hx => by cases hx⟩ ?_ ?_⟩
    · rintro i σ H1 hi ⟨x, v6, v7, l, rfl, s1, hp, hl, hx, hall⟩
      have hA1 := s1.seq ha
      refine ⟨_, rfl, _, rfl, _, rfl, _, _, rfl, rfl, _, rfl, a, _, rfl, .inl hA1, _, _, rfl, rfl, _, _, rfl, _, _, rfl, rfl, (by split <;> omega), _, _, rfl, rfl, a, ns, _, rfl, hA1, ?_, fun c => ?_⟩
      · have b1 := Int.fmod_nonneg_of_pos (f0 + (0 + (i : Int))) (b := if (((ns.map V.int).length : Nat) : Int) - 2 > 1 then (((ns.map V.int).length : Nat) : Int) - 2 else 1) (by split <;> omega)
        omega
      · refine ⟨_, rfl, _, _, rfl, rfl, .inl ⟨by omega, by omega⟩, _, rfl, _, _, rfl, rfl, _, rfl, _, rfl, _, _, rfl, rfl, .inl ⟨by omega, by omega⟩, _, _, rfl, rfl, _, _, rfl, rfl, (by show (0 : Int) < 2147483647; decide), ?_⟩
        have e1 := Int.emod_nonneg (x * 48271 + c + (0 + (i : Int)) * (0 + (i : Int))) (b := 2147483647) (by decide)
        have e2 := Int.emod_lt_of_pos (x * 48271 + c + (0 + (i : Int)) * (0 + (i : Int))) (b := 2147483647) (by decide)
        refine ⟨_, rfl, .inl ⟨rfl, _, SqL.of hp⟩, _, rfl, p0, _, _, rfl, rfl, hp, by rw [List.length_map]; exact szL (by omega), ?_⟩
        refine ⟨_, _, _, l ++ [(x * 48271 + c + (0 + (i : Int)) * (0 + (i : Int))) % 2147483647], rfl, smut s1 n0, by rw [upd_same, List.map_append]; rfl, by simp [hl], ⟨e1, e2⟩, fun y hy => ?_⟩
        rcases List.mem_append.mp hy with h | h
        · exact hall y h
        · rw [List.mem_singleton.mp h]; exact ⟨e1, e2⟩
    · rintro σ H1 ⟨x, v6, v7, l, rfl, s1, hp, hl, hx, hall⟩
      exact ⟨_, rfl, k _ p0 l s1 hp (by omega) hall⟩
/-! ### tags -/
def NoSl (t : Tag) : Prop := ∀ c ∈ t.cps.toList, c ≠ 47
theorem NoSl.ne {t : Tag} (h : NoSl t) : t ≠ END := by
  intro e
  subst e
  exact h 47 (by decide +kernel) rfl
theorem NoSl.app {a b : Tag} (h1 : NoSl a) (h2 : NoSl b) : NoSl (a ++ b) := by
  intro c hc
  have : (a ++ b).cps.toList = a.cps.toList ++ b.cps.toList := by
    show (a.cps ++ b.cps).toList = _
    simp
  rw [this, List.mem_append] at hc
  rcases hc with h | h
  · exact h1 c h
  · exact h2 c h
theorem app_len (a b : Tag) : (a ++ b).length = a.length + b.length := by
  show (a.cps ++ b.cps).size = a.cps.size + b.cps.size
  simp
def spLTags : Sp := fun vs H Q _ => ∃ (n : Int), vs = [.int n] ∧ ∀ H' p (l : List Tag), L2.Same H H' → H' p = some (.lst (l.map V.str)) → l.length = 4 → (∀ t ∈ l, t ≠ END) → Q (.ref p) H'
abbrev st_l_tags : Stmt := top 30
theorem sc_l_tags : FnScope ["_law_cell", "_law_some", "_law_number", "_law_stem", "_law_k", "_law_one"] ["_law_cell"] (defScope st_l_tags) := ⟨rfl, rfl, rfl, by decide +kernel, rfl, by decide +kernel, by decide +kernel⟩
theorem abc_at (i : Int) (h0 : 0 ≤ i) (h1 : i < 26) : ∃ c, atI (Str.ofString "abcdefghijklmnopqrstuvwxyz").cps.toList i = some c ∧ c ≠ 47 := by
  obtain ⟨j, rfl⟩ : ∃ j : Nat, i = (j : Int) := ⟨i.toNat, by omega⟩
  have hj : j < 26 := by omega
  have key : ∀ j : Fin 26, ∃ c, (Str.ofString "abcdefghijklmnopqrstuvwxyz").cps.toList[j.val]? = some c ∧ c ≠ 47 := by decide +kernel
  obtain ⟨c, hc, hn⟩ := key ⟨j, hj⟩
  exact ⟨c, atI_nat hc, hn⟩
theorem ok_ltags {f : Addr} {fd : FuncData} (F : Fun K "_law_tags" "_law_tags" st_l_tags f fd) (B : Gb mg) : FnOk P w K mg base CX0 1 f fd ["_law_cell"] spLTags := by
  refine F.ok sc_l_tags (fun vs H Q E h => ?_) (fun cdv A outer s H vs Q E hr h => ?_)
  · obtain ⟨_, rfl, _⟩ := h
    rfl
  · obtain ⟨n, rfl, k⟩ := h
    refine ⟨_, (pss_cons (ps_set (i := 1) sc_l_tags.nd rfl (Or.inl rfl) pe_str)
      (pss_cons (ps_set (i := 2) sc_l_tags.nd rfl (Or.inl rfl) (pe_op op_add (pe_op op_mod (pv 0) pe_int) pe_int))
      (pss_cons (ps_set (i := 3) sc_l_tags.nd rfl (Or.inl rfl) pe_str)
      (pss_cons (ps_for PassesOwn.never rfl (pi_range1 rfl B.range (pa_cons (pe_op op_add pe_int (pe_op op_mod (pv 2) pe_int)) pa_nil)) (pg_name (i := 4) sc_l_tags.nd rfl (Or.inl rfl)) (pss_cons (ps_set (i := 2) sc_l_tags.nd rfl (Or.inl rfl) (pe_op op_mod (pe_op op_add (pe_op op_mul (pv 2) pe_int) (pv 4)) pe_int))
      (pss_one (ps_set (i := 3) sc_l_tags.nd rfl (Or.inl rfl) (pe_op op_add_str (pv 3) (pe_ix ix_str (pv 1) (pe_op op_mod (pv 2) pe_int) (fun _ _ => rfl)))))))
      (pss_cons (ps_set (i := 5) sc_l_tags.nd rfl (Or.inl rfl) (pe_ix ix_str (pv 1) (pe_op op_mod (pe_op op_fdiv (pv 2) pe_int) pe_int) (fun _ _ => rfl)))
      (pss_one (ps_ret (pe_lst (pa_cons (pv 3) (pa_cons (pe_op op_add_str (pv 3) (pv 5)) (pa_cons (pe_op op_add_str (pv 5) (pv 3)) (pa_cons (pe_op op_add_str pe_str (pv 3)) pa_nil)))))))))))), ?_⟩
    have e1 := Int.emod_nonneg n (b := 1000003) (by decide)
    have e2 := Int.emod_lt_of_pos n (b := 1000003) (by decide)
    have f1 := Int.emod_nonneg (n % 1000003 + 11) (b := 7) (by decide)
    have f2 := Int.emod_lt_of_pos (n % 1000003 + 11) (b := 7) (by decide)
    refine ⟨_, rfl, _, _, rfl, rfl, (by show (0 : Int) < 1000003; decide), _, _, rfl, rfl, ?_⟩
    have el : (Str.ofString "abcdefghijklmnopqrstuvwxyz").length ≤ sizeLine := sz1000 (by decide +kernel)
    refine ⟨_, rfl, _, _, rfl, rfl, (by show (0 : Int) < 7; decide), _, _, rfl, rfl, _, rfl, by omega, by omega, for_range (lo := 0) (n := (1 + (n % 1000003 + 11) % 7).toNat) (fun i σ H1 => H1 = H ∧ ∃ (x : Int) (t : Tag) (v4 v5 : Option V), σ = [some (.int n), some (.str (Str.ofString "abcdefghijklmnopqrstuvwxyz")), some (.int x), some (.str t), v4, v5] ∧ (0 ≤ x ∧ x < 2147483647) ∧ NoSl t ∧ t.length = i)
      ⟨rfl, _, _, _, _, rfl, ⟨by omega, by omega⟩, (fun c hc => by revert hc; decide +revert +kernel), rfl⟩ ?_ ?_⟩
    · rintro i σ H1 hi ⟨rfl, x, t, v4, v5, rfl, hx, ht, htl⟩
      have g1 := Int.emod_nonneg (x * 69621 + (0 + (i : Int))) (b := 2147483629) (by decide)
      have g2 := Int.emod_lt_of_pos (x * 69621 + (0 + (i : Int))) (b := 2147483629) (by decide)
      obtain ⟨c, hc, hn⟩ := abc_at ((x * 69621 + (0 + (i : Int))) % 2147483629 % 26) (Int.emod_nonneg _ (by decide)) (Int.emod_lt_of_pos _ (by decide))
      refine ⟨_, rfl, _, _, rfl, rfl, .inl ⟨by omega, by omega⟩, _, rfl, _, _, rfl, rfl, _, _, rfl, rfl, (by show (0 : Int) < 2147483629; decide), ?_⟩
      have ns : NoSl ⟨#[c]⟩ := fun c' hc' => by simp at hc'; rw [hc']; exact hn
      refine ⟨_, rfl, _, rfl, _, rfl, _, _, rfl, rfl, (by show (0 : Int) < 26; decide), _, _, _, rfl, rfl, el, hc, _, _, rfl, rfl, sz1000 (by rw [htl]; show i + 1 ≤ 100000; omega), rfl, _, _, _, _, rfl, ⟨g1, by omega⟩, ht.app ns, by rw [app_len, htl]; rfl⟩
    · rintro σ H1 ⟨rfl, x, t, v4, v5, rfl, hx, ht, htl⟩
      have tl : t.length ≤ 7 := by omega
      obtain ⟨c, hc, hn⟩ := abc_at (x / 26 % 26) (Int.emod_nonneg _ (by decide)) (Int.emod_lt_of_pos _ (by decide))
      have ns : NoSl ⟨#[c]⟩ := fun c' hc' => by simp at hc'; rw [hc']; exact hn
      have zs : NoSl (Str.ofString "z") := fun c hc => by revert hc; decide +revert +kernel
      have l1 : (t ++ ⟨#[c]⟩ : Tag).length ≤ 100 := by rw [app_len]; show t.length + 1 ≤ 100; omega
      refine ⟨_, rfl, _, rfl, _, _, rfl, rfl, ⟨by decide, by decide⟩, _, _, rfl, rfl, (by show (0 : Int) < 26; decide), _, _, _, rfl, rfl, el, hc, ?_⟩
      refine ⟨_, rfl, _, rfl, _, rfl, _, _, rfl, rfl, sz1000 (by show t.length + 1 ≤ 100000; omega), _, rfl, _, rfl, _, _, rfl, rfl, sz1000 (by show 1 + t.length ≤ 100000; omega), _, rfl, _, _, rfl, rfl, sz1000 (by show 1 + t.length ≤ 100000; omega), (by show 4 ≤ sizeLine; decide), fun p np => ?_⟩
      refine k _ p [t, t ++ ⟨#[c]⟩, ⟨#[c]⟩ ++ t, Str.ofString "z" ++ t] (same_new np) upd_same rfl fun u hu => ?_
      rcases List.mem_cons.mp hu with rfl | hu
      · exact ht.ne
      rcases List.mem_cons.mp hu with rfl | hu
      · exact (ht.app ns).ne
      rcases List.mem_cons.mp hu with rfl | hu
      · exact (ns.app ht).ne
      rcases List.mem_cons.mp hu with rfl | hu
      · exact (zs.app ht).ne
      cases hu
end
end K76
set_option Elab.async false
set_option linter.all false
set_option maxRecDepth 100000
set_option maxHeartbeats 4000000
namespace K76
open PySem PySem.Spec PyProof.Rows L2
def Ps.ofL : List P1 → Ps
  | [] => .nil
  | .inl m :: r => .kids m (Ps.ofL r)
  | .inr (t, i) :: r => .tag t i (Ps.ofL r)
theorem enc_ofL : ∀ l : List P1, encPs (Ps.ofL l) = l.map encP1
  | [] => rfl
  | .inl m :: r => by rw [Ps.ofL, encPs, enc_ofL r]; rfl
  | .inr (t, i) :: r => by rw [Ps.ofL, encPs, enc_ofL r]; rfl
def P1.sz : P1 → Nat
  | .inl _ => 1
  | .inr (_, i) => 1 + i.size
def szL1 : List P1 → Nat
  | [] => 0
  | x :: r => P1.sz x + szL1 r
def szS : List (List P1) → Nat
  | [] => 0
  | l :: r => szL1 l + szS r
theorem szL1_app : ∀ (l : List P1) (x : P1), szL1 (l ++ [x]) = szL1 l + P1.sz x
  | [], x => by simp [szL1]
  | y :: l, x => by rw [List.cons_append, szL1, szL1_app l x, szL1]; omega
theorem szS_app : ∀ (s : List (List P1)) (l : List P1), szS (s ++ [l]) = szS s + szL1 l
  | [], l => by simp [szS]
  | y :: s, l => by rw [List.cons_append, szS, szS_app s l, szS]; omega
theorem ofL_size : ∀ l : List P1, (Ps.ofL l).size = szL1 l
  | [] => rfl
  | .inl m :: r => by rw [Ps.ofL, Ps.size, ofL_size r]; rfl
  | .inr (t, i) :: r => by rw [Ps.ofL, Ps.size, ofL_size r]; rfl
def P1.good (M : Nat) : P1 → Prop
  | .inl m => m < M
  | .inr (t, i) => t ≠ END ∧ i.ok M ∧ i.tok
theorem ofL_ok {M : Nat} : ∀ {l : List P1}, (∀ x ∈ l, P1.good M x) → (Ps.ofL l).ok M ∧ (Ps.ofL l).tok
  | [], _ => ⟨trivial, trivial⟩
  | .inl m :: r, h => by
    have ih := ofL_ok (l := r) fun x hx => h x (List.mem_cons_of_mem _ hx)
    exact ⟨⟨h (.inl m) List.mem_cons_self, ih.1⟩, ih.2⟩
  | .inr (t, i) :: r, h => by
    have ih := ofL_ok (l := r) fun x hx => h x (List.mem_cons_of_mem _ hx)
    have h0 : P1.good M (.inr (t, i)) := h _ List.mem_cons_self
    exact ⟨⟨h0.2.1, ih.1⟩, ⟨h0.1, h0.2.2, ih.2⟩⟩
structure PS (H0 H : Hp) (M : Nat) (pN pR : Addr) (ns : List Tag) (stk : List (List P1)) (cnt : Nat) : Prop where
  same : L2.Same H0 H
  fN : H0 pN = none
  fR : H0 pR = none
  ne : pN ≠ pR
  hN : H pN = some (.lst (ns.map V.str))
  hR : ∃ rs : List Addr, H pR = some (.lst (rs.map V.ref)) ∧ rs.Nodup ∧ (∀ r ∈ rs, r ≠ pN ∧ r ≠ pR ∧ H0 r = none) ∧ Paired (fun r l => ∃ xs, H r = some (.lst xs) ∧ IsAll H ((l : List P1).map encP1) xs) rs stk
  len : stk.length = ns.length + 1
  nok : ∀ t ∈ ns, t ≠ END
  sok : ∀ l ∈ stk, ∀ x ∈ l, P1.good M x
  sz : szS stk + ns.length ≤ cnt
section
variable {H0 H H' : Hp} {M : Nat} {pN pR : Addr} {ns : List Tag} {stk : List (List P1)} {cnt : Nat}
theorem PS.new (h : PS H0 H M pN pR ns stk cnt) (s : L2.Same H H') : PS H0 H' M pN pR ns stk cnt := by
  obtain ⟨a, b, c, d, e, ⟨rs, r1, r2, r3, r4⟩, f, g, i, j⟩ := h
  exact ⟨strans a s, b, c, d, s _ _ e, ⟨rs, s _ _ r1, r2, r3, paired_imp r4 fun _ _ ⟨xs, q1, q2⟩ => ⟨xs, s _ _ q1, q2.same s⟩⟩, f, g, i, j⟩
theorem paired_left2 {α β : Type} {R : α → β → Prop} {l : List α} {m : List β} {y : β} (h : Paired R l (m ++ [y])) : ∃ l' x, l = l' ++ [x] ∧ Paired R l' m ∧ R x y := paired_last h
/-- an item is put at the end of the topmost list -/
theorem PS.push {l : List P1} (h : PS H0 H M pN pR ns (stk ++ [l]) cnt) : ∃ (rs' : List Addr) (r : Addr) (xs : List V), H pR = some (.lst (rs'.map V.ref ++ [.ref r])) ∧ H r = some (.lst xs) ∧ xs.length ≤ cnt ∧ r ≠ pN ∧ r ≠ pR ∧
    ∀ (x : P1) (v : V), P1.good M x → Is H (encP1 x) v → PS H0 (upd H r (.lst (xs ++ [v]))) M pN pR ns (stk ++ [l ++ [x]]) (cnt + P1.sz x) := by
  obtain ⟨a, b, c, d, e, ⟨rs, r1, r2, r3, r4⟩, f, g, i, j⟩ := h
  obtain ⟨rs', r, rfl, r4', xs, hx1, hx2⟩ := paired_left2 r4
  have rr := r3 r (by simp)
  have lx : xs.length ≤ cnt := by
    rw [hx2.lenm]
    have : ∀ l : List P1, l.length ≤ szL1 l := by
      intro l
      induction l with
      | nil => exact Nat.le_refl _
      | cons x l ih => cases x <;> simp only [szL1, P1.sz, List.length_cons] <;> omega
    have := this l
    rw [szS_app] at j
    omega
  refine ⟨rs', r, xs, by rw [r1, List.map_append]; rfl, hx1, lx, rr.1, rr.2.1, fun x v hx hv => ?_⟩
  have tp : Tp H (upd H r (.lst (xs ++ [v]))) := Tp.mut hx1 (by intro z y; cases y)
  rw [List.nodup_append] at r2
  refine ⟨smut a rr.2.2, b, c, d, by rw [upd_ne rr.1.symm]; exact e, ⟨rs' ++ [r], by rw [upd_ne rr.2.1.symm, r1], by rw [List.nodup_append]; exact r2, r3, ?_⟩, by simpa using f, g, fun l' hl' y hy => ?_, ?_⟩
  · refine Paired.snoc ?_ ⟨_, upd_same, ?_⟩
    · have : ∀ {as : List Addr} {ms : List (List P1)}, (∀ b ∈ as, b ≠ r) → Paired (fun r l => ∃ xs, H r = some (.lst xs) ∧ IsAll H ((l : List P1).map encP1) xs) as ms → Paired (fun r' l => ∃ xs', upd H r (.lst (xs ++ [v])) r' = some (.lst xs') ∧ IsAll (upd H r (.lst (xs ++ [v]))) ((l : List P1).map encP1) xs') as ms := by
        intro as ms hne p
        induction p with
        | nil => exact .nil
        | cons h t ih =>
          obtain ⟨ys, q1, q2⟩ := h
          exact .cons ⟨ys, by rw [upd_ne (hne _ (by simp))]; exact q1, q2.mono tp⟩ (ih fun b hb => hne b (by simp [hb]))
      exact this (fun b hb e => r2.2.2 b hb r (by simp) e) r4'
    · rw [List.map_append]
      exact (hx2.mono tp).append ⟨_, _, rfl, Is.mono tp _ hv, rfl⟩
  · rcases List.mem_append.mp hl' with h | h
    · exact i l' (by simp [h]) y hy
    · rw [List.mem_singleton.mp h] at hy
      rcases List.mem_append.mp hy with h | h
      · exact i l (by simp) y h
      · rw [List.mem_singleton.mp h]; exact hx
  · rw [szS_app] at j ⊢
    rw [szL1_app]
    omega
/-- a name is put -/
theorem PS.name (h : PS H0 H M pN pR ns stk cnt) {t : Tag} (ht : t ≠ END) {r : Addr} (nr : upd H pN (.lst (ns.map V.str ++ [.str t])) r = none) :
    ∃ rs, upd (upd H pN (.lst (ns.map V.str ++ [.str t]))) r (.lst []) pR = some (.lst rs) ∧ rs.length = ns.length + 1 ∧
      PS H0 (upd (upd (upd H pN (.lst (ns.map V.str ++ [.str t]))) r (.lst [])) pR (.lst (rs ++ [.ref r]))) M pN pR (ns ++ [t]) (stk ++ [[]]) (cnt + 1) := by
  obtain ⟨a, b, c, d, e, ⟨rs, r1, r2, r3, r4⟩, f, g, i, j⟩ := h
  obtain ⟨n1, nr'⟩ := upd_none nr
  have hp : upd H pN (.lst (ns.map V.str ++ [.str t])) pR = some (.lst (rs.map V.ref)) := by rw [upd_ne d.symm]; exact r1
  have rp : r ≠ pR := (ne_of_none r1 nr').symm
  have s1 := smut (o := .lst (ns.map V.str ++ [.str t])) a b
  have s2 := snew (o := .lst []) s1 nr
  have fr : H0 r = none := a.free nr'
  have tA : Tp H (upd (upd (upd H pN (.lst (ns.map V.str ++ [.str t]))) r (.lst [])) pR (.lst (rs.map V.ref ++ [.ref r]))) := (Tp.mut e (by intro z y; cases y)).trans ((Tp.new nr).trans (Tp.mut (get_new hp nr) (by intro z y; cases y)))
  have lr : rs.length = ns.length + 1 := by rw [paired_len r4, f]
  refine ⟨rs.map V.ref, get_new hp nr, by rw [List.length_map, lr], ⟨smut s2 c, b, c, d, ?_, ⟨rs ++ [r], by rw [upd_same, List.map_append]; rfl, ?_, ?_, ?_⟩, by simp [f], ?_, ?_, ?_⟩⟩
  · rw [upd_ne d, upd_ne n1.symm, upd_same, List.map_append]; rfl
  · rw [List.nodup_append]
    refine ⟨r2, by simp, fun x hx y hy exy => ?_⟩
    simp at hy
    subst hy exy
    obtain ⟨l, _, xs, q1, _⟩ := paired_left r4 hx
    rw [q1] at nr'; cases nr'
  · intro x hx
    rcases List.mem_append.mp hx with hx | hx
    · exact r3 x hx
    · rw [List.mem_singleton.mp hx]; exact ⟨n1, rp, fr⟩
  · refine Paired.snoc (paired_imp_mem r4 fun x l hx ⟨xs, q1, q2⟩ => ⟨xs, ?_, q2.mono tA⟩) ⟨[], by rw [upd_ne rp, upd_same], rfl⟩
    obtain ⟨m1, m2, _⟩ := r3 x hx
    rw [upd_ne m2, upd_ne (ne_of_none q1 nr'), upd_ne m1]; exact q1
  · intro u hu
    rcases List.mem_append.mp hu with hu | hu
    · exact g u hu
    · rw [List.mem_singleton.mp hu]; exact ht
  · intro l hl x hx
    rcases List.mem_append.mp hl with hl | hl
    · exact i l hl x hx
    · rw [List.mem_singleton.mp hl] at hx; cases hx
  · rw [szS_app]
    simp only [szL1, List.length_append, List.length_singleton]
    omega
where
  paired_imp_mem {α β : Type} {R R' : α → β → Prop} {l : List α} {m : List β} (h : Paired R l m) (f : ∀ a b, a ∈ l → R a b → R' a b) : Paired R' l m := by
    induction h with
    | nil => exact .nil
    | cons h t ih => exact .cons (f _ _ (by simp) h) (ih fun a b ha hr => f a b (by simp [ha]) hr)
/-- the topmost row goes, and its name -/
theorem PS.close {l2 : List P1} {t : Tag} (h : PS H0 H M pN pR (ns ++ [t]) (stk ++ [l2]) cnt) : ∃ rs r2 xs2, H pR = some (.lst (rs ++ [.ref r2])) ∧ upd H pR (.lst rs) r2 = some (.lst xs2) ∧ IsAll H ((l2 : List P1).map encP1) xs2 ∧ (∀ x ∈ l2, P1.good M x) ∧ t ≠ END ∧
    ∀ (ti : Addr) , upd H pR (.lst rs) ti = none → upd (upd H pR (.lst rs)) ti (.tup xs2) pN = some (.lst (ns.map V.str ++ [.str t])) ∧ szL1 l2 + 1 ≤ cnt ∧
      PS H0 (upd (upd (upd H pR (.lst rs)) ti (.tup xs2)) pN (.lst (ns.map V.str))) M pN pR ns stk (cnt - (szL1 l2 + 1)) := by
  obtain ⟨a, b, c, d, e, ⟨rs, r1, r2, r3, r4⟩, f, g, i, j⟩ := h
  obtain ⟨rs', r, rfl, r4', xs, hx1, hx2⟩ := paired_left2 r4
  have rr := r3 r (by simp)
  rw [List.nodup_append] at r2
  rw [szS_app, List.length_append, List.length_singleton] at j
  have f' : stk.length = ns.length + 1 := by simpa using f
  refine ⟨rs'.map V.ref, r, xs, by rw [r1, List.map_append]; rfl, by rw [upd_ne rr.2.1]; exact hx1, hx2, i l2 (by simp), g t (by simp), fun ti nti => ?_⟩
  obtain ⟨n1, nti'⟩ := upd_none nti
  have eN : upd (upd H pR (.lst (rs'.map V.ref))) ti (.tup xs) pN = some (.lst (ns.map V.str ++ [.str t])) := get_new (by rw [upd_ne d, e, List.map_append]; rfl) nti
  refine ⟨eN, by omega, ?_⟩
  have tA : Tp H (upd (upd (upd H pR (.lst (rs'.map V.ref))) ti (.tup xs)) pN (.lst (ns.map V.str))) := (Tp.mut r1 (by intro z y; cases y)).trans ((Tp.new nti).trans (Tp.mut eN (by intro z y; cases y)))
  refine ⟨smut (snew (smut a c) nti) b, b, c, d, upd_same, ⟨rs', ?_, r2.1, fun x hx => r3 x (by simp [hx]), ?_⟩, f', fun u hu => g u (by simp [hu]), fun l hl => i l (by simp [hl]), by omega⟩
  · rw [upd_ne d.symm, upd_ne n1.symm, upd_same]
  · refine PS.name.paired_imp_mem r4' fun x l hx ⟨ys, q1, q2⟩ => ⟨ys, ?_, q2.mono tA⟩
    obtain ⟨m1, m2, _⟩ := r3 x (by simp [hx])
    rw [upd_ne m1, upd_ne (ne_of_none q1 nti'), upd_ne m2]; exact q1
end
end K76
set_option Elab.async false
set_option linter.all false
set_option maxRecDepth 100000
set_option maxHeartbeats 4000000
namespace K76
open PySem PySem.Spec PyProof.Rows L2
def spLParts : Sp := fun vs H Q _ => ∃ (a b : Addr) (l : List Int) (ts : List Tag) (M : Nat), vs = [.ref a, .ref b, .int (M : Int)] ∧ H a = some (.lst (l.map V.int)) ∧ H b = some (.lst (ts.map V.str)) ∧ ts.length = 4 ∧ (∀ t ∈ ts, t ≠ END) ∧ (∀ x ∈ l, 0 ≤ x) ∧ l.length ≤ 4 ∧ 1 ≤ M ∧ M ≤ 3 ∧
  ∀ H' v ps, L2.Same H H' → Is H' (.tup (encPs ps)) v → ps.ok M → ps.tok → ps.size ≤ 4 → Q v H'
abbrev st_l_parts : Stmt := top 31
theorem sc_l_parts : FnScope ["_law_numbers_here", "_law_tags_here", "_law_modes", "_law_names", "_law_rows", "_law_kids", "_law_number", "_law_turn", "_law_inner"] ["_law_numbers_here", "_law_tags_here", "_law_modes"] (defScope st_l_parts) := ⟨rfl, rfl, rfl, by decide +kernel, rfl, by decide +kernel, by decide +kernel⟩
section
variable {P : Program} {w : World} {K : PySem.W.Frag} {mg : Str → Option Value} {base : Heap}
theorem snoc_of {α : Type} {l : List α} (h : l ≠ []) : ∃ l' x, l = l' ++ [x] := by
  rcases List.eq_nil_or_concat l with e | ⟨a, b, e⟩
  · exact absurd e h
  · exact ⟨a, b, by simpa using e⟩
theorem PS.push' {H0 H : Hp} {M : Nat} {pN pR : Addr} {ns : List Tag} {stk : List (List P1)} {cnt : Nat} {l : List P1} (h : PS H0 H M pN pR ns (stk ++ [l]) cnt) {rs0 : List V} {r : Addr} {xs : List V} (e1 : H pR = some (.lst (rs0 ++ [.ref r]))) (e2 : H r = some (.lst xs)) :
    xs.length ≤ cnt ∧ r ≠ pN ∧ r ≠ pR ∧ ∀ (x : P1) (v : V), P1.good M x → Is H (encP1 x) v → PS H0 (upd H r (.lst (xs ++ [v]))) M pN pR ns (stk ++ [l ++ [x]]) (cnt + P1.sz x) := by
  obtain ⟨rs', r', xs', p1, p2, p3, p4, p5, p6⟩ := h.push
  rw [e1] at p1
  injection p1 with p1
  injection p1 with p1
  obtain ⟨_, p7⟩ := List.append_inj' p1 rfl
  injection p7 with p7
  injection p7 with p7
  subst p7
  rw [e2] at p2
  injection p2 with p2
  injection p2 with p2
  subst p2
  exact ⟨p3, p4, p5, p6⟩
theorem ok_lparts {f : Addr} {fd : FuncData} (F : Fun K "_law_parts" "_law_parts" st_l_parts f fd) (B : Gb mg) : FnOk P w K mg base CX0 1 f fd ["_law_numbers_here", "_law_tags_here", "_law_modes"] spLParts := by
  refine F.ok sc_l_parts (fun vs H Q E h => ?_) (fun cdv A outer s H vs Q E hr h => ?_)
  · obtain ⟨_, _, _, _, _, rfl, _⟩ := h
    rfl
  · obtain ⟨a, b, l, ts, M, rfl, ha, hb, htl, htn, hl0, hll, hM1, hM3, k⟩ := h
    refine ⟨_, (pss_cons (ps_set (i := 3) sc_l_parts.nd rfl (Or.inl rfl) (pe_lst pa_nil))
      (pss_cons (ps_set (i := 4) sc_l_parts.nd rfl (Or.inl rfl) (pe_lst (pa_cons (pe_lst pa_nil) pa_nil)))
      (pss_cons (ps_set (i := 5) sc_l_parts.nd rfl (Or.inl rfl) pe_int)
      (pss_cons (ps_for PassesOwn.never rfl (pi_list (pv 0)) (pg_name (i := 6) sc_l_parts.nd rfl (Or.inl rfl)) (pss_cons (ps_for PassesOwn.never rfl (pi_range1 rfl B.range (pa_cons (pe_callB (call_min2 rfl) (by rfl) B.min (by decide +kernel) (pa_cons (pe_callB call_len_seq (by rfl) B.len PySem.boot_len (pa_cons (pv 3) pa_nil)) (pa_cons (pe_ix ix_list (pe_lst (pa_cons pe_int (pa_cons pe_int (pa_cons pe_int (pa_cons pe_int pa_nil))))) (pe_op op_mod (pv 6) pe_int) (fun _ _ => rfl)) pa_nil))) pa_nil)) (pg_name (i := 7) sc_l_parts.nd rfl (Or.inl rfl)) (pss_cons (ps_set (i := 8) sc_l_parts.nd rfl (Or.inl rfl) (pe_callTy call_tuple_of (by rfl) B.tuple (by decide +kernel) (pa_cons (pe_bm0 PySem.F.plainAttrs_list PySem.F.slot_list_pop PySem.F.type_list_pop mt_pop (pv 4)) pa_nil)))
      (pss_one (ps_expr (pe_bm PySem.F.plainAttrs_list PySem.F.slot_list_append PySem.F.type_list_append mt_append (pe_ix ix_list (pv 4) (pe_un un_neg pe_int) (fun _ _ => rfl)) (pa_cons (pe_tup (pa_cons pe_str (pa_cons (pe_bm0 PySem.F.plainAttrs_list PySem.F.slot_list_pop PySem.F.type_list_pop mt_pop (pv 3)) (pa_cons (pv 8) pa_nil)))) pa_nil))))))
      (pss_one (ps_if (PW.pt (pw_and (pt_cmpR op_eq (pe_op op_mod (pe_op op_fdiv (pv 6) pe_int) pe_int) pe_int (nomark _)) (pw_and1 (pt_cmpR op_lt (pv 5) pe_int (nomark _))))) (pss_cons (ps_expr (pe_bm PySem.F.plainAttrs_list PySem.F.slot_list_append PySem.F.type_list_append mt_append (pe_ix ix_list (pv 4) (pe_un un_neg pe_int) (fun _ _ => rfl)) (pa_cons (pe_tup (pa_cons pe_str (pa_cons (pe_op op_modN (pe_op op_fdiv (pv 6) pe_int) (pv 2)) pa_nil))) pa_nil)))
      (pss_one (ps_set (i := 5) sc_l_parts.nd rfl (Or.inl rfl) (pe_op op_add (pv 5) pe_int)))) (pss_cons (ps_expr (pe_bm PySem.F.plainAttrs_list PySem.F.slot_list_append PySem.F.type_list_append mt_append (pv 3) (pa_cons (pe_ix ix_list (pv 1) (pe_op op_mod (pe_op op_fdiv (pv 6) pe_int) pe_int) (fun _ _ => rfl)) pa_nil)))
      (pss_one (ps_expr (pe_bm PySem.F.plainAttrs_list PySem.F.slot_list_append PySem.F.type_list_append mt_append (pv 4) (pa_cons (pe_lst pa_nil) pa_nil)))))))))
      (pss_cons (ps_while PassesOwn.never (pt_cmpR op_gt (pe_callB call_len_seq (by rfl) B.len PySem.boot_len (pa_cons (pv 3) pa_nil)) pe_int (nomark _)) (pss_cons (ps_set (i := 8) sc_l_parts.nd rfl (Or.inl rfl) (pe_callTy call_tuple_of (by rfl) B.tuple (by decide +kernel) (pa_cons (pe_bm0 PySem.F.plainAttrs_list PySem.F.slot_list_pop PySem.F.type_list_pop mt_pop (pv 4)) pa_nil)))
      (pss_one (ps_expr (pe_bm PySem.F.plainAttrs_list PySem.F.slot_list_append PySem.F.type_list_append mt_append (pe_ix ix_list (pv 4) (pe_un un_neg pe_int) (fun _ _ => rfl)) (pa_cons (pe_tup (pa_cons pe_str (pa_cons (pe_bm0 PySem.F.plainAttrs_list PySem.F.slot_list_pop PySem.F.type_list_pop mt_pop (pv 3)) (pa_cons (pv 8) pa_nil)))) pa_nil))))))
      (pss_one (ps_ret (pe_callTy call_tuple_of (by rfl) B.tuple (by decide +kernel) (pa_cons (pe_ix ix_list (pv 4) pe_int (fun _ _ => rfl)) pa_nil))))))))), ?_⟩
    refine ⟨(Nat.zero_le _), fun pN nN => ?_⟩
    refine ⟨(Nat.zero_le _), fun r0 nr0 => ⟨(by show 1 ≤ sizeLine; decide), fun pR nR => ?_⟩⟩
    have s1 := same_new (o := .lst []) nN
    have s2 := same_new (o := .lst []) nr0
    have s3 := same_new (o := .lst [.ref r0]) nR
    have sH := strans s1 (strans s2 s3)
    have ps0 : PS H (upd (upd (upd H pN (.lst [])) r0 (.lst [])) pR (.lst [.ref r0])) M pN pR [] [[]] 0 :=
      ⟨sH, nN, s1.free (s2.free nR), ne_of_none (s2 _ _ upd_same) nR, s3 _ _ (s2 _ _ upd_same), ⟨[r0], upd_same, by simp, fun r hr => by
        rw [List.mem_singleton.mp hr]
        exact ⟨(ne_of_none upd_same nr0).symm, ne_of_none upd_same nR, s1.free nr0⟩, .cons ⟨[], s3 _ _ upd_same, rfl⟩ .nil⟩, rfl, fun t ht => (by cases ht), fun l hl x hx => (by rw [List.mem_singleton.mp hl] at hx; cases hx), Nat.le_refl _⟩
    refine ⟨_, rfl, a, rfl, ⟨_, SqL.of (sH _ _ ha)⟩, for_list (a := a) (xs := l.map V.int) (fun i σ H1 => ∃ (kd : Nat) (v6 v7 v8 : Option V) (ns : List Tag) (stk : List (List P1)), σ = [some (.ref a), some (.ref b), some (.int (M : Int)), some (.ref pN), some (.ref pR), some (.int (kd : Int)), v6, v7, v8] ∧ PS H H1 M pN pR ns stk i)
      ⟨0, _, _, _, [], [[]], rfl, ps0⟩ (fun i σ H1 _ ⟨_, _, _, _, _, _, _, h⟩ => SqL.of (h.same _ _ ha)) ?_ ?_⟩
    · rintro i x σ H1 hi ⟨kd, v6, v7, v8, ns, stk, rfl, h1⟩
      rw [List.getElem?_map] at hi
      obtain ⟨n, hn, rfl⟩ := Option.map_eq_some_iff.mp hi
      have n0 := hl0 n (List.mem_of_getElem? hn)
      have il : i < l.length := (List.getElem?_eq_some_iff.mp hn).1
      have e4a := Int.emod_nonneg n (b := 4) (by decide)
      have e4b := Int.emod_lt_of_pos n (b := 4) (by decide)
      -- min(len(names), [0, 0, 1, 2][n % 4])
      refine ⟨_, rfl, pN, _, rfl, .inl (SqL.of h1.hN), (by show 4 ≤ sizeLine; decide), fun pL nL => ?_⟩
      have sL := same_new (o := .lst [.int 0, .int 0, .int 1, .int 2]) nL
      have h2 := h1.new sL
      obtain ⟨c, hc, hc0⟩ : ∃ c : Int, atI [V.int 0, V.int 0, V.int 1, V.int 2] (n % 4) = some (V.int c) ∧ 0 ≤ c ∧ c ≤ 2 := by
        have : n % 4 = 0 ∨ n % 4 = 1 ∨ n % 4 = 2 ∨ n % 4 = 3 := by omega
        rcases this with e | e | e | e <;> rw [e]
        · exact ⟨0, rfl, by omega⟩
        · exact ⟨0, rfl, by omega⟩
        · exact ⟨1, rfl, by omega⟩
        · exact ⟨2, rfl, by omega⟩
      refine ⟨_, rfl, _, _, rfl, rfl, (by show (0 : Int) < 4; decide), pL, _, _, .int c, rfl, rfl, SqL.of upd_same, hc, _, _, rfl, ?_⟩
      rw [List.length_map]
      generalize hm : (if c < ((ns.length : Nat) : Int) then c else ((ns.length : Nat) : Int)) = m
      have hm1 : 0 ≤ m ∧ m ≤ ns.length := by rw [← hm]; split <;> omega
      refine ⟨_, rfl, by omega, by omega, for_range (lo := 0) (n := m.toNat) (fun j σ H3 => ∃ (v7 v8 : Option V) (ns' : List Tag) (stk' : List (List P1)), σ = [some (.ref a), some (.ref b), some (.int (M : Int)), some (.ref pN), some (.ref pR), some (.int (kd : Int)), some (.int n), v7, v8] ∧ PS H H3 M pN pR ns' stk' i ∧ ns'.length + j = ns.length)
        ⟨_, _, ns, stk, rfl, h2, rfl⟩ ?_ ?_⟩
      · rintro j σ H3 hj ⟨v7, v8, ns', stk', rfl, h3, hl3⟩
        obtain ⟨nsx, t, rfl⟩ := snoc_of (l := ns') (fun e => by rw [e] at hl3; simp at hl3; omega)
        have hlen := h3.len
        rw [List.length_append, List.length_singleton] at hlen
        obtain ⟨st1, l2, rfl⟩ := snoc_of (l := stk') (fun e => by rw [e] at hlen; simp at hlen)
        rw [List.length_append, List.length_singleton] at hlen
        obtain ⟨stx, l1, rfl⟩ := snoc_of (l := st1) (fun e => by rw [e] at hlen; simp at hlen)
        have hcl := h3
        obtain ⟨cnt0, hcnt0⟩ : ∃ cnt0, cnt0 = i := ⟨i, rfl⟩
        rw [← hcnt0] at hcl il ⊢
        have hcnt4 : cnt0 ≤ 4 := by omega
        -- inner = tuple(rows.pop())
        obtain ⟨rs, r2, xs2, q1, q2, q3, q4, qt, q5⟩ := hcl.close
        refine ⟨_, rfl, .inl ⟨rfl, _, SqL.of q1⟩, pR, _, .ref r2, rfl, rfl, q1, by simp, ?_⟩
        rw [List.dropLast_concat]
        refine ⟨r2, xs2, rfl, .inl ⟨SqL.of q2, fun ti nti => ?_⟩⟩
        obtain ⟨e1, e2, h4⟩ := q5 ti nti
        obtain ⟨rs', r1, xs1, p1, p2, p3, p4, p5, _⟩ := h4.push
        have p1' := p1
        rw [upd_ne h4.ne.symm] at p1'
        have p2' := p2
        rw [upd_ne p4] at p2'
        -- rows[-1].append(('tag', names.pop(), inner))
        refine ⟨_, rfl, 1, rfl, pR, _, -1, .ref r1, rfl, rfl, SqL.of p1', atI_last _ _, .inl ⟨rfl, _, SqL.of p2'⟩, _, rfl, .inl ⟨rfl, _, SqL.of e1⟩, pN, _, .str t, rfl, rfl, e1, by simp, ?_⟩
        rw [List.dropLast_concat]
        refine ⟨_, rfl, (by show 3 ≤ sizeLine; decide), fun u nu => ⟨r1, xs1, _, rfl, rfl, get_new p2 nu, szL (by omega), ?_⟩⟩
        have su := same_new (o := .tup [.str "tag", .str t, .ref ti]) nu
        have h5 := h4.new su
        obtain ⟨_, _, _, hpush⟩ := h5.push' (get_new p1 nu) (get_new p2 nu)
        have hti : Is _ (.tup (l2.map encP1)) (.ref ti) := ⟨ti, xs2, rfl, upd_same, q3.mono ((Tp.mut q1 (by intro z y; cases y)).trans (Tp.new nti))⟩
        have hok := ofL_ok q4
        have h6 := hpush (.inr (t, Ps.ofL l2)) (.ref u) ⟨qt, hok.1, hok.2⟩ ⟨u, _, rfl, upd_same, _, _, rfl, rfl, _, _, rfl, rfl, _, _, rfl, (by
          rw [enc_ofL]
          refine Is.same su (Is.mono ?_ _ hti)
          exact Tp.mut e1 (by intro z y; cases y)), rfl⟩
        have hcnt : cnt0 - (szL1 l2 + 1) + P1.sz (.inr (t, Ps.ofL l2)) = cnt0 := by
          show cnt0 - (szL1 l2 + 1) + (1 + (Ps.ofL l2).size) = cnt0
          rw [ofL_size]; omega
        rw [hcnt] at h6
        refine ⟨_, _, nsx, _, rfl, h6, by rw [List.length_append, List.length_singleton] at hl3; omega⟩
      · rintro σ H3 ⟨v7, v8, ns', stk', rfl, h3, hl3⟩
        have e12 := Int.emod_nonneg (n / 12) (b := 4) (by decide)
        have e12b := Int.emod_lt_of_pos (n / 12) (b := 4) (by decide)
        obtain ⟨tg, htg, tgn⟩ : ∃ tg, atI (ts.map V.str) (n / 12 % 4) = some (.str tg) ∧ tg ≠ END := by
          obtain ⟨j, hj⟩ : ∃ j : Nat, n / 12 % 4 = (j : Int) := ⟨(n / 12 % 4).toNat, by omega⟩
          have jl : j < ts.length := by omega
          exact ⟨ts[j], by rw [hj]; exact atI_nat (by rw [List.getElem?_map, List.getElem?_eq_getElem jl]; rfl), htn _ (List.getElem_mem jl)⟩
        dsimp only
        refine ⟨_, rfl, _, _, rfl, rfl, ⟨by decide, by decide⟩, _, _, rfl, rfl, (by show (0 : Int) < 2; decide), rfl, _, rfl, ?_⟩
        refine ite2 (fun z1 => ?_) (fun z1 => ?_)
        · refine ⟨_, rfl, _, _, rfl, rfl, _, rfl, ?_⟩
          refine ite2 (fun z2 => ?_) (fun z2 => ?_)
          · obtain ⟨stx, l1, rfl⟩ := snoc_of (l := stk') (fun e => by have := h3.len; rw [e] at this; simp at this)
            obtain ⟨rs', r1, xs1, p1, p2, p3, p4, p5, _⟩ := h3.push
            refine ⟨_, rfl, 1, rfl, pR, _, -1, .ref r1, rfl, rfl, SqL.of p1, atI_last _ _, .inl ⟨rfl, _, SqL.of p2⟩, _, rfl, _, _, rfl, rfl, ⟨by decide, by decide⟩, _, rfl, _, _, rfl, rfl, (by omega), (by show 2 ≤ sizeLine; decide), fun u nu => ⟨r1, xs1, _, rfl, rfl, get_new p2 nu, szL (by omega), ?_⟩⟩
            have b1 := Int.fmod_nonneg_of_pos (n / 12) (b := (M : Int)) (by omega)
            have b2 := Int.fmod_lt_of_pos (n / 12) (b := (M : Int)) (by omega)
            obtain ⟨mm, hmm⟩ : ∃ mm : Nat, (n / 12).fmod (M : Int) = (mm : Int) := ⟨((n / 12).fmod (M : Int)).toNat, by omega⟩
            have su := same_new (o := .tup [.str "kids", .int ((n / 12).fmod (M : Int))]) nu
            obtain ⟨_, _, _, hpush⟩ := (h3.new su).push' (get_new p1 nu) (get_new p2 nu)
            have h6 := hpush (.inl mm) (.ref u) (by show mm < M; omega) ⟨u, _, rfl, upd_same, _, _, rfl, rfl, _, _, rfl, congrArg V.int hmm, rfl⟩
            refine ⟨_, rfl, _, _, rfl, rfl, kd + 1, _, _, _, _, _, rfl, h6⟩
          · skip
            -- names.append(tags[..]); rows.append([])
            refine ⟨_, rfl, .inl ⟨rfl, _, SqL.of h3.hN⟩, _, rfl, _, rfl, _, _, rfl, rfl, ⟨by decide, by decide⟩, _, _, rfl, rfl, (by show (0 : Int) < 4; decide), b, _, _, .str tg, rfl, rfl, SqL.of (h3.same _ _ hb), htg, pN, _, _, rfl, rfl, h3.hN, by rw [List.length_map]; exact szL (by have := h3.sz; omega), ?_⟩
            have hbN : upd H3 pN (.lst (ns'.map V.str ++ [.str tg])) pR = H3 pR := upd_ne h3.ne.symm
            obtain ⟨rs9, q9, _⟩ := id h3.hR
            have q9' : upd H3 pN (.lst (ns'.map V.str ++ [.str tg])) pR = some (.lst (rs9.map V.ref)) := by rw [hbN]; exact q9
            refine ⟨_, rfl, .inl ⟨rfl, _, SqL.of q9'⟩, (Nat.zero_le _), fun r9 nr9 => ?_⟩
            obtain ⟨rs8, q8, q8l, h8⟩ := h3.name tgn nr9
            exact ⟨pR, rs8, _, rfl, rfl, q8, szL (by have := h3.sz; omega), kd, _, _, _, _, _, rfl, h8⟩
        · skip
          -- names.append(tags[..]); rows.append([])
          refine ⟨_, rfl, .inl ⟨rfl, _, SqL.of h3.hN⟩, _, rfl, _, rfl, _, _, rfl, rfl, ⟨by decide, by decide⟩, _, _, rfl, rfl, (by show (0 : Int) < 4; decide), b, _, _, .str tg, rfl, rfl, SqL.of (h3.same _ _ hb), htg, pN, _, _, rfl, rfl, h3.hN, by rw [List.length_map]; exact szL (by have := h3.sz; omega), ?_⟩
          have hbN : upd H3 pN (.lst (ns'.map V.str ++ [.str tg])) pR = H3 pR := upd_ne h3.ne.symm
          obtain ⟨rs9, q9, _⟩ := id h3.hR
          have q9' : upd H3 pN (.lst (ns'.map V.str ++ [.str tg])) pR = some (.lst (rs9.map V.ref)) := by rw [hbN]; exact q9
          refine ⟨_, rfl, .inl ⟨rfl, _, SqL.of q9'⟩, (Nat.zero_le _), fun r9 nr9 => ?_⟩
          obtain ⟨rs8, q8, q8l, h8⟩ := h3.name tgn nr9
          exact ⟨pR, rs8, _, rfl, rfl, q8, szL (by have := h3.sz; omega), kd, _, _, _, _, _, rfl, h8⟩
    · rintro σ H1 ⟨kd, v6, v7, v8, ns, stk, rfl, h1⟩
      rw [List.length_map] at h1
      -- while len(names) > 0
      refine ⟨fun m σ H3 => ∃ (v8 : Option V) (ns' : List Tag) (stk' : List (List P1)), σ = [some (.ref a), some (.ref b), some (.int (M : Int)), some (.ref pN), some (.ref pR), some (.int (kd : Int)), v6, v7, v8] ∧ PS H H3 M pN pR ns' stk' l.length ∧ m = ns'.length,
        ⟨_, _, ns, stk, rfl, h1, rfl⟩, ?_⟩
      rintro m σ H3 ⟨v8, ns', stk', rfl, h3, rfl⟩
      refine ⟨_, rfl, pN, _, rfl, .inl (SqL.of h3.hN), _, _, rfl, rfl, _, rfl, ?_⟩
      rw [List.length_map]
      refine ite2 (fun z => ?_) (fun z => ?_)
      · have z := of_decide_eq_true z
        refine ⟨_, fun _ _ h => h, ?_⟩
        obtain ⟨nsx, t, rfl⟩ := snoc_of (l := ns') (fun e => by rw [e] at z; simp at z)
        have hlen := h3.len
        rw [List.length_append, List.length_singleton] at hlen
        obtain ⟨st1, l2, rfl⟩ := snoc_of (l := stk') (fun e => by rw [e] at hlen; simp at hlen)
        rw [List.length_append, List.length_singleton] at hlen
        obtain ⟨stx, l1, rfl⟩ := snoc_of (l := st1) (fun e => by rw [e] at hlen; simp at hlen)
        have hcl := h3
        obtain ⟨cnt0, hcnt0⟩ : ∃ cnt0, cnt0 = l.length := ⟨_, rfl⟩
        rw [← hcnt0] at hcl ⊢
        have hcnt4 : cnt0 ≤ 4 := by omega
        -- inner = tuple(rows.pop())
        obtain ⟨rs, r2, xs2, q1, q2, q3, q4, qt, q5⟩ := hcl.close
        refine ⟨_, rfl, .inl ⟨rfl, _, SqL.of q1⟩, pR, _, .ref r2, rfl, rfl, q1, by simp, ?_⟩
        rw [List.dropLast_concat]
        refine ⟨r2, xs2, rfl, .inl ⟨SqL.of q2, fun ti nti => ?_⟩⟩
        obtain ⟨e1, e2, h4⟩ := q5 ti nti
        obtain ⟨rs', r1, xs1, p1, p2, p3, p4, p5, _⟩ := h4.push
        have p1' := p1
        rw [upd_ne h4.ne.symm] at p1'
        have p2' := p2
        rw [upd_ne p4] at p2'
        -- rows[-1].append(('tag', names.pop(), inner))
        refine ⟨_, rfl, 1, rfl, pR, _, -1, .ref r1, rfl, rfl, SqL.of p1', atI_last _ _, .inl ⟨rfl, _, SqL.of p2'⟩, _, rfl, .inl ⟨rfl, _, SqL.of e1⟩, pN, _, .str t, rfl, rfl, e1, by simp, ?_⟩
        rw [List.dropLast_concat]
        refine ⟨_, rfl, (by show 3 ≤ sizeLine; decide), fun u nu => ⟨r1, xs1, _, rfl, rfl, get_new p2 nu, szL (by omega), ?_⟩⟩
        have su := same_new (o := .tup [.str "tag", .str t, .ref ti]) nu
        have h5 := h4.new su
        obtain ⟨_, _, _, hpush⟩ := h5.push' (get_new p1 nu) (get_new p2 nu)
        have hti : Is _ (.tup (l2.map encP1)) (.ref ti) := ⟨ti, xs2, rfl, upd_same, q3.mono ((Tp.mut q1 (by intro z y; cases y)).trans (Tp.new nti))⟩
        have hok := ofL_ok q4
        have h6 := hpush (.inr (t, Ps.ofL l2)) (.ref u) ⟨qt, hok.1, hok.2⟩ ⟨u, _, rfl, upd_same, _, _, rfl, rfl, _, _, rfl, rfl, _, _, rfl, (by
          rw [enc_ofL]
          refine Is.same su (Is.mono ?_ _ hti)
          exact Tp.mut e1 (by intro z y; cases y)), rfl⟩
        have hcnt : cnt0 - (szL1 l2 + 1) + P1.sz (.inr (t, Ps.ofL l2)) = cnt0 := by
          show cnt0 - (szL1 l2 + 1) + (1 + (Ps.ofL l2).size) = cnt0
          rw [ofL_size]; omega
        rw [hcnt] at h6
        exact ⟨nsx.length, by simp, _, nsx, _, rfl, h6, rfl⟩
      · have e0 : ns' = [] := by
          cases ns' with
          | nil => rfl
          | cons x y => exact absurd (decide_eq_true (by simp)) z
        subst e0
        have hlen := h3.len
        obtain ⟨rs, q1, q2, q3, q4⟩ := h3.hR
        cases stk' with
        | nil => simp at hlen
        | cons l1 r =>
          cases r with
          | cons _ _ => simp at hlen
          | nil =>
            cases q4 with
            | @cons r1 _ rs' _ hh tt =>
              cases tt
              obtain ⟨xs, q5, q6⟩ := hh
              have hg := ofL_ok (h3.sok l1 (by simp))
              have hsz := h3.sz
              simp only [szS] at hsz
              refine ⟨_, rfl, pR, _, 0, .ref r1, rfl, rfl, SqL.of q1, rfl, r1, xs, rfl, .inl ⟨SqL.of q5, fun t nt => ?_⟩⟩
              refine k _ _ (Ps.ofL l1) (snew h3.same nt) ⟨t, xs, rfl, upd_same, by rw [enc_ofL]; exact q6.same (same_new nt)⟩ hg.1 hg.2 (by rw [ofL_size]; simp at hsz; omega)
end
end K76
set_option Elab.async false
set_option linter.all false
set_option maxRecDepth 100000
set_option maxHeartbeats 4000000
namespace K76
open PySem PySem.Spec PyProof.Rows L2
theorem cut_map {α : Type} (f : α → V) (l : List α) (lo hi : Option Int) : ∃ l' : List α, cutV (l.map f) lo hi = l'.map f ∧ (∀ x ∈ l', x ∈ l) ∧ l'.length ≤ HT.sIx l.length l.length hi - HT.sIx l.length 0 lo := by
  unfold cutV
  rw [List.length_map]
  refine ⟨(l.drop (HT.sIx l.length 0 lo)).take (HT.sIx l.length l.length hi - HT.sIx l.length 0 lo), by rw [List.map_take, List.map_drop], fun x hx => List.mem_of_mem_drop (List.mem_of_mem_take hx), ?_⟩
  rw [List.length_take]
  omega
theorem cut_len {n : Nat} {a c : Int} (ha : 0 ≤ a) (hc : 0 ≤ c) : HT.sIx n n (some (a + c)) - HT.sIx n 0 (some a) ≤ c.toNat := by
  show (if a + c < 0 then (a + c + (n : Int)).toNat else min (a + c).toNat n) - (if a < 0 then (a + (n : Int)).toNat else min a.toNat n) ≤ c.toNat
  rw [if_neg (by omega), if_neg (by omega)]
  omega
def kwp (e : Nat × Tag) : List Key := kw e.1 e.2
theorem kwp_inj {a b : Nat × Tag} (h : kwp a = kwp b) : a = b := by
  obtain ⟨h1, h2⟩ := kw_inj h
  exact Prod.ext h1 h2
def updW (W : Way) (m : Nat) (t : Tag) (ps : Ps) : Way := fun m' t' => if m' = m ∧ t' = t then some ps else W m' t'
/-- the dict of ways as the law keeps it -/
structure WK (H : Hp) (d : Addr) (W : Way) (M : Nat) (ks : List (Nat × Tag)) : Prop where
  wa : WayAt H d W
  pd : PD kwp H d ks
  nd : ks.Nodup
  mem : ∀ m t, (m, t) ∈ ks ↔ W m t ≠ none
  wok : WOk M W
  wtk : WTok W
theorem WK.same {H H' : Hp} {d : Addr} {W : Way} {M : Nat} {ks : List (Nat × Tag)} (h : WK H d W M ks) (s : L2.Same H H') : WK H' d W M ks := by
  obtain ⟨a, ⟨kvs, b1, b2⟩, c, e, f, g⟩ := h
  exact ⟨a.same s, ⟨kvs, s _ _ b1, b2⟩, c, e, f, g⟩
theorem WK.put {H : Hp} {d b : Addr} {W : Way} {M : Nat} {ks : List (Nat × Tag)} (h : WK H d W M ks) (hl : ks.length ≤ 1000) {m : Nat} {t : Tag} {ps : Ps} {v : V} (hb : H b = some (.tup [.int (m : Int), .str t])) (hv : Is H (.tup (encPs ps)) v) (h1 : ps.ok M) (h2 : ps.size ≤ 4) (h3 : ps.tok) :
    ∃ o u, H d = some u ∧ (∀ xs, u ≠ .tup xs) ∧ DPut H d (.ref b) v (upd H d o) ∧ WK (upd H d o) d (updW W m t ps) M (addP ks (m, t)) := by
  obtain ⟨⟨kvs, a1, a2⟩, ⟨kvs', b1, b2⟩, c, e, f, g⟩ := h
  rw [a1] at b1
  cases b1
  have hlen : kvs.length = ks.length := by have := congrArg List.length b2; simpa using this
  have tp : Tp H (upd H d (.dT (putK kvs (kw m t) v))) := Tp.mut a1 (by intro z y; cases y)
  refine ⟨.dT (putK kvs (kw m t) v), _, a1, (by intro z y; cases y), .inr ⟨kvs, kw m t, b, a1, rfl, hb, szL (by omega), rfl⟩, ⟨_, upd_same, fun m' t' => ?_⟩, ⟨_, upd_same, ?_⟩, nodup_addP c, fun m' t' => ?_, fun m' t' ps' hps => ?_, fun m' t' ps' hps => ?_⟩
  · rw [valV_put]
    unfold updW
    by_cases z : m' = m ∧ t' = t
    · obtain ⟨rfl, rfl⟩ := z
      rw [if_pos ⟨rfl, rfl⟩, if_pos rfl]
      exact .inr ⟨ps, v, rfl, rfl, Is.mono tp _ hv⟩
    · rw [if_neg z, if_neg (fun q => z (kw_inj q))]
      rcases a2 m' t' with h | ⟨ps', v', q1, q2, q3⟩
      · exact .inl h
      · exact .inr ⟨ps', v', q1, q2, Is.mono tp _ q3⟩
  · rw [keys_putK, b2]
    unfold addP
    have : kw m t ∈ ks.map kwp ↔ (m, t) ∈ ks := by
      constructor
      · intro z
        obtain ⟨y, hy, q⟩ := List.mem_map.mp z
        have : y = (m, t) := kwp_inj q
        rw [← this]; exact hy
      · exact fun z => List.mem_map_of_mem (f := kwp) z
    by_cases z : (m, t) ∈ ks
    · rw [if_pos (this.mpr z), if_pos z]
    · rw [if_neg (fun q => z (this.mp q)), if_neg z, List.map_append]; rfl
  · rw [mem_addP, e]
    unfold updW
    by_cases z : m' = m ∧ t' = t
    · rw [if_pos z]
      obtain ⟨rfl, rfl⟩ := z
      simp
    · rw [if_neg z]
      constructor
      · rintro (h | h)
        · exact h
        · exact absurd (Prod.mk.inj h) z
      · exact .inl
  · unfold updW at hps
    by_cases z : m' = m ∧ t' = t
    · rw [if_pos z] at hps; cases hps; exact ⟨h1, h2⟩
    · rw [if_neg z] at hps; exact f _ _ _ hps
  · unfold updW at hps
    by_cases z : m' = m ∧ t' = t
    · rw [if_pos z] at hps; cases hps; exact h3
    · rw [if_neg z] at hps; exact g _ _ _ hps
def spLWays : Sp := fun vs H Q _ => ∃ (a b : Addr) (l : List Int) (ts : List Tag) (M : Nat), vs = [.ref a, .ref b, .int (M : Int)] ∧ H a = some (.lst (l.map V.int)) ∧ H b = some (.lst (ts.map V.str)) ∧ ts.length = 4 ∧ (∀ t ∈ ts, t ≠ END) ∧ (∀ x ∈ l, 0 ≤ x) ∧ l.length = 30 ∧ 1 ≤ M ∧ M ≤ 2 ∧
  ∀ H' d W ks, L2.Same H H' → WK H' d W M ks → ks.length ≤ 6 → Q (.ref d) H'
abbrev st_l_ways : Stmt := top 32
theorem sc_l_ways : FnScope ["_law_numbers_here", "_law_tags_here", "_law_modes", "_law_ways_here", "_law_at", "_law_mode", "_law_tag", "_law_number"] ["_law_numbers_here", "_law_tags_here", "_law_modes"] (defScope st_l_ways) := ⟨rfl, rfl, rfl, by decide +kernel, rfl, by decide +kernel, by decide +kernel⟩
section
variable {P : Program} {w : World} {K : PySem.W.Frag} {mg : Str → Option Value} {base : Heap}
theorem ok_lways {f : Addr} {fd : FuncData} (F : Fun K "_law_ways" "_law_ways" st_l_ways f fd) (B : Gb mg) (Fl_parts : Callable P w K mg base CX0 1 "_law_parts" ["_law_numbers_here", "_law_tags_here", "_law_modes"] spLParts) : FnOk P w K mg base CX0 2 f fd ["_law_numbers_here", "_law_tags_here", "_law_modes"] spLWays := by
  refine F.ok sc_l_ways (fun vs H Q E h => ?_) (fun cdv A outer s H vs Q E hr h => ?_)
  · obtain ⟨_, _, _, _, _, rfl, _⟩ := h
    rfl
  · obtain ⟨a, b, l, ts, M, rfl, ha, hb, htl, htn, hl0, hll, hM1, hM2, k⟩ := h
    have hu1 := hu_of hr
    refine ⟨_, (pss_cons (ps_set (i := 3) sc_l_ways.nd rfl (Or.inl rfl) pe_dnewT)
      (pss_cons (ps_set (i := 4) sc_l_ways.nd rfl (Or.inl rfl) pe_int)
      (pss_cons (ps_for PassesOwn.never rfl (pi_range1 rfl B.range (pa_cons (pv 2) pa_nil)) (pg_name (i := 5) sc_l_ways.nd rfl (Or.inl rfl)) (pss_one (ps_for PassesOwn.never rfl (pi_list (pe_slice sl_list (pv 1) po_none (po_some pe_int))) (pg_name (i := 6) sc_l_ways.nd rfl (Or.inl rfl)) (pss_cons (ps_set (i := 7) sc_l_ways.nd rfl (Or.inl rfl) (pe_ix ix_list (pv 0) (pv 4) (fun _ _ => rfl)))
      (pss_cons (ps_if (pt_cmpR op_gt (pe_op op_mod (pv 7) pe_int) pe_int (nomark _)) (pss_one (ps_dput hu1 (pv 3) (pe_tup (pa_cons (pv 5) (pa_cons (pv 6) pa_nil))) (pe_callF Fl_parts (hr.mono (by decide)) rfl pass0 (pa_cons (pe_slice sl_list (pv 0) (po_some (pe_op op_add (pv 4) pe_int)) (po_some (pe_op op_add (pe_op op_add (pv 4) pe_int) (pe_op op_mod (pe_op op_fdiv (pv 7) pe_int) pe_int)))) (pa_cons (pv 1) (pa_cons (pv 2) pa_nil)))) rfl)) pss_nil)
      (pss_one (ps_set (i := 4) sc_l_ways.nd rfl (Or.inl rfl) (pe_op op_add (pv 4) pe_int))))))))
      (pss_one (ps_ret (pv 3)))))), ?_⟩
    intro d nd
    have s0 := same_new (o := .dT []) nd
    have w0 : WK (upd H d (.dT [])) d (fun _ _ => none) M [] := ⟨⟨[], upd_same, fun m t => .inl ⟨rfl, rfl⟩⟩, ⟨[], upd_same, rfl⟩, .nil, fun m t => by simp, fun m t ps h => (by cases h), fun m t ps h => (by cases h)⟩
    refine ⟨_, rfl, _, rfl, by omega, by omega, for_range (lo := 0) (n := M) (fun i σ H1 => ∃ (v5 v6 v7 : Option V) (W : Way) (ks : List (Nat × Tag)) (at_ : Nat), σ = [some (.ref a), some (.ref b), some (.int (M : Int)), some (.ref d), some (.int (at_ : Int)), v5, v6, v7] ∧ L2.Same H H1 ∧ WK H1 d W M ks ∧ ks.length ≤ 3 * i ∧ at_ ≤ 15 * i)
      ⟨_, _, _, _, [], 0, rfl, s0, w0, by simp, by omega⟩ ?_ ?_⟩
    · rintro i σ H1 hi ⟨v5, v6, v7, W, ks, at_, rfl, s1, w1, hk1, hat⟩
      have ez : (V.int (0 + (i : Int))) = V.int (i : Int) := by rw [Int.zero_add]
      rw [ez]
      refine ⟨_, rfl, 3, rfl, b, _, rfl, SqL.of (s1 _ _ hb), fun pt nt => ?_⟩
      obtain ⟨tl, et, tm, tlen⟩ := cut_map V.str ts none (some 3)
      rw [et]
      have tl3 : tl.length ≤ 3 := by
        have : HT.sIx ts.length ts.length (some 3) ≤ 3 := by
          show (if (3 : Int) < 0 then ((3 : Int) + (ts.length : Int)).toNat else min ((3 : Int)).toNat ts.length) ≤ 3
          rw [if_neg (by omega)]
          omega
        omega
      have s2 := same_new (o := .lst (tl.map V.str)) nt
      refine ⟨pt, rfl, ⟨_, SqL.of upd_same⟩, for_list (a := pt) (xs := tl.map V.str) (fun j σ H2 => ∃ (v6 v7 : Option V) (W : Way) (ks : List (Nat × Tag)) (at_ : Nat), σ = [some (.ref a), some (.ref b), some (.int (M : Int)), some (.ref d), some (.int (at_ : Int)), some (.int (i : Int)), v6, v7] ∧ L2.Same H H2 ∧ H2 pt = some (.lst (tl.map V.str)) ∧ WK H2 d W M ks ∧ ks.length ≤ 3 * i + j ∧ at_ ≤ 15 * i + 5 * j)
        ⟨_, _, W, ks, at_, rfl, strans s1 s2, upd_same, w1.same s2, by omega, by omega⟩ (fun j σ H2 _ ⟨_, _, _, _, _, _, _, h, _⟩ => SqL.of h) ?_ ?_⟩
      · rintro j x σ H2 hj ⟨v6, v7, W, ks, at_, rfl, s2', hpt, w2, hk2, hat2⟩
        rw [List.getElem?_map] at hj
        obtain ⟨t, ht, rfl⟩ := Option.map_eq_some_iff.mp hj
        have jl : j < tl.length := (List.getElem?_eq_some_iff.mp ht).1
        have atl : at_ < l.length := by omega
        have hn0 := hl0 l[at_] (List.getElem_mem atl)
        have gat : atI (l.map V.int) (at_ : Int) = some (.int l[at_]) := atI_nat (by rw [List.getElem?_map, List.getElem?_eq_getElem atl]; rfl)
        have q1 := Int.emod_nonneg (l[at_] / 4) (b := 5) (by decide)
        have q2 := Int.emod_lt_of_pos (l[at_] / 4) (b := 5) (by decide)
        refine ⟨_, rfl, _, rfl, a, _, _, .int l[at_], rfl, rfl, SqL.of (s2' _ _ ha), gat, ?_⟩
        dsimp only
        refine if_mid (fun σ H3 => ∃ (v7 : Option V) (W : Way) (ks : List (Nat × Tag)), σ = [some (.ref a), some (.ref b), some (.int (M : Int)), some (.ref d), some (.int (at_ : Int)), some (.int (i : Int)), some (.str t), v7] ∧ L2.Same H H3 ∧ H3 pt = some (.lst (tl.map V.str)) ∧ WK H3 d W M ks ∧ ks.length ≤ 3 * i + j + 1) ?_ (fun cont => ?_)
        rotate_left
        · refine ⟨_, rfl, _, _, rfl, rfl, (by show (0 : Int) < 4; decide), _, _, rfl, rfl, _, rfl, ?_⟩
          refine ite2 (fun z => ?_) (fun z => ?_)
          · obtain ⟨l', el, lm, llen⟩ := cut_map V.int l (some ((at_ : Int) + 1)) (some ((at_ : Int) + 1 + l[at_] / 4 % 5))
            have ll4 : l'.length ≤ 4 := by
              have := cut_len (n := l.length) (a := (at_ : Int) + 1) (c := l[at_] / 4 % 5) (by omega) q1
              omega
            -- ways[mode, tag] = parts(..)
            refine ⟨_, rfl, _, rfl, _, _, rfl, rfl, _, rfl, _, rfl, _, _, rfl, rfl, _, rfl, _, _, rfl, rfl, ⟨by decide, by decide⟩, _, _, rfl, rfl, (by show (0 : Int) < 5; decide), _, _, rfl, rfl, _, rfl, a, _, rfl, SqL.of (s2' _ _ ha), fun pl nl => ?_⟩
            have sl := same_new (o := .lst (cutV (l.map V.int) (some ((at_ : Int) + 1)) (some ((at_ : Int) + 1 + l[at_] / 4 % 5)))) nl
            have s3 := strans s2' sl
            refine ⟨_, rfl, _, rfl, pl, b, l', ts, M, rfl, upd_same.trans (congrArg (fun x => some (HO.lst x)) el), s3 _ _ hb, htl, htn, fun x hx => hl0 x (lm x hx), ll4, hM1, by omega, fun H4 vp ps s4 hvp pok ptok psz => ?_⟩
            have s24 := strans sl s4
            have w4 := w2.same s24
            refine ⟨_, rfl, _, rfl, _, rfl, (by show 2 ≤ sizeLine; decide), fun u nu => ?_⟩
            have s5 := same_new (o := .tup [.int (i : Int), .str t]) nu
            obtain ⟨o, uu, g1, g2, g3, g4⟩ := (w4.same s5).put (by omega) (m := i) (t := t) upd_same (hvp.same s5) pok psz ptok
            refine ⟨d, _, rfl, g3, cont _ _ ⟨_, _, _, rfl, smut (strans s3 (strans s4 s5)) nd, ?_, g4, Nat.le_trans addP_len (by omega)⟩⟩
            have hpt5 := s5 _ _ (s24 _ _ hpt)
            obtain ⟨kvs, gk, _⟩ := (w4.same s5).wa
            rw [upd_ne (ne_of hpt5 gk (by intro z; cases z))]; exact hpt5
          · exact cont _ _ ⟨_, W, ks, rfl, s2', hpt, w2, by omega⟩
        · rintro σ H3 ⟨v7, W, ks, rfl, s3, hpt3, w3, hk3⟩
          exact ⟨_, rfl, _, _, rfl, rfl, _, _, W, ks, at_ + 5, rfl, s3, hpt3, w3, by omega, by omega⟩
      · rintro σ H2 ⟨v6, v7, W, ks, at_, rfl, s2', hpt, w2, hk2, hat2⟩
        rw [List.length_map] at hk2 hat2
        exact ⟨_, _, _, W, ks, at_, rfl, s2', w2, by omega, by omega⟩
    · rintro σ H1 ⟨v5, v6, v7, W, ks, at_, rfl, s1, w1, hk1, hat⟩
      exact ⟨_, rfl, k _ d W ks s1 w1 (by omega)⟩
end
end K76
set_option Elab.async false
set_option linter.all false
set_option maxRecDepth 100000
set_option maxHeartbeats 8000000
namespace K76
open PySem PySem.Spec PyProof.Rows L2
/-! ### set(list), sorted(set) for flat things: what comes out came in -/
structure Flat (P : Program) (w : World) {κ : Type} [DecidableEq κ] (knd : PySem.KeyKind P w κ) (enc : κ → V) (dat : κ → PyData) : Prop where
  rel : ∀ k v, RelV (enc k) v → knd.is k v = true ∧ v.scannable = true
  reads : ∀ h k v, RelV (enc k) v → Reads h v (dat k) []
  alike : ∀ a b, PySem.W.alike (dat a) (dat b) = true
  flat : ∀ k, dat k ≠ .none ∧ ∀ xs, dat k ≠ .tuple xs
  deep : ∀ k, (dat k).depth = 0
section
variable {P : Program} {w : World} {κ : Type} [DecidableEq κ] {knd : PySem.KeyKind P w κ} {enc : κ → V} {dat : κ → PyData}
/-- a set at a, of things among ks, at most n; not empty if n is not 0 -/
def SetG (knd : PySem.KeyKind P w κ) (enc : κ → V) (ks : List κ) (h : Heap) (a : Addr) (n : Nat) : Prop :=
  ∃ o es ep t, h.get? a = some o ∧ o.ExactSet ∧ o.data = .set es ep t ∧ ElemsOf knd es.toList ∧ (∀ e ∈ es.toList, ∃ k ∈ ks, RelV (enc k) e.2) ∧ es.size ≤ n ∧ (0 < n → 0 < es.size) ∧ n < scanBound ∧ t.fits es.size = true ∧ Ris t.place.toList ∧ (w.params.followText "set-order" = true ∨ t.led = true)
theorem SetG.at {ks : List κ} {h h' : Heap} {a : Addr} {n : Nat} (R : SetG knd enc ks h a n) (k : ∀ o, h.get? a = some o → h'.get? a = some o) : SetG knd enc ks h' a n := by
  obtain ⟨o, es, ep, t, ho, r⟩ := R
  exact ⟨o, es, ep, t, k o ho, r⟩
variable {A : Around} {E : Value → Shared → Prop} {s : Shared} {a : Addr} {ks : List κ} {n : Nat}
theorem setG_tail {g : Bool → Sem Unit} (hg : ∀ (b : Bool) (s₁ : Shared) (Q' : Unit → Shared → Prop), Q' () s₁ → wpAny (model P w) A (g b) Q' E s₁)
    {o : Obj} {es : Array (Int × Value)} {ep : Nat} {t : SetTable} (ho : s.heap.get? a = some o) (hex : o.ExactSet) (hd : o.data = .set es ep t)
    {es1 : Array (Int × Value)} {t2 : SetTable} (g1 : ElemsOf knd es1.toList) (m1 : ∀ e ∈ es1.toList, ∃ k ∈ ks, RelV (enc k) e.2)
    (hle : es1.size ≤ n) (hpos : 0 < es1.size) (hb1 : n < scanBound) (hf2 : t2.fits es1.size = true) (hr : Ris t2.place.toList) (hl : w.params.followText "set-order" = true ∨ t2.led = true) {wasDummy : Bool} {R : Option Bool → Shared → Prop}
    (hR : ∀ h', Heap.SameBut a s.heap h' → SetG knd enc ks h' a n → R (some true) { s with heap := h' }) :
    wpAny (model P w) A (do
        storeSet a es1 t2
        if (!wasDummy && t2.tooFull) = true then do
            g (relayAll t2 es1 (SetTable.grown es1.size)).2.2
            storeSet a (relayAll t2 es1 (SetTable.grown es1.size)).1 (relayAll t2 es1 (SetTable.grown es1.size)).2.1
            pure (some true)
          else pure (some true)) R E s := by
  have hb0 : es1.size < scanBound := Nat.lt_of_le_of_lt hle hb1
  refine wpAny_bind (wpAny_storeSet_of ho hd ?_ (fits_of_scanBound hb0))
  have ho1 := store_at (es' := es1) (t' := t2) ho hd
  have sb1 := Heap.SameBut.update s.heap a (Obj.putSet es1 t2)
  split
  · have pm := relayAll_perm t2 es1 (SetTable.grown es1.size)
    have hf3 := relayAll_fits t2 es1 (SetTable.grown es1.size)
    have hr3 := relayAll_ris t2 es1 (SetTable.grown es1.size)
    have hl3 := relayAll_led t2 es1 (SetTable.grown es1.size)
    generalize relayAll t2 es1 (SetTable.grown es1.size) = Z at pm hf3 hr3 hl3 ⊢
    obtain ⟨es2, t3, gave⟩ := Z
    dsimp only at pm hf3 hr3 hl3 ⊢
    have hsz : es2.size = es1.size := by rw [← Array.length_toList, pm.length_eq, Array.length_toList]
    refine wpAny_bind (hg _ _ _ ?_)
    refine wpAny_bind (wpAny_storeSet_of ho1 rfl ?_ (fits_of_scanBound (by rw [hsz]; exact hb0)))
    have ho2 := store_at (es' := es2) (t' := t3) ho1 rfl
    refine wpAny_pure (hR _ (sb1.trans (Heap.SameBut.update _ a _)) ?_)
    exact ⟨_, es2, _, t3, ho2, hex, rfl, fun e he => g1 e (pm.mem_iff.mp he), fun e he => m1 e (pm.mem_iff.mp he), by rw [hsz]; exact hle, fun _ => by rw [hsz]; exact hpos, hb1, hf3, hr3, hl.imp id fun z => by rw [hl3]; exact z⟩
  · exact wpAny_pure (hR _ sb1 ⟨_, es1, _, t2, ho1, hex, rfl, g1, m1, hle, fun _ => hpos, hb1, hf2, hr, hl⟩)
theorem setG_add (Fl : Flat P w knd enc dat) {k : κ} {v : Value} (rv : RelV (enc k) v) (hk : k ∈ ks) {Q : Bool → Shared → Prop} (R : SetG knd enc ks s.heap a n) (room : n + 1 < scanBound)
    (hQ : ∀ b h', Heap.SameBut a s.heap h' → SetG knd enc ks h' a (n + 1) → Q b { s with heap := h' }) :
    wpAny (model P w) A (setAddHashed a v (knd.hash k)) Q E s := by
  obtain ⟨o, es, ep, t, ho, hex, hd, hel, hin, hle, hpos, hb, hf, hr, hl⟩ := R
  obtain ⟨hkey, hsc⟩ := Fl.rel k v rv
  have hb0 : es.size < scanBound := Nat.lt_of_le_of_lt hle hb
  unfold setAddHashed setAddHashedIn
  refine wpAny_holding (wpAny_bind (wpAny_setState_of ho hd hf ?_))
  dsimp only
  rw [byScan_of hsc hb0 hel]
  simp only [↓reduceIte]
  unfold setAddByScan
  refine wpAny_bind ?_
  refine wpAny_bind (wpAny_rule ?_)
  refine wpAny_bind (wpAny_setScan_of hkey ho hd hf hel ?_)
  cases hfi : List.findIdx? (fun e => knd.is k e.2) es.toList with
  | some j =>
    dsimp only
    obtain ⟨hj, pj, _⟩ := List.findIdx?_eq_some_iff_getElem.mp hfi
    have hj' : 0 < es.size := by rw [Array.length_toList] at hj; omega
    refine wpAny_pure (wpAny_pure ?_)
    exact hQ _ s.heap (Heap.SameBut.refl a s.heap) ⟨o, es, ep, t, ho, hex, hd, hel, hin, by omega, fun _ => hj', room, hf, hr, hl⟩
  | none =>
    dsimp only
    have hgw : ∀ (b : Bool) {s₁ : Shared} {Q' : Unit → Shared → Prop}, Q' () s₁ → wpAny (model P w) A (match b with | true => rule "set.scan.the-table-gave-way" | false => pure ()) Q' E s₁ :=
      fun b s₁ Q' q => by cases b <;> first | exact wpAny_pure q | exact wpAny_rule q
    have pm := layNew_perm t es (knd.hash k) v
    have hf1 := layNew_fits t es (knd.hash k) v
    have hr1 := layNew_ris t es (knd.hash k) v hr
    have hl1 := layNew_led t es (knd.hash k) v
    generalize layNew t es (knd.hash k) v = Z at pm hf1 hr1 hl1 ⊢
    obtain ⟨es1, t1, wasDummy, gave⟩ := Z
    dsimp only at pm hf1 hr1 hl1 ⊢
    rw [Array.toList_push] at pm
    have pc : es1.toList.Perm ((knd.hash k, v) :: es.toList) := pm.trans (List.perm_append_singleton _ _)
    have g1 : ElemsOf knd es1.toList := fun e he => by
      rcases List.mem_cons.mp (pc.mem_iff.mp he) with z | z
      · rw [z]; exact ⟨⟨k, hkey, rfl⟩, hsc⟩
      · exact hel e z
    have m1 : ∀ e ∈ es1.toList, ∃ k ∈ ks, RelV (enc k) e.2 := fun e he => by
      rcases List.mem_cons.mp (pc.mem_iff.mp he) with z | z
      · rw [z]; exact ⟨k, hk, rv⟩
      · exact hin e z
    have hsz : es1.size = es.size + 1 := by rw [← Array.length_toList, pc.length_eq, List.length_cons, Array.length_toList]
    have hled : w.params.followText "set-order" = true ∨ t1.led = true := hl.imp id fun z => by rw [hl1]; exact z
    refine wpAny_bind (hgw _ ?_)
    split
    · refine wpAny_bind ?_
      rw [hashByValue_scannable 8 hsc]
      refine wpAny_pure ?_
      refine setG_tail (n := n + 1) ?_ ho hex hd g1 m1 (by omega) (by omega) room ?_ ?_ ?_ ?_
      · intro b s₁ Q' q; cases b <;> first | exact wpAny_pure q | exact wpAny_rule q
      · first | (split <;> first | exact hf1 | exact SetTable.fits_plain_off hf1) | exact hf1
      · first | (split <;> exact hr1) | exact hr1
      · first | (split <;> exact hled) | exact hled
      · intro h' sb r; dsimp only; exact wpAny_pure (hQ _ h' sb r)
    · refine wpAny_bind (wpAny_pure ?_)
      simp only [↓reduceIte]
      refine setG_tail (n := n + 1) ?_ ho hex hd g1 m1 (by omega) (by omega) room hf1 hr1 hled ?_
      · intro b s₁ Q' q; cases b <;> first | exact wpAny_pure q | exact wpAny_rule q
      · intro h' sb r; dsimp only; exact wpAny_pure (hQ _ h' sb r)
theorem setG_new {h : Heap} (ho : h.get? a = some { cls := .type "set", dict := none, data := .set #[] 0 (.fresh 0 0 (!w.params.followText "set-order")) }) : SetG knd enc ks h a 0 :=
  ⟨_, #[], 0, _, ho, ⟨rfl, rfl, rfl⟩, rfl, (fun e he => by simp at he), (fun e he => by simp at he), Nat.le_refl _, (fun h => absurd h (Nat.lt_irrefl _)), (by decide), (by rfl), List.Pairwise.nil, by
    show _ ∨ (!w.params.followText "set-order") = true
    cases w.params.followText "set-order"
    · exact .inr rfl
    · exact .inl rfl⟩
theorem setG_loop (Fl : Flat P w knd enc dat) {I : Addr} {fp wr : List Addr} {G : Array GenState → Array GenState → Prop} {N : Nat} {Pv : Nat → Value → Prop} {St : Nat → Shared → Prop} {R : Result → Shared → Prop}
    (W : WalksS P w A.in1 I fp wr G N Pv St) (S : Addr) (hSf : S ∉ fp) (hb : N + 1 < scanBound) (hval : ∀ i v, Pv i v → ∃ k ∈ ks, RelV (enc k) v) :
    ∀ (m i : Nat) (s : Shared), N - i = m → i ≤ N → St i s → SetG knd enc ks s.heap S i →
      (∀ s', Moved (S :: wr) G s s' → SetG knd enc ks s'.heap S N → R (.ok (.ret .none)) s') →
      codeAny (model P w) A (.builtin "set.update.loop" ⟨[.ref S, .ref I], []⟩) R s := by
  have hSw : S ∉ wr := fun h => hSf (W.sub _ h)
  have hsub : ∀ b ∈ wr, b ∈ S :: wr := fun b hb => List.mem_cons_of_mem _ hb
  intro m
  induction m with
  | zero =>
    intro i s hk' hi hst hS hR
    obtain rfl : i = N := by omega
    refine codeAny_builtin F.entry_set_update_loop ?_
    rw [Around.under_plainId F.plain_set_update_loop _]
    show wpAny _ A.in1 (pyNext (.ref I) >>= _) _ _ s
    refine wpAny_bind (W.done s _ _ hst fun s' hm => ?_)
    show wpAny _ A.in1 (ret Value.none) _ _ s'
    exact wpAny_pure (hR s' (hm.mono hsub) (hS.at fun o e => hm.heap S o hSw e))
  | succ m ih =>
    intro i s hk' hi hst hS hR
    have hlt : i < N := by omega
    refine codeAny_builtin F.entry_set_update_loop ?_
    rw [Around.under_plainId F.plain_set_update_loop _]
    show wpAny _ A.in1 (pyNext (.ref I) >>= _) _ _ s
    refine wpAny_bind (W.item i s _ _ hlt hst fun v s' hP hst' hm => ?_)
    obtain ⟨k, hk, rv⟩ := hval i v hP
    have hS' : SetG knd enc ks s'.heap S i := hS.at fun o e => hm.heap S o hSw e
    show wpAny _ A.in1 (holding [v] (setAdd S v) >>= _) _ _ s'
    refine wpAny_bind (wpAny_holding ?_)
    unfold setAdd
    refine wpAny_holding ?_
    refine wpAny_bind (knd.pyHash (k := k) (Fl.rel k v rv).1 ?_)
    refine setG_add Fl (s := { s' with toks := s'.toks + 1 }) rv hk hS' (by omega) fun b h' hsb hS2 => ?_
    refine wpAny_pure ⟨plainId_quiet F.plain_set_update_loop _, ih (i + 1) _ (by omega) hlt (W.frame _ s' _ _ hst' (Nat.le_succ _) fun b hb o e => ?_) hS2 fun s'' hm'' hS'' => ?_⟩
    · rw [hsb.2 b (fun h : b = S => hSf (by rw [← h]; exact hb))]; exact e
    · refine hR s'' (Moved.trans W.gtrans ((hm.mono hsub).then_heap (Nat.le_succ _) fun b o hb e => ?_) hm'') hS''
      rw [hsb.2 b (fun h : b = S => hb (by rw [h]; exact List.mem_cons_self))]; exact e
set_option maxHeartbeats 16000000 in
theorem call_setG (Fl : Flat P w knd enc dat) {l : Addr} {items : Array Value} {Q : Value → Shared → Prop} (hh : A.handled = none) (hl : s.heap.IsList l items) (hit : ∀ v ∈ items.toList, ∃ k ∈ ks, RelV (enc k) v) (hb : items.size + 1 < scanBound)
    (h : ∀ (h' : Heap) (tk : Nat), SetG knd enc ks h' s.heap.objs.size items.size → (∀ b o, s.heap.get? b = some o → h'.get? b = some o) → Q (.ref s.heap.objs.size) { s with heap := h', toks := tk }) :
    wpAny (model P w) A (call (.type "set") [.ref l]) Q E s := by
  obtain ⟨c, tl, hmro⟩ := F.called_set.mro
  have hmade := F.called_set.made
  have hsub := F.called_set.sub
  refine wpAny_call (codeAny_of_tree ?_)
  show wpAny _ _ (callAny (.type "set") _) _ _ _
  refine wpAny_pure ⟨Code.quiet_builtin _ (by decide +kernel), codeAny_builtin F.entry_type_call ?_⟩
  rw [Around.under_plain (weight_type_call_type "set" [.ref l] []) rfl]
  have h1 := F.called_set.notType
  have h2 := F.called_set.canCreate
  have hct := F.typeCall_set_1 (.ref l)
  repeat (any_goals (first | assumption | wp_step))
  refine codeAny_mono (code_set_led1 (.ref l) (E := E) (Q₁ := fun obj s₁ => obj = .ref s.heap.objs.size ∧ s₁ = { s with heap := s.heap.push { cls := .type "set", dict := none, data := .set #[] 0 (.fresh 0 0 (!w.params.followText "set-order")) } }) ⟨rfl, rfl⟩) fun r s₁ hr => ?_
  cases r with
  | error e => exact hr
  | ok fl =>
    cases fl with
    | ret obj =>
      obtain ⟨rfl, rfl⟩ := hr
      have hS : (s.heap.push { cls := .type "set", dict := none, data := .set #[] 0 (.fresh 0 0 (!w.params.followText "set-order")) }).get? s.heap.objs.size = some { cls := .type "set", dict := none, data := .set #[] 0 (.fresh 0 0 (!w.params.followText "set-order")) } := Heap.get?_push_size _ rfl
      have hT : Shared.TypeIs { s with heap := s.heap.push { cls := .type "set", dict := none, data := .set #[] 0 (.fresh 0 0 (!w.params.followText "set-order")) } } (.ref s.heap.objs.size) "set" := ⟨_, hS, rfl⟩
      have hli := F.called_set.init.lookup
      have hbi := F.called_set.init.bind (.ref s.heap.objs.size)
      repeat (any_goals (first | assumption | wp_step))
      refine codeAny_mono (codeAny_call_builtin (R := wants (fun r s₂ => r = .none ∧ ∃ h' tk, s₂ = { s with heap := h', toks := tk } ∧ SetG knd enc ks h' s.heap.objs.size items.size ∧
          (∀ b o, s.heap.get? b = some o → h'.get? b = some o)) E) F.called_set.init.plain F.entry_set_init (check_set_init_1 hT ?_)) fun r₂ s₂ hr₂ => ?_
      · obtain ⟨ol, hol, hcl, nl, hdl⟩ := id hl
        obtain ⟨ocls, odict, odata, oslots⟩ := ol
        simp only at hcl hdl
        subst hcl; subst hdl
        have hol' := Heap.get?_push_of_some { cls := .type "set", dict := none, data := .set #[] 0 (.fresh 0 0 (!w.params.followText "set-order")) } hol
        have hsls := F.sub_list_set
        have hslf := F.sub_list_frozenset
        have hne : (Value.type "list" == Value.type "dict") = false := by decide
        have hl1 : (s.heap.push { cls := .type "set", dict := none, data := .set #[] 0 (.fresh 0 0 (!w.params.followText "set-order")) }).IsList l items := hl.push _
        unfold Builtin.«set.__init__» noKeywords Builtin.Frozenset.updateFrom
        generalize hPI : pyIter = PI
        wp_walk
        subst hPI
        refine wpAny_pyIter_list hl1 ?_
        refine wpAny_bind (wpAny_runValue ?_)
        have hlS : l < s.heap.objs.size := Heap.lt_size hol
        have hh3 : A.in1.in1.in1.handled = none := by simp [hh]
        have hneI : l ≠ (s.heap.push { cls := .type "set", dict := none, data := .set #[] 0 (.fresh 0 0 (!w.params.followText "set-order")) }).objs.size := by
          rw [Heap.size_push]; exact Nat.ne_of_lt (Nat.lt_succ_of_lt hlS)
        have hSf : s.heap.objs.size ∉ [(s.heap.push { cls := .type "set", dict := none, data := .set #[] 0 (.fresh 0 0 (!w.params.followText "set-order")) }).objs.size, l] := by
          rw [Heap.size_push]; simp only [List.mem_cons, List.mem_singleton, List.not_mem_nil, or_false, not_or]
          exact ⟨Nat.ne_of_lt (Nat.lt_succ_self _), Nat.ne_of_gt hlS⟩
        refine setG_loop Fl ((Walks.list hh3 _ l hneI items).toS) s.heap.objs.size hSf hb
          (fun i v hv => hit v (by rw [← Array.getElem?_toList] at hv; exact List.mem_of_getElem? hv)) (items.size - 0) 0 _ (by omega) (Nat.zero_le _)
          ⟨⟨_, Heap.get?_push_size _ rfl, rfl, rfl⟩, (hl1.push _)⟩ ?hS0 ?hR
        case hS0 => exact setG_new (Heap.get?_push_of_some _ hS)
        case hR =>
          intro s' hm hS'
          obtain ⟨h', g2, d', tk', os'⟩ := s'
          have eg : g2 = s.gens := hm.gens
          have ed : d' = s.drawn := hm.drawn
          have eo : os' = s.os := hm.os
          subst eg; subst ed; subst eo
          show wpAny _ _ _ _ _ _
          refine wpAny_pure ?_
          show wpAny _ _ (ret Value.none) _ _ _
          refine wpAny_pure ⟨rfl, h', tk', rfl, hS', fun b o e => ?_⟩
          have hb0 : b < s.heap.objs.size := Heap.lt_size e
          have hb1 : b ≠ s.heap.objs.size := Nat.ne_of_lt hb0
          have hb2 : b ≠ (s.heap.push { cls := .type "set", dict := none, data := .set #[] 0 (.fresh 0 0 (!w.params.followText "set-order")) }).objs.size := by
            rw [Heap.size_push]; exact Nat.ne_of_lt (Nat.lt_succ_of_lt hb0)
          exact hm.heap b o (by simp only [List.mem_cons, List.mem_singleton, List.not_mem_nil, or_false, not_or]; exact ⟨hb1, hb2⟩) (Heap.get?_push_of_some _ (Heap.get?_push_of_some _ e))
      · cases r₂ with
        | error e => exact hr₂
        | ok fl₂ =>
          cases fl₂ with
          | ret r =>
            obtain ⟨rfl, h', tk, rfl, hS', hk'⟩ := hr₂
            repeat (any_goals (first | assumption | wp_step))
            exact h _ _ hS' hk'
          | _ => exact hr₂.elim
    | _ => exact hr.elim
/-! ### the rules -/
def SGO (knd : PySem.KeyKind P w κ) (enc : κ → V) (ks : List κ) (a : Addr) (n : Nat) : HO := .ext fun h => SetG knd enc ks h a n
theorem sg_new {H : Hp} {h : Heap} {d : Addr} {n : Nat} (x : SetG knd enc ks h d n) : ObjOk P w H h d (SGO knd enc ks d n) := by
  have ⟨o, _, _, _, e, _⟩ := x
  exact ⟨x, ⟨o, e⟩, fun h1 h2 p k => p.at k⟩
theorem keys_of_vals {us : List Value} (h : ∀ v ∈ us, ∃ k ∈ ks, RelV (enc k) v) : ∃ ls : List κ, Vals (ls.map enc) us ∧ ls.length = us.length ∧ ∀ k ∈ ls, k ∈ ks := by
  induction us with
  | nil => exact ⟨[], .nil, rfl, fun k hk => by cases hk⟩
  | cons v us ih =>
    obtain ⟨k, hk, rv⟩ := h v List.mem_cons_self
    obtain ⟨ls, h1, h2, h3⟩ := ih fun v hv => h v (List.mem_cons_of_mem _ hv)
    refine ⟨k :: ls, .cons rv h1, by simp [h2], fun k' hk' => ?_⟩
    rcases List.mem_cons.mp hk' with rfl | hk'
    · exact hk
    · exact h3 k' hk'
theorem vals_in {xs : List κ} {us : List Value} (h : Vals (xs.map enc) us) : ∀ v ∈ us, ∃ k ∈ xs, RelV (enc k) v := by
  induction xs generalizing us with
  | nil => cases h; intro v hv; cases hv
  | cons x xs ih =>
    cases h with
    | cons r t =>
      intro v hv
      rcases List.mem_cons.mp hv with rfl | hv
      · exact ⟨x, List.mem_cons_self, r⟩
      · obtain ⟨k, hk, rk⟩ := ih t v hv
        exact ⟨k, List.mem_cons_of_mem _ hk, rk⟩
end
end K76
set_option Elab.async false
set_option linter.all false
set_option maxRecDepth 100000
set_option maxHeartbeats 4000000
namespace K76
open PySem PySem.Spec PyProof.Rows L2
section
variable {X : Cx} {κ : Type} [DecidableEq κ] {knd : PySem.KeyKind X.prog X.w κ} {enc : κ → V} {dat : κ → PyData}
def rSetG {P : Program} {w : World} (knd : PySem.KeyKind P w κ) (enc : κ → V) : List V → Hp → VK → Prop := fun vs H Q => ∃ (a : Addr) (ks : List κ), vs = [V.ref a] ∧ H a = some (.lst (ks.map enc)) ∧ ks.length ≤ 1000 ∧ ∀ p, H p = none → Q (.ref p) (upd H p (SGO knd enc ks p ks.length))
theorem cr_setG (Fl : Flat X.prog X.w knd enc dat) (hc : X.calm = true) : CallR X (.type "set") (rSetG knd enc) := by
  intro pins s σ H vs us Q I r h
  obtain ⟨a, ks, rfl, ha, hl, q⟩ := h
  obtain ⟨u, rfl, rx⟩ := vals1 r
  obtain rfl : u = Value.ref a := rx
  obtain ⟨its, rv, hlist, hs⟩ := I.list (SqL.of (K := X.K) ha)
  have hlen : its.length = ks.length := by rw [← rv.length, List.length_map]
  obtain ⟨ol, nn, ho1, ho2, ho3, ho4⟩ := id hlist
  have hlist : s.heap.IsList a its.toArray := ⟨ol, ho1, ho2, nn, ho4⟩
  have esz : its.toArray.size = ks.length := by rw [List.size_toArray, hlen]
  refine call_setG (ks := ks) Fl (I.ok.hd hc) hlist (by simpa using vals_in rv) (by rw [esz]; unfold scanBound; omega) fun h' tk hS k => ?_
  rw [esz] at hS
  exact ⟨.ref s.heap.objs.size, _, I.laid (t' := tk) (o := SGO knd enc ks s.heap.objs.size ks.length) (fun b u e => k b u e) (Nat.le_refl _) (sg_new hS), rfl, q _ (I.hok.fresh (Nat.le_refl _))⟩
def rSortG {P : Program} {w : World} (knd : PySem.KeyKind P w κ) (enc : κ → V) : List V → Hp → VK → Prop := fun vs H Q => ∃ (a : Addr) (ks : List κ) (n : Nat), vs = [V.ref a] ∧ H a = some (SGO knd enc ks a n) ∧ n ≤ 1000 ∧
  ∀ (ls : List κ) p, (∀ k ∈ ls, k ∈ ks) → ls.length ≤ n → (0 < n → ls ≠ []) → H p = none → Q (.ref p) (upd H p (.lst (ls.map enc)))
theorem cr_sortG (Fl : Flat X.prog X.w knd enc dat) (hc : X.calm = true) (hu : X.A.units + 64 < cLine) : CallR X (.builtin "sorted") (rSortG knd enc) := by
  intro pins s σ H vs us Q I r h
  obtain ⟨a, ks, n, rfl, ha, hn, q⟩ := h
  obtain ⟨u, rfl, rx⟩ := vals1 r
  obtain rfl : u = Value.ref a := rx
  have hO : ObjOk X.prog X.w H s.heap a (SGO knd enc ks a n) := I.hok a _ ha
  obtain ⟨⟨o, es, ep, t, ho, hex, hd, hel, hin, hle, hpos, hb, hf, hr, hl⟩, _⟩ := hO
  refine Calls.call_function_entry PyProof.Rows.kind_sorted PyProof.Rows.plain_sorted PyProof.Rows.entry_sorted (PyProof.Rows.args_sorted1 _) ?_
  unfold Builtin.«sorted»
  refine wpAny_bind (m := checkCount "sorted" 1 1 _) (wpAny_pure ?_)
  refine wpAny_bind (collect_set (A := X.A.in1) (I.ok.hd hc) ⟨o, ho, hex.1, hd⟩ hf (Nat.lt_of_le_of_lt hle hb) hr hl fun s1 vs k1 hz g1 o1 pm => ?_)
  have hvl : vs.length = es.size := by rw [pm.length_eq, List.length_map, Array.length_toList]
  have hvin : ∀ v ∈ vs, ∃ k ∈ ks, RelV (enc k) v := fun v hv => by
    obtain ⟨e, he, rfl⟩ := List.mem_map.mp (pm.mem_iff.mp hv)
    exact hin e he
  have hal : vs.length ≤ sizeLine := sz1000 (by omega)
  refine wpAny_bind (wpAny_newList ?_ hal)
  have hoL : (s1.heap.push (seqObj "list" vs.toArray 0)).get? s1.heap.objs.size = some (seqObj "list" vs.toArray 0) := Heap.get?_push_size _ rfl
  obtain ⟨ds, er, hds⟩ : ∃ ds : List PyData, (∀ h : Heap, PySem.W.EachIs (fun v d => ∃ as, Reads h v d as) vs ds) ∧ ∀ d ∈ ds, ∃ k, d = dat k := by
    clear pm hvl hal hoL
    induction vs with
    | nil => exact ⟨[], fun _ => .nil, fun d hd => by cases hd⟩
    | cons v vs ih =>
      obtain ⟨k, _, rv⟩ := hvin v List.mem_cons_self
      obtain ⟨ds, h1, h2⟩ := ih fun v hv => hvin v (List.mem_cons_of_mem _ hv)
      refine ⟨dat k :: ds, fun h => .cons ⟨_, Fl.reads h k v rv⟩ (h1 h), fun d hd => ?_⟩
      rcases List.mem_cons.mp hd with rfl | hd
      · exact ⟨k, rfl⟩
      · exact h2 d hd
  refine wpAny_bind (wpAny_holding (wpAny_call_entry PyProof.Rows.slot_list_sort ⟨_, hoL, rfl⟩ PyProof.Rows.entry_list_sort
    (PySem.W.list_sort_vals (s := { s1 with heap := s1.heap.push (seqObj "list" vs.toArray 0) }) hoL
      (PySem.W.SortsAt.data (ds := ds) (er _) (fun a ha b hb => by
        obtain ⟨k, rfl⟩ := hds a ha
        obtain ⟨k', rfl⟩ := hds b hb
        exact Fl.alike k k') (.inr fun d hd => by
        obtain ⟨k, rfl⟩ := hds d hd
        exact Fl.flat k) fun d hd => ?_) hal ⟨_, rfl, ?_⟩)
    (PyProof.Rows.args_list_sort _)))
  · obtain ⟨k, rfl⟩ := hds d hd
    rw [Fl.deep]
    show X.A.units + 1 + 1 + 0 < cLine
    omega
  · have hp : ∀ {κ : PyProof.Rows.KeyKind}, (PySem.W.sortVals κ false vs vs).Perm vs := sortVals_perm
    generalize hk : PySem.W.dataKind _ _ = κ
    have hp := hp (κ := κ)
    generalize PySem.W.sortVals κ false vs vs = out at hp ⊢
    obtain ⟨ls, l1, l2, l3⟩ := keys_of_vals (us := out) (ks := ks) fun v hv => hvin v (hp.mem_iff.mp hv)
    obtain ⟨e', he'⟩ := PyProof.Rows.sortedHeap_at (vs := vs) (out := out.toArray) hoL
    have hlen : ls.length = es.size := by rw [l2, hp.length_eq, hvl]
    have hsz : (ls.map enc).length ≤ sizeLine := by rw [List.length_map, hlen]; exact sz1000 (by omega)
    have es1 : s1 = { s with heap := s1.heap, gens := s1.gens, drawn := s1.drawn, toks := s1.toks } := by
      cases s1
      cases s
      cases o1
      rfl
    have k2 : ∀ b u, s.heap.get? b = some u → (sortedHeap (s1.heap.push (seqObj "list" vs.toArray 0)) s1.heap.objs.size vs out.toArray).get? b = some u := fun b u e => by
      have q := k1 b u e
      have hlt := Heap.lt_size q
      rw [sortedHeap_old (Nat.ne_of_lt hlt) (by rw [size_push']; exact Nat.lt_succ_of_lt hlt)]
      exact Heap.get?_push_of_some _ q
    have hnone : H s1.heap.objs.size = none := I.hok.fresh hz
    have J : Inv X pins σ (upd H s1.heap.objs.size (.lst (ls.map enc))) { s with heap := sortedHeap (s1.heap.push (seqObj "list" vs.toArray 0)) s1.heap.objs.size vs out.toArray, gens := s1.gens, drawn := s1.drawn, toks := s1.toks } :=
      I.call (ch := []) (Un.laid k2 hz hnone) (I.hok.laid k2 hz ⟨hsz, out, e', l1, he'⟩) (by rw [g1]; exact I.bare) (fun _ z => nomatch z)
    rw [es1]
    refine wpAny_pure ⟨_, rfl, .ref s1.heap.objs.size, _, J, rfl, q ls _ l3 (by omega) (fun h0 e => ?_) hnone⟩
    rw [e] at hlen
    have := hpos h0
    simp at hlen
    omega
theorem flat_int (P : Program) (w : World) : Flat P w (PySem.intKind P w) V.int PyData.int where
  rel := fun k v ⟨t, e⟩ => by subst e; exact ⟨intKind_is P w k t, rfl⟩
  reads := fun h k v ⟨t, e⟩ => by subst e; exact .int _ _
  alike := fun a b => rfl
  flat := fun k => ⟨(by intro z; cases z), fun xs z => (by cases z)⟩
  deep := fun k => rfl
theorem flat_str (P : Program) (w : World) : Flat P w (PySem.strKind P w) V.str PyData.str where
  rel := fun k v ⟨t, e⟩ => by subst e; exact ⟨strKind_is P w k t, rfl⟩
  reads := fun h k v ⟨t, e⟩ => by subst e; exact .str _ _
  alike := fun a b => rfl
  flat := fun k => ⟨(by intro z; cases z), fun xs z => (by cases z)⟩
  deep := fun k => rfl
end
end K76
set_option Elab.async false
set_option linter.all false
set_option maxRecDepth 100000
set_option maxHeartbeats 4000000
namespace K76
open PySem PySem.Spec PyProof.Rows L2
@[reducible] def rule_eq : DecidableEq Rule := fun a b => decidable_of_iff (a.kind = b.kind ∧ a.tag = b.tag ∧ a.inner = b.inner ∧ a.rest = b.rest) ⟨fun h => by
  cases a
  cases b
  obtain ⟨h1, h2, h3, h4⟩ := h
  cases h1
  cases h2
  cases h3
  cases h4
  rfl, fun h => by
  rw [h]
  exact ⟨rfl, rfl, rfl, rfl⟩⟩
def kr (r : Rule) : List Key := [Sum.inl r.kind, Sum.inr r.tag, Sum.inl r.inner, Sum.inl r.rest]
theorem kr_inj {a b : Rule} (h : kr a = kr b) : a = b := by
  unfold kr at h
  simp at h
  cases a
  cases b
  simp at h ⊢
  exact h
theorem is_kr (H : Hp) (a : Rule) (b : Addr) (h : H b = some (.tup ((kr a).map kV))) : Is H (encR a) (.ref b) :=
  ⟨b, _, rfl, h, _, _, rfl, rfl, _, _, rfl, rfl, _, _, rfl, rfl, _, _, rfl, rfl, rfl⟩
theorem srt_rules (l : List Rule) : Srtbl (l.map encR) := by
  refine ⟨fun d hd e he => ?_, fun d hd => ?_⟩
  · obtain ⟨a, _, rfl⟩ := List.mem_map.mp hd
    obtain ⟨b, _, rfl⟩ := List.mem_map.mp he
    rfl
  · obtain ⟨a, _, rfl⟩ := List.mem_map.mp hd
    refine ⟨⟨_, _, rfl⟩, ?_⟩
    show max 0 (max 0 (max 0 (max 0 0))) + 1 ≤ 8
    simp
def spLShape : Sp := fun vs H Q _ => ∃ (a b : Addr) (l : List Int) (ts : List Tag) (n : Nat), vs = [.int (n : Int), .ref a, .ref b] ∧ 1 ≤ n ∧ n ≤ 3 ∧ H a = some (.lst (l.map V.int)) ∧ 2 ≤ l.length ∧ l.length ≤ 20 ∧ (∀ x ∈ l, 0 ≤ x ∧ x < 2147483647) ∧ H b = some (.lst (ts.map V.str)) ∧ 1 ≤ ts.length ∧ ts.length ≤ 4 ∧ (∀ t ∈ ts, t ≠ END) ∧
  ∀ H' v (F : Form), L2.Same H H' → Is H' (encF F) v → F.many = n → FOk F → F.rules.length + 2 ≤ l.length → F.starts.length ≤ 4 → F.ends.length ≤ 4 → (∀ r ∈ F.rules, r.tag ≠ END) → Q v H'
abbrev st_l_shape : Stmt := top 33
theorem sc_l_shape : FnScope ["_law_many", "_law_numbers_here", "_law_tags_here", "_law_begins", "_law_finals", "_law_paths", "_law_number", "_law_tag", "_law_inner", "_law_q"] ["_law_many", "_law_numbers_here", "_law_tags_here"] (defScope st_l_shape) := ⟨rfl, rfl, rfl, by decide +kernel, rfl, by decide +kernel, by decide +kernel⟩
/-- what a comprehension over the kinds leaves: kinds -/
theorem comp_kinds {n : Nat} {l : List Int} (h : ∀ x ∈ l, 0 ≤ x ∧ x < (n : Int)) (hl : l.length ≤ n) : True := trivial
theorem ifb {b : Bool} {A B : Prop} (h1 : b = true → A) (h2 : b ≠ true → B) : if b = true then A else B := by
  by_cases h : b = true
  · rw [if_pos h]; exact h1 h
  · rw [if_neg h]; exact h2 h
section
variable {P : Program} {w : World} {K : PySem.W.Frag} {mg : Str → Option Value} {base : Heap}
theorem ok_lshape {f : Addr} {fd : FuncData} (F : Fun K "_law_shape" "_law_shape" st_l_shape f fd) (B : Gb mg) : FnOk P w K mg base CX0 1 f fd ["_law_many", "_law_numbers_here", "_law_tags_here"] spLShape := by
  refine F.ok sc_l_shape (fun vs H Q E h => ?_) (fun cdv A outer s H vs Q E hr h => ?_)
  · obtain ⟨_, _, _, _, _, rfl, _⟩ := h
    rfl
  · obtain ⟨a, b, l, ts, n, rfl, hn1, hn3, ha, hl2, hl20, hlb, hb, ht1, ht4, htn, k⟩ := h
    letI := rule_eq
    have hu := hr.units
    have hu1 := hu_of hr
    refine ⟨_, (pss_cons (ps_setLc (i := 3) (own := [("_law_q", 9)]) rfl sc_l_shape.nd rfl rfl (sw_true rfl rfl rfl (by decide +kernel)) (pi_range1 rfl B.range (pa_cons (pv 0) pa_nil)) (blkOk_by (own := [("_law_q", 9)]) (N := ["_law_many", "_law_numbers_here", "_law_tags_here", "_law_begins", "_law_finals", "_law_paths", "_law_number", "_law_tag", "_law_inner", "_law_q"]) (sc := defScope st_l_shape) (by decide +kernel)) (fun _ _ _ _ _ => (pg_name (i := 9) sc_l_shape.nd rfl (Or.inl rfl))) (fun _ _ _ _ _ => (pts_one (pt_cmpR op_eq (pe_op op_mod (pe_op op_mod (pe_op op_mul (pe_op op_mul (pe_ix (ix_listK (K := K) rfl) (pv 1) pe_int (fun _ _ => rfl)) (pe_op op_add (pv 9) pe_int)) pe_int) pe_int) pe_int) pe_int (nomark _)))) (fun _ _ _ _ _ => (pv 9)))
      (pss_cons (ps_setLc (i := 4) (own := [("_law_q", 9)]) rfl sc_l_shape.nd rfl rfl (sw_true rfl rfl rfl (by decide +kernel)) (pi_range1 rfl B.range (pa_cons (pv 0) pa_nil)) (blkOk_by (own := [("_law_q", 9)]) (N := ["_law_many", "_law_numbers_here", "_law_tags_here", "_law_begins", "_law_finals", "_law_paths", "_law_number", "_law_tag", "_law_inner", "_law_q"]) (sc := defScope st_l_shape) (by decide +kernel)) (fun _ _ _ _ _ => (pg_name (i := 9) sc_l_shape.nd rfl (Or.inl rfl))) (fun _ _ _ _ _ => (pts_one (pt_cmpR op_eq (pe_op op_mod (pe_op op_mod (pe_op op_mul (pe_op op_mul (pe_ix (ix_listK (K := K) rfl) (pv 1) pe_int (fun _ _ => rfl)) (pe_op op_add (pv 9) pe_int)) pe_int) pe_int) pe_int) pe_int (nomark _)))) (fun _ _ _ _ _ => (pv 9)))
      (pss_cons (ps_expr (pe_bm PySem.F.plainAttrs_list PySem.F.slot_list_append PySem.F.type_list_append mt_append (pv 3) (pa_cons (pe_op op_modN (pe_ix ix_list (pv 1) pe_int (fun _ _ => rfl)) (pv 0)) pa_nil)))
      (pss_cons (ps_expr (pe_bm PySem.F.plainAttrs_list PySem.F.slot_list_append PySem.F.type_list_append mt_append (pv 4) (pa_cons (pe_op op_modN (pe_ix ix_list (pv 1) pe_int (fun _ _ => rfl)) (pv 0)) pa_nil)))
      (pss_cons (ps_set (i := 5) sc_l_shape.nd rfl (Or.inl rfl) pe_dnewT)
      (pss_cons (ps_for PassesOwn.never rfl (pi_list (pe_slice sl_list (pv 1) (po_some pe_int) po_none)) (pg_name (i := 6) sc_l_shape.nd rfl (Or.inl rfl)) (pss_cons (ps_set (i := 7) sc_l_shape.nd rfl (Or.inl rfl) (pe_ix ix_list (pv 2) (pe_op op_modN (pe_op op_fdivN (pv 6) (pv 0)) (pe_callB call_len_seq (by rfl) B.len PySem.boot_len (pa_cons (pv 2) pa_nil))) (fun _ _ => rfl)))
      (pss_cons (ps_set (i := 8) sc_l_shape.nd rfl (Or.inl rfl) (pe_op op_modN (pe_op op_fdiv (pe_op op_fdivN (pv 6) (pv 0)) pe_int) (pv 0)))
      (pss_one (ps_dput hu1 (pv 5) (pe_tup (pa_cons (pe_op op_modN (pv 6) (pv 0)) (pa_cons (pv 7) (pa_cons (pv 8) (pa_cons (pe_op op_modN (pe_op op_fdivN (pv 6) (pe_op op_mul (pe_op op_mul pe_int (pv 0)) (pv 0))) (pv 0)) pa_nil))))) pe_bl rfl)))))
      (pss_one (ps_ret (pe_tup (pa_cons (pv 0) (pa_cons (pe_callTy call_tuple_of (by rfl) B.tuple (by decide +kernel) (pa_cons (pe_callB (cr_sortG (flat_int _ _) rfl hu) (by rfl) B.sorted (by decide +kernel) (pa_cons (pe_callTy (cr_setG (flat_int _ _) rfl) (by rfl) B.set (by decide +kernel) (pa_cons (pv 3) pa_nil)) pa_nil)) pa_nil)) (pa_cons (pe_callTy call_tuple_of (by rfl) B.tuple (by decide +kernel) (pa_cons (pe_callB (cr_sortG (flat_int _ _) rfl hu) (by rfl) B.sorted (by decide +kernel) (pa_cons (pe_callTy (cr_setG (flat_int _ _) rfl) (by rfl) B.set (by decide +kernel) (pa_cons (pv 4) pa_nil)) pa_nil)) pa_nil)) (pa_cons (pe_callTy call_tuple_of (by rfl) B.tuple (by decide +kernel) (pa_cons (pe_callB (cr_sortD hu) (by rfl) B.sorted (by decide +kernel) (pa_cons (pe_callTy (call_list_dT rfl) (by rfl) B.list (by decide +kernel) (pa_cons (pv 5) pa_nil)) pa_nil)) pa_nil)) pa_nil))))))))))))), ?_⟩
    have h0 := hlb l[0] (List.getElem_mem _)
    have h1 := hlb l[1] (List.getElem_mem _)
    have g0 : (l.map V.int)[0]? = some (.int l[0]) := by rw [List.getElem?_map, List.getElem?_eq_getElem (by omega)]; rfl
    have g1 : (l.map V.int)[1]? = some (.int l[1]) := by rw [List.getElem?_map, List.getElem?_eq_getElem (by omega)]; rfl
    have a0 : atI (l.map V.int) (0 : Int) = some (.int l[0]) := atI_nat (j := 0) g0
    have a1 : atI (l.map V.int) (1 : Int) = some (.int l[1]) := atI_nat (j := 1) g1
    refine ⟨_, rfl, (n : Int), rfl, by omega, by omega, fun D nD => lc_range (lo := 0) (n := n) (fun i H1 => L2.Same H H1 ∧ ∃ bs : List Int, H1 D = some (.lst (bs.map V.int)) ∧ bs.length ≤ i ∧ ∀ x ∈ bs, 0 ≤ x ∧ x < (n : Int))
      ⟨same_new nD, [], upd_same, Nat.le_refl _, fun x hx => (by cases hx)⟩ ?_ ?_⟩
    · rintro i H1 hi ⟨s1, bs, hD, hbl, hbs⟩
      refine ⟨rfl, ?_⟩
      refine ⟨_, rfl, a, _, 0, _, rfl, rfl, SqL.of (s1 _ _ ha), a0, ?_⟩
      refine ⟨_, rfl, _, _, rfl, rfl, _, _, rfl, rfl, .inl ⟨by omega, by omega⟩, _, _, rfl, rfl, .inr ⟨by decide, by decide⟩, _, _, rfl, rfl, (by show (0 : Int) < _; decide), _, _, rfl, rfl, (by show (0 : Int) < _; decide), rfl, _, rfl, ?_⟩
      refine ifb (fun z => ?_) (fun z => ?_)
      · refine ⟨_, rfl, bs.map V.int, hD, szL (by rw [List.length_map]; omega), smut s1 nD, bs ++ [0 + (i : Int)], ?_, ?_, fun x hx => ?_⟩
        · rw [upd_same, List.map_append]; rfl
        · rw [List.length_append]; show bs.length + 1 ≤ i + 1; omega
        · rcases List.mem_append.mp hx with h | h
          · exact hbs x h
          · rw [List.mem_singleton] at h; subst h; omega
      · exact ⟨s1, bs, hD, by omega, hbs⟩
    rintro H2 ⟨s2, bs, hD, hbl, hbs⟩
    refine ⟨_, rfl, (n : Int), rfl, by omega, by omega, fun D2 nD2 => lc_range (lo := 0) (n := n) (fun i H1 => L2.Same H2 H1 ∧ ∃ bs : List Int, H1 D2 = some (.lst (bs.map V.int)) ∧ bs.length ≤ i ∧ ∀ x ∈ bs, 0 ≤ x ∧ x < (n : Int))
      ⟨same_new nD2, [], upd_same, Nat.le_refl _, fun x hx => (by cases hx)⟩ ?_ ?_⟩
    · rintro i H1 hi ⟨s1, bs, hD, hbl, hbs⟩
      refine ⟨rfl, ?_⟩
      refine ⟨_, rfl, a, _, 1, _, rfl, rfl, SqL.of (s1 _ _ (s2 _ _ ha)), a1, ?_⟩
      refine ⟨_, rfl, _, _, rfl, rfl, _, _, rfl, rfl, .inl ⟨by omega, by omega⟩, _, _, rfl, rfl, .inr ⟨by decide, by decide⟩, _, _, rfl, rfl, (by show (0 : Int) < _; decide), _, _, rfl, rfl, (by show (0 : Int) < _; decide), rfl, _, rfl, ?_⟩
      refine ifb (fun z => ?_) (fun z => ?_)
      · refine ⟨_, rfl, bs.map V.int, hD, szL (by rw [List.length_map]; omega), smut s1 nD2, bs ++ [0 + (i : Int)], ?_, ?_, fun x hx => ?_⟩
        · rw [upd_same, List.map_append]; rfl
        · rw [List.length_append]; show bs.length + 1 ≤ i + 1; omega
        · rcases List.mem_append.mp hx with h | h
          · exact hbs x h
          · rw [List.mem_singleton] at h; subst h; omega
      · exact ⟨s1, bs, hD, by omega, hbs⟩
    rintro H3 ⟨s3, fs, hD2, hfl, hfs⟩
    have hD3 := s3 _ _ hD
    have s23 := strans s2 s3
    have nz : (n : Int) ≠ 0 := by omega
    have fb : ∀ x : Int, 0 ≤ x.fmod (n : Int) ∧ x.fmod (n : Int) < (n : Int) := fun x => ⟨Int.fmod_nonneg_of_pos _ (by omega), Int.fmod_lt_of_pos _ (by omega)⟩
    have app : ∀ (l : List Int) (x : Int), l.map V.int ++ [V.int x] = (l ++ [x]).map V.int := fun l x => by rw [List.map_append]; rfl
    refine ⟨_, rfl, .inl ⟨rfl, _, SqL.of hD3⟩, _, rfl, a, _, 0, _, rfl, rfl, SqL.of (s23 _ _ ha), a0, _, rfl, _, _, rfl, rfl, nz, D, _, _, rfl, rfl, hD3, szL (by rw [List.length_map]; omega), ?_⟩
    have nDD : D ≠ D2 := ne_of_none hD nD2
    have s4 : L2.Same H (upd H3 D (.lst (bs.map V.int ++ [V.int (l[0].fmod (n : Int))]))) := smut s23 nD
    have hD24 : upd H3 D (.lst (bs.map V.int ++ [V.int (l[0].fmod (n : Int))])) D2 = some (.lst (fs.map V.int)) := by rw [upd_ne nDD.symm]; exact hD2
    refine ⟨_, rfl, .inl ⟨rfl, _, SqL.of hD24⟩, _, rfl, a, _, 1, _, rfl, rfl, SqL.of (s4 _ _ ha), a1, _, rfl, _, _, rfl, rfl, nz, D2, _, _, rfl, rfl, hD24, szL (by rw [List.length_map]; omega), ?_⟩
    have nD2H : H D2 = none := s2.free nD2
    have s5 := smut (o := .lst (fs.map V.int ++ [V.int (l[1].fmod (n : Int))])) s4 nD2H
    have hB : upd (upd H3 D (.lst (bs.map V.int ++ [V.int (l[0].fmod (n : Int))]))) D2 (.lst (fs.map V.int ++ [V.int (l[1].fmod (n : Int))])) D = some (.lst ((bs ++ [l[0].fmod (n : Int)]).map V.int)) := by rw [upd_ne nDD, upd_same, app]
    have hF : upd (upd H3 D (.lst (bs.map V.int ++ [V.int (l[0].fmod (n : Int))]))) D2 (.lst (fs.map V.int ++ [V.int (l[1].fmod (n : Int))])) D2 = some (.lst ((fs ++ [l[1].fmod (n : Int)]).map V.int)) := by rw [upd_same, app]
    have hbb : ∀ x ∈ bs ++ [l[0].fmod (n : Int)], 0 ≤ x ∧ x < (n : Int) := fun x hx => by
      rcases List.mem_append.mp hx with h | h
      · exact hbs x h
      · rw [List.mem_singleton] at h; subst h; exact fb _
    have hff : ∀ x ∈ fs ++ [l[1].fmod (n : Int)], 0 ≤ x ∧ x < (n : Int) := fun x hx => by
      rcases List.mem_append.mp hx with h | h
      · exact hfs x h
      · rw [List.mem_singleton] at h; subst h; exact fb _
    have lbb : (bs ++ [l[0].fmod (n : Int)]).length ≤ n + 1 := by rw [List.length_append]; show bs.length + 1 ≤ n + 1; omega
    have lff : (fs ++ [l[1].fmod (n : Int)]).length ≤ n + 1 := by rw [List.length_append]; show fs.length + 1 ≤ n + 1; omega
    have nbb : 0 < (bs ++ [l[0].fmod (n : Int)]).length := by rw [List.length_append]; exact Nat.succ_pos _
    have nff : 0 < (fs ++ [l[1].fmod (n : Int)]).length := by rw [List.length_append]; exact Nat.succ_pos _
    revert s5 hB hF
    generalize upd (upd H3 D (.lst (bs.map V.int ++ [V.int (l[0].fmod (n : Int))]))) D2 (.lst (fs.map V.int ++ [V.int (l[1].fmod (n : Int))])) = H5
    generalize bs ++ [l[0].fmod (n : Int)] = bb at hbb lbb nbb
    generalize fs ++ [l[1].fmod (n : Int)] = ff at hff lff nff
    intro s5 hB hF
    intro d nd
    have s6 := snew (o := .dT []) s5 nd
    have ndH : H d = none := s5.free nd
    have hB6 := same_new (o := .dT []) nd _ _ hB
    have hF6 := same_new (o := .dT []) nd _ _ hF
    -- for number in numbers[2:]
    refine ⟨_, rfl, 2, rfl, a, _, rfl, SqL.of (s6 _ _ ha), fun pt nt => ?_⟩
    obtain ⟨tl, et, tm, tlen⟩ := cut_map V.int l (some 2) none
    rw [et]
    have tl3 : tl.length + 2 ≤ l.length := by
      have : HT.sIx l.length l.length none = l.length := rfl
      have h2 : HT.sIx l.length 0 (some 2) = 2 := by
        show (if (2 : Int) < 0 then ((2 : Int) + (l.length : Int)).toNat else min ((2 : Int)).toNat l.length) = 2
        rw [if_neg (by omega)]
        omega
      omega
    have s7 := same_new (o := .lst (tl.map V.int)) nt
    refine ⟨pt, rfl, ⟨_, SqL.of upd_same⟩, for_list (a := pt) (xs := tl.map V.int) (fun j σ H2 => ∃ (v6 v7 v8 : Option V) (rs : List Rule), σ = [some (.int (n : Int)), some (.ref a), some (.ref b), some (.ref D), some (.ref D2), some (.ref d), v6, v7, v8, none] ∧ L2.Same H H2 ∧ H2 pt = some (.lst (tl.map V.int)) ∧ H2 D = some (.lst (bb.map V.int)) ∧ H2 D2 = some (.lst (ff.map V.int)) ∧ PD kr H2 d rs ∧ rs.length ≤ j ∧
        ∀ r ∈ rs, ((0 ≤ r.kind ∧ r.kind < (n : Int)) ∧ (0 ≤ r.inner ∧ r.inner < (n : Int)) ∧ 0 ≤ r.rest ∧ r.rest < (n : Int)) ∧ r.tag ≠ END)
      ⟨_, _, _, [], rfl, strans s6 s7, upd_same, s7 _ _ hB6, s7 _ _ hF6, ⟨[], s7 _ _ upd_same, rfl⟩, Nat.le_refl _, fun r hr => (by cases hr)⟩ (fun j σ H2 _ ⟨_, _, _, _, _, _, h, _⟩ => SqL.of h) ?_ ?_⟩
    · rintro j x σ H8 hj ⟨v6, v7, v8, rs, rfl, s8, hpt8, hB8, hF8, hP8, hrl, hrs⟩
      rw [List.getElem?_map] at hj
      obtain ⟨x, hx, rfl⟩ := Option.map_eq_some_iff.mp hj
      have jl : j < tl.length := (List.getElem?_eq_some_iff.mp hx).1
      have tpos : ((ts.length : Nat) : Int) ≠ 0 := by omega
      have q1 := Int.fmod_nonneg_of_pos (x.fdiv (n : Int)) (b := ((ts.length : Nat) : Int)) (by omega)
      have q2 := Int.fmod_lt_of_pos (x.fdiv (n : Int)) (b := ((ts.length : Nat) : Int)) (by omega)
      obtain ⟨ti, hti⟩ : ∃ ti : Nat, (x.fdiv (n : Int)).fmod ((ts.length : Nat) : Int) = (ti : Int) := ⟨((x.fdiv (n : Int)).fmod ((ts.length : Nat) : Int)).toNat, by omega⟩
      have til : ti < ts.length := by omega
      have tat : atI (ts.map V.str) (ti : Int) = some (.str ts[ti]) := atI_nat (by rw [List.getElem?_map, List.getElem?_eq_getElem til]; rfl)
      have dv : 4 * (n : Int) * (n : Int) ≠ 0 ∧ (4 * (n : Int) * (n : Int)).natAbs < 1073741824 := by
        have : n = 1 ∨ n = 2 ∨ n = 3 := by omega
        rcases this with rfl | rfl | rfl <;> decide
      have na : (n : Int).natAbs < 1073741824 := by omega
      refine ⟨_, rfl, _, rfl, _, rfl, _, _, rfl, rfl, ⟨nz, na⟩, _, rfl, b, _, rfl, .inl (SqL.of (s8 _ _ hb)), _, _, rfl, rfl, (by rw [List.length_map]; exact tpos), b, _, (ti : Int), _, rfl, (by rw [List.length_map]; exact congrArg V.int hti), SqL.of (s8 _ _ hb), tat, ?_⟩
      refine ⟨_, rfl, _, rfl, _, _, rfl, rfl, ⟨nz, na⟩, _, _, rfl, rfl, ⟨by decide, by decide⟩, _, rfl, _, _, rfl, rfl, nz, ?_⟩
      refine ⟨_, rfl, _, rfl, _, rfl, _, _, rfl, rfl, nz, _, rfl, _, rfl, _, rfl, _, rfl, _, _, rfl, rfl, .inl ⟨by decide, by decide⟩, _, rfl, _, _, rfl, rfl, .inl ⟨by omega, by omega⟩, _, _, rfl, rfl, dv, _, rfl, _, _, rfl, rfl, nz, (by show 4 ≤ sizeLine; decide), fun t nt => ?_⟩
      have sT := same_new (o := .tup [.int (x.fmod (n : Int)), .str ts[ti], .int ((x.fdiv (n : Int) / 4).fmod (n : Int)), .int ((x.fdiv (4 * (n : Int) * (n : Int))).fmod (n : Int))]) nt
      have hP9 : PD kr (upd H8 t (.tup [.int (x.fmod (n : Int)), .str ts[ti], .int ((x.fdiv (n : Int) / 4).fmod (n : Int)), .int ((x.fdiv (4 * (n : Int) * (n : Int))).fmod (n : Int))])) d rs := by
        obtain ⟨ks, e1, e2⟩ := hP8
        exact ⟨ks, get_new e1 nt, e2⟩
      obtain ⟨H9, hput, hP9, o, u, e1, e2, rfl⟩ := hP9.put (x := (⟨x.fmod (n : Int), ts[ti], (x.fdiv (n : Int) / 4).fmod (n : Int), (x.fdiv (4 * (n : Int) * (n : Int))).fmod (n : Int)⟩ : Rule)) (fun _ _ => kr_inj) upd_same rfl (.bl true) (by omega)
      obtain ⟨kvs, g1, g2⟩ := hP8
      have ne1 : ∀ {z : Addr} {l : List V}, H8 z = some (.lst l) → z ≠ d := fun h => ne_of h g1 (by intro z; cases z)
      refine ⟨d, _, rfl, hput, ?_⟩
      refine ⟨_, _, _, addP rs _, rfl, smut (strans s8 sT) ndH, by rw [upd_ne (ne1 hpt8)]; exact sT _ _ hpt8, by rw [upd_ne (ne1 hB8)]; exact sT _ _ hB8, by rw [upd_ne (ne1 hF8)]; exact sT _ _ hF8, hP9, Nat.le_trans addP_len (by omega), fun r hr => ?_⟩
      rcases mem_addP.mp hr with h | rfl
      · exact hrs r h
      · exact ⟨⟨fb _, fb _, fb _⟩, htn _ (List.getElem_mem til)⟩
    · rintro σ H8 ⟨v6, v7, v8, rs, rfl, s8, hpt8, hB8, hF8, hP8, hrl, hrs⟩
      rw [List.length_map] at hrl
      refine ⟨_, rfl, _, rfl, D, bb, rfl, hB8, by omega, fun p1 n1 => ⟨p1, bb, bb.length, rfl, upd_same, by omega, fun sb p2 hsb lsb nsb n2 => ⟨p2, _, rfl, .inl ⟨SqL.of upd_same, fun p3 n3 => ?_⟩⟩⟩⟩
      have t3 : L2.Same H8 _ := strans (same_new n1) (strans (same_new (o := .lst (sb.map V.int)) n2) (same_new (o := .tup (sb.map V.int)) n3))
      refine ⟨_, rfl, D2, ff, rfl, t3 _ _ hF8, by omega, fun p4 n4 => ⟨p4, ff, ff.length, rfl, upd_same, by omega, fun sf p5 hsf lsf nsf n5 => ⟨p5, _, rfl, .inl ⟨SqL.of upd_same, fun p6 n6 => ?_⟩⟩⟩⟩
      have t6 := strans (same_new n4) (strans (same_new (o := .lst (sf.map V.int)) n5) (same_new (o := .tup (sf.map V.int)) n6))
      obtain ⟨kvs, g1, g2⟩ := hP8
      have t36 := strans t3 t6
      refine ⟨_, rfl, d, kvs, rfl, .inl (t36 _ _ g1), fun p7 bs7 n7 hbs7 => ?_⟩
      have hall : IsAll _ (rs.map encR) (bs7.map V.ref) := isKeys_all is_kr hbs7 g2
      have t7 := same_new (o := .lst (bs7.map V.ref)) n7
      refine ⟨p7, _, rs.map encR, rfl, SqL.of upd_same, hall.same t7, srt_rules rs, fun ys p8 hperm n8 => ?_⟩
      obtain ⟨qs, hq, hys⟩ := IsAll.perm_set (hall.same t7) hperm
      have t8 := same_new (o := .lst ys) n8
      refine ⟨p8, ys, rfl, .inl ⟨SqL.of upd_same, fun p9 n9 => ?_⟩⟩
      have t9 := same_new (o := .tup ys) n9
      refine ⟨(by show 4 ≤ sizeLine; decide), fun pz nz' => ?_⟩
      have t10 := same_new (o := .tup [.int (n : Int), .ref p3, .ref p6, .ref p9]) nz'
      have tz := strans t7 (strans t8 (strans t9 t10))
      have fa : FormAt _ pz ⟨n, sb, sf, qs⟩ p3 p6 p9 ys := ⟨upd_same, (strans t6 tz) _ _ upd_same, tz _ _ upd_same, t10 _ _ upd_same, hys.same (strans t8 (strans t9 t10))⟩
      have ql := hq.length_eq
      refine k _ _ ⟨n, sb, sf, qs⟩ (strans s8 (strans t36 tz)) fa.is rfl ⟨by show 0 < n; omega, fun x hx => hbb x (hsb x hx), fun x hx => hff x (hsf x hx), fun r hr => (hrs r (hq.mem_iff.mp hr)).1, nsb nbb, nsf nff⟩ (by show qs.length + 2 ≤ _; omega) (by show sb.length ≤ 4; omega) (by show sf.length ≤ 4; omega) (fun r hr => (hrs r (hq.mem_iff.mp hr)).2)
end
end K76
set_option Elab.async false
set_option linter.all false
set_option maxRecDepth 100000
set_option maxHeartbeats 4000000
namespace K76
open PySem PySem.Spec PyProof.Rows L2
def spLTarget (K : PySem.W.Frag) : Sp := fun vs H Q _ => ∃ (a b : Addr) (ns : List Int) (c M : Int) (ts : List Tag) (vA : V) (A : Form), vs = [.ref a, .int c, .int M, .ref b, vA] ∧ SqL K H a (ns.map V.int) ∧ H b = some (.lst (ts.map V.str)) ∧ ts.length = 4 ∧ (∀ t ∈ ts, t ≠ END) ∧ Is H (encF A) vA ∧ AOk A ∧
  ∀ H' v (F : Form), L2.Same H H' → Is H' (encF F) v → AOk F → Q v H'
abbrev st_l_target : Stmt := top 34
theorem sc_l_target : FnScope ["_law_script", "_law_cell", "_law_modes", "_law_tags_here", "_law_one", "_law_numbers_here", "_law_many", "_law_tag"] ["_law_script", "_law_cell", "_law_modes", "_law_tags_here", "_law_one"] (defScope st_l_target) := ⟨rfl, rfl, rfl, by decide +kernel, rfl, by decide +kernel, by decide +kernel⟩
section
variable {P : Program} {w : World} {K : PySem.W.Frag} {mg : Str → Option Value} {base : Heap}
theorem ok_ltarget {f : Addr} {fd : FuncData} (F : Fun K "_law_target" "_law_target" st_l_target f fd) (B : Gb mg)
    (Fl_numbers : Callable P w K mg base CX0 2 "_law_numbers" ["_law_script", "_law_first", "_law_many"] (spLNumbers K))
    (Fl_shape : Callable P w K mg base CX0 1 "_law_shape" ["_law_many", "_law_numbers_here", "_law_tags_here"] spLShape) :
    FnOk P w K mg base CX0 3 f fd ["_law_script", "_law_cell", "_law_modes", "_law_tags_here", "_law_one"] (spLTarget K) := by
  refine F.ok sc_l_target (fun vs H Q E h => ?_) (fun cdv A outer s H vs Q E hr h => ?_)
  · obtain ⟨_, _, _, _, _, _, _, _, rfl, _⟩ := h
    rfl
  · obtain ⟨a, b, ns, c, M, ts, vA, AA, rfl, ha, hb, htl, htn, hA, aok, k⟩ := h
    have hu := hr.units
    have hu1 := hu_of hr
    refine ⟨_, (pss_cons (ps_set (i := 5) sc_l_target.nd rfl (Or.inl rfl) (pe_callF Fl_numbers (hr.mono (by decide)) rfl pass0 (pa_cons (pv 0) (pa_cons pe_int (pa_cons (pe_op op_sub pe_int (pe_op op_mod (pe_op op_fdiv (pv 1) pe_int) pe_int)) pa_nil)))))
      (pss_cons (ps_if (pt_cmpR op_eq (pe_op op_mod (pv 1) pe_int) pe_int (nomark _)) (pss_one (ps_ret (pv 4))) pss_nil)
      (pss_cons (ps_if (pt_cmpR op_eq (pe_op op_mod (pv 1) pe_int) pe_int (nomark _)) (pss_one (ps_ret (pe_tup (pa_cons pe_int (pa_cons (pe_tup (pa_cons pe_int pa_nil)) (pa_cons (pe_tup (pa_cons pe_int pa_nil)) (pa_cons (pe_callTy call_tuple_of (by rfl) B.tuple (by decide +kernel) (pa_cons (pe_lc (own := [("_law_tag", 7)]) rfl sc_l_target.nd (pi_list (pe_callB (cr_sortG (flat_str _ _) rfl hu) (by rfl) B.sorted (by decide +kernel) (pa_cons (pe_callTy (cr_setG (flat_str _ _) rfl) (by rfl) B.set (by decide +kernel) (pa_cons (pe_slice sl_list (pv 3) (po_some (pe_op op_mod (pe_op op_fdiv (pv 1) pe_int) pe_int)) po_none) pa_nil)) pa_nil))) (blkOk_by (own := [("_law_tag", 7)]) (N := ["_law_script", "_law_cell", "_law_modes", "_law_tags_here", "_law_one", "_law_numbers_here", "_law_many", "_law_tag"]) (sc := defScope st_l_target) (by decide +kernel)) (fun _ _ _ _ _ => (pg_name (i := 7) sc_l_target.nd rfl (Or.inl rfl))) (fun _ _ _ _ _ => pts_nil) (fun _ _ _ _ _ => (pe_tup (pa_cons pe_int (pa_cons (pv 7) (pa_cons pe_int (pa_cons pe_int pa_nil))))))) pa_nil)) pa_nil))))))) pss_nil)
      (pss_cons (ps_set (i := 6) sc_l_target.nd rfl (Or.inl rfl) (pe_op op_add pe_int (pe_op op_mod (pe_op op_fdiv (pv 1) pe_int) pe_int)))
      (pss_cons (ps_if (pt_cmpR op_eq (pv 2) pe_int (nomark _)) (pss_one (ps_set (i := 6) sc_l_target.nd rfl (Or.inl rfl) (pe_op op_add pe_int (pe_op op_mod (pe_op op_fdiv (pv 1) pe_int) pe_int)))) pss_nil)
      (pss_one (ps_ret (pe_callF Fl_shape (hr.mono (by decide)) rfl pass0 (pa_cons (pv 6) (pa_cons (pv 5) (pa_cons (pv 3) pa_nil))))))))))), ?_⟩
    have q1 := Int.emod_nonneg (c / 3) (b := 8) (by decide)
    have q2 := Int.emod_lt_of_pos (c / 3) (b := 8) (by decide)
    refine ⟨_, rfl, _, rfl, _, _, rfl, rfl, ⟨by decide, by decide⟩, _, _, rfl, rfl, (by show (0 : Int) < 8; decide), _, _, rfl, rfl, ?_⟩
    refine ⟨a, ns, 20, 14 - c / 3 % 8, rfl, ha, by decide, by decide, by omega, by omega, fun H1 p l s1 hp hl hlb => ?_⟩
    have z01 : (0 : Int) ≤ 0 ∧ (0 : Int) < ((1 : Nat) : Int) := ⟨by decide, by decide⟩
    have w1 := Int.emod_nonneg (c / 3) (b := 2) (by decide)
    have w2 := Int.emod_lt_of_pos (c / 3) (b := 2) (by decide)
    refine ⟨_, rfl, _, _, rfl, rfl, (by show (0 : Int) < 3; decide), rfl, _, rfl, ?_⟩
    refine ifb (fun z => ?_) (fun z => ?_)
    · exact ⟨_, rfl, k _ _ AA s1 (hA.same s1) aok⟩
    refine ⟨_, rfl, _, _, rfl, rfl, (by show (0 : Int) < 3; decide), rfl, _, rfl, ?_⟩
    refine ifb (fun z => ?_) (fun z => ?_)
    · refine ⟨(by show 1 ≤ sizeLine; decide), fun p1 n1 => ?_⟩
      have t1 := snew (o := .tup [.int 0]) s1 n1
      refine ⟨(by show 1 ≤ sizeLine; decide), fun p2 n2 => ?_⟩
      have t12 := same_new (o := .tup [.int 0]) n2
      have t2 := strans t1 t12
      refine ⟨_, rfl, _, rfl, _, _, rfl, rfl, ⟨by decide, by decide⟩, _, _, rfl, rfl, (by show (0 : Int) < 2; decide), c / 3 % 2, rfl, b, _, rfl, SqL.of (t2 _ _ hb), fun p3 n3 => ?_⟩
      obtain ⟨tl, et, tm, tlen⟩ := cut_map V.str ts (some (c / 3 % 2)) none
      rw [et]
      have tl4 : tl.length ≤ 4 := by
        have : HT.sIx ts.length ts.length none = ts.length := rfl
        omega
      have t23 := same_new (o := .lst (tl.map V.str)) n3
      refine ⟨p3, tl, rfl, upd_same, by omega, fun p4 n4 => ⟨p4, tl, tl.length, rfl, upd_same, by omega, fun sb p5 hsb lsb nsb n5 => ?_⟩⟩
      have t35 := strans (same_new n4) (same_new (o := .lst (sb.map V.str)) n5)
      refine ⟨p5, rfl, ⟨_, SqL.of upd_same⟩, fun D nD => lc_list (a := p5) (xs := sb.map V.str) (fun i H6 => L2.Same H H6 ∧ H6 p1 = some (.tup [.int 0]) ∧ H6 p2 = some (.tup [.int 0]) ∧ H6 p5 = some (.lst (sb.map V.str)) ∧ ∃ xs, H6 D = some (.lst xs) ∧ IsAll H6 (((sb.take i).map fun t => (⟨0, t, 0, 0⟩ : Rule)).map encR) xs)
        ?_ (fun i H6 _ ⟨_, _, _, h, _⟩ => SqL.of h) ?_ ?_⟩
      · have tD := same_new (o := .lst []) nD
        have t5D := strans t23 (strans t35 tD)
        exact ⟨strans t2 t5D, t5D _ _ (t12 _ _ upd_same), t5D _ _ upd_same, tD _ _ upd_same, [], upd_same, rfl⟩
      · rintro i x H6 hi ⟨s6, h61, h62, h65, xs, hD, hxs⟩
        rw [List.getElem?_map] at hi
        obtain ⟨t, ht, rfl⟩ := Option.map_eq_some_iff.mp hi
        have il : i < sb.length := (List.getElem?_eq_some_iff.mp ht).1
        have xl : xs.length ≤ sb.length := by rw [hxs.lenm, List.length_map, List.length_take]; omega
        refine ⟨rfl, ?_⟩
        refine ⟨_, rfl, (by show 4 ≤ sizeLine; decide), fun q nq => ?_⟩
        have tq := same_new (o := .tup [.int 0, .str t, .int 0, .int 0]) nq
        have nDH : H D = none := (strans (strans t2 t23) t35).free nD
        have nD1 : D ≠ p1 := fun e => by rw [e] at hD; rw [h61] at hD; cases hD
        have nD2 : D ≠ p2 := fun e => by rw [e] at hD; rw [h62] at hD; cases hD
        have nD5 : D ≠ p5 := fun e => by rw [e, upd_same] at nD; cases nD
        refine ⟨xs, tq _ _ hD, szL (by omega), smut (strans s6 tq) nDH, by rw [upd_ne nD1.symm]; exact tq _ _ h61, by rw [upd_ne nD2.symm]; exact tq _ _ h62, by rw [upd_ne nD5.symm]; exact tq _ _ h65, xs ++ [.ref q], upd_same, ?_⟩
        rw [take_snoc ht, List.map_append, List.map_append]
        have tp : Tp H6 (upd (upd H6 q (.tup [.int 0, .str t, .int 0, .int 0])) D (.lst (xs ++ [.ref q]))) := (Tp.of tq).trans (Tp.mut (tq _ _ hD) (by intro z y; cases y))
        refine (hxs.mono tp).append ⟨_, _, rfl, is_kr _ ⟨0, t, 0, 0⟩ q ?_, rfl⟩
        have : q ≠ D := (ne_of_none hD nq).symm
        rw [upd_ne this, upd_same]
        rfl
      · rintro H6 ⟨s6, h61, h62, h65, xs, hD, hxs⟩
        rw [List.length_map, List.take_of_length_le (Nat.le_refl _)] at hxs
        refine ⟨D, xs, rfl, .inl ⟨SqL.of hD, fun p7 n7 => ⟨(by show 4 ≤ sizeLine; decide), fun pz nz => ?_⟩⟩⟩
        have t7 := same_new (o := .tup xs) n7
        have tz := same_new (o := .tup [.int 1, .ref p1, .ref p2, .ref p7]) nz
        have fa : FormAt _ pz ⟨1, [0], [0], sb.map fun t => (⟨0, t, 0, 0⟩ : Rule)⟩ p1 p2 p7 xs := ⟨upd_same, tz _ _ (t7 _ _ h61), tz _ _ (t7 _ _ h62), tz _ _ upd_same, hxs.same (strans t7 tz)⟩
        refine k _ _ ⟨1, [0], [0], sb.map fun t => (⟨0, t, 0, 0⟩ : Rule)⟩ (strans s6 (strans t7 tz)) fa.is ⟨⟨Nat.one_pos, fun x hx => ?_, fun x hx => ?_, fun r hr => ?_, by simp, by simp⟩, by show 1 ≤ 3; decide, by show (sb.map _).length ≤ 12; rw [List.length_map]; omega, fun r hr => ?_, by show 1 ≤ 10; decide, by show 1 ≤ 10; decide⟩
        · rw [List.mem_singleton] at hx; subst hx; exact z01
        · rw [List.mem_singleton] at hx; subst hx; exact z01
        · obtain ⟨t, _, rfl⟩ := List.mem_map.mp hr
          exact ⟨z01, z01, z01⟩
        · obtain ⟨t, ht, rfl⟩ := List.mem_map.mp hr
          exact htn t (tm t (hsb t ht))
    · have fin : ∀ n : Nat, 1 ≤ n → n ≤ 3 → spLShape [.int (n : Int), .ref p, .ref b] H1 Q E := fun n h1 h2 =>
        ⟨p, b, l, ts, n, rfl, h1, h2, hp, by omega, by omega, hlb, s1 _ _ hb, by omega, by omega, htn, fun H' v F s2 hF hm fok hr hs he ht => k H' v F (strans s1 s2) hF ⟨fok, by omega, by omega, ht, by omega, by omega⟩⟩
      have f2 := Int.emod_nonneg (c / 24) (b := 2) (by decide)
      have f3 := Int.emod_lt_of_pos (c / 24) (b := 2) (by decide)
      have f4 := Int.emod_nonneg (c / 24) (b := 3) (by decide)
      have f5 := Int.emod_lt_of_pos (c / 24) (b := 3) (by decide)
      have finI : ∀ x : Int, 1 ≤ x → x ≤ 3 → spLShape [.int x, .ref p, .ref b] H1 Q E := fun x h1 h2 => by
        obtain ⟨n, rfl⟩ : ∃ n : Nat, x = (n : Int) := ⟨x.toNat, by omega⟩
        exact fin n (by omega) (by omega)
      refine ⟨_, rfl, _, _, rfl, rfl, ⟨by decide, by decide⟩, _, _, rfl, rfl, (by show (0 : Int) < 2; decide), _, _, rfl, rfl, ?_⟩
      refine ⟨_, rfl, rfl, _, rfl, ?_⟩
      refine ifb (fun z => ?_) (fun z => ?_)
      · refine ⟨_, rfl, _, _, rfl, rfl, ⟨by decide, by decide⟩, _, _, rfl, rfl, (by show (0 : Int) < 3; decide), _, _, rfl, rfl, ?_⟩
        exact ⟨_, rfl, _, rfl, _, rfl, finI _ (by omega) (by omega)⟩
      · exact ⟨_, rfl, _, rfl, _, rfl, finI _ (by omega) (by omega)⟩
end
end K76
set_option Elab.async false
set_option linter.all false
set_option maxRecDepth 100000
set_option maxHeartbeats 4000000
namespace L2
open PySem PySem.Spec PyProof.Rows
/-- what the clause 'except (x, x2)' wishes of an exception of the body -/
def wTwo (K : PySem.W.Frag) (c c2 : Value) (ts : Addr → Value → Option Addr → TS) (Wout : WX) (D : Ends) : WX := fun cls d σ H =>
  ∃ b, PySem.W.exmAny K cls [c, c2] = some b ∧ (b = true → ∀ a, H a = none → ts a cls d D σ H) ∧ (b = false → Wout cls d σ H)
theorem fly_keeps {B h h' : Heap} {l : List Env} {e : Addr} {Z : Obj → Prop} (hh : HandSPX.FlyingZ B l e Z h) (k : ∀ b o, h.get? b = some o → h'.get? b = some o) : HandSPX.FlyingZ B l e Z h' := by
  obtain ⟨f1, f2, f3, oe, vs, T, oT, ts, he, hz, hd, h1, hnT, hTe, hT, hdT, h3⟩ := hh
  exact ⟨fun b o hb => k _ _ (f1 b o hb), f2, f3.of_keeps (fun b o hb _ => ⟨o, k _ _ hb, rfl⟩), oe, vs, T, oT, ts, k _ _ he, hz, hd, h1, hnT, hTe, k _ _ hT, hdT, h3⟩
theorem nm {X : Cx} {x : Str} {c : Value} {np : Pos} (hc : Names X x c) {pins : List (Addr × Obj)} {σ : St} {H : Hp} {s : Shared} {a : Addr} {pn : List (Addr × Obj)} (S : Inv (X.suite a pn) pins σ H s) {Q : Value → Shared → Prop} {E : Value → Shared → Prop} (q : Q c s) :
    wpAny (model X.prog X.w) (X.A.mark (some (.ref a))) (eval (.Name x np) X.env) Q E s := by
  obtain ⟨hg, hdbg, hm | ⟨hm, hv, hnn⟩⟩ := hc
  · exact ld_glob (X := X.suite a pn) S hg hm q hdbg
  · exact ld_blt (X := X.suite a pn) S hg hm hv q hnn hdbg
section
variable {X : Cx} {x x2 : Str} {c c2 : Value} {kk : Nat} {body suite : List Stmt} {b₀ : Stmt} {np np2 tp pos pos' : Pos} {tb : WX → TS} {ts : Addr → Value → Option Addr → TS} {Wout : WX}
theorem ps_try_two (hs : X.stack = X.env :: X.outer) (hf : X.env.frame = some X.env.locals) (hc : Names X x c) (hc2 : Names X x2 c2) (tk : Takes X Wout)
    (hb : ∀ (W : WX) (pn : List (Addr × Obj)) (xe : Value → Shared → Prop), Takes (X.tr pn xe) W → PassesOwn (model X.prog X.w) X.A X.env xe → PSs (X.tr pn xe) body (tb W))
    (hsu : ∀ (a : Addr) (oe : Obj) (cls : Value) (d : Option Addr) (pn : List (Addr × Obj)), Zc cls d oe → (∃ vs, oe.data = .fields vs) → PSs (X.suite a ((a, oe) :: pn)) (b₀ :: suite) (ts a cls d)) :
    PS X (.Try body [.ExceptHandler (some (.Tuple [.Name x np, .Name x2 np2] kk tp)) none (b₀ :: suite) pos'] [] [] pos) (fun D σ H => tb (wTwo X.K c c2 ts Wout D) D σ H) := by
  refine ⟨fun pins s σ H D I h => ?_⟩
  have ok := I.ok
  have hfr : X.A.frames = some (X.env :: X.outer) := by rw [ok.frames, hs]
  refine wpAny_Try_except ?_
  refine wpAny_mono ((hb (wTwo X.K c c2 ts Wout D) (X.pn ++ pins) (fun e s₁ => wpAny (model X.prog X.w) X.A (noteFrame e X.env) (fun _ s₂ => wpAny (model X.prog X.w) X.A (setFlight e none) (fun _ s₃ =>
    wpAny (model X.prog X.w) X.A (handleBy e X.env [.ExceptHandler (some (.Tuple [.Name x np, .Name x2 np2] kk tp)) none (b₀ :: suite) pos']) (SP X pins D) X.xe s₃) X.xe s₂) X.xe s₁) (fun u s' xx => ?_) PassesOwn.looking).run [] s σ H D (I.toTry _) h) (fun f s1 hsp => ?_) (fun e s1 he => he)
  · -- the catch
    obtain ⟨a, B, sI, pins', σ', H', cls, d, rfl, J', nb, up, sky, na, os, ag, b, hb1, hyes, hno⟩ := xx
    have J : Inv X pins σ' H' sI := J'.ofTry ok
    have sky' : Sky B (X.env :: X.outer) a (Zc cls d) X.env.locals s'.heap := by rw [← hs]; exact sky
    show wpAny (model X.prog X.w) X.A (noteFrame (.ref a) X.env) _ _ _
    refine Sky.land Zc.steady hfr hf sky' fun h3 fl3 up3 => ?_
    have J3 : Inv X pins σ' H' { s' with heap := h3 } := J.landed nb fl3.1 (up.trans up3) os ag
    obtain ⟨oe3, vs3, he3, hz3, hd3⟩ := fl3.there
    have notFr : ∀ {h : Heap} {o : Obj} {vs : Array Value}, h.FunFrames B (X.env :: X.outer) → h.get? a = some o → o.data = .fields vs → a ∉ frs (X.env :: X.outer) := fun {h o vs} ff e dd hm => by
      obtain ⟨_, o', e', hnf⟩ := ff.mem hm
      rw [e] at e'; cases e'
      exact hnf _ dd
    have nfr := notFr fl3.2.2.1 he3 hd3
    have nL : a ≠ X.env.locals := fun z => nfr (List.mem_filterMap.mpr ⟨X.env, List.mem_cons_self, by rw [hf, z]⟩)
    have nF : a ∉ X.fs := fun hm => by
      obtain ⟨e, he, q⟩ := List.mem_filterMap.mp hm
      exact nfr (List.mem_filterMap.mpr ⟨e, List.mem_cons_of_mem _ he, q⟩)
    have S3 := J3.suite he3 hd3 na nL nF
    refine wpAny_handleBy_cons (codeAny_handlers_test ?_) (by intro q; cases q)
    have LT : PySem.W.Looks (model X.prog X.w) h3 (typeOf (.ref a)) cls := fun A Q E s k q => wpAny_typeOf_ref (k _ _ he3) (by rw [hz3.1]; exact q)
    have kp : ∀ q o, h3.get? q = some o → (h3.push { cls := .type "tuple", data := .seq [c, c2].toArray }).get? q = some o := fun _ _ z => Heap.get?_push_of_some _ z
    have LM := PySem.W.exm_tup2 (M := model X.prog X.w) ((J3.kIn).keeps kp) (LT.keeps kp) (Heap.get?_push_size h3 rfl) hb1
    refine wpAny_Tuple ?_
    refine wpAny_items_cons (nm hc S3 ?_)
    refine wpAny_items_cons (nm hc2 S3 ?_)
    refine wpAny_items_nil ⟨by size_fits, LM.here ?_⟩
    have fl3 := fly_keeps fl3 kp
    have up3 : s'.heap.UpToSlots (h3.push { cls := .type "tuple", data := .seq [c, c2].toArray }) := by
      refine (up3).trans fun q o hq _ => ⟨o.slots, kp _ _ hq⟩
    generalize h3.push { cls := .type "tuple", data := .seq [c, c2].toArray } = h3 at fl3 up3
    cases b with
    | true =>
      refine codeAny_handlers_suite ?_
      refine HandSPX.lands_againZ fl3 fun h4 fl4 up4 => ?_
      have J4 : Inv X pins σ' H' { s' with heap := h4 } := J.landed nb fl4.1 ((up.trans up3).trans up4) os ag
      obtain ⟨oe4, vs4, he4, hz4, hd4⟩ := fl4.there
      have S4 := J4.suite he4 hd4 na nL nF
      refine wpAny_mono ((hsu a oe4 cls d (X.pn ++ pins) hz4 ⟨_, hd4⟩).run [] _ _ H' _ S4 (hyes rfl a na)) (fun f s6 hsp => ?_) (fun _ _ z => False.elim z)
      cases f with
      | next =>
        obtain ⟨σ6, H6, S6, q6⟩ := hsp
        exact ⟨_, _, S6.unsuite ok, q6⟩
      | brk =>
        obtain ⟨σ6, H6, S6, q6⟩ := hsp
        exact ⟨_, _, S6.unsuite ok, q6⟩
      | cont =>
        obtain ⟨σ6, H6, S6, q6⟩ := hsp
        exact ⟨_, _, S6.unsuite ok, q6⟩
      | ret u =>
        obtain ⟨v6, σ6, H6, S6, r6, q6⟩ := hsp
        exact ⟨_, _, _, S6.unsuite ok, r6, q6⟩
    | false =>
      show wpAny _ X.A (handleBy (.ref a) X.env []) _ _ _
      refine wpAny_handleBy_nil ?_
      obtain ⟨k1, k2, k3, oe, vs, T, oT, ts', he, hz, hd, h1, hr⟩ := id fl3
      unfold PySem.passOn
      refine wpAny_bind (wpAny_field he hd h1 ?_)
      rw [if_neg (show ¬ ((Value.ref T == Value.none) = true) from by simp)]
      have fin : wpAny (model X.prog X.w) X.A (setFlight (.ref a) X.env.frame) (fun _ s4 => wpAny (model X.prog X.w) X.A (throw (.ref a) : Sem Flow) (SP X pins D) X.xe s4) X.xe { s' with heap := h3 } := by
        rw [hf]
        refine HandSPX.setFlight_upZ fl3 fun h4 hh4 up4 => wpAny_throw (tk _ _ ?_)
        exact ⟨a, B, sI, pins, σ', H', cls, d, rfl, J, nb, (up.trans up3).trans up4, .inr (.inr (by rw [hs]; exact hh4)), na, os, ag, hno rfl⟩
      first
        | exact wpAny_bind (wpAny_pure (wpAny_bind fin))
        | exact wpAny_bind fin
  · cases f with
    | next =>
      obtain ⟨σ', H', J', q⟩ := hsp
      exact wpAny_execs_nil ⟨σ', H', J'.ofTry ok, q⟩
    | brk =>
      obtain ⟨σ', H', J', q⟩ := hsp
      exact ⟨σ', H', J'.ofTry ok, q⟩
    | cont =>
      obtain ⟨σ', H', J', q⟩ := hsp
      exact ⟨σ', H', J'.ofTry ok, q⟩
    | ret u =>
      obtain ⟨v, σ', H', J', r, q⟩ := hsp
      exact ⟨v, σ', H', J'.ofTry ok, r, q⟩
end
end L2
set_option Elab.async false
set_option linter.all false
set_option maxRecDepth 100000
set_option maxHeartbeats 4000000
namespace K76
open PySem PySem.Spec PyProof.Rows L2
theorem sqL_same {K : PySem.W.Frag} {H H' : Hp} {a : Addr} {xs : List V} (h : SqL K H a xs) (s : L2.Same H H') : SqL K H' a xs := by
  rcases h with h | h
  · exact .inl (h.imp (s _ _) fun ⟨ob, e⟩ => ⟨ob, s _ _ e⟩)
  · exact .inr h
def encKW (e : Nat × Tag) : D := .tup [.num (e.1 : Int), .text e.2]
theorem is_kwp (H : Hp) (a : Nat × Tag) (b : Addr) (h : H b = some (.tup ((kwp a).map kV))) : Is H (encKW a) (.ref b) :=
  ⟨b, _, rfl, h, _, _, rfl, rfl, _, _, rfl, rfl, rfl⟩
theorem is_encKW {H : Hp} {a : Nat × Tag} {v : V} (h : Is H (encKW a) v) : ∃ b, v = .ref b ∧ H b = some (.tup [.int (a.1 : Int), .str a.2]) := by
  obtain ⟨b, xs, rfl, hb, x, r, rfl, h1, y, r2, rfl, h2, rfl⟩ := h
  cases h1
  cases h2
  exact ⟨b, rfl, hb⟩
theorem srt_kw (l : List (Nat × Tag)) : Srtbl (l.map encKW) := by
  refine ⟨fun d hd e he => ?_, fun d hd => ?_⟩
  · obtain ⟨a, _, rfl⟩ := List.mem_map.mp hd
    obtain ⟨b, _, rfl⟩ := List.mem_map.mp he
    rfl
  · obtain ⟨a, _, rfl⟩ := List.mem_map.mp hd
    refine ⟨⟨_, _, rfl⟩, ?_⟩
    show max 0 (max 0 0) + 1 ≤ 8
    simp
def entOf (W : Way) (e : Nat × Tag) : Ent := (e.1, e.2, (W e.1 e.2).getD .nil)
theorem tells_of {W : Way} {ks qs : List (Nat × Tag)} (hm : ∀ m t, (m, t) ∈ ks ↔ W m t ≠ none) (hp : qs.Perm ks) : Tells (qs.map (entOf W)) W := by
  intro m t ps
  constructor
  · intro h
    have : (m, t) ∈ ks := (hm m t).mpr (by rw [h]; exact (by intro z; cases z))
    refine List.mem_map.mpr ⟨(m, t), hp.mem_iff.mpr this, ?_⟩
    show (m, t, (W m t).getD .nil) = _
    rw [h]; rfl
  · intro h
    obtain ⟨e, he, q⟩ := List.mem_map.mp h
    have hn := (hm e.1 e.2).mp (hp.mem_iff.mp he)
    have q1 : (e.1, e.2, (W e.1 e.2).getD .nil) = (m, t, ps) := q
    cases hw : W e.1 e.2 with
    | none => exact absurd hw hn
    | some p =>
      rw [hw] at q1
      cases q1
      exact hw
def spLaw (K : PySem.W.Frag) : Sp := fun vs H Q _ => ∃ (a : Addr) (ns : List Int), vs = [.ref a] ∧ SqL K H a (ns.map V.int) ∧ ∀ H', Q (.bl true) H'
abbrev st_law : Stmt := top 50
theorem sc_law : FnScope ["_law_script", "_law_first", "_law_modes", "_law_tags_here", "_law_one", "_law_shape_here", "_law_ways_here", "_law_turner", "_law_told", "_law_mode", "_law_tag"] ["_law_script"] (defScope st_law) := ⟨rfl, rfl, rfl, by decide +kernel, rfl, by decide +kernel, by decide +kernel⟩
section
variable {P : Program} {w : World} {K : PySem.W.Frag} {mg : Str → Option Value} {base : Heap} {CE CT CB : Addr}
theorem ok_law {f : Addr} {fd : FuncData} (F : Fun K "law" "law" st_law f fd) (B : Gb mg) (TE : ECls K CE)
    (gB : mg "TooBig" = some (.ref CB)) (gT : mg "TooMany" = some (.ref CT)) (hX : ∀ C, (C = CT ∨ C = CB) → PySem.W.exmAny K (.ref C) [.ref CB, .ref CT] = some true)
    (Fl_cell_at : Callable P w K mg base CX0 1 "_law_cell_at" ["_law_script", "_law_k"] (spLCell K))
    (Fl_tags : Callable P w K mg base CX0 1 "_law_tags" ["_law_cell"] spLTags)
    (Fl_numbers : Callable P w K mg base CX0 2 "_law_numbers" ["_law_script", "_law_first", "_law_many"] (spLNumbers K))
    (Fl_shape : Callable P w K mg base CX0 1 "_law_shape" ["_law_many", "_law_numbers_here", "_law_tags_here"] spLShape)
    (Fl_target : Callable P w K mg base CX0 3 "_law_target" ["_law_script", "_law_cell", "_law_modes", "_law_tags_here", "_law_one"] (spLTarget K))
    (Fl_ways : Callable P w K mg base CX0 2 "_law_ways" ["_law_numbers_here", "_law_tags_here", "_law_modes"] spLWays)
    (F_safe : Callable P w K mg base (L2.CX P w) 11 "safe" ["changer", "one", "other"] (spSafe CT CB))
    (Fl_few : Callable P w K mg base CX0 8 "_law_few" ["_law_one", "_law_shape_here", "_law_ways_here", "_law_modes"] spLFew)
    (Fl_safe : Callable P w K mg base CX0 9 "_law_safe" ["_law_one", "_law_shape_here", "_law_ways_here", "_law_modes", "_law_rows"] spLSafe)
    (MKE : Maker P w K mg base CX0 2 "Effects" CE ["self", "changer", "form"] (spEffInit CE))
    (Fl_holding : Callable P w K mg base CX0 9 "_law_holding" ["_law_one", "_law_effects", "_law_rows", "_law_number"] (spLHolding CE))
    (Fl_spoiled : Callable P w K mg base CX0 9 "_law_spoiled" ["_law_one", "_law_shape_here", "_law_ways_here", "_law_modes", "_law_grove"] spLSpoiled) :
    FnOk P w K mg base CX0 12 f fd ["_law_script"] (spLaw K) := by
  obtain ⟨fS, fdS, hgS, hkS, hbS, okS⟩ := F_safe
  refine F.ok sc_law (fun vs H Q E h => ?_) (fun cdv A outer s H vs Q E hr h => ?_)
  · obtain ⟨_, _, rfl, _⟩ := h
    rfl
  · obtain ⟨a, ns, rfl, ha, k⟩ := h
    have hu := hr.units
    have hu1 := hu_of hr
    have hrS : Room 11 _ := hr.mono (by decide)
    refine ⟨_, (pss_cons (ps_set (i := 1) sc_law.nd rfl (Or.inl rfl) (pe_callF Fl_cell_at (hr.mono (by decide)) rfl pass0 (pa_cons (pv 0) (pa_cons pe_int pa_nil))))
      (pss_cons (ps_set (i := 2) sc_law.nd rfl (Or.inl rfl) (pe_op op_add pe_int (pe_op op_mod (pv 1) pe_int)))
      (pss_cons (ps_set (i := 3) sc_law.nd rfl (Or.inl rfl) (pe_callF Fl_tags (hr.mono (by decide)) rfl pass0 (pa_cons (pe_callF Fl_cell_at (hr.mono (by decide)) rfl pass0 (pa_cons (pv 0) (pa_cons pe_int pa_nil))) pa_nil)))
      (pss_cons (ps_set (i := 4) sc_law.nd rfl (Or.inl rfl) (pe_callF Fl_shape (hr.mono (by decide)) rfl pass0 (pa_cons (pe_op op_add pe_int (pe_op op_mod (pe_op op_fdiv (pv 1) pe_int) pe_int)) (pa_cons (pe_callF Fl_numbers (hr.mono (by decide)) rfl pass0 (pa_cons (pv 0) (pa_cons pe_int (pa_cons (pe_op op_sub pe_int (pe_op op_mod (pe_op op_fdiv (pv 1) pe_int) pe_int)) pa_nil)))) (pa_cons (pe_slice sl_list (pv 3) po_none (po_some pe_int)) pa_nil)))))
      (pss_cons (ps_set (i := 5) sc_law.nd rfl (Or.inl rfl) (pe_callF Fl_target (hr.mono (by decide)) rfl pass0 (pa_cons (pv 0) (pa_cons (pe_op op_fdiv (pv 1) pe_int) (pa_cons (pv 2) (pa_cons (pv 3) (pa_cons (pv 4) pa_nil)))))))
      (pss_cons (ps_set (i := 6) sc_law.nd rfl (Or.inr rfl) (pe_callF Fl_ways (hr.mono (by decide)) rfl pass0 (pa_cons (pe_callF Fl_numbers (hr.mono (by decide)) rfl pass0 (pa_cons (pv 0) (pa_cons pe_int (pa_cons pe_int pa_nil)))) (pa_cons (pv 3) (pa_cons (pv 2) pa_nil)))))
      (pss_cons (ps_set (i := 7) sc_law.nd rfl (Or.inl rfl) (pe_tup (pa_cons (pv 2) (pa_cons (pe_callTy call_tuple_of (by rfl) B.tuple (by decide +kernel) (pa_cons (pe_lc (own := [("_law_mode", 9), ("_law_tag", 10)]) rfl sc_law.nd (pi_list (pe_callB (cr_sortD hu) (by rfl) B.sorted (by decide +kernel) (pa_cons (pe_callTy (call_list_dT rfl) (by rfl) B.list (by decide +kernel) (pa_cons (pv 6) pa_nil)) pa_nil))) (blkOk_by (own := [("_law_mode", 9), ("_law_tag", 10)]) (N := ["_law_script", "_law_first", "_law_modes", "_law_tags_here", "_law_one", "_law_shape_here", "_law_ways_here", "_law_turner", "_law_told", "_law_mode", "_law_tag"]) (sc := defScope st_law) (by decide +kernel)) (fun _ _ _ _ _ => (pg_tupK (K := K) (n := 2) rfl rfl (pgs_cons (pg_name (i := 9) sc_law.nd rfl (Or.inl rfl)) (pgs_cons (pg_name (i := 10) sc_law.nd rfl (Or.inl rfl)) pgs_nil)) rfl)) (fun _ _ _ _ _ => pts_nil) (fun _ _ _ _ _ => (pe_tup (pa_cons (pv 9) (pa_cons (pv 10) (pa_cons (pe_dget hu1 (pv 6) (pe_tup (pa_cons (pv 9) (pa_cons (pv 10) pa_nil))) (fun _ _ => rfl)) pa_nil)))))) pa_nil)) pa_nil))))
      (pss_cons (ps_set (i := 8) sc_law.nd rfl (Or.inl rfl) pe_non)
      (pss_cons (ps_try_two (x := "TooBig") (x2 := "TooMany") (c := .ref CB) (c2 := .ref CT) (tb := fun W => tAsg (tCallS (spSafe CT CB) (WE W) (tCons (tVar 7) (tCons (tVar 4) (tCons (tVar 5) tNil)))) (gName 8)) (ts := fun _ _ _ => tAsg (tC .non) (gName 8)) (Wout := fun _ _ _ _ => False) rfl rfl ⟨rfl, by decide, Or.inl gB⟩ ⟨rfl, by decide, Or.inl gT⟩ takes0 (fun W pn xe tk _ => pss_one (ps_set (i := 8) sc_law.nd rfl (Or.inl rfl) (by exact (pe_callS okS hrS rfl hgS hkS hbS (fun σ => passAt tk σ) (by exact (pa_cons (pv 7) (pa_cons (pv 4) (pa_cons (pv 5) pa_nil)))))))) (fun a oe cls d pn hz hf => pss_one (ps_set (i := 8) sc_law.nd rfl (Or.inl rfl) pe_non)))
      (pss_cons (ps_if (pt_cmpR op_isN (pv 8) pe_non (nomark _)) (pss_one (ps_ret (pe_not (pe_callF Fl_few (hr.mono (by decide)) rfl pass0 (pa_cons (pv 4) (pa_cons (pv 5) (pa_cons (pv 6) (pa_cons (pv 2) pa_nil)))))))) pss_nil)
      (pss_cons (ps_if (PW.pt (pw_or (pt_not (pt_val (pe_callB call_isi (by rfl) B.isinstance (by decide +kernel) (pa_cons (pv 8) (pa_cons (pe_bltn (v := .ty "tuple") (by rfl) B.tuple (by decide +kernel) rfl) pa_nil))))) (pw_or1 (pt_cmpR op_ne (pe_callB call_len_seq (by rfl) B.len PySem.boot_len (pa_cons (pv 8) pa_nil)) pe_int (nomark _))))) (pss_one (ps_ret pe_bl)) pss_nil)
      (pss_cons (ps_if (pt_cmpR op_eq (pe_ix ix_tup (pv 8) pe_int (fun _ _ => rfl)) pe_str (nomark _)) (pss_cons (ps_if (pt_not (pt_val (pe_callF Fl_safe (hr.mono (by decide)) rfl pass0 (pa_cons (pv 4) (pa_cons (pv 5) (pa_cons (pv 6) (pa_cons (pv 2) (pa_cons (pe_ix ix_tup (pv 8) pe_int (fun _ _ => rfl)) pa_nil)))))))) (pss_one (ps_ret pe_bl)) pss_nil)
      (pss_one (ps_ret (pe_callF Fl_holding (hr.mono (by decide)) rfl pass0 (pa_cons (pv 4) (pa_cons (pe_makeF MKE (hr.mono (by decide)) rfl pass0 (pa_cons (pv 7) (pa_cons (pv 5) pa_nil))) (pa_cons (pe_ix ix_tup (pv 8) pe_int (fun _ _ => rfl)) (pa_cons (pe_op op_fdiv (pv 1) pe_int) pa_nil)))))))) pss_nil)
      (pss_one (ps_ret (pe_and (pe_cmpR op_eq (pe_ix ix_tup (pv 8) pe_int (fun _ _ => rfl)) pe_str (nomark _)) (pe_one (pe_callF Fl_spoiled (hr.mono (by decide)) rfl pass0 (pa_cons (pv 4) (pa_cons (pv 5) (pa_cons (pv 6) (pa_cons (pv 2) (pa_cons (pe_ix ix_tup (pv 8) pe_int (fun _ _ => rfl)) pa_nil)))))))))))))))))))))), ?_⟩
    refine ⟨_, rfl, a, ns, 0, rfl, ha, by decide, fun first => ?_⟩
    -- modes
    have m0 := Int.emod_nonneg first (b := 2) (by decide)
    have m1 := Int.emod_lt_of_pos first (b := 2) (by decide)
    obtain ⟨M, hM, hM1, hM2⟩ : ∃ M : Nat, (1 : Int) + first % 2 = (M : Int) ∧ 1 ≤ M ∧ M ≤ 2 := ⟨(1 + first % 2).toNat, by omega, by omega, by omega⟩
    have eM : V.int ((1 : Int) + first % 2) = V.int (M : Int) := by rw [hM]
    refine ⟨_, rfl, _, _, rfl, rfl, (by show (0 : Int) < 2; decide), _, _, rfl, rfl, ?_⟩
    refine ⟨_, rfl, a, ns, 1, rfl, ha, by decide, fun n1 => ⟨n1, rfl, fun H1 pt ts s1 hpt htl htn => ?_⟩⟩
    -- one
    have o0 := Int.emod_nonneg (first / 2) (b := 3) (by decide)
    have o1 := Int.emod_lt_of_pos (first / 2) (b := 3) (by decide)
    have o2 := Int.emod_nonneg (first / 6) (b := 4) (by decide)
    have o3 := Int.emod_lt_of_pos (first / 6) (b := 4) (by decide)
    obtain ⟨n, hn, hn1, hn3⟩ : ∃ n : Nat, (1 : Int) + first / 2 % 3 = (n : Int) ∧ 1 ≤ n ∧ n ≤ 3 := ⟨(1 + first / 2 % 3).toNat, by omega, by omega, by omega⟩
    refine ⟨_, rfl, _, _, rfl, rfl, ⟨by decide, by decide⟩, _, _, rfl, rfl, (by show (0 : Int) < 3; decide), _, _, rfl, rfl, ?_⟩
    refine ⟨_, rfl, _, rfl, _, _, rfl, rfl, ⟨by decide, by decide⟩, _, _, rfl, rfl, (by show (0 : Int) < 4; decide), _, _, rfl, rfl, ?_⟩
    refine ⟨a, ns, 0, 6 - first / 6 % 4, rfl, sqL_same ha s1, by decide, by decide, by omega, by omega, fun H2 pn l s2 hpn hl hlb => ?_⟩
    refine ⟨_, rfl, 3, rfl, pt, _, rfl, SqL.of (s2 _ _ hpt), fun p3 np3 => ?_⟩
    obtain ⟨tl, et, tm, tlen⟩ := cut_map V.str ts none (some 3)
    have tl3 : 1 ≤ tl.length ∧ tl.length ≤ 3 := by
      have h3 : HT.sIx ts.length ts.length (some 3) = 3 := by
        show (if (3 : Int) < 0 then ((3 : Int) + (ts.length : Int)).toNat else min ((3 : Int)).toNat ts.length) = 3
        rw [if_neg (by omega)]
        omega
      have h0 : HT.sIx ts.length 0 none = 0 := rfl
      have : (cutV (ts.map V.str) none (some 3)).length = 3 := by
        unfold cutV
        rw [List.length_map, h3, h0, List.length_take, List.length_drop, List.length_map]
        omega
      rw [et, List.length_map] at this
      omega
    rw [et]
    have t3 := same_new (o := .lst (tl.map V.str)) np3
    refine ⟨pn, p3, l, tl, n, by rw [← hn]; rfl, hn1, hn3, t3 _ _ hpn, by omega, by omega, hlb, upd_same, by omega, by omega, fun t ht => htn t (tm t ht), fun H3 vA AA s3 hA hAm hAok hAr hAs hAe hAt => ?_⟩
    have s03 := strans s1 (strans s2 (strans t3 s3))
    have aok : AOk AA := ⟨hAok, by omega, by omega, hAt, by omega, by omega⟩
    have hpt3 := (strans s2 (strans t3 s3)) _ _ hpt
    -- the shape
    refine ⟨_, rfl, _, rfl, _, _, rfl, rfl, ⟨by decide, by decide⟩, _, rfl, _, rfl, _, rfl, a, pt, ns, first / 24, 1 + first % 2, ts, vA, AA, rfl, sqL_same ha s03, hpt3, htl, htn, hA, aok, fun H4 vF FF s4 hF fok => ?_⟩
    have s04 := strans s03 s4
    -- the ways
    refine ⟨_, rfl, a, ns, 40, 30, rfl, sqL_same ha s04, by decide, by decide, by decide, by decide, fun H5 pw lw s5 hpw hlw hlwb => ?_⟩
    refine ⟨_, rfl, _, rfl, pw, pt, lw, ts, M, by rw [← hM]; rfl, hpw, s5 _ _ (s4 _ _ hpt3), htl, htn, fun x hx => (hlwb x hx).1, by omega, hM1, hM2, fun H6 d W ks s6 wk hks => ?_⟩
    have hc : Ctx FF W M := ⟨fok.fok, wk.wok, fok.few, by omega, by omega, by have := fok.rul; omega, by have := fok.sta; omega, by have := fok.end_; omega⟩
    have s46 := strans s5 s6
    have hA6 := (hA.same s4).same s46
    have hF6 := hF.same s46
    -- turner
    obtain ⟨kvs, g1, g2⟩ := wk.pd
    refine ⟨_, rfl, _, rfl, d, kvs, rfl, .inl g1, fun p7 bs7 n7 hbs7 => ?_⟩
    have hall : IsAll _ (ks.map encKW) (bs7.map V.ref) := isKeys_all is_kwp hbs7 g2
    have t7 := same_new (o := .lst (bs7.map V.ref)) n7
    refine ⟨p7, _, ks.map encKW, rfl, SqL.of upd_same, hall.same t7, srt_kw ks, fun ys p8 hperm n8 => ?_⟩
    obtain ⟨qs, hq, hys⟩ := IsAll.perm_set hall hperm
    have t8 := same_new (o := .lst ys) n8
    have t78 := strans t7 t8
    refine ⟨p8, rfl, ⟨_, SqL.of upd_same⟩, fun D nD => lc_list (a := p8) (xs := ys) (fun i H9 => L2.Same H6 H9 ∧ H9 p8 = some (.lst ys) ∧ ∃ zs, H9 D = some (.lst zs) ∧ IsAll H9 ((qs.take i).map fun e => encE (entOf W e)) zs)
      ?_ (fun i H9 _ ⟨_, h, _⟩ => SqL.of h) ?_ ?_⟩
    · have tD := same_new (o := .lst []) nD
      exact ⟨strans t78 tD, tD _ _ upd_same, [], upd_same, rfl⟩
    · rintro i x H9 hi ⟨s9, h98, zs, hD, hzs⟩
      obtain ⟨e, he, hx⟩ := hys.getm hi
      obtain ⟨b, rfl, hb⟩ := is_encKW (hx.same s9)
      have il : i < qs.length := (List.getElem?_eq_some_iff.mp he).1
      have ql := hq.length_eq
      have zl : zs.length ≤ qs.length := by rw [hzs.length, List.length_map, List.length_take]; omega
      have hn := (wk.mem e.1 e.2).mp (hq.mem_iff.mp (List.mem_of_getElem? he))
      refine ⟨b, _, rfl, SqT.of hb, rfl, _, _, rfl, _, _, rfl, rfl, rfl, ?_⟩
      refine ⟨_, rfl, _, rfl, _, rfl, _, rfl, _, rfl, (by show 2 ≤ sizeLine; decide), fun t nt => ?_⟩
      have tt := same_new (o := .tup [.int (e.1 : Int), .str e.2]) nt
      obtain ⟨kvs2, w1, w2⟩ := (wk.wa.same s9).same tt
      have hDD : H6 D = none := t78.free nD
      rcases w2 e.1 e.2 with ⟨z, _⟩ | ⟨ps, v, z1, z2, z3⟩
      · exact absurd z hn
      refine ⟨d, v, rfl, ?_, (by show 3 ≤ sizeLine; decide), fun q nq => ?_⟩
      · first
          | exact .inr ⟨kvs2, kw e.1 e.2, t, .inl w1, rfl, upd_same, z1.symm⟩
          | exact .inr ⟨kvs2, kw e.1 e.2, t, .inl w1, rfl, upd_same, z2.symm⟩
      have tq := same_new (o := .tup [.int (e.1 : Int), .str e.2, v]) nq
      have tqq := strans tt tq
      have nDp : D ≠ p8 := fun z => by rw [z, h98] at hD; cases hD; rw [z, upd_same] at nD; cases nD
      refine ⟨zs, tqq _ _ hD, szL (by omega), smut (strans s9 tqq) hDD, by rw [upd_ne nDp.symm]; exact tqq _ _ h98, zs ++ [.ref q], upd_same, ?_⟩
      rw [take_snoc he, List.map_append]
      have tp : Tp H9 (upd (upd (upd H9 t (.tup [.int (e.1 : Int), .str e.2])) q (.tup [.int (e.1 : Int), .str e.2, v])) D (.lst (zs ++ [.ref q]))) := (Tp.of tqq).trans (Tp.mut (tqq _ _ hD) (by intro z y; cases y))
      have qD : q ≠ D := (ne_of_none (tt _ _ hD) nq).symm
      have tp2 : Tp (upd H9 t (.tup [.int (e.1 : Int), .str e.2])) (upd (upd (upd H9 t (.tup [.int (e.1 : Int), .str e.2])) q (.tup [.int (e.1 : Int), .str e.2, v])) D (.lst (zs ++ [.ref q]))) := (Tp.of tq).trans (Tp.mut (tqq _ _ hD) (by intro z y; cases y))
      refine (hzs.mono tp).append ⟨_, _, rfl, ?_, rfl⟩
      have eps : (W e.1 e.2).getD .nil = ps := by first | rw [z2]; rfl | rw [z1]; rfl
      show Is _ (.tup [.num (e.1 : Int), .text e.2, .tup (encPs ((W e.1 e.2).getD .nil))]) _
      rw [eps]
      exact ⟨q, _, rfl, by rw [upd_ne qD, upd_same], _, _, rfl, rfl, _, _, rfl, rfl, _, _, rfl, Is.mono tp2 _ z3, rfl⟩
    · rintro H9 ⟨s9, h98, zs, hD, hzs⟩
      rw [List.take_of_length_le (by rw [hys.lenm]; exact Nat.le_refl _)] at hzs
      have hzs : IsAll H9 ((qs.map (entOf W)).map encE) zs := by rw [List.map_map]; exact hzs
      refine ⟨D, zs, rfl, .inl ⟨SqL.of hD, fun p9 np9 => ⟨(by show 2 ≤ sizeLine; decide), fun pc npc => ?_⟩⟩⟩
      have u1 := same_new (o := .tup zs) np9
      have u2 := same_new (o := .tup [.int ((1 : Int) + first % 2), .ref p9]) npc
      have u12 := strans u1 u2
      have s6z := strans s9 u12
      have hC : Is _ (encC M (qs.map (entOf W))) (.ref pc) := ⟨pc, _, rfl, upd_same (H := upd H9 p9 (.tup zs)) (a := pc) (o := .tup [.int ((1 : Int) + first % 2), .ref p9]), _, _, rfl, eM, _, _, rfl, ⟨p9, _, rfl, u2 _ _ upd_same, hzs.same u12⟩, rfl⟩
      have tel : Tells (qs.map (entOf W)) W := tells_of wk.mem hq
      have qlen : (qs.map (entOf W)).length ≤ 1000 := by rw [List.length_map, hq.length_eq]; omega
      have hA7 := hA6.same s6z
      have hF7 := hF6.same s6z
      have wk7 := wk.same s6z
      revert hC hA7 hF7 wk7
      generalize upd (upd H9 p9 (.tup zs)) pc (.tup [.int ((1 : Int) + first % 2), .ref p9]) = HT
      intro hC hA7 hF7 wk7
      refine ⟨_, rfl, _, rfl, _, rfl, .ref pc, vA, vF, AA, FF, W, M, qs.map (entOf W), rfl, hC, tel, qlen, hA7, aok, hF7, hc, ?_, ?_, ?_⟩
      · intro H8 t Dz rz rows s8 ht nDz hz hrows tab hgood
        refine ⟨_, rfl, rfl, _, rfl, ?_⟩
        refine iteF ?_
        refine ⟨_, rfl, _, _, _, _, true, rfl, .ty "tuple", .base (.tup ht), kit_ty (by decide +kernel), _, rfl, ?_⟩
        refine iteF ?_
        refine ⟨_, rfl, t, _, rfl, .inr (SqT.of ht), rfl, _, rfl, ?_⟩
        refine iteF ?_
        refine ⟨_, rfl, t, _, 0, _, rfl, rfl, SqT.of ht, rfl, rfl, _, rfl, ?_⟩
        refine iteT ?_
        refine ⟨_, rfl, _, rfl, _, rfl, _, rfl, _, rfl, t, _, 1, _, rfl, rfl, SqT.of ht, rfl, vA, vF, d, Dz, rz, rows, AA, FF, W, M, by rw [← hM]; rfl, hA7.same s8, aok, hF7.same s8, (wk7.same s8).wa, hc, hz, hrows, tab, hgood, fun H9 s9 => ⟨_, rfl, ?_⟩⟩
        refine iteF ?_
        have s89 := strans s8 s9
        refine ⟨_, rfl, _, rfl, _, rfl, fun x dx nx ndx nex => ?_⟩
        have sx : L2.Same H9 (upd (upd H9 dx (.own x)) x (.ins CE dx [])) := smut (same_new ndx) nx
        refine ⟨x, dx, .ref pc, vF, M, qs.map (entOf W), W, FF, rfl, upd_same, hC.same (strans s89 sx), tel, qlen, hF7.same (strans s89 sx), fun H10 hk1 hE1 => ⟨rfl, ?_⟩⟩
        have s10 : L2.Same H9 H10 := fun b o e => hk1 b o (sx b o e) (ne_of_none e nx)
        have s910 := strans s9 s10
        refine ⟨_, rfl, t, _, 1, _, rfl, rfl, SqT.of (s910 _ _ ht), rfl, _, rfl, _, _, rfl, rfl, ⟨by decide, by decide⟩, x, Dz, vA, rz, first / 7, rows, AA, FF, W, M, rfl, hA7.same (strans s89 s10), aok, hE1, hc, s910 _ _ hz, hrows.same s910, tab, fun H11 s11 => k _⟩
      · intro H8 t gv g q s8 ht hg hgs hq1 hq2 hq3
        refine ⟨_, rfl, rfl, _, rfl, ?_⟩
        refine iteF ?_
        refine ⟨_, rfl, _, _, _, _, true, rfl, .ty "tuple", .base (.tup ht), kit_ty (by decide +kernel), _, rfl, ?_⟩
        refine iteF ?_
        refine ⟨_, rfl, t, _, rfl, .inr (SqT.of ht), rfl, _, rfl, ?_⟩
        refine iteF ?_
        refine ⟨_, rfl, t, _, 0, _, rfl, rfl, SqT.of ht, rfl, rfl, _, rfl, ?_⟩
        refine iteF ?_
        refine ⟨_, rfl, t, _, 0, _, rfl, rfl, SqT.of ht, rfl, rfl, _, rfl, ?_⟩
        refine iteT ?_
        exact ⟨_, rfl, _, rfl, _, rfl, _, rfl, _, rfl, t, _, 1, _, rfl, rfl, SqT.of ht, rfl, vA, vF, d, gv, AA, FF, W, M, g, q, by rw [← hM]; rfl, hA7.same s8, aok, hF7.same s8, (wk7.same s8).wa, hc, wk7.wtk, hg, hgs, hq1, hq2, hq3, fun H9 s9 => k _⟩
      · intro hnf H8 C s8 hC2
        refine ⟨true, hX C hC2, fun _ a0 na => ?_, fun z => by cases z⟩
        refine ⟨_, rfl, rfl, _, rfl, ?_⟩
        refine iteT ?_
        refine ⟨_, rfl, _, rfl, _, rfl, _, rfl, vA, vF, d, AA, FF, W, M, by rw [← hM]; rfl, hA7.same s8, aok, hF7.same s8, (wk7.same s8).wa, hc, fun H9 b s9 hb => ⟨b, rfl, ?_⟩⟩
        cases b with
        | false => exact k _
        | true => exact absurd (hb rfl) hnf
end
end K76
set_option Elab.async false
set_option linter.all false
set_option maxRecDepth 100000
set_option maxHeartbeats 4000000
namespace K76
open PySem PySem.Spec PyProof.Rows L2
/-- what «except C» answers of an error of the class D -/
theorem exm_cl {K : PySem.W.Frag} {D C : Addr} {b : Bool} (h1 : PySem.W.subIn K (.ref C) (.type "BaseException") = some true) (h2 : PySem.W.isClsIn K C = true) (h3 : PySem.W.typeIn K (.ref C) = some (.type "type")) (h4 : PySem.W.subIn K (.ref D) (.ref C) = some b) : PySem.W.exmOne K (.ref D) (.ref C) = some b := by
  have e1 : (PySem.W.subIn K (.ref C) (.type "BaseException") == some true) = true := by rw [h1] <;> rfl
  have e2 : ((PySem.W.clsIn K C).isSome && PySem.W.typeIn K (.ref C) == some (.type "type")) = true := by
    have q : (PySem.W.clsIn K C).isSome = true := h2
    rw [q, h3] <;> rfl
  unfold PySem.W.exmOne
  rw [if_pos e1]
  show (if ((PySem.W.clsIn K C).isSome && PySem.W.typeIn K (.ref C) == some (.type "type")) = true then PySem.W.subIn K (.ref D) (.ref C) else none) = some b
  rw [if_pos e2]
  exact h4
theorem exm_two {K : PySem.W.Frag} {D C1 C2 : Addr} {b1 b2 : Bool} (h1 : PySem.W.exmOne K (.ref D) (.ref C1) = some b1) (h2 : PySem.W.exmOne K (.ref D) (.ref C2) = some b2) : PySem.W.exmAny K (.ref D) [.ref C1, .ref C2] = some (b1 || (b2 || false)) := by
  unfold PySem.W.exmAny
  unfold PySem.W.exmAny
  unfold PySem.W.exmAny
  rw [h1, h2]
theorem all_mk {P : Program} {w : World} {K : PySem.W.Frag} {h : Heap} {mg : Str → Option Value} {fa CE CS CT CB : Addr} {t1 t2 t3 t4 : Tok} (X : K.In h) (G : h.Ns mainGlobals mg) (hfa : mg "law" = some (.ref fa))
    {f0 : Addr} {od0 an0 : Option Addr} {sl0 : Array (Option Value)} {oc0 kV0 dc0 pm0 cd0 ct0 : Value}
    {f1 : Addr} {od1 an1 : Option Addr} {sl1 : Array (Option Value)} {oc1 kV1 dc1 pm1 cd1 ct1 : Value}
    {f2 : Addr} {od2 an2 : Option Addr} {sl2 : Array (Option Value)} {oc2 kV2 dc2 pm2 cd2 ct2 : Value}
    {f3 : Addr} {od3 an3 : Option Addr} {sl3 : Array (Option Value)} {oc3 kV3 dc3 pm3 cd3 ct3 : Value}
    {f4 : Addr} {od4 an4 : Option Addr} {sl4 : Array (Option Value)} {oc4 kV4 dc4 pm4 cd4 ct4 : Value}
    {f5 : Addr} {od5 an5 : Option Addr} {sl5 : Array (Option Value)} {oc5 kV5 dc5 pm5 cd5 ct5 : Value}
    {f6 : Addr} {od6 an6 : Option Addr} {sl6 : Array (Option Value)} {oc6 kV6 dc6 pm6 cd6 ct6 : Value}
    {f7 : Addr} {od7 an7 : Option Addr} {sl7 : Array (Option Value)} {oc7 kV7 dc7 pm7 cd7 ct7 : Value}
    {f8 : Addr} {od8 an8 : Option Addr} {sl8 : Array (Option Value)} {oc8 kV8 dc8 pm8 cd8 ct8 : Value}
    {f9 : Addr} {od9 an9 : Option Addr} {sl9 : Array (Option Value)} {oc9 kV9 dc9 pm9 cd9 ct9 : Value}
    {f10 : Addr} {od10 an10 : Option Addr} {sl10 : Array (Option Value)} {oc10 kV10 dc10 pm10 cd10 ct10 : Value}
    {f11 : Addr} {od11 an11 : Option Addr} {sl11 : Array (Option Value)} {oc11 kV11 dc11 pm11 cd11 ct11 : Value}
    {f12 : Addr} {od12 an12 : Option Addr} {sl12 : Array (Option Value)} {oc12 kV12 dc12 pm12 cd12 ct12 : Value}
    {f13 : Addr} {od13 an13 : Option Addr} {sl13 : Array (Option Value)} {oc13 kV13 dc13 pm13 cd13 ct13 : Value}
    {f14 : Addr} {od14 an14 : Option Addr} {sl14 : Array (Option Value)} {oc14 kV14 dc14 pm14 cd14 ct14 : Value}
    {f15 : Addr} {od15 an15 : Option Addr} {sl15 : Array (Option Value)} {oc15 kV15 dc15 pm15 cd15 ct15 : Value}
    {f16 : Addr} {od16 an16 : Option Addr} {sl16 : Array (Option Value)} {oc16 kV16 dc16 pm16 cd16 ct16 : Value}
    {f17 : Addr} {od17 an17 : Option Addr} {sl17 : Array (Option Value)} {oc17 kV17 dc17 pm17 cd17 ct17 : Value}
    {f18 : Addr} {od18 an18 : Option Addr} {sl18 : Array (Option Value)} {oc18 kV18 dc18 pm18 cd18 ct18 : Value}
    {f19 : Addr} {od19 an19 : Option Addr} {sl19 : Array (Option Value)} {oc19 kV19 dc19 pm19 cd19 ct19 : Value}
    {f20 : Addr} {od20 an20 : Option Addr} {sl20 : Array (Option Value)} {oc20 kV20 dc20 pm20 cd20 ct20 : Value}
    {f21 : Addr} {od21 an21 : Option Addr} {sl21 : Array (Option Value)} {oc21 kV21 dc21 pm21 cd21 ct21 : Value}
    {f22 : Addr} {od22 an22 : Option Addr} {sl22 : Array (Option Value)} {oc22 kV22 dc22 pm22 cd22 ct22 : Value}
    {f23 : Addr} {od23 an23 : Option Addr} {sl23 : Array (Option Value)} {oc23 kV23 dc23 pm23 cd23 ct23 : Value}
    {f24 : Addr} {od24 an24 : Option Addr} {sl24 : Array (Option Value)} {oc24 kV24 dc24 pm24 cd24 ct24 : Value}
    {f25 : Addr} {od25 an25 : Option Addr} {sl25 : Array (Option Value)} {oc25 kV25 dc25 pm25 cd25 ct25 : Value}
    {f26 : Addr} {od26 an26 : Option Addr} {sl26 : Array (Option Value)} {oc26 kV26 dc26 pm26 cd26 ct26 : Value}
    {f27 : Addr} {od27 an27 : Option Addr} {sl27 : Array (Option Value)} {oc27 kV27 dc27 pm27 cd27 ct27 : Value}
    {f28 : Addr} {od28 an28 : Option Addr} {sl28 : Array (Option Value)} {oc28 kV28 dc28 pm28 cd28 ct28 : Value}
    {f29 : Addr} {od29 an29 : Option Addr} {sl29 : Array (Option Value)} {oc29 kV29 dc29 pm29 cd29 ct29 : Value}
    {f30 : Addr} {od30 an30 : Option Addr} {sl30 : Array (Option Value)} {oc30 kV30 dc30 pm30 cd30 ct30 : Value}
    {f31 : Addr} {od31 an31 : Option Addr} {sl31 : Array (Option Value)} {oc31 kV31 dc31 pm31 cd31 ct31 : Value}
    {f32 : Addr} {od32 an32 : Option Addr} {sl32 : Array (Option Value)} {oc32 kV32 dc32 pm32 cd32 ct32 : Value}
    {f33 : Addr} {od33 an33 : Option Addr} {sl33 : Array (Option Value)} {oc33 kV33 dc33 pm33 cd33 ct33 : Value}
    {f34 : Addr} {od34 an34 : Option Addr} {sl34 : Array (Option Value)} {oc34 kV34 dc34 pm34 cd34 ct34 : Value}
    {f35 : Addr} {od35 an35 : Option Addr} {sl35 : Array (Option Value)} {oc35 kV35 dc35 pm35 cd35 ct35 : Value}
    {f36 : Addr} {od36 an36 : Option Addr} {sl36 : Array (Option Value)} {oc36 kV36 dc36 pm36 cd36 ct36 : Value}
    {f37 : Addr} {od37 an37 : Option Addr} {sl37 : Array (Option Value)} {oc37 kV37 dc37 pm37 cd37 ct37 : Value}
    {f38 : Addr} {od38 an38 : Option Addr} {sl38 : Array (Option Value)} {oc38 kV38 dc38 pm38 cd38 ct38 : Value}
    {f39 : Addr} {od39 an39 : Option Addr} {sl39 : Array (Option Value)} {oc39 kV39 dc39 pm39 cd39 ct39 : Value}
    {f40 : Addr} {od40 an40 : Option Addr} {sl40 : Array (Option Value)} {oc40 kV40 dc40 pm40 cd40 ct40 : Value}
    {f41 : Addr} {od41 an41 : Option Addr} {sl41 : Array (Option Value)} {oc41 kV41 dc41 pm41 cd41 ct41 : Value}
    {f42 : Addr} {od42 an42 : Option Addr} {sl42 : Array (Option Value)} {oc42 kV42 dc42 pm42 cd42 ct42 : Value}
    {f43 : Addr} {od43 an43 : Option Addr} {sl43 : Array (Option Value)} {oc43 kV43 dc43 pm43 cd43 ct43 : Value}
    (aCE : PySem.W.nsIn K mainGlobals "Effects" = some (some (.ref CE)))
    (aCS : PySem.W.nsIn K mainGlobals "Search" = some (some (.ref CS)))
    (aCT : PySem.W.nsIn K mainGlobals "TooMany" = some (some (.ref CT)))
    (aCB : PySem.W.nsIn K mainGlobals "TooBig" = some (some (.ref CB)))
    (a0 : PySem.W.nsIn K mainGlobals "words_of" = some (some (.ref f0)))
    (l0 : K.lookup f0 = some ⟨oc0, od0, .func (PySem.W.fnOf "words_of" "words_of" (defArgs st_words_of) (defBody st_words_of) (defScope st_words_of) .none kV0 dc0 pm0 an0 cd0 ct0), sl0⟩)
    (c0 : PySem.W.codeIn K cd0 "words_of" = true)
    (k0 : PySem.W.keepIn K (.ref f0) = true)
    (a1 : PySem.W.nsIn K mainGlobals "in_turn" = some (some (.ref f1)))
    (l1 : K.lookup f1 = some ⟨oc1, od1, .func (PySem.W.fnOf "in_turn" "in_turn" (defArgs st_in_turn) (defBody st_in_turn) (defScope st_in_turn) .none kV1 dc1 pm1 an1 cd1 ct1), sl1⟩)
    (c1 : PySem.W.codeIn K cd1 "in_turn" = true)
    (k1 : PySem.W.keepIn K (.ref f1) = true)
    (a2 : PySem.W.nsIn K mainGlobals "rules_by_tag" = some (some (.ref f2)))
    (l2 : K.lookup f2 = some ⟨oc2, od2, .func (PySem.W.fnOf "rules_by_tag" "rules_by_tag" (defArgs st_rules_by_tag) (defBody st_rules_by_tag) (defScope st_rules_by_tag) .none kV2 dc2 pm2 an2 cd2 ct2), sl2⟩)
    (c2 : PySem.W.codeIn K cd2 "rules_by_tag" = true)
    (k2 : PySem.W.keepIn K (.ref f2) = true)
    (a3 : PySem.W.nsIn K mainGlobals "parts_for" = some (some (.ref f3)))
    (l3 : K.lookup f3 = some ⟨oc3, od3, .func (PySem.W.fnOf "parts_for" "parts_for" (defArgs st_parts_for) (defBody st_parts_for) (defScope st_parts_for) .none kV3 dc3 pm3 an3 cd3 ct3), sl3⟩)
    (c3 : PySem.W.codeIn K cd3 "parts_for" = true)
    (k3 : PySem.W.keepIn K (.ref f3) = true)
    (a4 : PySem.W.findIn K (.ref CE) "idle" = some (some (.ref f4)))
    (i4 : PySem.W.isFn K (.ref f4) = true)
    (l4 : K.lookup f4 = some ⟨oc4, od4, .func (PySem.W.fnOf "idle" "Effects.idle" (defArgs st_Effects_idle) (defBody st_Effects_idle) (defScope st_Effects_idle) .none kV4 dc4 pm4 an4 cd4 ct4), sl4⟩)
    (c4 : PySem.W.codeIn K cd4 "Effects.idle" = true)
    (k4 : PySem.W.keepIn K (.ref f4) = true)
    (a5 : PySem.W.findIn K (.ref CE) "nothing" = some (some (.ref f5)))
    (i5 : PySem.W.isFn K (.ref f5) = true)
    (l5 : K.lookup f5 = some ⟨oc5, od5, .func (PySem.W.fnOf "nothing" "Effects.nothing" (defArgs st_Effects_nothing) (defBody st_Effects_nothing) (defScope st_Effects_nothing) .none kV5 dc5 pm5 an5 cd5 ct5), sl5⟩)
    (c5 : PySem.W.codeIn K cd5 "Effects.nothing" = true)
    (k5 : PySem.W.keepIn K (.ref f5) = true)
    (a6 : PySem.W.findIn K (.ref CE) "__init__" = some (some (.ref f6)))
    (i6 : PySem.W.isFn K (.ref f6) = true)
    (l6 : K.lookup f6 = some ⟨oc6, od6, .func (PySem.W.fnOf "__init__" "Effects.__init__" (defArgs st_EI) (defBody st_EI) (defScope st_EI) .none kV6 dc6 pm6 an6 cd6 ct6), sl6⟩)
    (c6 : PySem.W.codeIn K cd6 "Effects.__init__" = true)
    (k6 : PySem.W.keepIn K (.ref f6) = true)
    (a7 : PySem.W.findIn K (.ref CE) "of_tag" = some (some (.ref f7)))
    (i7 : PySem.W.isFn K (.ref f7) = true)
    (l7 : K.lookup f7 = some ⟨oc7, od7, .func (PySem.W.fnOf "of_tag" "Effects.of_tag" (defArgs st_Effects_of_tag) (defBody st_Effects_of_tag) (defScope st_Effects_of_tag) .none kV7 dc7 pm7 an7 cd7 ct7), sl7⟩)
    (c7 : PySem.W.codeIn K cd7 "Effects.of_tag" = true)
    (k7 : PySem.W.keepIn K (.ref f7) = true)
    (a8 : PySem.W.findIn K (.ref CE) "of_parts" = some (some (.ref f8)))
    (i8 : PySem.W.isFn K (.ref f8) = true)
    (l8 : K.lookup f8 = some ⟨oc8, od8, .func (PySem.W.fnOf "of_parts" "Effects.of_parts" (defArgs st_Effects_of_parts) (defBody st_Effects_of_parts) (defScope st_Effects_of_parts) .none kV8 dc8 pm8 an8 cd8 ct8), sl8⟩)
    (c8 : PySem.W.codeIn K cd8 "Effects.of_parts" = true)
    (k8 : PySem.W.keepIn K (.ref f8) = true)
    (a9 : PySem.W.findIn K (.ref CE) "above" = some (some (.ref f9)))
    (i9 : PySem.W.isFn K (.ref f9) = true)
    (l9 : K.lookup f9 = some ⟨oc9, od9, .func (PySem.W.fnOf "above" "Effects.above" (defArgs st_Effects_above) (defBody st_Effects_above) (defScope st_Effects_above) .none kV9 dc9 pm9 an9 cd9 ct9), sl9⟩)
    (c9 : PySem.W.codeIn K cd9 "Effects.above" = true)
    (k9 : PySem.W.keepIn K (.ref f9) = true)
    (a10 : PySem.W.findIn K (.ref CE) "good" = some (some (.ref f10)))
    (i10 : PySem.W.isFn K (.ref f10) = true)
    (l10 : K.lookup f10 = some ⟨oc10, od10, .func (PySem.W.fnOf "good" "Effects.good" (defArgs st_Effects_good) (defBody st_Effects_good) (defScope st_Effects_good) .none kV10 dc10 pm10 an10 cd10 ct10), sl10⟩)
    (c10 : PySem.W.codeIn K cd10 "Effects.good" = true)
    (k10 : PySem.W.keepIn K (.ref f10) = true)
    (a11 : PySem.W.nsIn K mainGlobals "before" = some (some (.ref f11)))
    (l11 : K.lookup f11 = some ⟨oc11, od11, .func (PySem.W.fnOf "before" "before" (defArgs st_before) (defBody st_before) (defScope st_before) .none kV11 dc11 pm11 an11 cd11 ct11), sl11⟩)
    (c11 : PySem.W.codeIn K cd11 "before" = true)
    (k11 : PySem.W.keepIn K (.ref f11) = true)
    (a12 : PySem.W.nsIn K mainGlobals "least_among" = some (some (.ref f12)))
    (l12 : K.lookup f12 = some ⟨oc12, od12, .func (PySem.W.fnOf "least_among" "least_among" (defArgs st_least_among) (defBody st_least_among) (defScope st_least_among) .none kV12 dc12 pm12 an12 cd12 ct12), sl12⟩)
    (c12 : PySem.W.codeIn K cd12 "least_among" = true)
    (k12 : PySem.W.keepIn K (.ref f12) = true)
    (a13 : PySem.W.findIn K (.ref CS) "meet" = some (some (.ref f13)))
    (i13 : PySem.W.isFn K (.ref f13) = true)
    (l13 : K.lookup f13 = some ⟨oc13, od13, .func (PySem.W.fnOf "meet" "Search.meet" (defArgs st_Search_meet) (defBody st_Search_meet) (defScope st_Search_meet) .none kV13 dc13 pm13 an13 cd13 ct13), sl13⟩)
    (c13 : PySem.W.codeIn K cd13 "Search.meet" = true)
    (k13 : PySem.W.keepIn K (.ref f13) = true)
    (a14 : PySem.W.findIn K (.ref CS) "step" = some (some (.ref f14)))
    (i14 : PySem.W.isFn K (.ref f14) = true)
    (l14 : K.lookup f14 = some ⟨oc14, od14, .func (PySem.W.fnOf "step" "Search.step" (defArgs st_Search_step) (defBody st_Search_step) (defScope st_Search_step) .none kV14 dc14 pm14 an14 cd14 ct14), sl14⟩)
    (c14 : PySem.W.codeIn K cd14 "Search.step" = true)
    (k14 : PySem.W.keepIn K (.ref f14) = true)
    (a15 : PySem.W.findIn K (.ref CS) "rank" = some (some (.ref f15)))
    (i15 : PySem.W.isFn K (.ref f15) = true)
    (l15 : K.lookup f15 = some ⟨oc15, od15, .func (PySem.W.fnOf "rank" "Search.rank" (defArgs st_Search_rank) (defBody st_Search_rank) (defScope st_Search_rank) .none kV15 dc15 pm15 an15 cd15 ct15), sl15⟩)
    (c15 : PySem.W.codeIn K cd15 "Search.rank" = true)
    (k15 : PySem.W.keepIn K (.ref f15) = true)
    (a16 : PySem.W.findIn K (.ref CS) "take_least" = some (some (.ref f16)))
    (i16 : PySem.W.isFn K (.ref f16) = true)
    (l16 : K.lookup f16 = some ⟨oc16, od16, .func (PySem.W.fnOf "take_least" "Search.take_least" (defArgs st_Search_take_least) (defBody st_Search_take_least) (defScope st_Search_take_least) .none kV16 dc16 pm16 an16 cd16 ct16), sl16⟩)
    (c16 : PySem.W.codeIn K cd16 "Search.take_least" = true)
    (k16 : PySem.W.keepIn K (.ref f16) = true)
    (a17 : PySem.W.findIn K (.ref CS) "__init__" = some (some (.ref f17)))
    (i17 : PySem.W.isFn K (.ref f17) = true)
    (l17 : K.lookup f17 = some ⟨oc17, od17, .func (PySem.W.fnOf "__init__" "Search.__init__" (defArgs st_SI) (defBody st_SI) (defScope st_SI) .none kV17 dc17 pm17 an17 cd17 ct17), sl17⟩)
    (c17 : PySem.W.codeIn K cd17 "Search.__init__" = true)
    (k17 : PySem.W.keepIn K (.ref f17) = true)
    (a18 : PySem.W.nsIn K mainGlobals "table" = some (some (.ref f18)))
    (l18 : K.lookup f18 = some ⟨oc18, od18, .func (PySem.W.fnOf "table" "table" (defArgs st_table) (defBody st_table) (defScope st_table) .none kV18 dc18 pm18 an18 cd18 ct18), sl18⟩)
    (c18 : PySem.W.codeIn K cd18 "table" = true)
    (k18 : PySem.W.keepIn K (.ref f18) = true)
    (a19 : PySem.W.nsIn K mainGlobals "holds" = some (some (.ref f19)))
    (l19 : K.lookup f19 = some ⟨oc19, od19, .func (PySem.W.fnOf "holds" "holds" (defArgs st_holds) (defBody st_holds) (defScope st_holds) .none kV19 dc19 pm19 an19 cd19 ct19), sl19⟩)
    (c19 : PySem.W.codeIn K cd19 "holds" = true)
    (k19 : PySem.W.keepIn K (.ref f19) = true)
    (a20 : PySem.W.nsIn K mainGlobals "safe" = some (some (.ref f20)))
    (l20 : K.lookup f20 = some ⟨oc20, od20, .func (PySem.W.fnOf "safe" "safe" (defArgs st_safe) (defBody st_safe) (defScope st_safe) .none kV20 dc20 pm20 an20 cd20 ct20), sl20⟩)
    (c20 : PySem.W.codeIn K cd20 "safe" = true)
    (k20 : PySem.W.keepIn K (.ref f20) = true)
    (a21 : PySem.W.nsIn K mainGlobals "_law_turned" = some (some (.ref f21)))
    (l21 : K.lookup f21 = some ⟨oc21, od21, .func (PySem.W.fnOf "_law_turned" "_law_turned" (defArgs st_l_turned) (defBody st_l_turned) (defScope st_l_turned) .none kV21 dc21 pm21 an21 cd21 ct21), sl21⟩)
    (c21 : PySem.W.codeIn K cd21 "_law_turned" = true)
    (k21 : PySem.W.keepIn K (.ref f21) = true)
    (a22 : PySem.W.nsIn K mainGlobals "_law_idle" = some (some (.ref f22)))
    (l22 : K.lookup f22 = some ⟨oc22, od22, .func (PySem.W.fnOf "_law_idle" "_law_idle" (defArgs st_l_idle) (defBody st_l_idle) (defScope st_l_idle) .none kV22 dc22 pm22 an22 cd22 ct22), sl22⟩)
    (c22 : PySem.W.codeIn K cd22 "_law_idle" = true)
    (k22 : PySem.W.keepIn K (.ref f22) = true)
    (a23 : PySem.W.nsIn K mainGlobals "_law_wanted" = some (some (.ref f23)))
    (l23 : K.lookup f23 = some ⟨oc23, od23, .func (PySem.W.fnOf "_law_wanted" "_law_wanted" (defArgs st_l_wanted) (defBody st_l_wanted) (defScope st_l_wanted) .none kV23 dc23 pm23 an23 cd23 ct23), sl23⟩)
    (c23 : PySem.W.codeIn K cd23 "_law_wanted" = true)
    (k23 : PySem.W.keepIn K (.ref f23) = true)
    (a24 : PySem.W.nsIn K mainGlobals "_law_through" = some (some (.ref f24)))
    (l24 : K.lookup f24 = some ⟨oc24, od24, .func (PySem.W.fnOf "_law_through" "_law_through" (defArgs st_l_through) (defBody st_l_through) (defScope st_l_through) .none kV24 dc24 pm24 an24 cd24 ct24), sl24⟩)
    (c24 : PySem.W.codeIn K cd24 "_law_through" = true)
    (k24 : PySem.W.keepIn K (.ref f24) = true)
    (a25 : PySem.W.nsIn K mainGlobals "_law_over" = some (some (.ref f25)))
    (l25 : K.lookup f25 = some ⟨oc25, od25, .func (PySem.W.fnOf "_law_over" "_law_over" (defArgs st_l_over) (defBody st_l_over) (defScope st_l_over) .none kV25 dc25 pm25 an25 cd25 ct25), sl25⟩)
    (c25 : PySem.W.codeIn K cd25 "_law_over" = true)
    (k25 : PySem.W.keepIn K (.ref f25) = true)
    (a26 : PySem.W.nsIn K mainGlobals "_law_words_of" = some (some (.ref f26)))
    (l26 : K.lookup f26 = some ⟨oc26, od26, .func (PySem.W.fnOf "_law_words_of" "_law_words_of" (defArgs st_l_words_of) (defBody st_l_words_of) (defScope st_l_words_of) .none kV26 dc26 pm26 an26 cd26 ct26), sl26⟩)
    (c26 : PySem.W.codeIn K cd26 "_law_words_of" = true)
    (k26 : PySem.W.keepIn K (.ref f26) = true)
    (a27 : PySem.W.nsIn K mainGlobals "_law_value" = some (some (.ref f27)))
    (l27 : K.lookup f27 = some ⟨oc27, od27, .func (PySem.W.fnOf "_law_value" "_law_value" (defArgs st_l_value) (defBody st_l_value) (defScope st_l_value) .none kV27 dc27 pm27 an27 cd27 ct27), sl27⟩)
    (c27 : PySem.W.codeIn K cd27 "_law_value" = true)
    (k27 : PySem.W.keepIn K (.ref f27) = true)
    (a28 : PySem.W.nsIn K mainGlobals "_law_kinds" = some (some (.ref f28)))
    (l28 : K.lookup f28 = some ⟨oc28, od28, .func (PySem.W.fnOf "_law_kinds" "_law_kinds" (defArgs st_l_kinds) (defBody st_l_kinds) (defScope st_l_kinds) .none kV28 dc28 pm28 an28 cd28 ct28), sl28⟩)
    (c28 : PySem.W.codeIn K cd28 "_law_kinds" = true)
    (k28 : PySem.W.keepIn K (.ref f28) = true)
    (a29 : PySem.W.nsIn K mainGlobals "_law_fitting" = some (some (.ref f29)))
    (l29 : K.lookup f29 = some ⟨oc29, od29, .func (PySem.W.fnOf "_law_fitting" "_law_fitting" (defArgs st_l_fitting) (defBody st_l_fitting) (defScope st_l_fitting) .none kV29 dc29 pm29 an29 cd29 ct29), sl29⟩)
    (c29 : PySem.W.codeIn K cd29 "_law_fitting" = true)
    (k29 : PySem.W.keepIn K (.ref f29) = true)
    (a30 : PySem.W.nsIn K mainGlobals "_law_coming" = some (some (.ref f30)))
    (l30 : K.lookup f30 = some ⟨oc30, od30, .func (PySem.W.fnOf "_law_coming" "_law_coming" (defArgs st_l_coming) (defBody st_l_coming) (defScope st_l_coming) .none kV30 dc30 pm30 an30 cd30 ct30), sl30⟩)
    (c30 : PySem.W.codeIn K cd30 "_law_coming" = true)
    (k30 : PySem.W.keepIn K (.ref f30) = true)
    (a31 : PySem.W.nsIn K mainGlobals "_law_spoiled" = some (some (.ref f31)))
    (l31 : K.lookup f31 = some ⟨oc31, od31, .func (PySem.W.fnOf "_law_spoiled" "_law_spoiled" (defArgs st_l_spoiled) (defBody st_l_spoiled) (defScope st_l_spoiled) .none kV31 dc31 pm31 an31 cd31 ct31), sl31⟩)
    (c31 : PySem.W.codeIn K cd31 "_law_spoiled" = true)
    (k31 : PySem.W.keepIn K (.ref f31) = true)
    (a32 : PySem.W.nsIn K mainGlobals "_law_closing" = some (some (.ref f32)))
    (l32 : K.lookup f32 = some ⟨oc32, od32, .func (PySem.W.fnOf "_law_closing" "_law_closing" (defArgs st_l_closing) (defBody st_l_closing) (defScope st_l_closing) .none kV32 dc32 pm32 an32 cd32 ct32), sl32⟩)
    (c32 : PySem.W.codeIn K cd32 "_law_closing" = true)
    (k32 : PySem.W.keepIn K (.ref f32) = true)
    (a33 : PySem.W.nsIn K mainGlobals "_law_few" = some (some (.ref f33)))
    (l33 : K.lookup f33 = some ⟨oc33, od33, .func (PySem.W.fnOf "_law_few" "_law_few" (defArgs st_l_few) (defBody st_l_few) (defScope st_l_few) .none kV33 dc33 pm33 an33 cd33 ct33), sl33⟩)
    (c33 : PySem.W.codeIn K cd33 "_law_few" = true)
    (k33 : PySem.W.keepIn K (.ref f33) = true)
    (a34 : PySem.W.nsIn K mainGlobals "_law_safe" = some (some (.ref f34)))
    (l34 : K.lookup f34 = some ⟨oc34, od34, .func (PySem.W.fnOf "_law_safe" "_law_safe" (defArgs st_l_safe) (defBody st_l_safe) (defScope st_l_safe) .none kV34 dc34 pm34 an34 cd34 ct34), sl34⟩)
    (c34 : PySem.W.codeIn K cd34 "_law_safe" = true)
    (k34 : PySem.W.keepIn K (.ref f34) = true)
    (a35 : PySem.W.nsIn K mainGlobals "_law_holding" = some (some (.ref f35)))
    (l35 : K.lookup f35 = some ⟨oc35, od35, .func (PySem.W.fnOf "_law_holding" "_law_holding" (defArgs st_l_holding) (defBody st_l_holding) (defScope st_l_holding) .none kV35 dc35 pm35 an35 cd35 ct35), sl35⟩)
    (c35 : PySem.W.codeIn K cd35 "_law_holding" = true)
    (k35 : PySem.W.keepIn K (.ref f35) = true)
    (a36 : PySem.W.nsIn K mainGlobals "_law_cell_at" = some (some (.ref f36)))
    (l36 : K.lookup f36 = some ⟨oc36, od36, .func (PySem.W.fnOf "_law_cell_at" "_law_cell_at" (defArgs st_l_cell_at) (defBody st_l_cell_at) (defScope st_l_cell_at) .none kV36 dc36 pm36 an36 cd36 ct36), sl36⟩)
    (c36 : PySem.W.codeIn K cd36 "_law_cell_at" = true)
    (k36 : PySem.W.keepIn K (.ref f36) = true)
    (a37 : PySem.W.nsIn K mainGlobals "_law_numbers" = some (some (.ref f37)))
    (l37 : K.lookup f37 = some ⟨oc37, od37, .func (PySem.W.fnOf "_law_numbers" "_law_numbers" (defArgs st_l_numbers) (defBody st_l_numbers) (defScope st_l_numbers) .none kV37 dc37 pm37 an37 cd37 ct37), sl37⟩)
    (c37 : PySem.W.codeIn K cd37 "_law_numbers" = true)
    (k37 : PySem.W.keepIn K (.ref f37) = true)
    (a38 : PySem.W.nsIn K mainGlobals "_law_tags" = some (some (.ref f38)))
    (l38 : K.lookup f38 = some ⟨oc38, od38, .func (PySem.W.fnOf "_law_tags" "_law_tags" (defArgs st_l_tags) (defBody st_l_tags) (defScope st_l_tags) .none kV38 dc38 pm38 an38 cd38 ct38), sl38⟩)
    (c38 : PySem.W.codeIn K cd38 "_law_tags" = true)
    (k38 : PySem.W.keepIn K (.ref f38) = true)
    (a39 : PySem.W.nsIn K mainGlobals "_law_parts" = some (some (.ref f39)))
    (l39 : K.lookup f39 = some ⟨oc39, od39, .func (PySem.W.fnOf "_law_parts" "_law_parts" (defArgs st_l_parts) (defBody st_l_parts) (defScope st_l_parts) .none kV39 dc39 pm39 an39 cd39 ct39), sl39⟩)
    (c39 : PySem.W.codeIn K cd39 "_law_parts" = true)
    (k39 : PySem.W.keepIn K (.ref f39) = true)
    (a40 : PySem.W.nsIn K mainGlobals "_law_ways" = some (some (.ref f40)))
    (l40 : K.lookup f40 = some ⟨oc40, od40, .func (PySem.W.fnOf "_law_ways" "_law_ways" (defArgs st_l_ways) (defBody st_l_ways) (defScope st_l_ways) .none kV40 dc40 pm40 an40 cd40 ct40), sl40⟩)
    (c40 : PySem.W.codeIn K cd40 "_law_ways" = true)
    (k40 : PySem.W.keepIn K (.ref f40) = true)
    (a41 : PySem.W.nsIn K mainGlobals "_law_shape" = some (some (.ref f41)))
    (l41 : K.lookup f41 = some ⟨oc41, od41, .func (PySem.W.fnOf "_law_shape" "_law_shape" (defArgs st_l_shape) (defBody st_l_shape) (defScope st_l_shape) .none kV41 dc41 pm41 an41 cd41 ct41), sl41⟩)
    (c41 : PySem.W.codeIn K cd41 "_law_shape" = true)
    (k41 : PySem.W.keepIn K (.ref f41) = true)
    (a42 : PySem.W.nsIn K mainGlobals "_law_target" = some (some (.ref f42)))
    (l42 : K.lookup f42 = some ⟨oc42, od42, .func (PySem.W.fnOf "_law_target" "_law_target" (defArgs st_l_target) (defBody st_l_target) (defScope st_l_target) .none kV42 dc42 pm42 an42 cd42 ct42), sl42⟩)
    (c42 : PySem.W.codeIn K cd42 "_law_target" = true)
    (k42 : PySem.W.keepIn K (.ref f42) = true)
    (a43 : PySem.W.nsIn K mainGlobals "law" = some (some (.ref f43)))
    (l43 : K.lookup f43 = some ⟨oc43, od43, .func (PySem.W.fnOf "law" "law" (defArgs st_law) (defBody st_law) (defScope st_law) .none kV43 dc43 pm43 an43 cd43 ct43), sl43⟩)
    (c43 : PySem.W.codeIn K cd43 "law" = true)
    (k43 : PySem.W.keepIn K (.ref f43) = true)
    (pgCE : PySem.W.plainGet K CE Str.empty = true)
    (hdCE : PySem.W.hasDictIn K CE = true)
    (poCE : PySem.W.plainOver K CE = true)
    (saCE : PySem.W.findIn K (.ref CE) "__setattr__" = some (some (.builtin "object.__setattr__")))
    (mkCE : PySem.W.makesIn K CE = true)
    (kcCE : PySem.W.keepIn K (.ref CE) = true)
    (pgCS : PySem.W.plainGet K CS Str.empty = true)
    (hdCS : PySem.W.hasDictIn K CS = true)
    (poCS : PySem.W.plainOver K CS = true)
    (saCS : PySem.W.findIn K (.ref CS) "__setattr__" = some (some (.builtin "object.__setattr__")))
    (mkCS : PySem.W.makesIn K CS = true)
    (kcCS : PySem.W.keepIn K (.ref CS) = true)
    (nEmodes : PySem.W.findIn K (.ref CE) "modes" = some none)
    (nEways : PySem.W.findIn K (.ref CE) "ways" = some none)
    (nEtarget : PySem.W.findIn K (.ref CE) "target" = some none)
    (nSheld : PySem.W.findIn K (.ref CS) "held" = some none)
    (nSmeasure : PySem.W.findIn K (.ref CS) "measure" = some none)
    (nSrows : PySem.W.findIn K (.ref CS) "rows" = some none)
    (nSwaiting : PySem.W.findIn K (.ref CS) "waiting" = some none)
    (nSbeyond : PySem.W.findIn K (.ref CS) "beyond" = some none)
    (nSsteps : PySem.W.findIn K (.ref CS) "steps" = some none)
    (nSlists : PySem.W.findIn K (.ref CS) "lists" = some none)
    (gf : PySem.W.specialIn K (.ref f15) "__get__" = some (some (.builtin "function.__get__")))
    (tk : PySem.W.takesIn K (.ref f15) = some false)
    (fi : PySem.W.fnIn K f15 = true)
    (xeCT : PySem.W.excIn K CT [.type "ValueError", .type "Exception", .type "BaseException", .type "object"] "ValueError.__new__" = true)
    (kpCT : PySem.W.keepIn K (.ref CT) = true)
    (sbCT : PySem.W.subIn K (.ref CT) (.type "BaseException") = some true)
    (tyCT : PySem.W.typeIn K (.ref CT) = some (.type "type"))
    (icCT : PySem.W.isClsIn K CT = true)
    (xeCB : PySem.W.excIn K CB [.type "ValueError", .type "Exception", .type "BaseException", .type "object"] "ValueError.__new__" = true)
    (kpCB : PySem.W.keepIn K (.ref CB) = true)
    (sbCB : PySem.W.subIn K (.ref CB) (.type "BaseException") = some true)
    (tyCB : PySem.W.typeIn K (.ref CB) = some (.type "type"))
    (icCB : PySem.W.isClsIn K CB = true)
    (sTT : PySem.W.subIn K (.ref CT) (.ref CT) = some true)
    (sBB : PySem.W.subIn K (.ref CB) (.ref CB) = some true)
    (sTB : PySem.W.subIn K (.ref CT) (.ref CB) = some false)
    (sBT : PySem.W.subIn K (.ref CB) (.ref CT) = some false)
    (zlen : PySem.W.nsIn K mainGlobals "len" = some none)
    (zrange : PySem.W.nsIn K mainGlobals "range" = some none)
    (ztuple : PySem.W.nsIn K mainGlobals "tuple" = some none)
    (zlist : PySem.W.nsIn K mainGlobals "list" = some none)
    (zsorted : PySem.W.nsIn K mainGlobals "sorted" = some none)
    (zset : PySem.W.nsIn K mainGlobals "set" = some none)
    (zmin : PySem.W.nsIn K mainGlobals "min" = some none)
    (zmax : PySem.W.nsIn K mainGlobals "max" = some none)
    (zreversed : PySem.W.nsIn K mainGlobals "reversed" = some none)
    (zisinstance : PySem.W.nsIn K mainGlobals "isinstance" = some none)
    (zEND : PySem.W.nsIn K mainGlobals "END" = some (some (.str "/" t1)))
    (zMOST_TAGS : PySem.W.nsIn K mainGlobals "MOST_TAGS" = some (some (.int 300 t2)))
    (zMOST_ROWS : PySem.W.nsIn K mainGlobals "MOST_ROWS" = some (some (.int 64 t3)))
    (zMOST_STEPS : PySem.W.nsIn K mainGlobals "MOST_STEPS" = some (some (.int 4000 t4))) :
    ∃ fd : FuncData, (∀ (s : Shared) (v : Value), BindsTo s fd ⟨[v], []⟩ [("_law_script", v)]) ∧ ∀ base : Heap, K.In base → base.Ns mainGlobals mg → FnOk P w K mg base CX0 12 fa fd ["_law_script"] (spLaw K) := by
  have e := hfa.symm.trans (PySem.W.mg_of X G a43)
  cases e
  have B : Gb mg := ⟨PySem.W.mg_none_of X G zlen, PySem.W.mg_none_of X G zrange, PySem.W.mg_none_of X G ztuple, PySem.W.mg_none_of X G zlist, PySem.W.mg_none_of X G zsorted, PySem.W.mg_none_of X G zset, PySem.W.mg_none_of X G zmin, PySem.W.mg_none_of X G zmax, PySem.W.mg_none_of X G zreversed, PySem.W.mg_none_of X G zisinstance, ⟨_, PySem.W.mg_of X G zEND⟩, ⟨_, PySem.W.mg_of X G zMOST_TAGS⟩, ⟨_, PySem.W.mg_of X G zMOST_ROWS⟩, ⟨_, PySem.W.mg_of X G zMOST_STEPS⟩⟩
  have TEc : ECls K CE := ⟨⟨pgCE, hdCE, poCE, saCE⟩, nEmodes, nEways, nEtarget⟩
  have TSc : SCls K CS := ⟨⟨pgCS, hdCS, poCS, saCS⟩, nSheld, nSmeasure, nSrows, nSwaiting, nSbeyond, nSsteps, nSlists⟩
  have TTM : ETxt K mg "TooMany" CT := ⟨PySem.W.mg_of X G aCT, xeCT, kpCT, sbCT, tyCT⟩
  have TTB : ETxt K mg "TooBig" CB := ⟨PySem.W.mg_of X G aCB, xeCB, kpCB, sbCB, tyCB⟩
  have hX : ∀ C, (C = CT ∨ C = CB) → PySem.W.exmAny K (.ref C) [.ref CB, .ref CT] = some true := by
    rintro C (rfl | rfl)
    · exact exm_two (exm_cl sbCB icCB tyCB sTB) (exm_cl sbCT icCT tyCT sTT)
    · exact exm_two (exm_cl sbCB icCB tyCB sBB) (exm_cl sbCT icCT tyCT sBT)
  refine ⟨PySem.W.fnOf "law" "law" (defArgs st_law) (defBody st_law) (defScope st_law) .none kV43 dc43 pm43 an43 cd43 ct43, fun s v => .of_eq rfl, fun base _ _ => ?_⟩
  have F0 := fun_mk (st := st_words_of) l0 c0 k0
  have b0 := F0.binds (ps := ["grove"]) fun _ _ _ _ _ _ us hl => match us, hl with | [_], _ => rfl
  have H0 : Callable P w K mg base CX0 1 "words_of" ["grove"] spWords := ⟨f0, _, PySem.W.mg_of X G a0, k0, b0, ok_words F0 B⟩
  have F1 := fun_mk (st := st_in_turn) l1 c1 k1
  have b1 := F1.binds (ps := ["one", "other"]) fun _ _ _ _ _ _ us hl => match us, hl with | [_, _], _ => rfl
  have H1 : Callable P w K mg base CX0 1 "in_turn" ["one", "other"] spTurn := ⟨f1, _, PySem.W.mg_of X G a1, k1, b1, ok_turn F1 B⟩
  have F2 := fun_mk (st := st_rules_by_tag) l2 c2 k2
  have b2 := F2.binds (ps := ["one"]) fun _ _ _ _ _ _ us hl => match us, hl with | [_], _ => rfl
  have H2 : Callable P w K mg base CX0 1 "rules_by_tag" ["one"] spRules := ⟨f2, _, PySem.W.mg_of X G a2, k2, b2, ok_rules F2 ⟩
  have F3 := fun_mk (st := st_parts_for) l3 c3 k3
  have b3 := F3.binds (ps := ["rules", "mode", "tag"]) fun _ _ _ _ _ _ us hl => match us, hl with | [_, _, _], _ => rfl
  have H3 : Callable P w K mg base CX0 1 "parts_for" ["rules", "mode", "tag"] spPartsFor := ⟨f3, _, PySem.W.mg_of X G a3, k3, b3, ok_partsFor F3 ⟩
  have F4 := fun_mk (st := st_Effects_idle) l4 c4 k4
  have b4 := F4.binds (ps := ["self"]) fun _ _ _ _ _ _ us hl => match us, hl with | [_], _ => rfl
  have H4 : Methd P w K mg base CX0 1 CE "idle" ["self"] (spIdle CE) := ⟨TEc.cl, f4, _, ⟨a4, i4, k4⟩, b4, ok_idle F4 B TEc⟩
  have F5 := fun_mk (st := st_Effects_nothing) l5 c5 k5
  have b5 := F5.binds (ps := ["self"]) fun _ _ _ _ _ _ us hl => match us, hl with | [_], _ => rfl
  have H5 : Methd P w K mg base CX0 2 CE "nothing" ["self"] (spNothing CE) := ⟨TEc.cl, f5, _, ⟨a5, i5, k5⟩, b5, ok_nothing F5 B TEc H4⟩
  have F6 := fun_mk (st := st_EI) l6 c6 k6
  have b6 := F6.binds (ps := ["self", "changer", "form"]) fun _ _ _ _ _ _ us hl => match us, hl with | [_, _, _], _ => rfl
  have H6 : Maker P w K mg base CX0 2 "Effects" CE ["self", "changer", "form"] (spEffInit CE) := ⟨PySem.W.mg_of X G aCE, f6, _, ⟨mkCE, a6, i6, kcCE⟩, b6, ok_effInit F6 TEc H2⟩
  have F7 := fun_mk (st := st_Effects_of_tag) l7 c7 k7
  have b7 := F7.binds (ps := ["self", "tag", "inner"]) fun _ _ _ _ _ _ us hl => match us, hl with | [_, _, _], _ => rfl
  have H7 : Methd P w K mg base CX0 1 CE "of_tag" ["self", "tag", "inner"] (spOfTag CE) := ⟨TEc.cl, f7, _, ⟨a7, i7, k7⟩, b7, ok_ofTag F7 B TEc⟩
  have F8 := fun_mk (st := st_Effects_of_parts) l8 c8 k8
  have b8 := F8.binds (ps := ["self", "parts", "value"]) fun _ _ _ _ _ _ us hl => match us, hl with | [_, _, _], _ => rfl
  have H8 : Methd P w K mg base CX0 6 CE "of_parts" ["self", "parts", "value"] (spOP CE 5) := ⟨TEc.cl, f8, _, ⟨a8, i8, k8⟩, b8, ok_ofParts F8 b8 ⟨a8, i8, k8⟩ B TEc H4 H7 H1 5⟩
  have F9 := fun_mk (st := st_Effects_above) l9 c9 k9
  have b9 := F9.binds (ps := ["self", "tag", "inner", "rest"]) fun _ _ _ _ _ _ us hl => match us, hl with | [_, _, _, _], _ => rfl
  have H9 : Methd P w K mg base CX0 7 CE "above" ["self", "tag", "inner", "rest"] (spAbove CE) := ⟨TEc.cl, f9, _, ⟨a9, i9, k9⟩, b9, ok_above F9 B TEc H3 H8 H1⟩
  have F10 := fun_mk (st := st_Effects_good) l10 c10 k10
  have b10 := F10.binds (ps := ["self", "value"]) fun _ _ _ _ _ _ us hl => match us, hl with | [_, _], _ => rfl
  have H10 : Methd P w K mg base CX0 1 CE "good" ["self", "value"] (spGood CE) := ⟨TEc.cl, f10, _, ⟨a10, i10, k10⟩, b10, ok_good F10 TEc⟩
  have F11 := fun_mk (st := st_before) l11 c11 k11
  have b11 := F11.binds (ps := ["one", "other"]) fun _ _ _ _ _ _ us hl => match us, hl with | [_, _], _ => rfl
  have H11 : Callable P w K mg base CX0 2 "before" ["one", "other"] spBefore := ⟨f11, _, PySem.W.mg_of X G a11, k11, b11, ok_before F11 B H0⟩
  have F12 := fun_mk (st := st_least_among) l12 c12 k12
  have b12 := F12.binds (ps := ["groves"]) fun _ _ _ _ _ _ us hl => match us, hl with | [_], _ => rfl
  have H12 : Callable P w K mg base CX0 3 "least_among" ["groves"] spLeast := ⟨f12, _, PySem.W.mg_of X G a12, k12, b12, ok_least F12 H11⟩
  have F13 := fun_mk (st := st_Search_meet) l13 c13 k13
  have b13 := F13.binds (ps := ["self", "pair", "grove"]) fun _ _ _ _ _ _ us hl => match us, hl with | [_, _, _], _ => rfl
  have H13 : Methd P w K mg base (L2.CX P w) 2 CS "meet" ["self", "pair", "grove"] (spMeet P w CS CT) := ⟨TSc.cl, f13, _, ⟨a13, i13, k13⟩, b13, ok_meet F13 B TSc TTM H0⟩
  have F14 := fun_mk (st := st_Search_step) l14 c14 k14
  have b14 := F14.binds (ps := ["self", "rule", "inner", "rest"]) fun _ _ _ _ _ _ us hl => match us, hl with | [_, _, _, _], _ => rfl
  have H14 : Methd P w K mg base (L2.CX P w) 8 CS "step" ["self", "rule", "inner", "rest"] (spStep P w CS CE CT) := ⟨TSc.cl, f14, _, ⟨a14, i14, k14⟩, b14, ok_step F14 B TSc TTM H9 H13⟩
  have F15 := fun_mk (st := st_Search_rank) l15 c15 k15
  have b15 := F15.binds (ps := ["self", "pair"]) fun _ _ _ _ _ _ us hl => match us, hl with | [_, _], _ => rfl
  have FR : FnR P w K mg base CX0 1 f15 (spRank P w CS) := by
    have q := (ok_rank F15 TSc : FnOk P w K mg base CX0 1 f15 _ ["self", "pair"] (spRank P w CS)).raw b15 .nil
    simpa only [List.append_nil] using q
  have F16 := fun_mk (st := st_Search_take_least) l16 c16 k16
  have b16 := F16.binds (ps := ["self"]) fun _ _ _ _ _ _ us hl => match us, hl with | [_], _ => rfl
  have H16 : Methd P w K mg base (L2.CX P w) 9 CS "take_least" ["self"] (spTake P w CS CE CT) := ⟨TSc.cl, f16, _, ⟨a16, i16, k16⟩, b16, ok_take F16 B TSc ⟨⟨a15, i15, k15⟩, gf, tk, by decide, fi⟩ FR H14⟩
  have F17 := fun_mk (st := st_SI) l17 c17 k17
  have b17 := F17.binds (ps := ["self", "one", "measure"]) fun _ _ _ _ _ _ us hl => match us, hl with | [_, _, _], _ => rfl
  have H17 : Maker P w K mg base CX0 3 "Search" CS ["self", "one", "measure"] (spSInit P w CS CE) := ⟨PySem.W.mg_of X G aCS, f17, _, ⟨mkCS, a17, i17, kcCS⟩, b17, ok_SInit F17 B TSc H5 H13⟩
  have F18 := fun_mk (st := st_table) l18 c18 k18
  have b18 := F18.binds (ps := ["one", "measure"]) fun _ _ _ _ _ _ us hl => match us, hl with | [_, _], _ => rfl
  have H18 : Callable P w K mg base (L2.CX P w) 10 "table" ["one", "measure"] (spTable P w CE CT CB) := ⟨f18, _, PySem.W.mg_of X G a18, k18, b18, ok_table F18 B TSc TTB H17 H16⟩
  have F19 := fun_mk (st := st_holds) l19 c19 k19
  have b19 := F19.binds (ps := ["one", "measure", "rows"]) fun _ _ _ _ _ _ us hl => match us, hl with | [_, _, _], _ => rfl
  have H19 : Callable P w K mg base CX0 8 "holds" ["one", "measure", "rows"] (spHolds CE) := ⟨f19, _, PySem.W.mg_of X G a19, k19, b19, ok_holds F19 B H5 H9⟩
  have F20 := fun_mk (st := st_safe) l20 c20 k20
  have b20 := F20.binds (ps := ["changer", "one", "other"]) fun _ _ _ _ _ _ us hl => match us, hl with | [_, _, _], _ => rfl
  have H20 : Callable P w K mg base (L2.CX P w) 11 "safe" ["changer", "one", "other"] (spSafe CT CB) := ⟨f20, _, PySem.W.mg_of X G a20, k20, b20, ok_safe F20 B H6 H18 H10 H12⟩
  have F21 := fun_mk (st := st_l_turned) l21 c21 k21
  have b21 := F21.binds (ps := ["_law_ones", "_law_others"]) fun _ _ _ _ _ _ us hl => match us, hl with | [_, _], _ => rfl
  have H21 : Callable P w K mg base CX0 1 "_law_turned" ["_law_ones", "_law_others"] spLTurn := ⟨f21, _, PySem.W.mg_of X G a21, k21, b21, ok_lturn F21 B⟩
  have F22 := fun_mk (st := st_l_idle) l22 c22 k22
  have b22 := F22.binds (ps := ["_law_shape_here", "_law_modes"]) fun _ _ _ _ _ _ us hl => match us, hl with | [_, _], _ => rfl
  have H22 : Callable P w K mg base CX0 1 "_law_idle" ["_law_shape_here", "_law_modes"] spLIdle := ⟨f22, _, PySem.W.mg_of X G a22, k22, b22, ok_lidle F22 B⟩
  have F23 := fun_mk (st := st_l_wanted) l23 c23 k23
  have b23 := F23.binds (ps := ["_law_shape_here", "_law_value_here"]) fun _ _ _ _ _ _ us hl => match us, hl with | [_, _], _ => rfl
  have H23 : Callable P w K mg base CX0 1 "_law_wanted" ["_law_shape_here", "_law_value_here"] spLWanted := ⟨f23, _, PySem.W.mg_of X G a23, k23, b23, ok_lwanted F23 ⟩
  have F24 := fun_mk (st := st_l_through) l24 c24 k24
  have b24 := F24.binds (ps := ["_law_shape_here", "_law_parts_here", "_law_value_here"]) fun _ _ _ _ _ _ us hl => match us, hl with | [_, _, _], _ => rfl
  have H24 : Callable P w K mg base CX0 6 "_law_through" ["_law_shape_here", "_law_parts_here", "_law_value_here"] (spLThr 5) := ⟨f24, _, PySem.W.mg_of X G a24, k24, b24, ok_lthr F24 (PySem.W.mg_of X G a24) b24 B H21 5⟩
  have F25 := fun_mk (st := st_l_over) l25 c25 k25
  have b25 := F25.binds (ps := ["_law_shape_here", "_law_ways_here", "_law_modes", "_law_tag", "_law_inner", "_law_others"]) fun _ _ _ _ _ _ us hl => match us, hl with | [_, _, _, _, _, _], _ => rfl
  have H25 : Callable P w K mg base CX0 7 "_law_over" ["_law_shape_here", "_law_ways_here", "_law_modes", "_law_tag", "_law_inner", "_law_others"] spLOver := ⟨f25, _, PySem.W.mg_of X G a25, k25, b25, ok_lover F25 B H21 H24⟩
  have F26 := fun_mk (st := st_l_words_of) l26 c26 k26
  have b26 := F26.binds (ps := ["_law_grove"]) fun _ _ _ _ _ _ us hl => match us, hl with | [_], _ => rfl
  have H26 : Callable P w K mg base CX0 1 "_law_words_of" ["_law_grove"] spWords := ⟨f26, _, PySem.W.mg_of X G a26, k26, b26, ok_lwords F26 B⟩
  have F27 := fun_mk (st := st_l_value) l27 c27 k27
  have b27 := F27.binds (ps := ["_law_shape_here", "_law_ways_here", "_law_modes", "_law_words"]) fun _ _ _ _ _ _ us hl => match us, hl with | [_, _, _, _], _ => rfl
  have H27 : Callable P w K mg base CX0 8 "_law_value" ["_law_shape_here", "_law_ways_here", "_law_modes", "_law_words"] spLValue := ⟨f27, _, PySem.W.mg_of X G a27, k27, b27, ok_lvalue F27 B H22 H25⟩
  have F28 := fun_mk (st := st_l_kinds) l28 c28 k28
  have b28 := F28.binds (ps := ["_law_shape_here", "_law_words"]) fun _ _ _ _ _ _ us hl => match us, hl with | [_, _], _ => rfl
  have H28 : Callable P w K mg base CX0 1 "_law_kinds" ["_law_shape_here", "_law_words"] spLKinds := ⟨f28, _, PySem.W.mg_of X G a28, k28, b28, ok_lkinds F28 B⟩
  have F29 := fun_mk (st := st_l_fitting) l29 c29 k29
  have b29 := F29.binds (ps := ["_law_shape_here", "_law_words"]) fun _ _ _ _ _ _ us hl => match us, hl with | [_, _], _ => rfl
  have H29 : Callable P w K mg base CX0 2 "_law_fitting" ["_law_shape_here", "_law_words"] spLFitting := ⟨f29, _, PySem.W.mg_of X G a29, k29, b29, ok_lfitting F29 B H28⟩
  have F30 := fun_mk (st := st_l_coming) l30 c30 k30
  have b30 := F30.binds (ps := ["_law_ways_here", "_law_grove"]) fun _ _ _ _ _ _ us hl => match us, hl with | [_, _], _ => rfl
  have H30 : Callable P w K mg base CX0 1 "_law_coming" ["_law_ways_here", "_law_grove"] spLComing := ⟨f30, _, PySem.W.mg_of X G a30, k30, b30, ok_lcoming F30 B⟩
  have F31 := fun_mk (st := st_l_spoiled) l31 c31 k31
  have b31 := F31.binds (ps := ["_law_one", "_law_shape_here", "_law_ways_here", "_law_modes", "_law_grove"]) fun _ _ _ _ _ _ us hl => match us, hl with | [_, _, _, _, _], _ => rfl
  have H31 : Callable P w K mg base CX0 9 "_law_spoiled" ["_law_one", "_law_shape_here", "_law_ways_here", "_law_modes", "_law_grove"] spLSpoiled := ⟨f31, _, PySem.W.mg_of X G a31, k31, b31, ok_lspoiled F31 B H26 H29 H23 H27 H30⟩
  have F32 := fun_mk (st := st_l_closing) l32 c32 k32
  have b32 := F32.binds (ps := ["_law_one", "_law_shape_here", "_law_ways_here", "_law_modes", "_law_rows", "_law_stride"]) fun _ _ _ _ _ _ us hl => match us, hl with | [_, _, _, _, _, _], _ => rfl
  have H32 : Callable P w K mg base CX0 8 "_law_closing" ["_law_one", "_law_shape_here", "_law_ways_here", "_law_modes", "_law_rows", "_law_stride"] spLClosing := ⟨f32, _, PySem.W.mg_of X G a32, k32, b32, ok_lclosing F32 B H22 H25⟩
  have F33 := fun_mk (st := st_l_few) l33 c33 k33
  have b33 := F33.binds (ps := ["_law_one", "_law_shape_here", "_law_ways_here", "_law_modes"]) fun _ _ _ _ _ _ us hl => match us, hl with | [_, _, _, _], _ => rfl
  have H33 : Callable P w K mg base CX0 8 "_law_few" ["_law_one", "_law_shape_here", "_law_ways_here", "_law_modes"] spLFew := ⟨f33, _, PySem.W.mg_of X G a33, k33, b33, ok_lfew F33 B H22 H25⟩
  have F34 := fun_mk (st := st_l_safe) l34 c34 k34
  have b34 := F34.binds (ps := ["_law_one", "_law_shape_here", "_law_ways_here", "_law_modes", "_law_rows"]) fun _ _ _ _ _ _ us hl => match us, hl with | [_, _, _, _, _], _ => rfl
  have H34 : Callable P w K mg base CX0 9 "_law_safe" ["_law_one", "_law_shape_here", "_law_ways_here", "_law_modes", "_law_rows"] spLSafe := ⟨f34, _, PySem.W.mg_of X G a34, k34, b34, ok_lsafe F34 B H26 H28 H23 H27 H32⟩
  have F35 := fun_mk (st := st_l_holding) l35 c35 k35
  have b35 := F35.binds (ps := ["_law_one", "_law_effects", "_law_rows", "_law_number"]) fun _ _ _ _ _ _ us hl => match us, hl with | [_, _, _, _], _ => rfl
  have H35 : Callable P w K mg base CX0 9 "_law_holding" ["_law_one", "_law_effects", "_law_rows", "_law_number"] (spLHolding CE) := ⟨f35, _, PySem.W.mg_of X G a35, k35, b35, ok_lholding F35 B H19⟩
  have F36 := fun_mk (st := st_l_cell_at) l36 c36 k36
  have b36 := F36.binds (ps := ["_law_script", "_law_k"]) fun _ _ _ _ _ _ us hl => match us, hl with | [_, _], _ => rfl
  have H36 : Callable P w K mg base CX0 1 "_law_cell_at" ["_law_script", "_law_k"] (spLCell K) := ⟨f36, _, PySem.W.mg_of X G a36, k36, b36, ok_lcell F36 B⟩
  have F37 := fun_mk (st := st_l_numbers) l37 c37 k37
  have b37 := F37.binds (ps := ["_law_script", "_law_first", "_law_many"]) fun _ _ _ _ _ _ us hl => match us, hl with | [_, _, _], _ => rfl
  have H37 : Callable P w K mg base CX0 2 "_law_numbers" ["_law_script", "_law_first", "_law_many"] (spLNumbers K) := ⟨f37, _, PySem.W.mg_of X G a37, k37, b37, ok_lnumbers F37 B H36⟩
  have F38 := fun_mk (st := st_l_tags) l38 c38 k38
  have b38 := F38.binds (ps := ["_law_cell"]) fun _ _ _ _ _ _ us hl => match us, hl with | [_], _ => rfl
  have H38 : Callable P w K mg base CX0 1 "_law_tags" ["_law_cell"] spLTags := ⟨f38, _, PySem.W.mg_of X G a38, k38, b38, ok_ltags F38 B⟩
  have F39 := fun_mk (st := st_l_parts) l39 c39 k39
  have b39 := F39.binds (ps := ["_law_numbers_here", "_law_tags_here", "_law_modes"]) fun _ _ _ _ _ _ us hl => match us, hl with | [_, _, _], _ => rfl
  have H39 : Callable P w K mg base CX0 1 "_law_parts" ["_law_numbers_here", "_law_tags_here", "_law_modes"] spLParts := ⟨f39, _, PySem.W.mg_of X G a39, k39, b39, ok_lparts F39 B⟩
  have F40 := fun_mk (st := st_l_ways) l40 c40 k40
  have b40 := F40.binds (ps := ["_law_numbers_here", "_law_tags_here", "_law_modes"]) fun _ _ _ _ _ _ us hl => match us, hl with | [_, _, _], _ => rfl
  have H40 : Callable P w K mg base CX0 2 "_law_ways" ["_law_numbers_here", "_law_tags_here", "_law_modes"] spLWays := ⟨f40, _, PySem.W.mg_of X G a40, k40, b40, ok_lways F40 B H39⟩
  have F41 := fun_mk (st := st_l_shape) l41 c41 k41
  have b41 := F41.binds (ps := ["_law_many", "_law_numbers_here", "_law_tags_here"]) fun _ _ _ _ _ _ us hl => match us, hl with | [_, _, _], _ => rfl
  have H41 : Callable P w K mg base CX0 1 "_law_shape" ["_law_many", "_law_numbers_here", "_law_tags_here"] spLShape := ⟨f41, _, PySem.W.mg_of X G a41, k41, b41, ok_lshape F41 B⟩
  have F42 := fun_mk (st := st_l_target) l42 c42 k42
  have b42 := F42.binds (ps := ["_law_script", "_law_cell", "_law_modes", "_law_tags_here", "_law_one"]) fun _ _ _ _ _ _ us hl => match us, hl with | [_, _, _, _, _], _ => rfl
  have H42 : Callable P w K mg base CX0 3 "_law_target" ["_law_script", "_law_cell", "_law_modes", "_law_tags_here", "_law_one"] (spLTarget K) := ⟨f42, _, PySem.W.mg_of X G a42, k42, b42, ok_ltarget F42 B H37 H41⟩
  have F43 := fun_mk (st := st_law) l43 c43 k43
  have b43 := F43.binds (ps := ["_law_script"]) fun _ _ _ _ _ _ us hl => match us, hl with | [_], _ => rfl
  exact ok_law F43 B TEc (PySem.W.mg_of X G aCB) (PySem.W.mg_of X G aCT) hX H36 H38 H37 H41 H42 H40 H20 H33 H34 H6 H35 H31
theorem walk {l : PySem.W.OpenLaw} {q : Program} {loose : List Str} {XP : (Str → Option Value) → Heap → Prop} {YP : World → Heap → Prop} {d : DefRec} {K : Params → PySem.W.Frag} (hn : l.most = some 63) (hdf : d.params.defaults = [])
    (hY : ∀ (w : World) (h : Heap), YP w h → (K w.params).In h)
    (F : ∀ (w : World) (mg : Str → Option Value) (fa : Addr) (h : Heap), (K w.params).In h → h.Ns mainGlobals mg → mg d.name = some (.ref fa) →
      ∃ fd : FuncData, (∀ (s : Shared) (u : Value), BindsTo s fd ⟨[u], []⟩ [("_law_script", u)]) ∧ ∀ base : Heap, (K w.params).In base → base.Ns mainGlobals mg → FnOk l.prog w (K w.params) mg base CX0 12 fa fd ["_law_script"] (spLaw (K w.params))) :
    PySem.W.WalkO q loose XP YP l.row.toRowW d [] (fun f vs => PySem.call f vs) :=
  L2.walk_of (n := 63) (k := 12) (x := "_law_script") (CX := fun _ => CX0) (sp := fun w => spLaw (K w.params)) hn (by decide) hdf ⟨rfl, by decide, by decide⟩ hY F (fun _ _ a ns _ _ hS => ⟨a, ns, rfl, hS, fun _ => rfl⟩) fun _ _ _ _ _ z => z
end K76
set_option Elab.async false
open PySem PySem.W PyProof.Rows
set_option maxRecDepth 100000 in
set_option maxHeartbeats 0 in
theorem PySem.Challenge.cw_formgrove_k76_whole_safe_or_spoiled_holds : PySem.Challenge.rw_formgrove_k76_whole_safe_or_spoiled.Holds := by
  w_on; o_law; k_head; (case hw => w_witness2)
  k_fill
  refine K76.walk (l := PySem.Challenge.rw_formgrove_k76_whole_safe_or_spoiled) rfl rfl (fun w h Y => PySem.W.kIn_of Y) ?F
  case F =>
    intro w mg fa h KX G hmg
    refine' K76.all_mk KX G hmg ?aCE ?aCS ?aCT ?aCB ?a0 ?l0 ?c0 ?k0 ?a1 ?l1 ?c1 ?k1 ?a2 ?l2 ?c2 ?k2 ?a3 ?l3 ?c3 ?k3 ?a4 ?i4 ?l4 ?c4 ?k4 ?a5 ?i5 ?l5 ?c5 ?k5 ?a6 ?i6 ?l6 ?c6 ?k6 ?a7 ?i7 ?l7 ?c7 ?k7 ?a8 ?i8 ?l8 ?c8 ?k8 ?a9 ?i9 ?l9 ?c9 ?k9 ?a10 ?i10 ?l10 ?c10 ?k10 ?a11 ?l11 ?c11 ?k11 ?a12 ?l12 ?c12 ?k12 ?a13 ?i13 ?l13 ?c13 ?k13 ?a14 ?i14 ?l14 ?c14 ?k14 ?a15 ?i15 ?l15 ?c15 ?k15 ?a16 ?i16 ?l16 ?c16 ?k16 ?a17 ?i17 ?l17 ?c17 ?k17 ?a18 ?l18 ?c18 ?k18 ?a19 ?l19 ?c19 ?k19 ?a20 ?l20 ?c20 ?k20 ?a21 ?l21 ?c21 ?k21 ?a22 ?l22 ?c22 ?k22 ?a23 ?l23 ?c23 ?k23 ?a24 ?l24 ?c24 ?k24 ?a25 ?l25 ?c25 ?k25 ?a26 ?l26 ?c26 ?k26 ?a27 ?l27 ?c27 ?k27 ?a28 ?l28 ?c28 ?k28 ?a29 ?l29 ?c29 ?k29 ?a30 ?l30 ?c30 ?k30 ?a31 ?l31 ?c31 ?k31 ?a32 ?l32 ?c32 ?k32 ?a33 ?l33 ?c33 ?k33 ?a34 ?l34 ?c34 ?k34 ?a35 ?l35 ?c35 ?k35 ?a36 ?l36 ?c36 ?k36 ?a37 ?l37 ?c37 ?k37 ?a38 ?l38 ?c38 ?k38 ?a39 ?l39 ?c39 ?k39 ?a40 ?l40 ?c40 ?k40 ?a41 ?l41 ?c41 ?k41 ?a42 ?l42 ?c42 ?k42 ?a43 ?l43 ?c43 ?k43 ?pgCE ?hdCE ?poCE ?saCE ?mkCE ?kcCE ?pgCS ?hdCS ?poCS ?saCS ?mkCS ?kcCS ?nEmodes ?nEways ?nEtarget ?nSheld ?nSmeasure ?nSrows ?nSwaiting ?nSbeyond ?nSsteps ?nSlists ?gf ?tk ?fi ?xeCT ?kpCT ?sbCT ?tyCT ?icCT ?xeCB ?kpCB ?sbCB ?tyCB ?icCB ?sTT ?sBB ?sTB ?sBT ?zlen ?zrange ?ztuple ?zlist ?zsorted ?zset ?zmin ?zmax ?zreversed ?zisinstance ?zEND ?zMOST_TAGS ?zMOST_ROWS ?zMOST_STEPS
    (case aCE => k_is); (case aCS => k_is); (case aCT => k_is); (case aCB => k_is); (case a0 => k_is); (case l0 => k_is)
    (case c0 => k_is); (case k0 => k_is); (case a1 => k_is); (case l1 => k_is); (case c1 => k_is); (case k1 => k_is)
    (case a2 => k_is); (case l2 => k_is); (case c2 => k_is); (case k2 => k_is); (case a3 => k_is); (case l3 => k_is)
    (case c3 => k_is); (case k3 => k_is); (case a4 => k_is); (case i4 => k_is); (case l4 => k_is); (case c4 => k_is)
    (case k4 => k_is); (case a5 => k_is); (case i5 => k_is); (case l5 => k_is); (case c5 => k_is); (case k5 => k_is)
    (case a6 => k_is); (case i6 => k_is); (case l6 => k_is); (case c6 => k_is); (case k6 => k_is); (case a7 => k_is)
    (case i7 => k_is); (case l7 => k_is); (case c7 => k_is); (case k7 => k_is); (case a8 => k_is); (case i8 => k_is)
    (case l8 => k_is); (case c8 => k_is); (case k8 => k_is); (case a9 => k_is); (case i9 => k_is); (case l9 => k_is)
    (case c9 => k_is); (case k9 => k_is); (case a10 => k_is); (case i10 => k_is); (case l10 => k_is); (case c10 => k_is)
    (case k10 => k_is); (case a11 => k_is); (case l11 => k_is); (case c11 => k_is); (case k11 => k_is); (case a12 => k_is)
    (case l12 => k_is); (case c12 => k_is); (case k12 => k_is); (case a13 => k_is); (case i13 => k_is); (case l13 => k_is)
    (case c13 => k_is); (case k13 => k_is); (case a14 => k_is); (case i14 => k_is); (case l14 => k_is); (case c14 => k_is)
    (case k14 => k_is); (case a15 => k_is); (case i15 => k_is); (case l15 => k_is); (case c15 => k_is); (case k15 => k_is)
    (case a16 => k_is); (case i16 => k_is); (case l16 => k_is); (case c16 => k_is); (case k16 => k_is); (case a17 => k_is)
    (case i17 => k_is); (case l17 => k_is); (case c17 => k_is); (case k17 => k_is); (case a18 => k_is); (case l18 => k_is)
    (case c18 => k_is); (case k18 => k_is); (case a19 => k_is); (case l19 => k_is); (case c19 => k_is); (case k19 => k_is)
    (case a20 => k_is); (case l20 => k_is); (case c20 => k_is); (case k20 => k_is); (case a21 => k_is); (case l21 => k_is)
    (case c21 => k_is); (case k21 => k_is); (case a22 => k_is); (case l22 => k_is); (case c22 => k_is); (case k22 => k_is)
    (case a23 => k_is); (case l23 => k_is); (case c23 => k_is); (case k23 => k_is); (case a24 => k_is); (case l24 => k_is)
    (case c24 => k_is); (case k24 => k_is); (case a25 => k_is); (case l25 => k_is); (case c25 => k_is); (case k25 => k_is)
    (case a26 => k_is); (case l26 => k_is); (case c26 => k_is); (case k26 => k_is); (case a27 => k_is); (case l27 => k_is)
    (case c27 => k_is); (case k27 => k_is); (case a28 => k_is); (case l28 => k_is); (case c28 => k_is); (case k28 => k_is)
    (case a29 => k_is); (case l29 => k_is); (case c29 => k_is); (case k29 => k_is); (case a30 => k_is); (case l30 => k_is)
    (case c30 => k_is); (case k30 => k_is); (case a31 => k_is); (case l31 => k_is); (case c31 => k_is); (case k31 => k_is)
    (case a32 => k_is); (case l32 => k_is); (case c32 => k_is); (case k32 => k_is); (case a33 => k_is); (case l33 => k_is)
    (case c33 => k_is); (case k33 => k_is); (case a34 => k_is); (case l34 => k_is); (case c34 => k_is); (case k34 => k_is)
    (case a35 => k_is); (case l35 => k_is); (case c35 => k_is); (case k35 => k_is); (case a36 => k_is); (case l36 => k_is)
    (case c36 => k_is); (case k36 => k_is); (case a37 => k_is); (case l37 => k_is); (case c37 => k_is); (case k37 => k_is)
    (case a38 => k_is); (case l38 => k_is); (case c38 => k_is); (case k38 => k_is); (case a39 => k_is); (case l39 => k_is)
    (case c39 => k_is); (case k39 => k_is); (case a40 => k_is); (case l40 => k_is); (case c40 => k_is); (case k40 => k_is)
    (case a41 => k_is); (case l41 => k_is); (case c41 => k_is); (case k41 => k_is); (case a42 => k_is); (case l42 => k_is)
    (case c42 => k_is); (case k42 => k_is); (case a43 => k_is); (case l43 => k_is); (case c43 => k_is); (case k43 => k_is)
    (case pgCE => k_is); (case hdCE => k_is); (case poCE => k_is); (case saCE => k_is); (case mkCE => k_is); (case kcCE => k_is)
    (case pgCS => k_is); (case hdCS => k_is); (case poCS => k_is); (case saCS => k_is); (case mkCS => k_is); (case kcCS => k_is)
    (case nEmodes => k_is); (case nEways => k_is); (case nEtarget => k_is); (case nSheld => k_is); (case nSmeasure => k_is); (case nSrows => k_is)
    (case nSwaiting => k_is); (case nSbeyond => k_is); (case nSsteps => k_is); (case nSlists => k_is); (case gf => k_is); (case tk => k_is)
    (case fi => k_is); (case xeCT => k_exc); (case kpCT => k_is); (case sbCT => k_is); (case tyCT => k_is); (case icCT => k_is)
    (case xeCB => k_exc); (case kpCB => k_is); (case sbCB => k_is); (case tyCB => k_is); (case icCB => k_is); (case sTT => k_is)
    (case sBB => k_is); (case sTB => k_is); (case sBT => k_is); (case zlen => k_is); (case zrange => k_is); (case ztuple => k_is)
    (case zlist => k_is); (case zsorted => k_is); (case zset => k_is); (case zmin => k_is); (case zmax => k_is); (case zreversed => k_is)
    (case zisinstance => k_is); (case zEND => k_is); (case zMOST_TAGS => k_is); (case zMOST_ROWS => k_is); (case zMOST_STEPS => k_is)
#print axioms PySem.Challenge.cw_formgrove_k76_whole_safe_or_spoiled_holds
