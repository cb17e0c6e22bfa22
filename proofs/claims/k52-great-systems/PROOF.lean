import PyProof.Rows.All
import Wide.All
import OpenK.AllK
import Wide.FinOn
import HandS.ForMost
import HandS.DictTup
import HandS.TupSets
import HandS.Deep
import HandS.Star
import HandS.TupAny
import HandS.IsInst
import HandS.Zip
import HandS.Wide
import HandS.DictComp
import KE.KDictKeyed
import KE.SortData
import HandS.ReCall
import HandS.Conv
import HandS.Comp
import HandS.Walk
import HandS.Style
import HandS.NoneIn
import HandS.Codes
import PySem.Challenge.RW_ownwake_k52_great_systems
set_option Elab.async false
section
set_option linter.all false
set_option maxRecDepth 100000
set_option maxHeartbeats 1000000
/- NkA: nested data (ints, texts, tuples of these) over the abstract heap; dicts whose keys are such tuples. -/
namespace L2
open PySem PySem.Spec PyProof.Rows

mutual
/-- in the abstract heap H the value v is the nested datum k -/
inductive Nk (K : PySem.W.Frag) (H : Hp) : NestedKey → V → Prop
  | non : Nk K H .none .non
  | num (i : Int) : Nk K H (.num i) (.int i)
  | text (x : Str) : PyData.strOk x = true → Nk K H (.text x) (.str x)
  | tup {a : Addr} {xs : List V} {ks : List NestedKey} : SqT K H a xs → NkAll K H ks xs → Nk K H (.tup ks) (.ref a)
inductive NkAll (K : PySem.W.Frag) (H : Hp) : List NestedKey → List V → Prop
  | nil : NkAll K H [] []
  | cons {k : NestedKey} {v : V} {ks : List NestedKey} {vs : List V} : Nk K H k v → NkAll K H ks vs → NkAll K H (k :: ks) (v :: vs)
end

/-- the tuples stay -/
def Tk (H H' : Hp) : Prop := (∀ b xs, H b = some (.tup xs) → H' b = some (.tup xs)) ∧ ∀ b o u, H b = some (.frz o u) → H' b = some (.frz o u)
theorem Tk.refl (H : Hp) : Tk H H := ⟨fun _ _ h => h, fun _ _ _ h => h⟩
theorem Tk.trans {H H1 H2 : Hp} (a : Tk H H1) (b : Tk H1 H2) : Tk H H2 := ⟨fun c xs h => b.1 c xs (a.1 c xs h), fun c o u h => b.2 c o u (a.2 c o u h)⟩
theorem Tk.same {H H' : Hp} (s : Same H H') : Tk H H' := ⟨fun b xs h => s b _ h, fun b o u h => s b _ h⟩
/-- what may be written is no tuple -/
theorem Tk.wr {H : Hp} {a : Addr} {o : HO} (m : Mut (H a) ∨ H a = none) : Tk H (upd H a o) := by
  have ne : ∀ b u, H b = some u → ¬ Mut (some u) → b ≠ a := by
    intro b u h nm e
    subst e
    rcases m with m | m
    · rw [h] at m; exact nm m
    · rw [h] at m; cases m
  exact ⟨fun b xs h => by rw [upd_ne (ne b _ h (fun z => z))]; exact h, fun b o' u h => by rw [upd_ne (ne b _ h (fun z => z))]; exact h⟩
theorem Tk.new {H : Hp} {a : Addr} {o : HO} (n : H a = none) : Tk H (upd H a o) := Tk.wr (.inr n)
theorem Tk.sqT {K : PySem.W.Frag} {H H' : Hp} {a : Addr} {xs : List V} (t : Tk H H') (h : SqT K H a xs) : SqT K H' a xs := by
  rcases h with (h | ⟨o, h⟩) | h
  · exact .inl (.inl (t.1 _ _ h))
  · exact .inl (.inr ⟨o, t.2 _ _ _ h⟩)
  · exact .inr h
mutual
theorem Nk.tk {K : PySem.W.Frag} {H H' : Hp} (t : Tk H H') : ∀ (k : NestedKey) (v : V), Nk K H k v → Nk K H' k v
  | .none, _, h => by cases h; exact .non
  | .num _, _, h => by cases h; exact .num _
  | .text _, _, h => by
    cases h with
    | text _ o => exact .text _ o
  | .tup ks, _, h => by
    cases h with
    | tup h1 h2 => exact .tup (t.sqT h1) (NkAll.tk t ks _ h2)
theorem NkAll.tk {K : PySem.W.Frag} {H H' : Hp} (t : Tk H H') : ∀ (ks : List NestedKey) (vs : List V), NkAll K H ks vs → NkAll K H' ks vs
  | [], _, h => by cases h; exact .nil
  | k :: ks, _, h => by
    cases h with
    | cons h1 h2 => exact .cons (Nk.tk t k _ h1) (NkAll.tk t ks _ h2)
end
mutual
theorem Nk.dp {K : PySem.W.Frag} {H : Hp} : ∀ (k : NestedKey) (v : V), Nk K H k v → Dp K H v k.data
  | .none, _, h => by cases h; simp only [NestedKey.data]; exact .non
  | .num _, _, h => by cases h; simp only [NestedKey.data]; exact .int _
  | .text _, _, h => by cases h; simp only [NestedKey.data]; exact .str _
  | .tup ks, _, h => by
    cases h with
    | tup h1 h2 => simp only [NestedKey.data]; exact .tup h1 (NkAll.dp ks _ h2)
theorem NkAll.dp {K : PySem.W.Frag} {H : Hp} : ∀ (ks : List NestedKey) (vs : List V), NkAll K H ks vs → DpAll K H vs (NestedKey.datas ks)
  | [], _, h => by cases h; simp only [NestedKey.datas]; exact .nil
  | k :: ks, _, h => by
    cases h with
    | cons h1 h2 => simp only [NestedKey.datas]; exact .cons (Nk.dp k _ h1) (NkAll.dp ks _ h2)
end
section
variable {X : Cx} {pins : List (Addr × Obj)} {σ : St} {H : Hp} {s : Shared}
mutual
theorem Nk.is (I : Inv X pins σ H s) : ∀ (k : NestedKey) (v : V) (u : Value), Nk X.K H k v → RelV v u → NestedIs s.heap k u
  | .none, _, _, h, r => by
    cases h; cases r; exact .none
  | .num _, _, _, h, r => by
    cases h; obtain ⟨t, rfl⟩ := r; exact .int _ t
  | .text _, _, _, h, r => by
    cases h; obtain ⟨t, rfl⟩ := r; exact .text _ t
  | .tup ks, _, _, h, r => by
    cases h with
    | tup h1 h2 =>
      cases r
      obtain ⟨its, rv, ⟨o, ho, hc, n, hd⟩, _⟩ := I.tuple h1
      exact .tup ho hc hd (NkAll.is I ks _ _ h2 (by simpa using rv))
theorem NkAll.is (I : Inv X pins σ H s) : ∀ (ks : List NestedKey) (vs : List V) (us : List Value), NkAll X.K H ks vs → Vals vs us → NestedAll s.heap ks us
  | [], _, _, h, r => by
    cases h; cases r; exact .nil
  | k :: ks, _, _, h, r => by
    cases h with
    | cons h1 h2 =>
      cases r with
      | cons r1 r2 => exact .cons (Nk.is I k _ _ h1 r1) (NkAll.is I ks _ _ h2 r2)
end
end
theorem NkAll.length {K : PySem.W.Frag} {H : Hp} : ∀ {ks : List NestedKey} {vs : List V}, NkAll K H ks vs → vs.length = ks.length
  | _, _, .nil => rfl
  | _, _, .cons _ t => by rw [List.length_cons, List.length_cons, NkAll.length t]
theorem NkAll.get {K : PySem.W.Frag} {H : Hp} : ∀ {ks : List NestedKey} {vs : List V} {i : Nat} {k : NestedKey}, NkAll K H ks vs → ks[i]? = some k → ∃ v, vs[i]? = some v ∧ Nk K H k v
  | _, _, _, _, .nil, e => by simp at e
  | _, _, 0, k, .cons h _, e => by simp at e; subst e; exact ⟨_, rfl, h⟩
  | _, _, i + 1, k, .cons _ t, e => by
    obtain ⟨v, h1, h2⟩ := NkAll.get (i := i) (k := k) t (by simpa using e)
    exact ⟨v, by simpa using h1, h2⟩
theorem NkAll.got {K : PySem.W.Frag} {H : Hp} : ∀ {ks : List NestedKey} {vs : List V} {i : Nat} {v : V}, NkAll K H ks vs → vs[i]? = some v → ∃ k, ks[i]? = some k ∧ Nk K H k v
  | _, _, _, _, .nil, e => by simp at e
  | _, _, 0, v, .cons h _, e => by simp at e; subst e; exact ⟨_, rfl, h⟩
  | _, _, i + 1, v, .cons _ t, e => by
    obtain ⟨k, h1, h2⟩ := NkAll.got (i := i) (v := v) t (by simpa using e)
    exact ⟨k, by simpa using h1, h2⟩
theorem NkAll.app {K : PySem.W.Frag} {H : Hp} : ∀ {ks ls : List NestedKey} {vs ws : List V}, NkAll K H ks vs → NkAll K H ls ws → NkAll K H (ks ++ ls) (vs ++ ws)
  | _, _, _, _, .nil, h => h
  | _, _, _, _, .cons h t, g => .cons h (NkAll.app t g)
theorem NkAll.one {K : PySem.W.Frag} {H : Hp} {k : NestedKey} {v : V} (h : Nk K H k v) : NkAll K H [k] [v] := .cons h .nil
theorem NkAll.take {K : PySem.W.Frag} {H : Hp} : ∀ {ks : List NestedKey} {vs : List V} (n : Nat), NkAll K H ks vs → NkAll K H (ks.take n) (vs.take n)
  | _, _, 0, _ => .nil
  | _, _, _ + 1, .nil => .nil
  | _, _, n + 1, .cons h t => .cons h (NkAll.take n t)
theorem NkAll.drop {K : PySem.W.Frag} {H : Hp} : ∀ {ks : List NestedKey} {vs : List V} (n : Nat), NkAll K H ks vs → NkAll K H (ks.drop n) (vs.drop n)
  | _, _, 0, h => h
  | _, _, _ + 1, .nil => .nil
  | _, _, n + 1, .cons _ t => NkAll.drop n t
/-- a list of nested data: v is tuple or list, to be read -/
def NkT (K : PySem.W.Frag) (H : Hp) (ks : List NestedKey) (v : V) : Prop := Nk K H (.tup ks) v
def NkL (K : PySem.W.Frag) (H : Hp) (ks : List NestedKey) (a : Addr) : Prop := ∃ vs, H a = some (.lst vs) ∧ NkAll K H ks vs
theorem NkL.tk {K : PySem.W.Frag} {H H' : Hp} {ks : List NestedKey} {a : Addr} (t : Tk H H') (e : H' a = H a) (h : NkL K H ks a) : NkL K H' ks a := by
  obtain ⟨vs, h1, h2⟩ := h
  exact ⟨vs, by rw [e]; exact h1, h2.tk t⟩

/-! ### dicts with such keys -/
abbrev NR : List (NestedKey × Addr × V) → List (NestedKey × Addr × Value) → Prop := Paired fun p q => p.1 = q.1 ∧ p.2.1 = q.2.1 ∧ RelV p.2.2 q.2.2
/-- the dict at a, its entries with the addresses of the keys -/
def DNo (P : Program) (w : World) (a : Addr) (l : List (NestedKey × Addr × V)) : HO := .ext fun h => l.length ≤ sizeLine ∧ (a == sysModules) = false ∧
  ∃ xs : List (NestedKey × Addr × Value), NR l xs ∧ ∃ o es ep, h.get? a = some o ∧ o.ExactDict ∧ o.data = .dict es ep ∧ es.toList = xs.map (entryOfKey (nestedKind P w)) ∧ (xs.map (·.1)).Nodup
def prs (l : List (NestedKey × Addr × V)) : List (NestedKey × V) := l.map fun p => (p.1, p.2.2)
structure DictN (P : Program) (w : World) (K : PySem.W.Frag) (H : Hp) (a : Addr) (kvs : List (NestedKey × V)) : Prop where
  ex : ∃ l, H a = some (DNo P w a l) ∧ prs l = kvs ∧ ∀ p ∈ l, Nk K H p.1 (.ref p.2.1) ∧ p.1.depth ≤ 8
theorem DictN.mut {P : Program} {w : World} {K : PySem.W.Frag} {H : Hp} {a : Addr} {kvs : List (NestedKey × V)} (d : DictN P w K H a kvs) : Mut (H a) := by
  obtain ⟨l, e, _⟩ := d.ex
  rw [e]
  exact True.intro
theorem DictN.tk {P : Program} {w : World} {K : PySem.W.Frag} {H H' : Hp} {a : Addr} {kvs : List (NestedKey × V)} (d : DictN P w K H a kvs) (t : Tk H H') (e : H' a = H a) : DictN P w K H' a kvs := by
  obtain ⟨l, h1, h2, h3⟩ := d.ex
  exact ⟨l, by rw [e]; exact h1, h2, fun p hp => ⟨Nk.tk t _ _ (h3 p hp).1, (h3 p hp).2⟩⟩
/-- only a may have changed -/
def At1 (a : Addr) (H H' : Hp) : Prop := ∀ b, b ≠ a → H' b = H b
theorem At1.wr {H : Hp} {a : Addr} {o : HO} : At1 a H (upd H a o) := fun _ hb => upd_ne hb

theorem NR.pairs {l : List (NestedKey × Addr × V)} {xs : List (NestedKey × Addr × Value)} (r : NR l xs) (k : NestedKey) : RelO (valV (prs l) k) ((atKey xs k).map (·.2)) := by
  induction r with
  | nil => exact True.intro
  | @cons p q ps qs h t ih =>
    obtain ⟨h1, h2, h3⟩ := h
    by_cases e : p.1 = k
    · have e' : q.1 = k := h1.symm.trans e
      have b : atKey (q :: qs) k = some q.2 := by simp [atKey, List.find?_cons, e']
      show RelO (valV ((p.1, p.2.2) :: prs ps) k) _
      rw [valV_pos (p := (p.1, p.2.2)) e, b]; exact h3
    · have e' : ¬ q.1 = k := fun z => e (h1.trans z)
      have b : atKey (q :: qs) k = atKey qs k := by simp [atKey, List.find?_cons, e']
      show RelO (valV ((p.1, p.2.2) :: prs ps) k) _
      rw [valV_neg (p := (p.1, p.2.2)) e, b]; exact ih
theorem NR.length {l : List (NestedKey × Addr × V)} {xs : List (NestedKey × Addr × Value)} (r : NR l xs) : l.length = xs.length := Paired.length r
/-- stored, with the addresses -/
def putN (l : List (NestedKey × Addr × V)) (k : NestedKey) (a : Addr) (v : V) : List (NestedKey × Addr × V) :=
  if (valV (prs l) k).isSome = true then l.map (fun p => if p.1 = k then (p.1, p.2.1, v) else p) else l ++ [(k, a, v)]
theorem prs_putN (l : List (NestedKey × Addr × V)) (k : NestedKey) (a : Addr) (v : V) : prs (putN l k a v) = putK (prs l) k v := by
  unfold putN putK
  rw [valV_any]
  by_cases e : (valV (prs l) k).isSome = true
  · rw [if_pos e, if_pos e]
    unfold prs
    rw [List.map_map, List.map_map]
    refine List.map_congr_left fun p _ => ?_
    by_cases h : p.1 = k <;> simp [h]
  · rw [if_neg e, if_neg e]
    unfold prs
    rw [List.map_append] <;> rfl
theorem NR.put {l : List (NestedKey × Addr × V)} {xs : List (NestedKey × Addr × Value)} (r : NR l xs) (k : NestedKey) (b : Addr) {y : V} {u : Value} (ry : RelV y u) : NR (putN l k b y) (storedH xs k b u) := by
  have e := (r.pairs k).isSome_eq
  rw [Option.isSome_map] at e
  unfold putN storedH
  rw [e]
  by_cases q : (atKey xs k).isSome = true
  · rw [if_pos q, if_pos q]
    have rep : ∀ {l : List (NestedKey × Addr × V)} {xs : List (NestedKey × Addr × Value)}, NR l xs → NR (l.map (fun p => if p.1 = k then (p.1, p.2.1, y) else p)) (xs.map (putAt k u)) := by
      intro l xs r
      induction r with
      | nil => exact .nil
      | @cons p q ps qs h t ih =>
        rw [List.map_cons, List.map_cons]
        refine .cons ?_ ih
        obtain ⟨h1, h2, h3⟩ := h
        unfold putAt
        by_cases e : p.1 = k
        · rw [if_pos e, if_pos (h1.symm.trans e)]; exact ⟨h1, h2, ry⟩
        · rw [if_neg e, if_neg (fun z => e (h1.trans z))]; exact ⟨h1, h2, h3⟩
    exact rep r
  · rw [if_neg q, if_neg q]; exact Paired.snoc r ⟨rfl, rfl, ry⟩
theorem mem_putN {l : List (NestedKey × Addr × V)} {k : NestedKey} {a : Addr} {v : V} {p : NestedKey × Addr × V} (h : p ∈ putN l k a v) : (∃ q ∈ l, q.1 = p.1 ∧ q.2.1 = p.2.1) ∨ (p.1 = k ∧ p.2.1 = a) := by
  unfold putN at h
  split at h
  · obtain ⟨q, hq, e⟩ := List.mem_map.mp h
    refine .inl ⟨q, hq, ?_⟩
    by_cases z : q.1 = k
    · rw [if_pos z] at e; subst e; exact ⟨rfl, rfl⟩
    · rw [if_neg z] at e; subst e; exact ⟨rfl, rfl⟩
  · rcases List.mem_append.mp h with h | h
    · exact .inl ⟨p, h, rfl, rfl⟩
    · have e : p = (k, a, v) := by simpa using h
      subst e
      exact .inr ⟨rfl, rfl⟩
theorem length_putN (l : List (NestedKey × Addr × V)) (k : NestedKey) (a : Addr) (v : V) : (putN l k a v).length ≤ l.length + 1 := by
  unfold putN
  split
  · rw [List.length_map]; omega
  · rw [List.length_append, List.length_cons, List.length_nil]; omega
def dropN (l : List (NestedKey × Addr × V)) (k : NestedKey) : List (NestedKey × Addr × V) := l.filter fun p => decide (p.1 ≠ k)
theorem prs_dropN (l : List (NestedKey × Addr × V)) (k : NestedKey) : prs (dropN l k) = dropK (prs l) k := by
  unfold prs dropN dropK
  rw [List.filter_map]
  rfl
theorem NR.drop {l : List (NestedKey × Addr × V)} {xs : List (NestedKey × Addr × Value)} (r : NR l xs) (k : NestedKey) : NR (dropN l k) (withoutH xs k) := by
  unfold dropN withoutH
  induction r with
  | nil => exact .nil
  | @cons p q ps qs h t ih =>
    obtain ⟨h1, h2, h3⟩ := h
    rw [List.filter_cons, List.filter_cons]
    by_cases e : p.1 = k
    · have a : ¬ decide (p.1 ≠ k) = true := by simp [e]
      have b : ¬ decide (q.1 ≠ k) = true := by simp [h1.symm.trans e]
      rw [if_neg a, if_neg b]; exact ih
    · have e' : ¬ q.1 = k := fun z => e (h1.trans z)
      have a : decide (p.1 ≠ k) = true := by simp [e]
      have b : decide (q.1 ≠ k) = true := by simp [e']
      rw [if_pos a, if_pos b]; exact .cons ⟨h1, h2, h3⟩ ih

section
variable {X : Cx} {pins : List (Addr × Obj)} {σ : St} {H : Hp} {s : Shared} {a b : Addr} {kvs : List (NestedKey × V)} {k : NestedKey} {v : V} {u r : Value} {A : Around} {E : Value → Shared → Prop}
/-- the dict as the model has it -/
theorem DictN.raw (d : DictN X.prog X.w X.K H a kvs) (I : Inv X pins σ H s) : ∃ l xs, H a = some (DNo X.prog X.w a l) ∧ prs l = kvs ∧ (∀ p ∈ l, Nk X.K H p.1 (.ref p.2.1) ∧ p.1.depth ≤ 8) ∧ l.length ≤ sizeLine ∧ (a == sysModules) = false ∧ NR l xs ∧ s.heap.DictOfH (nestedKind X.prog X.w) a xs := by
  obtain ⟨l, h1, h2, h3⟩ := d.ex
  obtain ⟨⟨z, hd, xs, r, o, es, ep, g1, g2, g3, g4, g5⟩, _⟩ := (show ObjOk X.prog X.w H s.heap a (DNo X.prog X.w a l) from I.hok a _ h1)
  refine ⟨l, xs, h1, h2, h3, z, hd, r, o, es, ep, g1, g2, g3, g4, fun x hx => ?_, g5⟩
  have all : ∀ {l : List (NestedKey × Addr × V)} {m : List (NestedKey × Addr × Value)}, NR l m → (∀ p ∈ l, Nk X.K H p.1 (.ref p.2.1) ∧ p.1.depth ≤ 8) → ∀ x ∈ m, (nestedKind X.prog X.w).is s.heap x.1 x.2.1 := by
    intro l m q
    induction q with
    | nil => intro _ x hx; exact nomatch hx
    | @cons p q ps qs hq t ih =>
      intro hl x hx
      rcases List.mem_cons.mp hx with e | hx
      · subst e
        obtain ⟨e1, e2, _⟩ := hq
        have := hl p List.mem_cons_self
        rw [e1, e2] at this
        exact ⟨Nk.is I _ _ _ this.1 rfl, this.2⟩
      · exact ih (fun p hp => hl p (List.mem_cons_of_mem _ hp)) x hx
  exact all r h3 x hx
theorem key_is (I : Inv X pins σ H s) (h : Nk X.K H k (.ref b)) (hd : k.depth ≤ 8) : (nestedKind X.prog X.w).is s.heap k b := ⟨Nk.is I _ _ _ h rfl, hd⟩
theorem dno_ok {P : Program} {w : World} {H' : Hp} {h' : Heap} {l : List (NestedKey × Addr × V)} {xs : List (NestedKey × Addr × Value)} (z : l.length ≤ sizeLine) (hd : (a == sysModules) = false) (r : NR l xs) (m : h'.DictOfH (nestedKind P w) a xs) : ObjOk P w H' h' a (DNo P w a l) := by
  obtain ⟨o, es, ep, g1, g2, g3, g4, _, g5⟩ := m
  refine ⟨⟨z, hd, xs, r, o, es, ep, g1, g2, g3, g4, g5⟩, ⟨o, g1⟩, fun h1 h2 p kk => ?_⟩
  obtain ⟨z', hd', xs', r', o', es', ep', q1, q2⟩ := p
  exact ⟨z', hd', xs', r', o', es', ep', kk _ q1, q2⟩
theorem nroom (hu : A.units + 64 < cLine) : (nestedKind X.prog X.w).room A.in1 := by show A.units + 1 + 8 < cLine; omega
/-- d[k] -/
theorem dn_get {Q : Value → Shared → Prop} (hu : A.units + 64 < cLine) (I : Inv X pins σ H s) (d : DictN X.prog X.w X.K H a kvs) (hk : Nk X.K H k (.ref b)) (hd : k.depth ≤ 8) (hv : valV kvs k = some v) (h : ∀ w' s', Inv X pins σ H s' → RelV v w' → Q w' s') :
    wpAny (model X.prog X.w) A (getItem (.ref a) (.ref b)) Q E s := by
  obtain ⟨l, xs, _, e, _, _, _, r, m⟩ := d.raw I
  subst e
  obtain ⟨w', hw, rw'⟩ := RelO.some_of (v := v) (o := (atKey xs k).map (·.2)) (by rw [← hv]; exact r.pairs k)
  obtain ⟨p, hp, hp2⟩ := Option.map_eq_some_iff.mp hw
  refine wpAny_getItem_heap (nroom hu) (key_is I hk hd) m hp ?_
  rw [hp2]
  exact h w' _ (I.tok _) rw'
/-- behind a store the dict holds -/
theorem dn_stored {h' : Heap} {t' : Nat} {l : List (NestedKey × Addr × V)} {xs : List (NestedKey × Addr × Value)} (I : Inv X pins σ H s) (mu : Mut (H a) ) (hs : Heap.SameBut a s.heap h') (z : l.length ≤ sizeLine) (hd : (a == sysModules) = false) (r : NR l xs) (m : h'.DictOfH (nestedKind X.prog X.w) a xs) :
    Inv X pins σ (upd H a (DNo X.prog X.w a l)) { s with heap := h', toks := t' } := by
  have he : ∃ q, h'.get? a = some q := let ⟨q, _, _, hq, _⟩ := m; ⟨q, hq⟩
  exact d_write I mu hs he (dno_ok z hd r m)
/-- d[k] = v -/
theorem dn_set {Q : Unit → Shared → Prop} (hu : A.units + 64 < cLine) (I : Inv X pins σ H s) (d : DictN X.prog X.w X.K H a kvs) (hk : Nk X.K H k (.ref b)) (hd : k.depth ≤ 8) (hz : kvs.length < sizeLine) (rv : RelV v r)
    (h : ∀ H' s', Inv X pins σ H' s' → DictN X.prog X.w X.K H' a (putK kvs k v) → At1 a H H' → Tk H H' → Q () s') :
    wpAny (model X.prog X.w) A (setItem (.ref a) (.ref b) r) Q E s := by
  obtain ⟨l, xs, e1, e, h3, z, hm, rr, m⟩ := d.raw I
  subst e
  have hz' : l.length < sizeLine := by unfold prs at hz; rw [List.length_map] at hz; exact hz
  have mu := d.mut
  have t : Tk H (upd H a (DNo X.prog X.w a (putN l k b v))) := Tk.wr (.inl mu)
  refine wpAny_setItem_heap (hsz := by rw [← rr.length]; exact z) (nroom hu) (key_is I hk hd) m fun h' m' hs => ?_
  refine h _ _ (dn_stored I mu hs (by have := length_putN l k b v; omega) hm (rr.put k b rv) m') ⟨_, upd_same, prs_putN l k b v, fun p hp => ?_⟩ At1.wr t
  rcases mem_putN hp with ⟨q, hq, e1, e2⟩ | ⟨e1, e2⟩
  · rw [← e1, ← e2]; exact ⟨Nk.tk t _ _ (h3 q hq).1, (h3 q hq).2⟩
  · rw [e1, e2]; exact ⟨Nk.tk t _ _ hk, hd⟩
end
end L2
end
section
set_option linter.all false
set_option maxRecDepth 100000
set_option maxHeartbeats 1000000
/- NkB: expressions over dicts with nested keys; their methods; sorting, == and in over nested data. -/
namespace L2
open PySem PySem.Spec PyProof.Rows

/-! ### tuples that are known whole -/
/-- the tuple at a, its object known: nothing hangs on it -/
def PlT (H : Hp) (a : Addr) (xs : List V) : Prop := ∃ o, H a = some (.frz o (.tup xs)) ∧ o.dict = none
theorem PlT.sq {K : PySem.W.Frag} {H : Hp} {a : Addr} {xs : List V} (h : PlT H a xs) : SqT K H a xs := by
  obtain ⟨o, e, _⟩ := h
  exact .inl (.inr ⟨o, e⟩)
theorem PlT.tk {H H' : Hp} {a : Addr} {xs : List V} (h : PlT H a xs) (t : Tk H H') : PlT H' a xs := by
  obtain ⟨o, e, d⟩ := h
  exact ⟨o, t.2 _ _ _ e, d⟩
section
variable {X : Cx}
theorem Inv.plain {pins : List (Addr × Obj)} {σ : St} {H : Hp} {s : Shared} {a : Addr} {xs : List V} (I : Inv X pins σ H s) (h : PlT H a xs) : ∃ its : List Value, Vals xs its ∧ PlainSeq "tuple" s.heap a its.toArray ∧ xs.length ≤ sizeLine := by
  obtain ⟨o, e, d⟩ := h
  obtain ⟨ho, z, its, r, o', ho', hc, n, hd⟩ := (show ObjOk X.prog X.w H s.heap a (.frz o (.tup xs)) from I.hok a _ e)
  rw [ho] at ho'
  cases ho'
  exact ⟨its, r, ⟨o, n, ho, hc, d, hd⟩, z⟩
/-- tuple(xs) of a list: the new object known -/
theorem call_tuple_pl : CallR X (.type "tuple") (fun xs H Q => ∃ p ys, xs = [.ref p] ∧ SqL X.K H p ys ∧ ∀ l H', H l = none → PlT H' l ys → At1 l H H' → Same H H' → Q (.ref l) H') := by
  intro pins s σ H xs us Q I r h
  obtain ⟨p, ys, rfl, hq, q⟩ := h
  obtain ⟨u, rfl, rx⟩ := vals1 r
  cases rx
  obtain ⟨its, r', pl, hz⟩ := I.list hq
  have hlen := r'.length
  refine call_tuple_list pl.isList (fun h' kp => ?_) (by simp only [List.size_toArray] <;> omega)
  have I1 : Inv X pins σ H { s with heap := h' } := I.kept (t' := s.toks) kp
  have hn := I1.hok.fresh (Nat.le_refl h'.objs.size)
  have I2 : Inv X pins σ (upd H h'.objs.size (.frz { cls := .type "tuple", data := .seq its.toArray } (.tup ys))) { s with heap := h'.push { cls := .type "tuple", data := .seq its.toArray } } :=
    I1.laid (t' := s.toks) (fun b o e => Heap.get?_push_of_some _ e) (Nat.le_refl _) (show ObjOk X.prog X.w _ _ _ (.frz _ (.tup ys)) from ⟨Heap.get?_push_size _ rfl, hz, its, r', IsTup.new _ _⟩)
  exact ⟨.ref h'.objs.size, _, I2, rfl, q _ _ hn ⟨_, upd_same, rfl⟩ At1.wr fun b o e => by rw [upd_ne (ne_of_none e hn)]; exact e⟩
end

/-! ### expressions -/
def tNGet (P : Program) (w : World) (K : PySem.W.Frag) (td ty : TE) : TE := fun σ H Q => td σ H fun x H1 => ty σ H1 fun y H2 => ∃ a b kvs k v, x = .ref a ∧ y = .ref b ∧ DictN P w K H2 a kvs ∧ Nk K H2 k (.ref b) ∧ k.depth ≤ 8 ∧ valV kvs k = some v ∧ Q v H2
def sNPut (P : Program) (w : World) (K : PySem.W.Frag) (td ty tv : TE) : TS := fun D σ H => tv σ H fun v H1 => td σ H1 fun x H2 => ty σ H2 fun y H3 => ∃ a b kvs k, x = .ref a ∧ y = .ref b ∧ DictN P w K H3 a kvs ∧ Nk K H3 k (.ref b) ∧ k.depth ≤ 8 ∧ kvs.length < sizeLine ∧
  ∀ H4, DictN P w K H4 a (putK kvs k v) → At1 a H3 H4 → Tk H3 H4 → D.nx σ H4
def tNNew (P : Program) (w : World) (K : PySem.W.Frag) : TE := fun _ H Q => ∀ p H', H p = none → DictN P w K H' p [] → At1 p H H' → Same H H' → Q (.ref p) H'
section
variable {X : Cx} {o i value : Expr} {pos pos' : Pos} {td ty tv : TE}
theorem DictN.typeIs {pins : List (Addr × Obj)} {σ : St} {H : Hp} {s : Shared} {a : Addr} {kvs : List (NestedKey × V)} (d : DictN X.prog X.w X.K H a kvs) (I : Inv X pins σ H s) : s.TypeIs (.ref a) "dict" ∧ ∃ ob, s.heap.get? a = some ob ∧ ob.dict = none := by
  obtain ⟨l, xs, _, _, _, _, _, _, m⟩ := d.raw I
  refine ⟨m.typeIs, ?_⟩
  obtain ⟨ob, _, _, h1, h2, _⟩ := m
  exact ⟨ob, h1, h2.2.1⟩
theorem pe_ndget (hu : X.A.units + 64 < cLine) (ho : PE X o td) (hi : PE X i ty) (hs : NoSl i := by exact fun _ _ => rfl) : PE X (.Subscript o i pos) (tNGet X.prog X.w X.K td ty) := by
  refine ⟨fun pins s σ H Q I h => ?_⟩
  refine subD_of PySem.F.slot_dict_getitem.lookup hs (thn (ho.run pins s σ H _ I h) fun u s1 ⟨x, H1, I1, rx, q1⟩ => thn (hi.run pins s1 σ H1 _ I1 q1) fun iv s2 ⟨y, H2, I2, ry, a, b, kvs, k, v, ex, ey, d, hk, hd, hv, q2⟩ => ?_)
  subst ex ey
  obtain rfl : u = Value.ref a := rx
  obtain rfl : iv = Value.ref b := ry
  exact ⟨(d.typeIs I2).1, dn_get hu I2 d hk hd hv fun w' s3 I3 rw' => ⟨v, H2, I3, rw', q2⟩⟩
theorem ps_ndput (hu : X.A.units + 64 < cLine) (ho : PE X o td) (hi : PE X i ty) (hv : PE X value tv) (hs : swapsWith value (some (.Subscript o i pos')) pos.line X.env = pure false := by rfl) :
    PS X (.Assign [.Subscript o i pos'] value pos) (sNPut X.prog X.w X.K td ty tv) := by
  refine ⟨fun pins s σ H D I h => ?_⟩
  refine wpAny_Assign_Subscript (thn (hv.run pins s σ H _ I h) fun r s1 ⟨v, H1, I1, rv, q1⟩ => thn (ho.run pins s1 σ H1 _ I1 q1) fun u s2 ⟨x, H2, I2, rx, q2⟩ => thn (hi.run pins s2 σ H2 _ I2 q2) fun iv s3 ⟨y, H3, I3, ry, a, b, kvs, k, ex, ey, d, hk, hd, hz, q3⟩ => ?_) hs
  subst ex ey
  obtain rfl : u = Value.ref a := rx
  obtain rfl : iv = Value.ref b := ry
  exact dn_set hu I3 d hk hd hz rv fun H4 s4 I4 d4 at4 tk4 => ⟨σ, H4, I4, q3 H4 d4 at4 tk4⟩
theorem dno_empty {P : Program} {w : World} {H : Hp} (h : Heap) (hb : sysModules < h.objs.size) : ObjOk P w H (h.push { cls := .type "dict", data := .dict #[] }) h.objs.size (DNo P w h.objs.size []) :=
  dno_ok (Nat.zero_le _) (beq_eq_false_iff_ne.mpr (Ne.symm (Nat.ne_of_lt hb))) .nil (Heap.DictOfH.new h)
theorem pe_ndnew : PE X (.Dict [] [] pos) (tNNew X.prog X.w X.K) := ⟨fun pins s σ H Q I h => by
  have hn := I.hok.fresh (Nat.le_refl s.heap.objs.size)
  exact wpAny_Dict_empty ⟨.ref s.heap.objs.size, _, I.laid (a := s.heap.objs.size) (o := DNo X.prog X.w s.heap.objs.size []) (t' := s.toks) (fun _ _ q => Heap.get?_push_of_some _ q) (Nat.le_refl _) (dno_empty s.heap I.big), rfl,
    h _ _ hn ⟨[], upd_same, rfl, (fun _ hp => nomatch hp)⟩ At1.wr fun b o e => by rw [upd_ne (ne_of_none e hn)]; exact e⟩⟩
end

/-! ### methods and calls -/
def tyN (P : Program) (w : World) (K : PySem.W.Frag) (x : V) (H : Hp) : Prop := ∃ a kvs, x = .ref a ∧ DictN P w K H a kvs
theorem tyN_ok {X : Cx} : TyOk X "dict" (tyN X.prog X.w X.K) := by
  intro pins σ H s x v I r ty
  obtain ⟨a, kvs, rfl, d⟩ := ty
  cases r
  obtain ⟨h1, ob, h2, h3⟩ := d.typeIs I
  refine ⟨h1, fun b e => ?_⟩
  cases e
  exact ⟨ob, h2, h3⟩
def mergeN (kvs more : List (NestedKey × V)) : List (NestedKey × V) := more.foldl (fun acc p => putK acc p.1 p.2) kvs
theorem length_mergeN : ∀ (more kvs : List (NestedKey × V)), (mergeN kvs more).length ≤ kvs.length + more.length
  | [], kvs => by show kvs.length ≤ kvs.length + 0; omega
  | p :: r, kvs => by
    have h1 := length_mergeN r (putK kvs p.1 p.2)
    have h2 := length_putK kvs p.1 p.2
    show (mergeN (putK kvs p.1 p.2) r).length ≤ _
    rw [List.length_cons]; omega
def mergeL (l more : List (NestedKey × Addr × V)) : List (NestedKey × Addr × V) := more.foldl (fun acc p => putN acc p.1 p.2.1 p.2.2) l
theorem prs_mergeL : ∀ (more l : List (NestedKey × Addr × V)), prs (mergeL l more) = mergeN (prs l) (prs more)
  | [], _ => rfl
  | p :: r, l => by
    show prs (mergeL (putN l p.1 p.2.1 p.2.2) r) = mergeN (putK (prs l) p.1 p.2.2) (prs r)
    rw [prs_mergeL r, prs_putN]
theorem length_mergeL : ∀ (more l : List (NestedKey × Addr × V)), (mergeL l more).length ≤ l.length + more.length
  | [], l => by show l.length ≤ l.length + 0; omega
  | p :: r, l => by
    have h1 := length_mergeL r (putN l p.1 p.2.1 p.2.2)
    have h2 := length_putN l p.1 p.2.1 p.2.2
    show (mergeL (putN l p.1 p.2.1 p.2.2) r).length ≤ _
    rw [List.length_cons]; omega
theorem NR.merge : ∀ {more : List (NestedKey × Addr × V)} {rs : List (NestedKey × Addr × Value)} {l : List (NestedKey × Addr × V)} {xs : List (NestedKey × Addr × Value)}, NR more rs → NR l xs → NR (mergeL l more) (storedAllH xs rs) := by
  intro more rs l xs r
  induction r generalizing l xs with
  | nil => intro q; exact q
  | @cons p q ps qs h t ih =>
    intro r0
    obtain ⟨h1, h2, h3⟩ := h
    have e : NR (putN l p.1 p.2.1 p.2.2) (storedH xs q.1 q.2.1 q.2.2) := by
      have := r0.put p.1 p.2.1 h3
      rw [← h1, ← h2]; exact this
    exact ih e
theorem mem_mergeL : ∀ (more l : List (NestedKey × Addr × V)) (p : NestedKey × Addr × V), p ∈ mergeL l more → (∃ q ∈ l, q.1 = p.1 ∧ q.2.1 = p.2.1) ∨ (∃ q ∈ more, q.1 = p.1 ∧ q.2.1 = p.2.1)
  | [], l, p, h => .inl ⟨p, h, rfl, rfl⟩
  | c :: r, l, p, h => by
    rcases mem_mergeL r (putN l c.1 c.2.1 c.2.2) p h with ⟨q, hq, e1, e2⟩ | ⟨q, hq, e1, e2⟩
    · rcases mem_putN hq with ⟨z, hz, f1, f2⟩ | ⟨f1, f2⟩
      · exact .inl ⟨z, hz, f1.trans e1, f2.trans e2⟩
      · exact .inr ⟨c, List.mem_cons_self, f1.symm.trans e1, f2.symm.trans e2⟩
    · exact .inr ⟨q, List.mem_cons_of_mem _ hq, e1, e2⟩
/-- pairs (key, value) at the addresses ts -/
def PairsN (K : PySem.W.Frag) (H : Hp) (ts : List Addr) (ps : List (NestedKey × V)) : Prop := Paired (fun t p => ∃ b, SqT K H t [.ref b, p.2] ∧ Nk K H p.1 (.ref b) ∧ p.1.depth ≤ 8) ts ps
theorem PairsN.tk {K : PySem.W.Frag} {H H' : Hp} {ts : List Addr} {ps : List (NestedKey × V)} (t : Tk H H') (h : PairsN K H ts ps) : PairsN K H' ts ps :=
  Paired.mapP h fun _ _ ⟨b, h1, h2, h3⟩ => ⟨b, t.sqT h1, Nk.tk t _ _ h2, h3⟩
section
variable {X : Cx} {pins : List (Addr × Obj)} {σ : St} {H : Hp} {s : Shared}
theorem PairsN.raw (I : Inv X pins σ H s) : ∀ {ts : List Addr} {ps : List (NestedKey × V)}, PairsN X.K H ts ps →
    ∃ (l : List (NestedKey × Addr × V)) (rs : List (NestedKey × Addr × Value)), prs l = ps ∧ NR l rs ∧ rs.length = ts.length ∧ (∀ p ∈ l, Nk X.K H p.1 (.ref p.2.1) ∧ p.1.depth ≤ 8) ∧ (∀ (j : Nat) (q : NestedKey × Addr × Value), rs[j]? = some q → ∃ t, ts[j]? = some t ∧ IsTup s.heap t #[.ref q.2.1, q.2.2])
  | _, _, .nil => ⟨[], [], rfl, .nil, rfl, (fun _ h => nomatch h), fun j q e => by simp at e⟩
  | _, _, .cons (a := t) (b := p) h tl => by
    obtain ⟨l, rs, e, r, hl, hk, hp⟩ := PairsN.raw I tl
    obtain ⟨b, h1, h2, h3⟩ := h
    obtain ⟨its, rv, ht, _⟩ := I.tuple h1
    obtain ⟨u, y, ei, ru, ry⟩ := vals2 rv
    subst ei
    cases ru
    refine ⟨(p.1, b, p.2) :: l, (p.1, b, y) :: rs, ?_, .cons ⟨rfl, rfl, ry⟩ r, by rw [List.length_cons, List.length_cons, hl], fun q hq => ?_, fun j q e => ?_⟩
    · show (p.1, p.2) :: prs l = _
      rw [e]
    · rcases List.mem_cons.mp hq with z | z
      · subst z; exact ⟨h2, h3⟩
      · exact hk q z
    · cases j with
      | zero =>
        have e' : (p.1, b, y) = q := Option.some.inj e
        subst e'
        exact ⟨t, rfl, ht⟩
      | succ j =>
        obtain ⟨t', e1, e2⟩ := hp j q (by simpa using e)
        exact ⟨t', by simpa using e1, e2⟩
theorem keys_stay {l : List (NestedKey × Addr × V)} {xs : List (NestedKey × Addr × Value)} (I : Inv X pins σ H s) (r : NR l xs) (hk : ∀ p ∈ l, Nk X.K H p.1 (.ref p.2.1) ∧ p.1.depth ≤ 8) : ∀ x ∈ xs, (nestedKind X.prog X.w).is s.heap x.1 x.2.1 := by
  induction r with
  | nil => intro x hx; exact nomatch hx
  | @cons p q ps qs hq t ih =>
    intro x hx
    rcases List.mem_cons.mp hx with e | hx
    · subst e
      obtain ⟨e1, e2, _⟩ := hq
      have := hk p List.mem_cons_self
      rw [e1, e2] at this
      exact ⟨Nk.is I _ _ _ this.1 rfl, this.2⟩
    · exact ih (fun p hp => hk p (List.mem_cons_of_mem _ hp)) x hx
theorem pair_items {rs : List (NestedKey × Addr × Value)} {ts : List Addr} {h : Heap} (hl : rs.length = ts.length) (hp : ∀ (j : Nat) (q : NestedKey × Addr × Value), rs[j]? = some q → ∃ t, ts[j]? = some t ∧ IsTup h t #[.ref q.2.1, q.2.2]) :
    PairItems h (ts.map Value.ref).toArray (fun j => ts.getD j 0) (rs.map fun q => (Value.ref q.2.1, q.2.2)) := by
  refine ⟨by simp [hl], fun j k v e => ?_⟩
  rw [List.getElem?_map] at e
  cases hq : rs[j]? with
  | none => rw [hq] at e; cases e
  | some q =>
    rw [hq] at e
    obtain ⟨t, e1, e2⟩ := hp j q hq
    have e3 : (Value.ref q.2.1, q.2.2) = (k, v) := Option.some.inj e
    cases e3
    refine ⟨by simp [List.getD, e1], .inl ?_⟩
    show h.IsTuple (ts.getD j 0) _
    rw [show ts.getD j 0 = t by simp [List.getD, e1]]
    exact e2
theorem pairs_haveH {rs : List (NestedKey × Addr × Value)} : PairsHaveH (nestedKind X.prog X.w) (rs.map fun q => (Value.ref q.2.1, q.2.2)).length (PairRel (rs.map fun q => (Value.ref q.2.1, q.2.2))) rs := by
  refine ⟨by simp, fun i key v e => ?_⟩
  have e' : (rs.map fun q => (Value.ref q.2.1, q.2.2))[i]? = some (key, v) := e
  rw [List.getElem?_map] at e'
  cases hq : rs[i]? with
  | none => rw [hq] at e'; cases e'
  | some q =>
    rw [hq] at e'
    have e3 : (Value.ref q.2.1, q.2.2) = (key, v) := Option.some.inj e'
    cases e3
    exact ⟨q.1, q.2.1, rfl, rfl⟩
end
section
variable {X : Cx}
/-- d.update(list of pairs) -/
def rNUpdL (P : Program) (w : World) (K : PySem.W.Frag) : V → List V → Hp → VK → Prop := fun x xs H Q => ∃ (a l : Addr) (ts : List Addr) (kvs ps : List (NestedKey × V)), x = .ref a ∧ xs = [.ref l] ∧ DictN P w K H a kvs ∧ SqL K H l (ts.map V.ref) ∧ PairsN K H ts ps ∧ kvs.length + ps.length ≤ sizeLine ∧
  ∀ H', DictN P w K H' a (mergeN kvs ps) → At1 a H H' → Tk H H' → Q .non H'
theorem seq_ne_dict {h : Heap} {a b : Addr} {o1 o2 : Obj} {es : Array DictEntry} {ep : Nat} {vs : Array Value} {n : Nat} (h1 : h.get? a = some o1) (d1 : o1.data = .dict es ep) (h2 : h.get? b = some o2) (d2 : o2.data = .seq vs n) : b ≠ a := by
  intro e
  subst e
  rw [h1] at h2
  cases h2
  rw [d1] at d2
  cases d2
theorem mt_nupdL (hc : X.calm = true) (hu : X.A.units + 64 < cLine) : MtR X "dict.update" (rNUpdL X.prog X.w X.K) := by
  intro pins s σ H x xs v us Q I rx rs h
  obtain ⟨a, l, ts, kvs, ps, rfl, rfl, d, hl, hp, hz, q⟩ := h
  cases rx
  obtain ⟨u, rfl, ru⟩ := vals1 rs
  cases ru
  obtain ⟨L, xs, e1, e2, hk, _, hm, r, m⟩ := d.raw I
  subst e2
  obtain ⟨M, rs, e3, rm, hlen, hkM, hit⟩ := hp.raw I
  subst e3
  obtain ⟨its, rv, ⟨ol, nl, hol, hcl, hdl, hdat⟩, _⟩ := I.list hl
  have ei := refs_at rv
  subst ei
  have pi := pair_items hlen hit
  obtain ⟨oa, es, ep, hoa, _, hda, _⟩ := id m
  have hla : l ≠ a := seq_ne_dict hoa hda hol hdat
  have lens : rs.length = (prs M).length := by unfold prs; rw [List.length_map]; exact (NR.length rm).symm
  have lenx : xs.length = (prs L).length := by unfold prs; rw [List.length_map]; exact (NR.length r).symm
  have mu := d.mut
  refine call_update_pairsH (knd := nestedKind X.prog X.w) (acc := xs) (ps := rs) (PairArg.list l _ _ _) (I.ok.hd hc) (nroom hu) ⟨⟨ol, nl, hol, hcl, hdl, hdat⟩, pi⟩ ?_ pairs_haveH ?_ m ?_ fun h' tk m' kp => ?_
  · intro hm
    rcases List.mem_cons.mp hm with e | hm
    · exact hla e.symm
    · obtain ⟨j, hj, e⟩ := List.mem_map.mp hm
      have hj' : j < rs.length := by simpa using hj
      obtain ⟨t, ht, ot, hot, _, nt, hdt⟩ := hit j _ (List.getElem?_eq_getElem hj')
      have e' : t = a := by rw [← e]; simp [List.getD, ht]
      exact seq_ne_dict hoa hda hot hdt e'
  · intro h' kp x hx
    refine nestedKind_stays.stays (fun b o vs n eb db => kp b o ?_ (fun z => nomatch z) eb) ?_
    · exact seq_ne_dict hoa hda eb db
    · rcases List.mem_append.mp hx with z | z
      · exact keys_stay I r hk x z
      · exact keys_stay I rm hkM x z
  · rw [List.length_map, lens, lenx]; exact hz
  · have zl : (mergeL L M).length ≤ sizeLine := by
      have h1 := length_mergeL M L
      have h2 : (prs L).length = L.length := by unfold prs; rw [List.length_map]
      have h3 : (prs M).length = M.length := by unfold prs; rw [List.length_map]
      omega
    have t : Tk H (upd H a (DNo X.prog X.w a (mergeL L M))) := Tk.wr (.inl mu)
    have he : ∃ q, h'.get? a = some q := let ⟨q, _, _, hq, _⟩ := m'; ⟨q, hq⟩
    refine ⟨.non, _, I.write (x := a) (e := a) (t' := tk) mu (.inl rfl) (fun b o hb e => kp b o hb (fun z => nomatch z) e) he (dno_ok zl hm (rm.merge r) m'), rfl, q _ ⟨_, upd_same, prs_mergeL M L, fun p hp => ?_⟩ At1.wr t⟩
    rcases mem_mergeL M L p hp with ⟨q, hq, e1, e2⟩ | ⟨q, hq, e1, e2⟩
    · rw [← e1, ← e2]; exact ⟨Nk.tk t _ _ (hk q hq).1, (hk q hq).2⟩
    · rw [← e1, ← e2]; exact ⟨Nk.tk t _ _ (hkM q hq).1, (hkM q hq).2⟩
/-- d.update(d2), d not empty -/
def rNUpdD (P : Program) (w : World) (K : PySem.W.Frag) : V → List V → Hp → VK → Prop := fun x xs H Q => ∃ (a l : Addr) (kvs ps : List (NestedKey × V)), x = .ref a ∧ xs = [.ref l] ∧ a ≠ l ∧ DictN P w K H a kvs ∧ DictN P w K H l ps ∧ kvs ≠ [] ∧ kvs.length + ps.length ≤ sizeLine ∧
  ∀ H', DictN P w K H' a (mergeN kvs ps) → At1 a H H' → Tk H H' → Q .non H'
theorem mt_nupdD (hu : X.A.units + 64 < cLine) : MtR X "dict.update" (rNUpdD X.prog X.w X.K) := by
  intro pins s σ H x xs v us Q I rx rs h
  obtain ⟨a, l, kvs, ps, rfl, rfl, nal, d, d2, hne, hz, q⟩ := h
  cases rx
  obtain ⟨u, rfl, ru⟩ := vals1 rs
  cases ru
  obtain ⟨L, xs, e1, e2, hk, _, hm, r, m⟩ := d.raw I
  subst e2
  obtain ⟨M, rs, e3, e4, hkM, _, hmM, rm, mm⟩ := d2.raw I
  subst e4
  have lens : rs.length = (prs M).length := by unfold prs; rw [List.length_map]; exact (NR.length rm).symm
  have lenx : xs.length = (prs L).length := by unfold prs; rw [List.length_map]; exact (NR.length r).symm
  have mu := d.mut
  refine call_update_dictH (knd := nestedKind X.prog X.w) (nroom hu) nal hmM m mm (.inl ?_) (by rw [lens, lenx]; exact hz) fun h' m' _ hs => ?_
  · intro e
    subst e
    rw [List.length_nil] at lenx
    exact hne (List.length_eq_zero_iff.mp lenx.symm)
  · have zl : (mergeL L M).length ≤ sizeLine := by
      have h1 := length_mergeL M L
      have h2 : (prs L).length = L.length := by unfold prs; rw [List.length_map]
      have h3 : (prs M).length = M.length := by unfold prs; rw [List.length_map]
      omega
    have t : Tk H (upd H a (DNo X.prog X.w a (mergeL L M))) := Tk.wr (.inl mu)
    refine ⟨.non, _, dn_stored I mu hs zl hm (rm.merge r) m', rfl, q _ ⟨_, upd_same, prs_mergeL M L, fun p hp => ?_⟩ At1.wr t⟩
    rcases mem_mergeL M L p hp with ⟨q, hq, e1, e2⟩ | ⟨q, hq, e1, e2⟩
    · rw [← e1, ← e2]; exact ⟨Nk.tk t _ _ (hk q hq).1, (hk q hq).2⟩
    · rw [← e1, ← e2]; exact ⟨Nk.tk t _ _ (hkM q hq).1, (hkM q hq).2⟩
/-- dict(t), t a tuple of pairs that is known whole -/
def rNDictT (P : Program) (w : World) (K : PySem.W.Frag) : List V → Hp → VK → Prop := fun xs H Q => ∃ (l : Addr) (ts : List Addr) (ps : List (NestedKey × V)), xs = [.ref l] ∧ PlT H l (ts.map V.ref) ∧ PairsN K H ts ps ∧
  ∀ p H', H p = none → DictN P w K H' p (mergeN [] ps) → At1 p H H' → Same H H' → Q (.ref p) H'
theorem cr_ndictT (hc : X.calm = true) (hu : X.A.units + 64 < cLine) : CallR X (.type "dict") (rNDictT X.prog X.w X.K) := by
  intro pins s σ H xs us Q I rs h
  obtain ⟨l, ts, ps, rfl, hl, hp, q⟩ := h
  obtain ⟨u, rfl, ru⟩ := vals1 rs
  cases ru
  obtain ⟨M, rs, e3, rm, hlen, hkM, hit⟩ := hp.raw I
  subst e3
  obtain ⟨its, rv, pl, hz⟩ := I.plain hl
  have ei := refs_at rv
  subst ei
  have pi := pair_items hlen hit
  have hlt := Paired.length hp
  have lens : rs.length = (prs M).length := by unfold prs; rw [List.length_map]; exact (NR.length rm).symm
  rw [List.length_map] at hz
  have hn := I.hok.fresh (Nat.le_refl s.heap.objs.size)
  refine call_dict_pairsH (knd := nestedKind X.prog X.w) (ps := rs) (PairArg.tuple l _ _ _) (I.ok.hd hc) (by show X.A.units + 1 + 1 + 8 < cLine; omega) ⟨pl, pi⟩ pairs_haveH ?_ (by rw [List.length_map, hlen]; exact hz) fun h' tk m' kp => ?_
  · intro h' kp x hx
    exact nestedKind_stays.stays (fun b o vs n eb db => kp b o (Nat.ne_of_lt (Heap.lt_size eb)) (fun z => nomatch z) eb) (keys_stay I rm hkM x hx)
  · have zl : (mergeL [] M).length ≤ sizeLine := by
      have h1 := length_mergeL M []
      have h3 : (prs M).length = M.length := by unfold prs; rw [List.length_map]
      rw [List.length_nil] at h1
      omega
    have sm : Same H (upd H s.heap.objs.size (DNo X.prog X.w s.heap.objs.size (mergeL [] M))) := fun b o e => by rw [upd_ne (ne_of_none e hn)]; exact e
    have hm : (s.heap.objs.size == sysModules) = false := beq_eq_false_iff_ne.mpr (Nat.ne_of_gt I.big)
    refine ⟨.ref s.heap.objs.size, _, I.laid (a := s.heap.objs.size) (t' := tk) (fun b o e => kp b o (fun z => nomatch z) e) (Nat.le_refl _) (dno_ok zl hm (rm.merge .nil) m'), rfl, q _ _ hn ⟨_, upd_same, prs_mergeL M [], fun p hp => ?_⟩ At1.wr sm⟩
    rcases mem_mergeL M [] p hp with ⟨q, hq, e1, e2⟩ | ⟨q, hq, e1, e2⟩
    · cases hq
    · rw [← e1, ← e2]; exact ⟨Nk.tk (Tk.same sm) _ _ (hkM q hq).1, (hkM q hq).2⟩
/-- d.pop(k, None) -/
def rNPop (P : Program) (w : World) (K : PySem.W.Frag) : V → List V → Hp → VK → Prop := fun x xs H Q => ∃ (a b : Addr) (kvs : List (NestedKey × V)) (k : NestedKey) (z : V), x = .ref a ∧ xs = [.ref b, z] ∧ DictN P w K H a kvs ∧ Nk K H k (.ref b) ∧ k.depth ≤ 8 ∧
  ∀ y H', DictN P w K H' a (dropK kvs k) → At1 a H H' → Tk H H' → Q y H'
theorem dropK_none {kvs : List (NestedKey × V)} {k : NestedKey} (h : valV kvs k = none) : dropK kvs k = kvs := by
  induction kvs with
  | nil => rfl
  | cons p r ih =>
    by_cases e : p.1 = k
    · rw [valV_pos e] at h; cases h
    · rw [valV_neg e] at h
      unfold dropK at ih ⊢
      rw [List.filter_cons, if_pos (by simp [e]), ih h]
theorem mt_npop (hu : X.A.units + 64 < cLine) : MtR X "dict.pop" (rNPop X.prog X.w X.K) := by
  intro pins s σ H x xs v us Q I rx rs h
  obtain ⟨a, b, kvs, k, z, rfl, rfl, d, hk, hd, q⟩ := h
  cases rx
  obtain ⟨u, u2, rfl, ru, rz⟩ := vals2 rs
  cases ru
  obtain ⟨L, xs, e1, e2, hkL, zl, hm, r, m⟩ := d.raw I
  subst e2
  have zx : xs.length ≤ sizeLine := by rw [← r.length]; exact zl
  have mu := d.mut
  have rel := r.pairs k
  cases hv : valV (prs L) k with
  | none =>
    rw [hv] at rel
    have hn : (atKey xs k).map (·.2) = none := RelO.none_of rel
    refine call_pop_default_heap (hsz := zx) (nroom hu) (key_is I hk hd) hm m (Option.map_eq_none_iff.mp hn) fun tk => ?_
    exact ⟨z, H, I.tok _, rz, q _ _ (by rw [dropK_none hv]; exact d) (fun _ _ => rfl) (Tk.refl H)⟩
  | some y =>
    rw [hv] at rel
    obtain ⟨w', hw, rw'⟩ := RelO.some_of rel
    obtain ⟨p, hp, hp2⟩ := Option.map_eq_some_iff.mp hw
    refine call_pop_heap (hsz := zx) (.inr ⟨u2, rfl⟩) (PySem.F.args_dict_pop_3 _ _ _) (nroom hu) (key_is I hk hd) hm m hp fun h' m' hs => ?_
    have t : Tk H (upd H a (DNo X.prog X.w a (dropN L k))) := Tk.wr (.inl mu)
    have zl' : (dropN L k).length ≤ sizeLine := Nat.le_trans (List.length_filter_le _ _) zl
    rw [hp2]
    refine ⟨y, _, dn_stored I mu hs zl' hm (r.drop k) m', rw', q _ _ ⟨_, upd_same, prs_dropN L k, fun p hp => ?_⟩ At1.wr t⟩
    have hpL : p ∈ L := (List.mem_filter.mp hp).1
    exact ⟨Nk.tk t _ _ (hkL p hpL).1, (hkL p hpL).2⟩
end
end L2
end
section
set_option linter.all false
set_option maxRecDepth 100000
set_option maxHeartbeats 1000000
/- NkC: len, list, sorted of dicts with nested keys; sorted of lists of nested data; == and in over nested data. -/
namespace L2
open PySem PySem.Spec PyProof.Rows

/-! ### the order -/
def nkLe : NestedKey → NestedKey → Bool := PySem.W.dataLe false NestedKey.data
/-- the sorted list -/
def srtN (ks : List NestedKey) : List NestedKey := ks.mergeSort nkLe
/-- the keys can be compared, and are tuples with an item at least -/
def SrtOk (ks : List NestedKey) : Prop := PySem.W.AllAlike (ks.map NestedKey.data) ∧ PySem.W.Sortable (ks.map NestedKey.data)
theorem nkLe_eq (a b : NestedKey) : nkLe a b = !PySem.W.dataLt b.data a.data := rfl
theorem nkLe_trans (a b c : NestedKey) (h1 : nkLe a b = true) (h2 : nkLe b c = true) : nkLe a c = true := by
  rw [nkLe_eq] at *
  simp only [Bool.not_eq_true'] at *
  cases h : PySem.W.dataLt c.data a.data with
  | false => rfl
  | true =>
    rcases PyProof.Rows.lex_negTrans (O := PyProof.Rows.itemOrd) _ (PySem.W.keyToks b.data) _ h with z | z
    · unfold PySem.W.dataLt at h2; rw [h2] at z; cases z
    · unfold PySem.W.dataLt at h1; rw [h1] at z; cases z
theorem nkLe_total (a b : NestedKey) : (nkLe a b || nkLe b a) = true := by
  rw [nkLe_eq, nkLe_eq]
  cases h : PySem.W.dataLt b.data a.data with
  | false => rfl
  | true =>
    cases h' : PySem.W.dataLt a.data b.data with
    | false => rfl
    | true =>
      have z := PyProof.Rows.lex_trans (O := PyProof.Rows.itemOrd) _ _ _ h h'
      rw [PyProof.Rows.lex_irrefl] at z
      cases z
theorem srtN_perm (ks : List NestedKey) : (srtN ks).Perm ks := List.mergeSort_perm ks nkLe
theorem srtN_mem {ks : List NestedKey} {k : NestedKey} : k ∈ srtN ks ↔ k ∈ ks := (srtN_perm ks).mem_iff
theorem srtN_length (ks : List NestedKey) : (srtN ks).length = ks.length := (srtN_perm ks).length_eq
theorem srtN_pw (ks : List NestedKey) : (srtN ks).Pairwise fun a b => nkLe a b = true := List.pairwise_mergeSort (le := nkLe) nkLe_trans nkLe_total ks

mutual
theorem nk_depth : ∀ k : NestedKey, k.data.depth = k.depth
  | .none => by simp [NestedKey.data, NestedKey.depth, PyData.depth]
  | .num _ => by simp [NestedKey.data, NestedKey.depth, PyData.depth]
  | .text _ => by simp [NestedKey.data, NestedKey.depth, PyData.depth]
  | .tup ks => by simp [NestedKey.data, NestedKey.depth, PyData.depth, nk_depths ks]
theorem nk_depths : ∀ ks : List NestedKey, PyData.depthAll (NestedKey.datas ks) = NestedKey.depthAll ks
  | [] => by simp [NestedKey.datas, NestedKey.depthAll, PyData.depthAll]
  | k :: ks => by simp [NestedKey.datas, NestedKey.depthAll, PyData.depthAll, nk_depth k, nk_depths ks]
end
mutual
theorem Nk.lay {K : PySem.W.Frag} {H : Hp} : ∀ {k : NestedKey} {v : V}, Nk K H k v → k.data.canLay0 = true
  | .none, _, _ => by simp [NestedKey.data, PyData.canLay0]
  | .num _, _, _ => by simp [NestedKey.data, PyData.canLay0]
  | .text _, _, h => by
    cases h with
    | text _ o => simp [NestedKey.data, PyData.canLay0, o]
  | .tup ks, _, h => by
    cases h with
    | tup _ h2 => simp [NestedKey.data, PyData.canLay0, NkAll.lay h2]
theorem NkAll.lay {K : PySem.W.Frag} {H : Hp} : ∀ {ks : List NestedKey} {vs : List V}, NkAll K H ks vs → PyData.canLayAll0 (NestedKey.datas ks) = true
  | [], _, _ => by simp [NestedKey.datas, PyData.canLayAll0]
  | k :: ks, _, h => by
    cases h with
    | cons h1 h2 => simp [NestedKey.datas, PyData.canLayAll0, Nk.lay h1, NkAll.lay h2]
end
theorem datas_map : ∀ ks : List NestedKey, NestedKey.datas ks = ks.map NestedKey.data
  | [] => by simp [NestedKey.datas]
  | k :: ks => by simp [NestedKey.datas, datas_map ks]
mutual
theorem nk_eqv : ∀ k l : NestedKey, PyData.eqv k.data l.data = NestedKey.beq k l
  | .none, l => by cases l <;> simp [NestedKey.data, PyData.eqv, NestedKey.beq]
  | .num a, l => by cases l <;> simp [NestedKey.data, PyData.eqv, NestedKey.beq, Bool.beq_eq_decide_eq]
  | .text a, l => by
    cases l with
    | text b =>
      simp only [NestedKey.data, PyData.eqv, NestedKey.beq]
      by_cases e : a = b
      · subst e; simp
      · rw [decide_eq_false e]; exact beq_eq_false_iff_ne.mpr e
    | _ => simp [NestedKey.data, PyData.eqv, NestedKey.beq]
  | .tup a, l => by
    cases l with
    | tup b => simp only [NestedKey.data, PyData.eqv, NestedKey.beq]; exact nk_eqvs a b
    | _ => simp [NestedKey.data, PyData.eqv, NestedKey.beq]
theorem nk_eqvs : ∀ ks ls : List NestedKey, PyData.eqvAll (NestedKey.datas ks) (NestedKey.datas ls) = NestedKey.beqAll ks ls
  | [], [] => by simp [NestedKey.datas, PyData.eqvAll, NestedKey.beqAll]
  | [], _ :: _ => by simp [NestedKey.datas, PyData.eqvAll, NestedKey.beqAll]
  | _ :: _, [] => by simp [NestedKey.datas, PyData.eqvAll, NestedKey.beqAll]
  | k :: ks, l :: ls => by simp [NestedKey.datas, PyData.eqvAll, NestedKey.beqAll, nk_eqv k l, nk_eqvs ks ls]
end
theorem nk_eqd (k l : NestedKey) : PyData.eqv k.data l.data = decide (k = l) := by rw [nk_eqv, NestedKey.decide_eq]
theorem nk_eqds (ks ls : List NestedKey) : PyData.eqvAll (NestedKey.datas ks) (NestedKey.datas ls) = decide (ks = ls) := by
  rw [nk_eqvs]
  by_cases e : ks = ls
  · subst e; rw [NestedKey.beqAll_self]; simp
  · rw [decide_eq_false e]
    cases h : NestedKey.beqAll ks ls with
    | false => rfl
    | true => exact absurd (NestedKey.eq_of_beqAll _ _ h) e
theorem nk_anti {ks : List NestedKey} (ok : SrtOk ks) {a b : NestedKey} (ha : a ∈ ks) (hb : b ∈ ks) (h1 : nkLe a b = true) (h2 : nkLe b a = true) : a = b := by
  rw [nkLe_eq] at h1 h2
  simp only [Bool.not_eq_true'] at h1 h2
  have et := PyProof.Rows.lex_total (O := PyProof.Rows.itemOrd) _ _ h2 h1
  have al : PySem.W.alike a.data b.data = true := ok.1 _ (List.mem_map.mpr ⟨a, ha, rfl⟩) _ (List.mem_map.mpr ⟨b, hb, rfl⟩)
  cases e : PyData.eqv a.data b.data with
  | true =>
    rw [nk_eqd] at e
    exact of_decide_eq_true e
  | false =>
    have z := (PySem.W.toks_eqv _ _ al).2 e [] [Sum.inl 0]
    rw [et, List.append_nil, PyProof.Rows.lex_irrefl] at z
    have y := PySem.W.lex_pre (PySem.W.keyToks b.data) [] [Sum.inl 0]
    rw [List.append_nil, z] at y
    exact absurd y (by decide)
theorem pw_uniq {le : NestedKey → NestedKey → Bool} : ∀ (l m : List NestedKey), (∀ a ∈ l, ∀ b ∈ l, le a b = true → le b a = true → a = b) → l.Perm m → l.Pairwise (fun a b => le a b = true) → m.Pairwise (fun a b => le a b = true) → l = m
  | [], m, _, p, _, _ => (List.nil_perm.mp p).symm
  | x :: l, [], _, p, _, _ => absurd p (by simp)
  | x :: l, y :: m, an, p, h1, h2 => by
    have hx : x ∈ y :: m := p.mem_iff.mp List.mem_cons_self
    have hy : y ∈ x :: l := p.mem_iff.mpr List.mem_cons_self
    have e : x = y := by
      rcases List.mem_cons.mp hx with z | z
      · exact z
      rcases List.mem_cons.mp hy with z' | z'
      · exact z'.symm
      exact an x List.mem_cons_self y hy (List.rel_of_pairwise_cons h1 z') (List.rel_of_pairwise_cons h2 z)
    subst e
    rw [pw_uniq l m (fun a ha b hb => an a (List.mem_cons_of_mem _ ha) b (List.mem_cons_of_mem _ hb)) (List.Perm.cons_inv p) (List.Pairwise.of_cons h1) (List.Pairwise.of_cons h2)]
/-- the sorted list hangs on the keys alone -/
theorem srtN_congr {ks ls : List NestedKey} (ok : SrtOk ks) (p : ks.Perm ls) : srtN ks = srtN ls :=
  pw_uniq (srtN ks) (srtN ls) (fun a ha b hb => nk_anti ok (srtN_mem.mp ha) (srtN_mem.mp hb)) ((srtN_perm ks).trans (p.trans (srtN_perm ls).symm)) (srtN_pw ks) (srtN_pw ls)
theorem srtN_set {ks ls : List NestedKey} (ok : SrtOk ks) (n1 : ks.Nodup) (n2 : ls.Nodup) (h : ∀ k, k ∈ ks ↔ k ∈ ls) : srtN ks = srtN ls :=
  srtN_congr ok ((List.perm_ext_iff_of_nodup n1 n2).mpr h)

/-! ### == and in -/
section
variable {X : Cx}
theorem nk_shaped {K : PySem.W.Frag} {H : Hp} {k : NestedKey} {v : V} (n : Nk K H k v) (h : k.depth ≤ 60) : SeqAt.shaped k.data = true := by
  show (k.data.canLay0 && decide (k.data.depth ≤ 64)) = true
  rw [n.lay, Bool.true_and]
  exact decide_eq_true (by rw [nk_depth]; omega)
theorem nks_shaped {K : PySem.W.Frag} {H : Hp} {ks : List NestedKey} {vs : List V} (n : NkAll K H ks vs) (h : NestedKey.depthAll ks ≤ 60) : SeqAt.shaped (.list (NestedKey.datas ks)) = true := by
  have e : PyData.depth (.list (NestedKey.datas ks)) = NestedKey.depthAll ks + 1 := by simp only [PyData.depth]; rw [nk_depths]
  have c : PyData.canLay0 (.list (NestedKey.datas ks)) = true := by simp only [PyData.canLay0]; exact n.lay
  show (PyData.canLay0 (.list (NestedKey.datas ks)) && decide (PyData.depth (.list (NestedKey.datas ks)) ≤ 64)) = true
  rw [c, Bool.true_and]
  exact decide_eq_true (by rw [e]; omega)
/-- a list of nested data -/
theorem NkAll.dpL {K : PySem.W.Frag} {H : Hp} {a : Addr} {vs : List V} {ks : List NestedKey} (h : SqL K H a vs) (n : NkAll K H ks vs) : Dp K H (.ref a) (.list (NestedKey.datas ks)) := .lst h (NkAll.dp ks vs n)
def rEqN (K : PySem.W.Frag) (neg : Bool) : R2 := fun x y H Q => ∃ k l, Nk K H k x ∧ Nk K H l y ∧ k.depth ≤ 60 ∧ l.depth ≤ 60 ∧ Q (.bl (if neg then !decide (k = l) else decide (k = l))) H
theorem op_eqN (hu : X.A.units + 64 < cLine) : OpR X (compareOp .Eq) (rEqN X.K false) := by
  intro pins s σ H x y v u Q I rx ry h
  obtain ⟨k, l, hk, hl, dk, dl, q⟩ := h
  exact op_eqD hu pins s σ H x y v u Q I rx ry ⟨_, _, Nk.dp k x hk, Nk.dp l y hl, nk_shaped hk dk, nk_shaped hl dl, by rw [nk_eqd]; exact q⟩
theorem op_neN (hu : X.A.units + 64 < cLine) : OpR X (compareOp .NotEq) (rEqN X.K true) := by
  intro pins s σ H x y v u Q I rx ry h
  obtain ⟨k, l, hk, hl, dk, dl, q⟩ := h
  exact op_neD hu pins s σ H x y v u Q I rx ry ⟨_, _, Nk.dp k x hk, Nk.dp l y hl, nk_shaped hk dk, nk_shaped hl dl, by rw [nk_eqd]; exact q⟩
/-- == of lists -/
def rEqNL (K : PySem.W.Frag) (neg : Bool) : R2 := fun x y H Q => ∃ a b vs ws ks ls, x = .ref a ∧ y = .ref b ∧ SqL K H a vs ∧ NkAll K H ks vs ∧ SqL K H b ws ∧ NkAll K H ls ws ∧ NestedKey.depthAll ks ≤ 60 ∧ NestedKey.depthAll ls ≤ 60 ∧
  Q (.bl (if neg then !decide (ks = ls) else decide (ks = ls))) H
theorem op_eqNL (hu : X.A.units + 64 < cLine) : OpR X (compareOp .Eq) (rEqNL X.K false) := by
  intro pins s σ H x y v u Q I rx ry h
  obtain ⟨a, b, vs, ws, ks, ls, rfl, rfl, h1, n1, h2, n2, d1, d2, q⟩ := h
  refine op_eqD hu pins s σ H _ _ v u Q I rx ry ⟨_, _, NkAll.dpL h1 n1, NkAll.dpL h2 n2, nks_shaped n1 d1, nks_shaped n2 d2, ?_⟩
  simp only [PyData.eqv]
  rw [nk_eqds]
  exact q
theorem op_neNL (hu : X.A.units + 64 < cLine) : OpR X (compareOp .NotEq) (rEqNL X.K true) := by
  intro pins s σ H x y v u Q I rx ry h
  obtain ⟨a, b, vs, ws, ks, ls, rfl, rfl, h1, n1, h2, n2, d1, d2, q⟩ := h
  refine op_neD hu pins s σ H _ _ v u Q I rx ry ⟨_, _, NkAll.dpL h1 n1, NkAll.dpL h2 n2, nks_shaped n1 d1, nks_shaped n2 d2, ?_⟩
  simp only [PyData.eqv]
  rw [nk_eqds]
  exact q
theorem any_eqv (ks : List NestedKey) (k : NestedKey) : ((NestedKey.datas ks).any fun z => PyData.eqv z k.data) = decide (k ∈ ks) := by
  induction ks with
  | nil => simp [NestedKey.datas]
  | cons l r ih =>
    simp only [NestedKey.datas, List.any_cons]
    rw [ih, nk_eqd]
    by_cases e : l = k
    · subst e; simp
    · have e' : ¬ k = l := fun z => e z.symm
      simp [e, e', List.mem_cons]
/-- k in seq, k not in seq; seq a list or a tuple -/
def rInN (K : PySem.W.Frag) (neg : Bool) : R2 := fun x y H Q => ∃ k ks a vs, Nk K H k x ∧ y = .ref a ∧ (SqL K H a vs ∨ SqT K H a vs) ∧ NkAll K H ks vs ∧ k.depth ≤ 60 ∧ Q (.bl (if neg then !decide (k ∈ ks) else decide (k ∈ ks))) H
theorem in_room {A : Around} {ks : List NestedKey} {k : NestedKey} (hd : k.depth ≤ 60) (hu : A.units + 64 < cLine) : A.units + 1 + min (PyData.depthAll (NestedKey.datas ks)) k.data.depth < cLine := by
  have h1 : min (PyData.depthAll (NestedKey.datas ks)) k.data.depth ≤ k.data.depth := Nat.min_le_right _ _
  rw [nk_depth] at h1
  rw [nk_depth]
  omega
theorem op_inN (hu : X.A.units + 64 < cLine) : OpR X (compareOp .In) (rInN X.K false) := by
  intro pins s σ H x y v u Q I rx ry h
  obtain ⟨k, ks, a, vs, hk, rfl, hs, hn, dk, q⟩ := h
  obtain ⟨as, r1⟩ := Dp.reads I k.data x v (Nk.dp k x hk) rx
  have q' : EP X pins σ Q (.bool ((NestedKey.datas ks).any fun z => PyData.eqv z k.data)) s := ⟨.bl _, H, I, rfl, by rw [any_eqv]; exact q⟩
  rcases hs with hs | hs
  · obtain ⟨bs, r2⟩ := Dp.reads I (.list (NestedKey.datas ks)) _ u (.lst hs (NkAll.dp ks vs hn)) ry
    exact SeqAt.in_list_reads r2 r1 hn.lay hk.lay (in_room dk hu) q'
  · obtain ⟨bs, r2⟩ := Dp.reads I (.tuple (NestedKey.datas ks)) _ u (.tup hs (NkAll.dp ks vs hn)) ry
    exact SeqAt.in_tuple_reads r2 r1 hn.lay hk.lay (in_room dk hu) q'
theorem op_notInN (hu : X.A.units + 64 < cLine) : OpR X (compareOp .NotIn) (rInN X.K true) := by
  intro pins s σ H x y v u Q I rx ry h
  obtain ⟨k, ks, a, vs, hk, rfl, hs, hn, dk, q⟩ := h
  obtain ⟨as, r1⟩ := Dp.reads I k.data x v (Nk.dp k x hk) rx
  have q' : EP X pins σ Q (.bool (!(NestedKey.datas ks).any fun z => PyData.eqv z k.data)) s := ⟨.bl _, H, I, rfl, by rw [any_eqv]; exact q⟩
  rcases hs with hs | hs
  · obtain ⟨bs, r2⟩ := Dp.reads I (.list (NestedKey.datas ks)) _ u (.lst hs (NkAll.dp ks vs hn)) ry
    exact SeqAt.notIn_list_reads r2 r1 hn.lay hk.lay (in_room dk hu) q'
  · obtain ⟨bs, r2⟩ := Dp.reads I (.tuple (NestedKey.datas ks)) _ u (.tup hs (NkAll.dp ks vs hn)) ry
    exact SeqAt.notIn_tuple_reads r2 r1 hn.lay hk.lay (in_room dk hu) q'
end

/-! ### len, list, sorted -/
mutual
theorem nk_noList {h : Heap} : ∀ {k : NestedKey} {u : Value} {as : List Addr}, Reads h u k.data as → as = []
  | .none, _, _, r => by simp only [NestedKey.data] at r; cases r; rfl
  | .num _, _, _, r => by simp only [NestedKey.data] at r; cases r; rfl
  | .text _, _, _, r => by simp only [NestedKey.data] at r; cases r; rfl
  | .tup ks, _, _, r => by
    simp only [NestedKey.data] at r
    cases r with
    | tuple h1 h2 h3 h4 => exact nk_noLists (ks := ks) h4
theorem nk_noLists {h : Heap} : ∀ {ks : List NestedKey} {us : List Value} {as : List Addr}, ReadsAll h us (NestedKey.datas ks) as → as = []
  | [], _, _, r => by simp only [NestedKey.datas] at r; cases r; rfl
  | k :: ks, _, _, r => by
    simp only [NestedKey.datas] at r
    cases r with
    | cons h1 h2 => rw [nk_noList (k := k) h1, nk_noLists (ks := ks) h2]; rfl
end
section
variable {X : Cx} {pins : List (Addr × Obj)} {σ : St} {H : Hp} {s : Shared}
/-- values that stand for the keys -/
theorem each_of (I : Inv X pins σ H s) : ∀ {ks : List NestedKey} {vs : List V} {us : List Value}, NkAll X.K H ks vs → Vals vs us → PySem.W.EachIs (fun u k => ∃ v, RelV v u ∧ Nk X.K H k v) us ks
  | _, _, _, .nil, .nil => .nil
  | _, _, _, .cons h t, .cons r rs => .cons ⟨_, r, h⟩ (each_of I t rs)
theorem of_each : ∀ {ks : List NestedKey} {us : List Value}, PySem.W.EachIs (fun u k => ∃ v, RelV v u ∧ Nk X.K H k v) us ks → ∃ vs, Vals vs us ∧ NkAll X.K H ks vs
  | _, _, .nil => ⟨[], .nil, .nil⟩
  | _, _, .cons ⟨v, r, h⟩ t => by
    obtain ⟨vs, h1, h2⟩ := of_each t
    exact ⟨v :: vs, .cons r h1, .cons h h2⟩
theorem each_reads (I : Inv X pins σ H s) {h' : Heap} (kp : ∀ b o, s.heap.get? b = some o → h'.get? b = some o) {ks : List NestedKey} {us : List Value} (e : PySem.W.EachIs (fun u k => ∃ v, RelV v u ∧ Nk X.K H k v) us ks) :
    PySem.W.EachIs (fun u k => ∃ as, Reads h' u k.data as) us ks :=
  e.mono fun u k ⟨v, r, h⟩ => by
    obtain ⟨as, q⟩ := Dp.reads I k.data v u (Nk.dp k v h) r
    exact ⟨as, PyProof.Rows.Reads.keeps kp q⟩
/-- list.sort of a new list that holds the keys: the rest of sorted(..) -/
theorem sort_made {E : Value → Shared → Prop} {ks : List NestedKey} {us : List Value} {A : Around} {Q : Value → Shared → Prop} (I1 : Inv X pins σ H s)
    (e : PySem.W.EachIs (fun u k => ∃ v, RelV v u ∧ Nk X.K H k v) us ks) (ok : SrtOk ks) (hz : ks.length ≤ sizeLine) (hu : ∀ k ∈ ks, A.units + 1 + k.depth < cLine)
    (q : ∀ s' vs', Inv X pins σ (upd H s.heap.objs.size (.lst vs')) s' → NkAll X.K H (srtN ks) vs' → Q .none s') :
    wpAny (model X.prog X.w) A (call (.builtin "list.sort") [.ref s.heap.objs.size]) Q E { s with heap := s.heap.push (seqObj "list" us.toArray 0) } := by
  have hob : (s.heap.push (seqObj "list" us.toArray 0)).get? s.heap.objs.size = some (seqObj "list" us.toArray 0) := Heap.get?_push_size _ rfl
  have kq : ∀ b o, s.heap.get? b = some o → (s.heap.push (seqObj "list" us.toArray 0)).get? b = some o := fun b o e => Heap.get?_push_of_some _ e
  have ne : ∀ (k : NestedKey) (v : V) (u : Value), Nk X.K H k v → RelV v u → ∃ as, Reads s.heap u k.data as ∧ s.heap.objs.size ∉ as := by
    intro k v u hk r
    obtain ⟨as, q1⟩ := Dp.reads I1 k.data v u (Nk.dp k v hk) r
    refine ⟨as, q1, ?_⟩
    have := nk_noList q1
    rw [this]
    simp
  refine PySem.W.list_sort_data (enc := NestedKey.data) (s := { s with heap := s.heap.push (seqObj "list" us.toArray 0) }) hob e ?_ ok.1 ok.2 hz (fun k hk => by rw [nk_depth]; exact hu k hk) fun out hl ho => ?_
  · exact e.mono fun u k ⟨v, r, h⟩ => by
      obtain ⟨as, q1, q2⟩ := ne k v u h r
      exact ⟨as, PyProof.Rows.Reads.keeps kq q1, q2⟩
  · obtain ⟨vs', r', n'⟩ := of_each ho
    obtain ⟨c, hc⟩ := sortedHeap_at (vs := us) (out := out.toArray) hob
    have lv : vs'.length ≤ sizeLine := by
      have := n'.length
      rw [this]
      show (srtN ks).length ≤ sizeLine
      rw [srtN_length]; exact hz
    refine q _ vs' (I1.laid (a := s.heap.objs.size) (o := .lst vs') (t' := s.toks) (fun b o eb => ?_) (Nat.le_refl _) (show ObjOk X.prog X.w _ _ _ (.lst vs') from ⟨lv, out, c, r', hc⟩)) n'
    have hb : b < s.heap.objs.size := Heap.lt_size eb
    rw [sortedHeap_old (Nat.ne_of_lt hb) (by rw [size_push']; exact Nat.lt_succ_of_lt hb)]
    exact Heap.get?_push_of_some _ eb
end
end L2
end
section
set_option linter.all false
set_option maxRecDepth 100000
set_option maxHeartbeats 1000000
/- NkD: sorted, list, len as calls over nested data. -/
namespace L2
open PySem PySem.Spec PyProof.Rows
section
variable {X : Cx}
/-- sorted(xs) of a list of nested data -/
def rNSortL (K : PySem.W.Frag) (A : Around) : List V → Hp → VK → Prop := fun xs H Q => ∃ a ks vs, xs = [.ref a] ∧ SqL K H a vs ∧ NkAll K H ks vs ∧ SrtOk ks ∧ (∀ k ∈ ks, k.depth ≤ 40) ∧
  ∀ p H' vs', H p = none → H' p = some (.lst vs') → NkAll K H' (srtN ks) vs' → At1 p H H' → Same H H' → Q (.ref p) H'
theorem same_upd {H : Hp} {p : Addr} {o : HO} (hn : H p = none) : Same H (upd H p o) := fun b u e => by rw [upd_ne (ne_of_none e hn)]; exact e
theorem cr_nsortL (hu : X.A.units + 64 < cLine) : CallR X (.builtin "sorted") (rNSortL X.K X.A) := by
  intro pins s σ H xs us Q I r h
  obtain ⟨a, ks, vs, rfl, hs, hn, ok, hd, q⟩ := h
  obtain ⟨u, rfl, ru⟩ := vals1 r
  cases ru
  obtain ⟨its, rv, hl, hz⟩ := I.list hs
  have e := each_of I hn rv
  have hlen : ks.length ≤ sizeLine := by rw [← hn.length]; exact hz
  refine PySem.W.sorted_data (enc := NestedKey.data) hl.isList e (each_reads I (fun _ _ z => z) e) ok.1 ok.2 hlen (fun k hk => by rw [nk_depth]; have := hd k hk; omega) fun out hl ho => ?_
  obtain ⟨vs', r', n'⟩ := of_each ho
  obtain ⟨c, hc⟩ := sortedAll_at s.heap its out.toArray
  have lv : vs'.length ≤ sizeLine := by
    rw [n'.length]
    show (srtN ks).length ≤ sizeLine
    rw [srtN_length]; exact hlen
  have hno := I.hok.fresh (Nat.le_succ s.heap.objs.size)
  exact ⟨.ref _, upd H (s.heap.objs.size + 1) (.lst vs'), I.laid (t' := s.toks) (fun _ _ => sortedAll_old) (Nat.le_succ _) ⟨lv, out, c, r', hc⟩, rfl, q _ _ vs' hno upd_same (NkAll.tk (Tk.new hno) _ _ n') At1.wr (same_upd hno)⟩
/-- the keys of a dict, as collected -/
theorem keys_each {pins : List (Addr × Obj)} {σ : St} {H : Hp} {s : Shared} {l : List (NestedKey × Addr × V)} {xs : List (NestedKey × Addr × Value)} {es : Array DictEntry} {acc : Array Value} (r : NR l xs) (he : es.toList = xs.map (entryOfKey (nestedKind X.prog X.w)))
    (hk : ∀ p ∈ l, Nk X.K H p.1 (.ref p.2.1) ∧ p.1.depth ≤ 8) (hacc : acc.size = es.size) (hi : ∀ (i : Nat) (v : Value), acc[i]? = some v → ∃ en : DictEntry, es[i]? = some en ∧ v = en.key) :
    acc.toList = (l.map fun p => p.2.1).map Value.ref ∧ NkAll X.K H (l.map (·.1)) ((l.map fun p => p.2.1).map V.ref) := by
  have l1 : es.size = xs.length := size_of_entries he
  have ea : acc.toList = xs.map fun x => Value.ref x.2.1 := by
    have hl : acc.toList.length = xs.length := by rw [Array.length_toList, hacc]; exact l1
    apply List.ext_getElem?
    intro j
    rw [List.getElem?_map]
    cases hj : acc.toList[j]? with
    | none =>
      have h1 := List.getElem?_eq_none_iff.mp hj
      rw [List.getElem?_eq_none (by omega)]
      all_goals rfl
    | some v =>
      obtain ⟨en, hen, hv⟩ := hi j v (by rw [← Array.getElem?_toList]; exact hj)
      have qe := entry_at he j
      rw [hen] at qe
      cases hb : xs[j]? with
      | none =>
        rw [hb] at qe
        exact nomatch (show some en = none from qe)
      | some b =>
        rw [hb] at qe
        have e2 : en = entryOfKey (nestedKind X.prog X.w) b := Option.some.inj qe
        rw [hv, e2]
        all_goals rfl
  have eb : ∀ {l : List (NestedKey × Addr × V)} {xs : List (NestedKey × Addr × Value)}, NR l xs → (xs.map fun x => Value.ref x.2.1) = (l.map fun p => p.2.1).map Value.ref := by
    intro l xs r
    induction r with
    | nil => rfl
    | cons h t ih => rw [List.map_cons, List.map_cons, List.map_cons, ih, h.2.1]
  have en : ∀ l : List (NestedKey × Addr × V), (∀ p ∈ l, Nk X.K H p.1 (.ref p.2.1) ∧ p.1.depth ≤ 8) → NkAll X.K H (l.map (·.1)) ((l.map fun p => p.2.1).map V.ref) := by
    intro l
    induction l with
    | nil => intro _; exact .nil
    | cons p r ih => intro h; exact .cons (h p List.mem_cons_self).1 (ih fun q hq => h q (List.mem_cons_of_mem _ hq))
  exact ⟨by rw [ea, eb r], en l hk⟩
/-- list(d) -/
def rNListD (P : Program) (w : World) (K : PySem.W.Frag) : List V → Hp → VK → Prop := fun xs H Q => ∃ a kvs, xs = [.ref a] ∧ DictN P w K H a kvs ∧
  ∀ p H' vs', H p = none → H' p = some (.lst vs') → NkAll K H' (kvs.map (·.1)) vs' → At1 p H H' → Same H H' → Q (.ref p) H'
theorem prs_keys (l : List (NestedKey × Addr × V)) : (prs l).map (·.1) = l.map (·.1) := by unfold prs; rw [List.map_map]; rfl
theorem cr_nlistD (hc : X.calm = true) : CallR X (.type "list") (rNListD X.prog X.w X.K) := by
  intro pins s σ H xs us Q I r h
  obtain ⟨a, kvs, rfl, d, q⟩ := h
  obtain ⟨u, rfl, ru⟩ := vals1 r
  cases ru
  obtain ⟨l, xs, _, e2, hk, hz, lo, rl, o, es, ep, ho, hx, hdt, he, hi, _⟩ := d.raw I
  subst e2
  have lx := rl.length
  have l1 : es.size = xs.length := size_of_entries he
  refine PySem.W.kdl_call (kdl_raw lo hx hdt) (I.ok.hd hc) ho (by omega) fun h' tk acc' c' kp e it => ?_
  obtain ⟨ea, na⟩ := keys_each (X := X) (pins := pins) (σ := σ) (H := H) (s := s) rl he hk it.1 it.2
  have hno := I.hok.fresh (Nat.le_refl s.heap.objs.size)
  have rv : Vals ((l.map fun p => p.2.1).map V.ref) acc'.toList := by rw [ea]; exact vals_refs _
  refine ⟨.ref s.heap.objs.size, _, I.laid (t' := tk) (o := .lst ((l.map fun p => p.2.1).map V.ref)) kp (Nat.le_refl _) ⟨by rw [List.length_map, List.length_map]; exact hz, acc'.toList, c', rv, by rw [Array.toArray_toList]; exact e⟩, rfl,
    q _ _ _ hno upd_same (by rw [prs_keys]; exact NkAll.tk (Tk.new hno) _ _ na) At1.wr (same_upd hno)⟩
/-- sorted(d) -/
def rNSortD (P : Program) (w : World) (K : PySem.W.Frag) : List V → Hp → VK → Prop := fun xs H Q => ∃ a kvs, xs = [.ref a] ∧ DictN P w K H a kvs ∧ SrtOk (kvs.map (·.1)) ∧
  ∀ p H' vs', H p = none → H' p = some (.lst vs') → NkAll K H' (srtN (kvs.map (·.1))) vs' → At1 p H H' → Same H H' → Q (.ref p) H'
theorem cr_nsortD (hc : X.calm = true) (hu : X.A.units + 64 < cLine) : CallR X (.builtin "sorted") (rNSortD X.prog X.w X.K) := by
  intro pins s σ H xs us Q I r h
  obtain ⟨a, kvs, rfl, d, ok, q⟩ := h
  obtain ⟨u, rfl, ru⟩ := vals1 r
  cases ru
  obtain ⟨l, xs, _, e2, hk, hz, lo, rl, o, es, ep, ho, hx, hdt, he, hi, _⟩ := d.raw I
  subst e2
  have lx := rl.length
  have l1 : es.size = xs.length := size_of_entries he
  refine Calls.call_function_entry PyProof.Rows.kind_sorted PyProof.Rows.plain_sorted PyProof.Rows.entry_sorted (PyProof.Rows.args_sorted1 _) ?_
  unfold Builtin.«sorted»
  refine wpAny_bind (m := checkCount "sorted" 1 1 _) (wpAny_pure ?_)
  refine wpAny_bind (PySem.W.kdu_collect (A := X.A.in1) (kdl_raw lo hx hdt) (I.ok.hd hc) ho (by omega) fun h' tk acc kp hacc => ?_)
  obtain ⟨ea, na⟩ := keys_each (X := X) (pins := pins) (σ := σ) (H := H) (s := s) rl he hk hacc.1 hacc.2
  have rv : Vals ((l.map fun p => p.2.1).map V.ref) acc.toList := by rw [ea]; exact vals_refs _
  have e := each_of I na rv
  have I1 : Inv X pins σ H { s with heap := h', toks := tk } := I.kept kp
  have hlen : (l.map (·.1)).length ≤ sizeLine := by rw [List.length_map]; exact hz
  refine wpAny_bind (wpAny_newList ?_ (by rw [ea, List.length_map, List.length_map]; exact hz))
  rw [prs_keys] at ok
  refine wpAny_bind (wpAny_holding (sort_made (s := { s with heap := h', toks := tk }) I1 e ok hlen (fun k hk' => ?_) fun s' vs' I' n' => ?_))
  · obtain ⟨p, hp, rfl⟩ := List.mem_map.mp hk'
    have := (hk p hp).2
    show X.A.units + 1 + 1 + p.1.depth < cLine
    omega
  · have hno := I1.hok.fresh (Nat.le_refl h'.objs.size)
    exact wpAny_pure ⟨_, rfl, .ref h'.objs.size, _, I', rfl, q _ _ vs' hno upd_same (by rw [prs_keys]; exact NkAll.tk (Tk.new hno) _ _ n') At1.wr (same_upd hno)⟩
/-- len(d) -/
def rNLen (P : Program) (w : World) (K : PySem.W.Frag) : List V → Hp → VK → Prop := fun xs H Q => ∃ a kvs, xs = [.ref a] ∧ DictN P w K H a kvs ∧ Q (.int kvs.length) H
theorem cr_nlen : CallR X (.builtin "len") (rNLen X.prog X.w X.K) := by
  intro pins s σ H xs us Q I r h
  obtain ⟨a, kvs, rfl, d, q⟩ := h
  obtain ⟨u, rfl, ru⟩ := vals1 r
  cases ru
  obtain ⟨l, xs, _, e2, hk, hz, lo, rl, m⟩ := d.raw I
  subst e2
  have lx := rl.length
  have lp : (prs l).length = xs.length := by unfold prs; rw [List.length_map]; exact lx
  have dk : s.heap.DictKeyed (nestedKind X.prog X.w) a (pairsH xs) := ⟨xs, m, rfl⟩
  have sz := sizeLine_eq
  refine PyProof.Rows.call_len_slot (n := (pairsH xs).length) dk.typeIs PySem.F.slot_dict_len (fun Q' hq => len_keyed lo dk hq) (by omega) (by rw [pairsH_length]; rw [sz] at hz; omega) ?_
  refine ⟨.int (prs l).length, H, I.tok _, ?_, q⟩
  rw [pairsH_length, lp]
  exact ⟨_, rfl⟩
end
end L2
end
section
set_option linter.all false
/- NkL: each slot of a set's table of 2^n slots is met by a search, for every n. -/
namespace L2
/-- the sums 1 + 5 + 25 + .. -/
def fv : Nat → Nat
  | 0 => 0
  | k + 1 => 5 * fv k + 1
theorem fv_pow (k : Nat) : 4 * fv k + 1 = 5 ^ k := by
  induction k with
  | zero => rfl
  | succ k ih =>
    have e : (5 : Nat) ^ (k + 1) = 5 ^ k * 5 := by rw [Nat.pow_succ]
    rw [e, ← ih]
    show 4 * (5 * fv k + 1) + 1 = _
    omega
theorem fv_add (a b : Nat) : fv (a + b) = 5 ^ b * fv a + fv b := by
  induction b with
  | zero => simp [fv]
  | succ b ih =>
    show 5 * fv (a + b) + 1 = 5 ^ (b + 1) * fv a + (5 * fv b + 1)
    rw [ih, Nat.pow_succ, Nat.mul_add, Nat.mul_comm (5 ^ b) 5, Nat.mul_assoc]
    omega
theorem fv_two (d : Nat) : fv (2 * d) = 2 * (fv d * (2 * fv d + 1)) := by
  rw [Nat.two_mul, fv_add, ← fv_pow d, Nat.add_mul, Nat.one_mul, Nat.mul_add, Nat.mul_one, Nat.mul_add]
  have e : 4 * fv d * fv d = 2 * (fv d * (2 * fv d)) := by
    rw [Nat.mul_assoc, ← Nat.mul_assoc (fv d) 2, Nat.mul_comm (fv d) 2, Nat.mul_assoc 2, ← Nat.mul_assoc 2 2]
  omega
theorem fv_par (d : Nat) : fv d % 2 = d % 2 := by
  induction d with
  | zero => rfl
  | succ d ih =>
    show (5 * fv d + 1) % 2 = (d + 1) % 2
    omega
theorem odd_dvd {n a b : Nat} (hb : b % 2 = 1) (h : 2 ^ n ∣ a * b) : 2 ^ n ∣ a := by
  have c : Nat.Coprime (2 ^ n) b := Nat.Coprime.pow_left n (by
    have g := Nat.gcd_dvd_left 2 b
    have g2 := Nat.gcd_dvd_right 2 b
    have : Nat.gcd 2 b ≤ 2 := Nat.le_of_dvd (by decide) g
    show Nat.gcd 2 b = 1
    rcases Nat.lt_or_ge (Nat.gcd 2 b) 2 with z | z
    · have : 0 < Nat.gcd 2 b := Nat.gcd_pos_of_pos_left b (by decide)
      omega
    · have e : Nat.gcd 2 b = 2 := by omega
      rw [e] at g2
      obtain ⟨q, hq⟩ := g2
      omega)
  exact c.dvd_of_dvd_mul_right h
theorem fv_dvd : ∀ n d : Nat, 2 ^ n ∣ fv d → 2 ^ n ∣ d
  | 0, d, _ => by rw [Nat.pow_zero]; exact Nat.one_dvd d
  | n + 1, d, h => by
    have he : 2 ∣ fv d := Nat.dvd_trans ⟨2 ^ n, by rw [Nat.pow_succ, Nat.mul_comm]⟩ h
    have hp := fv_par d
    have h0 : fv d % 2 = 0 := Nat.mod_eq_zero_of_dvd he
    obtain ⟨e, rfl⟩ : ∃ e, d = 2 * e := ⟨d / 2, by omega⟩
    rw [fv_two, Nat.pow_succ, Nat.mul_comm (2 ^ n) 2] at h
    have h1 : 2 ^ n ∣ fv e * (2 * fv e + 1) := Nat.dvd_of_mul_dvd_mul_left (by decide) h
    have h2 := odd_dvd (by omega) h1
    have h3 := fv_dvd n e h2
    rw [Nat.pow_succ, Nat.mul_comm (2 ^ n) 2]
    exact Nat.mul_dvd_mul_left 2 h3
/-- the walk without the remainders -/
theorem lcg_raw (n i k : Nat) : lcgI (2 ^ n - 1) i k % 2 ^ n = (5 ^ k * i + fv k) % 2 ^ n := by
  have hp : 2 ^ n - 1 + 1 = 2 ^ n := Nat.sub_add_cancel (Nat.one_le_two_pow)
  induction k with
  | zero => simp [lcgI, fv]
  | succ k ih =>
    show (lcgI (2 ^ n - 1) i k * 5 + 1) % (2 ^ n - 1 + 1) % 2 ^ n = _
    rw [hp, Nat.mod_mod]
    have e : 5 ^ (k + 1) * i + fv (k + 1) = (5 ^ k * i + fv k) * 5 + 1 := by
      show 5 ^ (k + 1) * i + (5 * fv k + 1) = _
      rw [Nat.pow_succ, Nat.mul_comm (5 ^ k) 5, Nat.mul_assoc]
      omega
    rw [e, Nat.add_mod, Nat.mul_mod, ih, ← Nat.mul_mod, ← Nat.add_mod]
theorem lcgI_le {m i : Nat} (hi : i ≤ m) : ∀ k, lcgI m i k ≤ m
  | 0 => hi
  | k + 1 => Nat.le_of_lt_succ (Nat.mod_lt _ (Nat.succ_pos _))
theorem lcgI_inj {n i a d : Nat} (hi : i ≤ 2 ^ n - 1) (hd : 0 < d) (hdn : d < 2 ^ n) : lcgI (2 ^ n - 1) i (a + d) ≠ lcgI (2 ^ n - 1) i a := by
  intro h
  have h1 : lcgI (2 ^ n - 1) i (a + d) % 2 ^ n = lcgI (2 ^ n - 1) i a % 2 ^ n := by rw [h]
  rw [lcg_raw, lcg_raw] at h1
  have e : 5 ^ (a + d) * i + fv (a + d) = (5 ^ a * i + fv a) + 5 ^ a * (fv d * (4 * i + 1)) := by
    rw [Nat.add_comm a d, fv_add, Nat.pow_add, ← fv_pow d]
    simp only [Nat.add_mul, Nat.mul_add, Nat.one_mul, Nat.mul_one]
    have q1 : 4 * fv d * 5 ^ a * i = 5 ^ a * (fv d * (4 * i)) := by
      rw [Nat.mul_comm (fv d) (4 * i), Nat.mul_comm (5 ^ a), Nat.mul_assoc 4 (fv d), Nat.mul_assoc 4, Nat.mul_assoc 4, Nat.mul_assoc 4]
      congr 1
      rw [Nat.mul_assoc, Nat.mul_comm (5 ^ a) i, ← Nat.mul_assoc, Nat.mul_comm (fv d) i]
    omega
  rw [e] at h1
  have h2 : (5 ^ a * (fv d * (4 * i + 1))) % 2 ^ n = 0 := by
    have h3 := Nat.sub_mod_eq_zero_of_mod_eq h1
    rw [Nat.add_sub_cancel_left] at h3
    exact h3
  have h3 := Nat.dvd_of_mod_eq_zero h2
  have odd5 : ∀ a, 5 ^ a % 2 = 1 := fun a => by have := fv_pow a; omega
  rw [Nat.mul_comm] at h3
  have h4 := odd_dvd (by omega) (odd_dvd (odd5 a) h3)
  have h5 := Nat.le_of_dvd hd (fv_dvd n d h4)
  omega
/-- from anywhere each slot is met within a round -/
theorem lcg_cov (n : Nat) {i j : Nat} (hi : i ≤ 2 ^ n - 1) (hj : j ≤ 2 ^ n - 1) : ∃ k, k ≤ 2 ^ n - 1 ∧ lcgI (2 ^ n - 1) i k = j := by
  have hp : 2 ^ n - 1 + 1 = 2 ^ n := Nat.sub_add_cancel (Nat.one_le_two_pow)
  rcases Classical.em (∃ k, k ≤ 2 ^ n - 1 ∧ lcgI (2 ^ n - 1) i k = j) with c | c
  · exact c
  exfalso
  let l := (List.range (2 ^ n)).map (lcgI (2 ^ n - 1) i)
  have nd : l.Nodup := by
    refine List.pairwise_map.mpr (List.Pairwise.imp_of_mem (fun {a b} ha hb hab e => ?_) (List.pairwise_lt_range (n := 2 ^ n)))
    have hb' : b < 2 ^ n := List.mem_range.mp hb
    have eb : b = a + (b - a) := by omega
    rw [eb] at e
    exact lcgI_inj hi (by omega) (by omega) e.symm
  have q := nat_nodup_len (j :: l) (List.range (2 ^ n)) (List.nodup_cons.mpr ⟨fun hm => ?_, nd⟩) fun x hx => ?_
  · rw [List.length_cons, List.length_map, List.length_range] at q
    omega
  · obtain ⟨k, hk, e⟩ := List.mem_map.mp hm
    exact c ⟨k, by have := List.mem_range.mp hk; omega, e⟩
  · rcases List.mem_cons.mp hx with z | z
    · rw [z]; exact List.mem_range.mpr (by omega)
    · obtain ⟨k, hk, e⟩ := List.mem_map.mp z
      rw [← e]
      exact List.mem_range.mpr (by have := lcgI_le hi k; omega)
end L2
end
section
set_option linter.all false
set_option maxRecDepth 100000
set_option maxHeartbeats 2000000
set_option autoImplicit false
/- NkS: sets of tuples of nested data, of some hundreds of members: the table, adding, set(..), len, sorted. -/
namespace L2
open PySem PySem.Spec PyProof.Rows

/-! ### the masks -/
def MkN (m : Nat) : Prop := ∃ n, 3 ≤ n ∧ n ≤ 12 ∧ m = 2 ^ n - 1
theorem MkN.bd {m : Nat} (h : MkN m) : 7 ≤ m ∧ m ≤ 4095 ∧ m % 2 = 1 := by
  obtain ⟨n, h1, h2, rfl⟩ := h
  have h3 : 2 ^ 3 ≤ 2 ^ n := Nat.pow_le_pow_right (by decide) h1
  have h4 : 2 ^ n ≤ 2 ^ 12 := Nat.pow_le_pow_right (by decide) h2
  have h5 : 2 ^ n % 2 = 0 := by
    obtain ⟨k, rfl⟩ : ∃ k, n = k + 1 := ⟨n - 1, by omega⟩
    rw [Nat.pow_succ]; omega
  omega
theorem runN {m : Nat} (hm : MkN m) (h : Int) {j : Nat} (hj : j ≤ m) : ∃ n, n ≤ m + 12 ∧ runI m (SetTable.bits h) n = j := by
  obtain ⟨n, _, _, e⟩ := id hm
  have h0 := runI_le m (SetTable.bits h) 12
  rw [e] at hj h0 ⊢
  obtain ⟨k, hk, q⟩ := lcg_cov n h0 hj
  exact ⟨12 + k, by omega, by rw [runI_tail (bits_lt h)]; exact q⟩
theorem wayN_le (m : Nat) (h : Int) (k : Nat) : way m h k ≤ m := by
  have hi : SetTable.bits h % (m + 1) ≤ m := Nat.le_of_lt_succ (Nat.mod_lt _ (Nat.succ_pos _))
  have r := runEnd_bd hi
  have start : (runAt m (SetTable.bits h % (m + 1)) (SetTable.bits h)).j + (runAt m (SetTable.bits h % (m + 1)) (SetTable.bits h)).more ≤ m := by
    show SetTable.bits h % (m + 1) + (SetTable.runEnd m (SetTable.bits h % (m + 1)) - SetTable.bits h % (m + 1)) ≤ m
    omega
  have := nth_in k _ start
  show (nth m (runAt m (SetTable.bits h % (m + 1)) (SetTable.bits h)) k).j ≤ m
  omega
theorem wayN_meets {m : Nat} (hm : MkN m) (h : Int) {j : Nat} (hj : j ≤ m) : ∃ k, k < 10 * SetTable.turns m ∧ way m h k = j := by
  obtain ⟨n, hn, e⟩ := runN hm h hj
  obtain ⟨k, hk, q⟩ := run_nth m (SetTable.bits h) n
  refine ⟨k, by unfold SetTable.turns; omega, ?_⟩
  show (nth m (runAt m (SetTable.bits h % (m + 1)) (SetTable.bits h)) k).j = j
  rw [q]; exact e

/-! ### the table -/
/-- every hash's slot is met on its way before an empty one -/
structure TabN (t : SetTable) (hs : List Int) : Prop where
  ris : Ris t.place.toList
  dm : t.dummies = #[]
  sz : t.place.toList.length = hs.length
  mok : MkN t.mask
  found : ∀ (i : Nat) (h : Int) (j : Nat), hs[i]? = some h → t.place.toList[i]? = some j → ∃ k, way t.mask h k = j ∧ ∀ k', k' < k → way t.mask h k' ∈ t.place.toList
theorem TabN.plain {t : SetTable} {hs : List Int} (T : TabN t hs) (b : Bool) : TabN { t with plain := b } hs := ⟨T.ris, T.dm, T.sz, T.mok, T.found⟩
theorem TabN.gap {t : SetTable} {hs : List Int} (T : TabN t hs) (hl : hs.length ≤ t.mask) (h : Int) : ∃ K, K < 10 * SetTable.turns t.mask ∧ way t.mask h K ∉ t.place.toList ∧ ∀ k, k < K → way t.mask h k ∈ t.place.toList := by
  obtain ⟨j, hj, hn⟩ := st_missing t.place.toList (t.mask + 1) (by rw [T.sz]; omega)
  obtain ⟨k, hk, e⟩ := wayN_meets T.mok h (Nat.le_of_lt_succ hj)
  obtain ⟨K, h1, h2, h3⟩ := st_least (p := fun k => way t.mask h k ∉ t.place.toList) k (by rw [e]; exact hn)
  exact ⟨K, Nat.lt_of_le_of_lt h1 hk, h2, fun k' hk' => Classical.byContradiction fun c => h3 k' hk' c⟩
theorem TabN.early {t : SetTable} {hs : List Int} (T : TabN t hs) {h : Int} {K i j : Nat} (hK : way t.mask h K ∉ t.place.toList) (hi : hs[i]? = some h) (hj : t.place.toList[i]? = some j) : ∃ k, k < K ∧ way t.mask h k = j := by
  obtain ⟨k, e, hb⟩ := T.found i h j hi hj
  refine ⟨k, ?_, e⟩
  rcases Nat.lt_trichotomy k K with c | c | c
  · exact c
  · exact absurd (by rw [← c, e]; exact List.mem_of_getElem? hj) hK
  · exact absurd (hb K c) hK
/-- one more slot is taken -/
theorem TabN.put {t : SetTable} {hs : List Int} (T : TabN t hs) {h : Int} {K : Nat} (hK : way t.mask h K ∉ t.place.toList) (hb : ∀ k, k < K → way t.mask h k ∈ t.place.toList) {j : Nat} (hj : way t.mask h K = j) :
    SetTable.below t.place j ≤ hs.length ∧ TabN (t.put j).1 (hs.take (SetTable.below t.place j) ++ h :: hs.drop (SetTable.below t.place j)) ∧ (t.put j).1.fill = hs.length + 1 := by
  obtain ⟨c1, _, _⟩ := below_cut T.ris j
  have sz := T.sz
  have c2 : SetTable.below t.place j ≤ t.place.toList.length := by rw [Array.length_toList]; exact c1
  have c3 : SetTable.below t.place j ≤ hs.length := by rw [← sz]; exact c2
  have hnp : t.place[SetTable.below t.place j]? ≠ some j := fun e => hK (by rw [hj]; exact List.mem_of_getElem? (by rw [Array.getElem?_toList]; exact e))
  have pp := put_place t j
  have len : (t.put j).1.place.toList.length = hs.length + 1 := by rw [pp, len_ins _ c2, sz]
  have up : ∀ x, x ∈ t.place.toList → x ∈ (t.put j).1.place.toList := fun x hx => by rw [pp]; exact mem_ins.2 (.inr hx)
  refine ⟨c3, ⟨ris_insert T.ris hnp, put_dm T.dm j, by rw [len, len_ins _ c3], T.mok, fun i h' j' h1 h2 => ?_⟩, ?_⟩
  · rw [tins_get hs c3] at h1
    rw [pp, tins_get _ c2] at h2
    show ∃ k, way t.mask h' k = j' ∧ ∀ k', k' < k → way t.mask h' k' ∈ (t.put j).1.place.toList
    split at h1
    · rename_i z
      rw [if_pos z] at h2
      obtain ⟨k, e, y⟩ := T.found i h' j' h1 h2
      exact ⟨k, e, fun k' hk' => up _ (y k' hk')⟩
    · rename_i z
      rw [if_neg z] at h2
      split at h1
      · rename_i y
        rw [if_pos y] at h2
        cases h1
        cases h2
        exact ⟨K, hj, fun k' hk' => up _ (hb k' hk')⟩
      · rename_i y
        rw [if_neg y] at h2
        obtain ⟨k, e, x⟩ := T.found (i - 1) h' j' h1 h2
        exact ⟨k, e, fun k' hk' => up _ (x k' hk')⟩
  · show (t.put j).1.place.size + (t.put j).1.dummies.size = hs.length + 1
    rw [put_dm T.dm j, ← Array.length_toList, len]; rfl

/-! ### all laid anew -/
theorem freeN {m : Nat} (hm : MkN m) (owner : Array (Option Nat)) (h : Int) {j : Nat} (hj : j ≤ m) (hf : oAt owner j = none) :
    ∃ K, SetTable.layClean.free m owner (SetTable.turns m) (SetTable.bits h % (m + 1)) (SetTable.bits h) = some (way m h K) ∧ oAt owner (way m h K) = none ∧ ∀ k, k < K → oAt owner (way m h k) ≠ none := by
  obtain ⟨n, hn, e⟩ := runN hm h hj
  have at_n : way m h (off m (SetTable.bits h % (m + 1)) (SetTable.bits h) n) = j := by
    show (nth m (runAt m (SetTable.bits h % (m + 1)) (SetTable.bits h)) (off m (SetTable.bits h % (m + 1)) (SetTable.bits h) n)).j = j
    rw [nth_off, itL_run]; exact e
  obtain ⟨K, k1, k2, k3⟩ := st_least (p := fun k => oAt owner (way m h k) = none) (off m (SetTable.bits h % (m + 1)) (SetTable.bits h) n) (by rw [at_n]; exact hf)
  have k2' : oAt owner (way m h K) = none := k2
  refine ⟨K, free_spec m owner (SetTable.turns m) n _ _ K (by unfold SetTable.turns; omega) k1 (fun k hk => ?_) (by rw [k2']; rfl), k2', k3⟩
  cases z : oAt owner (way m h k) with
  | none => exact absurd z (k3 k hk)
  | some _ => rfl
theorem ownN {m : Nat} (hm : MkN m) {done : List Int} {owner : Array (Option Nat)} (W : Own m done owner) (hl : done.length ≤ m) (h : Int) :
    ∃ j, SetTable.layClean.free m owner (SetTable.turns m) (SetTable.bits h % (m + 1)) (SetTable.bits h) = some j ∧ Own m (done ++ [h]) (owner.setIfInBounds j (some done.length)) := by
  obtain ⟨ps, hps, hin⟩ := W.ps
  obtain ⟨j0, h0, hn0⟩ := st_missing ps (m + 1) (by omega)
  have j0le := Nat.le_of_lt_succ h0
  have hj0 : oAt owner j0 = none := Classical.byContradiction fun c => hn0 (hin j0 j0le c)
  obtain ⟨K, e1, e2, e3⟩ := freeN hm owner h j0le hj0
  have hjm := wayN_le m h K
  generalize hj : way m h K = j at *
  have hjs : j < owner.size := by rw [W.sz]; omega
  have self := oAt_set_self (some done.length) hjs
  have mono : ∀ i, oAt owner i ≠ none → oAt (owner.setIfInBounds j (some done.length)) i ≠ none := fun i hi => by
    by_cases c : i = j
    · rw [c, self]; exact Option.some_ne_none _
    · rw [oAt_set_ne _ c]; exact hi
  refine ⟨j, e1, ⟨by rw [Array.size_setIfInBounds]; exact W.sz, fun i k hi e => ?_, fun k hk => ?_, ⟨j :: ps, by simp [hps], fun i hi e => ?_⟩⟩⟩
  · by_cases c : i = j
    · rw [c, self] at e
      cases e
      exact ⟨h, K, by simp, by rw [hj]; exact c.symm, fun k' hk' => mono _ (e3 k' hk')⟩
    · rw [oAt_set_ne _ c] at e
      obtain ⟨h', K', a1, a2, a3⟩ := W.at_ i k hi e
      exact ⟨h', K', by rw [List.getElem?_append_left (List.getElem?_eq_some_iff.mp a1).1]; exact a1, a2, fun k' hk' => mono _ (a3 k' hk')⟩
  · rw [List.length_append, List.length_singleton] at hk
    by_cases c : k < done.length
    · obtain ⟨i, hi, e⟩ := W.all k c
      exact ⟨i, hi, by rw [oAt_set_ne _ (fun z => by rw [z, e2] at e; cases e)]; exact e⟩
    · have ek : k = done.length := by omega
      rw [ek]
      exact ⟨j, hjm, self⟩
  · by_cases c : i = j
    · rw [c]; exact List.mem_cons_self
    · rw [oAt_set_ne _ c] at e
      exact List.mem_cons_of_mem _ (hin i hi e)
theorem layN {m : Nat} (hm : MkN m) : ∀ (rest done : List Int) (owner : Array (Option Nat)), Own m done owner → done.length + rest.length ≤ m →
    ∃ owner', rest.foldl (stepF m) (some (owner, done.length)) = some (owner', (done ++ rest).length) ∧ Own m (done ++ rest) owner'
  | [], done, owner, W, _ => ⟨owner, by simp, by rw [List.append_nil]; exact W⟩
  | h :: rest, done, owner, W, hl => by
    rw [List.length_cons] at hl
    obtain ⟨j, e, W'⟩ := ownN hm W (by omega) h
    have len : (done ++ [h]).length = done.length + 1 := by simp
    obtain ⟨owner', f, W2⟩ := layN hm rest (done ++ [h]) _ W' (by rw [len]; omega)
    rw [List.append_assoc] at f W2
    rw [len] at f
    exact ⟨owner', by rw [List.foldl_cons, stepF_some e]; exact f, W2⟩
theorem relaidN (t : SetTable) {hs : Array Int} {wanted M : Nat} (hw : SetTable.sizeAbove wanted - 1 = M) (hM : MkN M) (hn : hs.size ≤ M) :
    ∃ t' order, t.relaid hs wanted = some (t', order) ∧ order.toList.Perm (List.range hs.size) ∧ TabN t' (order.toList.map fun i => hs.getD i 0) ∧ t'.mask = M ∧ t'.led = t.led := by
  obtain ⟨owner, f, W⟩ := layN hM hs.toList [] _ (Own.init M) (by rw [Array.length_toList]; show 0 + hs.size ≤ M; omega)
  rw [List.nil_append] at W f
  have hr : t.relaid hs wanted = some (tabOf t M owner, ((liveOf M owner).map (·.2)).toArray) := by
    rw [relaid_eq, hw, layClean_eq]
    have f' : hs.toList.foldl (stepF M) (some (Array.replicate (M + 1) none, 0)) = some (owner, hs.toList.length) := f
    rw [f']; rfl
  have ris := ris_live (fun j => owner.getD j none) (List.range (M + 1)) (show Ris _ from List.pairwise_lt_range)
  have r1 : Ris ((liveOf M owner).map (·.1)) := ris.1
  have nd : ((liveOf M owner).map (·.1)).Nodup := List.Pairwise.imp (fun h => Nat.ne_of_lt h) r1
  have hz : hs.toList.length = hs.size := rfl
  have len : (liveOf M owner).length = hs.size := by
    obtain ⟨ps, p1, p2⟩ := W.ps
    have a := nat_nodup_len _ ps nd fun x hx => by
      obtain ⟨⟨y, k⟩, hq, rfl⟩ := List.mem_map.mp hx
      obtain ⟨b1, b2⟩ := (mem_live W.sz).1 hq
      exact p2 y b1 (by rw [b2]; exact Option.some_ne_none _)
    have b := nat_nodup_len (List.range hs.size) ((liveOf M owner).map (·.2)) List.nodup_range fun k hk => by
      obtain ⟨j, b1, b2⟩ := W.all k (by rw [hz]; exact List.mem_range.mp hk)
      exact List.mem_map.mpr ⟨(j, k), (mem_live W.sz).2 ⟨b1, b2⟩, rfl⟩
    rw [List.length_map, p1] at a
    rw [List.length_map, List.length_range] at b
    omega
  refine ⟨_, _, hr, perm_range hs.size _ (by show ((liveOf M owner).map (·.2)).length = _; rw [List.length_map]; exact len) fun k hk => ?_, ⟨r1, rfl, ?_, hM, fun i h j h1 h2 => ?_⟩, rfl, rfl⟩
  · obtain ⟨j, b1, b2⟩ := W.all k (by rw [hz]; exact hk)
    exact List.mem_map.mpr ⟨(j, k), (mem_live W.sz).2 ⟨b1, b2⟩, rfl⟩
  · show ((liveOf M owner).map (·.1)).length = (((liveOf M owner).map (·.2)).map fun i => hs.getD i 0).length
    simp
  · have h1' : (((liveOf M owner).map (·.2)).map fun i => hs.getD i 0)[i]? = some h := h1
    have h2' : ((liveOf M owner).map (·.1))[i]? = some j := h2
    rw [List.getElem?_map, List.getElem?_map] at h1'
    rw [List.getElem?_map] at h2'
    cases hq : (liveOf M owner)[i]? with
    | none => rw [hq] at h2'; cases h2'
    | some q =>
      obtain ⟨y, k⟩ := q
      rw [hq] at h1' h2'
      have ej : y = j := Option.some.inj h2'
      have eh : hs.getD k 0 = h := Option.some.inj h1'
      subst ej
      obtain ⟨b1, b2⟩ := (mem_live W.sz).1 (List.mem_of_getElem? hq)
      obtain ⟨h0, K, a1, a2, a3⟩ := W.at_ y k b1 b2
      have e0 : hs.getD k 0 = h0 := by rw [Array.getD_eq_getD_getElem?, ← Array.getElem?_toList, a1]; rfl
      rw [← eh, e0]
      refine ⟨K, a2, fun k' hk' => ?_⟩
      show way M h0 k' ∈ (liveOf M owner).map (·.1)
      cases z : oAt owner (way M h0 k') with
      | none => exact absurd z (a3 k' hk')
      | some k2 => exact List.mem_map.mpr ⟨(way M h0 k', k2), (mem_live W.sz).2 ⟨wayN_le M h0 k', z⟩, rfl⟩
/-- the sizes that a table grows to -/
theorem size_go : ∀ (f j w : Nat), w < 2 ^ (j + f) → ∃ i, j ≤ i ∧ SetTable.sizeAbove.go w f (2 ^ j) = 2 ^ i ∧ w < 2 ^ i ∧ (i = j ∨ 2 ^ i ≤ 2 * w)
  | 0, j, w, h => ⟨j, Nat.le_refl j, rfl, h, .inl rfl⟩
  | f + 1, j, w, h => by
    unfold SetTable.sizeAbove.go
    by_cases c : 2 ^ j ≤ w
    · rw [if_pos c, ← Nat.pow_succ]
      obtain ⟨i, h1, h2, h3, h4⟩ := size_go f (j + 1) w (by rw [show j + 1 + f = j + (f + 1) by omega]; exact h)
      refine ⟨i, by omega, h2, h3, .inr ?_⟩
      rcases h4 with h4 | h4
      · rw [h4, Nat.pow_succ]; omega
      · exact h4
    · rw [if_neg c]
      exact ⟨j, Nat.le_refl j, rfl, by omega, .inl rfl⟩
theorem size_above {u : Nat} (h1 : 2 ≤ u) (h2 : u ≤ 1001) : MkN (SetTable.sizeAbove (SetTable.grown u) - 1) ∧ SetTable.sizeAbove (SetTable.grown u) ≤ 4096 ∧ 4 * u < SetTable.sizeAbove (SetTable.grown u) := by
  have e : SetTable.grown u = u * 4 := by unfold SetTable.grown; rw [if_neg (by omega)]
  rw [e]
  have q : (2 : Nat) ^ 12 = 4096 := by decide
  have big : u * 4 < 2 ^ (3 + 64) := Nat.lt_of_lt_of_le (show u * 4 < 2 ^ 12 by omega) (Nat.pow_le_pow_right (by decide) (by decide))
  obtain ⟨i, a1, a2, a3, a4⟩ := size_go 64 3 (u * 4) big
  have a2' : SetTable.sizeAbove (u * 4) = 2 ^ i := a2
  have i12 : i ≤ 12 := by
    rcases a4 with z | z
    · omega
    · have q3 : (2 : Nat) ^ 13 = 8192 := by decide
      have y : 2 ^ i < 2 ^ 13 := by omega
      have := (Nat.pow_lt_pow_iff_right (a := 2) (by decide)).mp y
      omega
  have p12 : 2 ^ i ≤ 2 ^ 12 := Nat.pow_le_pow_right (by decide) i12
  rw [a2']
  exact ⟨⟨i, a1, i12, rfl⟩, by omega, by omega⟩
end L2
end
section
set_option linter.all false
set_option maxRecDepth 100000
set_option maxHeartbeats 4000000
set_option autoImplicit false
/- NkT: adding to sets of nested data. -/
namespace L2
open PySem PySem.Spec PyProof.Rows

abbrev IsN (P : Program) (w : World) (h : Heap) (k : NestedKey) (a : Addr) : Prop := (nestedKind P w).is h k a
theorem IsN.obj {P : Program} {w : World} {h : Heap} {k : NestedKey} {a : Addr} (x : IsN P w h k a) : ∃ o vs n ks, h.get? a = some o ∧ o.cls = .type "tuple" ∧ o.data = .seq vs n ∧ k = .tup ks ∧ NestedAll h ks vs.toList := by
  obtain ⟨x, _⟩ := x
  cases x with
  | tup h1 h2 h3 h4 => exact ⟨_, _, _, _, h1, h2, h3, rfl, h4⟩
section
variable {P : Program} {w : World} {A : Around} {E : Value → Shared → Prop} {s : Shared}
/-! ### small questions -/
mutual
theorem noClassN : ∀ (k : NestedKey) (n : Nat) (v : Value) (s : Shared) (Q : Bool → Shared → Prop), NestedIs s.heap k v → k.depth ≤ n → Q false s → wpAny (model P w) A (ofAClassStatement n v) Q E s
  | .none, n, _, _, _, h, _, q => by cases h; cases n <;> exact wpAny_pure q
  | .num _, n, _, _, _, h, _, q => by cases h <;> cases n <;> exact wpAny_pure q
  | .text _, n, _, _, _, h, _, q => by cases h; cases n <;> exact wpAny_pure q
  | .tup ks, n, _, s, Q, h, hd, q => by
    cases h with
    | tup h1 h2 h3 h4 =>
      rename_i a o vs m
      simp only [NestedKey.depth] at hd
      obtain ⟨n, rfl⟩ : ∃ j, n = j + 1 := ⟨n - 1, by omega⟩
      have hT : s.TypeIs (.ref a) "tuple" := ⟨o, h1, h2⟩
      unfold ofAClassStatement
      refine wpAny_bind (wpAny_typeOf hT ?_)
      dsimp only
      have e : (("tuple" : String) == "tuple") = true := by decide
      simp only [e, if_true, Bool.not_true, Bool.false_eq_true, if_false]
      try refine wpAny_bind (wpAny_pure ?_)
      try simp only [Bool.not_true, Bool.false_eq_true, if_false]
      show wpAny _ _ (seqItems? (.ref a) >>= _) _ _ s
      refine wpAny_bind (wpAny_seqItems h1 h3 ?_)
      dsimp only
      refine wpAny_bind ?_
      show wpAny _ _ (forIn vs _ _) _ _ s
      rw [← Array.forIn_toList]
      have each := noClassesN ks n vs.toList s h4 (by omega)
      refine wpAny_forIn_list _ (fun rest r s' => r.1 = none ∧ s' = s ∧ ∀ v ∈ rest, ∀ (Q : Bool → Shared → Prop), Q false s → wpAny (model P w) A (ofAClassStatement n v) Q E s) _ ?_ ?_ _ _ ⟨rfl, rfl, each⟩
      · rintro v rest r s' ⟨hr, rfl, all⟩
        refine wpAny_bind (all v List.mem_cons_self _ ?_)
        simp only [Bool.false_eq_true, if_false]
        exact wpAny_pure ⟨rfl, rfl, fun u hu => all u (List.mem_cons_of_mem _ hu)⟩
      · rintro ⟨r1, r2⟩ s' ⟨hr, rfl, _⟩
        simp only at hr
        subst hr
        exact wpAny_pure q
theorem noClassesN : ∀ (ks : List NestedKey) (n : Nat) (vs : List Value) (s : Shared), NestedAll s.heap ks vs → NestedKey.depthAll ks ≤ n → ∀ v ∈ vs, ∀ (Q : Bool → Shared → Prop), Q false s → wpAny (model P w) A (ofAClassStatement n v) Q E s
  | [], _, _, _, h, _ => by
    cases h
    intro v hv
    cases hv
  | k :: ks, n, _, s, h, hd => by
    cases h with
    | cons h1 h2 =>
      simp only [NestedKey.depthAll] at hd
      intro v hv Q q
      rcases List.mem_cons.mp hv with e | hv
      · rw [e]; exact noClassN k n _ s Q h1 (by omega) q
      · exact noClassesN ks n _ s h2 (by omega) v hv Q q
end
mutual
theorem byValueN : ∀ (k : NestedKey) (n : Nat) (v : Value) (s : Shared) (Q : Bool → Shared → Prop), NestedIs s.heap k v → (∀ b, Q b s) → wpAny (model P w) A (hashByValue n v) Q E s
  | .none, n, _, _, _, h, q => by cases h; cases n <;> exact wpAny_pure (q _)
  | .num _, n, _, _, _, h, q => by cases h <;> cases n <;> exact wpAny_pure (q _)
  | .text _, n, _, _, _, h, q => by cases h; cases n <;> exact wpAny_pure (q _)
  | .tup ks, n, _, s, Q, h, q => by
    cases h with
    | tup h1 h2 h3 h4 =>
      rename_i a o vs m
      cases n with
      | zero => exact wpAny_pure (q _)
      | succ n =>
        have hT : s.TypeIs (.ref a) "tuple" := ⟨o, h1, h2⟩
        unfold hashByValue
        refine wpAny_bind (wpAny_specialOf hT F.slot_tuple_hash.lookup ?_)
        show wpAny _ _ (seqItems? (.ref a) >>= _) _ _ s
        refine wpAny_bind (wpAny_seqItems h1 h3 ?_)
        refine wpAny_bind ?_
        show wpAny _ _ (forIn vs _ _) _ _ s
        rw [← Array.forIn_toList]
        have each := byValuesN ks n vs.toList s h4
        refine wpAny_forIn_list _ (fun rest r s' => r.1 = none ∧ s' = s ∧ ∀ v ∈ rest, ∀ (Q : Bool → Shared → Prop), (∀ b, Q b s) → wpAny (model P w) A (hashByValue n v) Q E s) _ ?_ ?_ _ _ ⟨rfl, rfl, each⟩
        · rintro v rest r s' ⟨hr, rfl, all⟩
          refine wpAny_bind (all v List.mem_cons_self _ fun b => ?_)
          cases b with
          | true =>
            simp only [Bool.not_true, Bool.false_eq_true, if_false]
            exact wpAny_pure ⟨rfl, rfl, fun u hu => all u (List.mem_cons_of_mem _ hu)⟩
          | false =>
            simp only [Bool.not_false, if_true]
            exact wpAny_pure (wpAny_pure (q false))
        · rintro ⟨r1, r2⟩ s' ⟨hr, rfl, _⟩
          simp only at hr
          subst hr
          exact wpAny_pure (q _)
theorem byValuesN : ∀ (ks : List NestedKey) (n : Nat) (vs : List Value) (s : Shared), NestedAll s.heap ks vs → ∀ v ∈ vs, ∀ (Q : Bool → Shared → Prop), (∀ b, Q b s) → wpAny (model P w) A (hashByValue n v) Q E s
  | [], _, _, _, h => by
    cases h
    intro v hv
    cases hv
  | k :: ks, n, _, s, h => by
    cases h with
    | cons h1 h2 =>
      intro v hv Q q
      rcases List.mem_cons.mp hv with e | hv
      · rw [e]; exact byValueN k n _ s Q h1 q
      · exact byValuesN ks n _ s h2 v hv Q q
end
theorem unseenN {k : NestedKey} {b : Addr} {Q : Bool → Shared → Prop} (hk : IsN P w s.heap k b) {ys : List Value} (hy : ∀ y ∈ ys, ∃ k' c, y = Value.ref c ∧ IsN P w s.heap k' c) (h : Q false s) :
    wpAny (model P w) A (searchCouldBeSeen (.ref b) ys) Q E s := by
  unfold searchCouldBeSeen
  refine wpAny_bind ?_
  refine wpAny_forIn_list _ (fun rest r s' => r.1 = none ∧ s' = s ∧ ∀ y ∈ rest, ∃ k' c, y = Value.ref c ∧ IsN P w s.heap k' c) _ ?_ ?_ _ _ ⟨rfl, rfl, hy⟩
  · rintro v rest r s' ⟨hr, rfl, all⟩
    obtain ⟨k', c, rfl, hc⟩ := all v List.mem_cons_self
    have more : ∀ y ∈ rest, ∃ k' c, y = Value.ref c ∧ IsN P w s'.heap k' c := fun u hu => all u (List.mem_cons_of_mem _ hu)
    dsimp only
    by_cases hv : (b == c || (carriedByValue (.ref b) && carriedByValue (.ref c))) = true
    · exact wp_if_pos hv (wpAny_pure ⟨rfl, rfl, more⟩)
    · refine wp_if_neg hv ?_
      refine wpAny_bind ((nestedKind P w).quiet hk ?_)
      simp only [Bool.not_true, Bool.false_eq_true, if_false]
      refine wpAny_bind ((nestedKind P w).quiet hc ?_)
      simp only [Bool.not_true, Bool.false_eq_true, if_false]
      refine wpAny_bind (noClassN k 8 _ _ _ hk.1 hk.2 ?_)
      simp only [Bool.false_eq_true, if_false]
      refine wpAny_bind (noClassN k' 8 _ _ _ hc.1 hc.2 ?_)
      simp only [Bool.false_eq_true, if_false]
      exact wpAny_pure ⟨rfl, rfl, more⟩
  · rintro ⟨r1, r2⟩ s' ⟨hr, rfl, _⟩
    simp only at hr
    subst hr
    exact wpAny_pure h

/-! ### the set -/
abbrev hN (w : World) (k : NestedKey) : Int := k.hash w
def rowsN (w : World) (L : List (Addr × NestedKey)) : List (Int × Value) := L.map fun p => (hN w p.2, Value.ref p.1)
structure SetNR (P : Program) (w : World) (h : Heap) (a : Addr) (L : List (Addr × NestedKey)) (es : Array (Int × Value)) (ep : Nat) (t : SetTable) : Prop where
  ob : ∃ o, h.get? a = some o ∧ o.ExactSet ∧ o.data = .set es ep t
  rows : es.toList = rowsN w L
  tab : TabN t (L.map fun p => hN w p.2)
  nd : (L.map (·.2)).Nodup
  tup : ∀ p ∈ L, IsN P w h p.2 p.1
  led : w.params.followText "set-order" = true ∨ t.led = true
  room : L.length * 5 < t.mask * 3
  few : L.length ≤ 1000
variable {a : Addr} {L : List (Addr × NestedKey)} {es : Array (Int × Value)} {ep : Nat} {t : SetTable}
theorem SetNR.size (R : SetNR P w s.heap a L es ep t) : es.size = L.length := by
  have h := congrArg List.length R.rows
  unfold rowsN at h
  rw [Array.length_toList, List.length_map] at h
  exact h
theorem fitsN {t : SetTable} {hs : List Int} {n : Nat} (T : TabN t hs) (e : hs.length = n) (h : n ≤ t.mask) : t.fits n = true := by
  have h1 := T.sz
  rw [Array.length_toList] at h1
  unfold SetTable.fits SetTable.fill
  rw [T.dm, Bool.and_eq_true, beq_iff_eq, decide_eq_true_eq]
  show t.place.size = n ∧ t.place.size + 0 ≤ t.mask
  omega
theorem SetNR.fits (R : SetNR P w s.heap a L es ep t) : t.fits es.size = true := by
  have := R.room
  have := R.tab.mok.bd
  exact fitsN R.tab (by rw [List.length_map, R.size]) (by rw [R.size]; omega)
theorem SetNR.entry (R : SetNR P w s.heap a L es ep t) {i : Nat} {p : Addr × NestedKey} (h : L[i]? = some p) : es[i]? = some (hN w p.2, Value.ref p.1) := by
  rw [← Array.getElem?_toList, R.rows]
  unfold rowsN
  rw [List.getElem?_map, h]; rfl
theorem gwN {t : SetTable} (m : MkN t.mask) : ¬ t.gaveWay = true := by
  unfold SetTable.gaveWay
  rw [m.bd.2.2]
  decide
/-- one look on the way, and on -/
theorem lookN (R : SetNR P w s.heap a L es ep t) {x : Addr} {k : NestedKey} (hx : IsN P w s.heap k x) (hu : A.units + 10 < cLine) {K : Nat} (hKf : K < 10 * SetTable.turns t.mask)
    (hK : way t.mask (hN w k) K ∉ t.place.toList) (hKb : ∀ c, c < K → way t.mask (hN w k) c ∈ t.place.toList) {Q : SetFound → Shared → Prop}
    (hin : k ∈ L.map (·.2) → Q (.there none) s) (hout : k ∉ L.map (·.2) → Q (.free (way t.mask (hN w k) K) false) s) :
    ∀ (f c : Nat) (stand : Option SetTable.Probe), stand.getD (t.probeStart (hN w k)) = nth t.mask (runAt t.mask (SetTable.bits (hN w k) % (t.mask + 1)) (SetTable.bits (hN w k))) c → c ≤ K → K - c < f →
      (∀ (i : Nat) p, L[i]? = some p → p.2 = k → ∃ c', c ≤ c' ∧ c' < K ∧ t.place.toList[i]? = some (way t.mask (hN w k) c')) →
      wpAny (model P w) A (setSearchFrom a (.ref x) (hN w k) true f stand) Q E s
  | 0, c, stand, _, _, hf, _ => absurd hf (Nat.not_lt_zero _)
  | f + 1, c, stand, hst, hc, hf, hre => by
    obtain ⟨o, ho, hex, hd⟩ := R.ob
    generalize hh : hN w k = h at *
    generalize hst0 : runAt t.mask (SetTable.bits h % (t.mask + 1)) (SetTable.bits h) = st0 at *
    have way_e : ∀ q, way t.mask h q = (nth t.mask st0 q).j := fun q => by rw [← hst0]
    rw [setSearchFrom_succ]
    refine wpAny_bind (wpAny_setState_of ho hd R.fits ?_)
    dsimp only
    refine wp_if_neg (gwN R.tab.mok) ?_
    try refine wpAny_bind (wpAny_pure ?_)
    have dn : ∀ (n : Nat) (p : SetTable.Probe), p.dummy = none → (nth t.mask p n).dummy = none := by
      intro n
      induction n with
      | zero => intro p h; exact h
      | succ n ih =>
        intro p hp
        refine ih (adv t.mask p) ?_
        unfold adv
        split <;> exact hp
    have sh : ∀ q, nth t.mask (nth t.mask st0 c) q = nth t.mask st0 (c + q) := fun q => (nth_add t.mask c _ q).symm
    have spec := go_spec t R.tab.ris R.tab.dm (fun i => (es[i]?.map (·.1)).getD 0) h (10 * SetTable.turns t.mask) (K - c) (nth t.mask st0 c) (dn c _ (by rw [← hst0]; rfl)) (by omega)
      (fun q hq => by rw [sh, ← way_e]; exact hKb (c + q) (by omega)) (by rw [sh, show c + (K - c) = K by omega, ← way_e]; exact hK)
    have hashAt : ∀ (i : Nat) p, L[i]? = some p → (es[i]?.map (·.1)).getD 0 = hN w p.2 := fun i p hp => by rw [R.entry hp]; rfl
    -- none of those that are k is passed
    rcases spec with ⟨q, i, hq, hi, hhi, hno, hpr⟩ | ⟨hno, hpr⟩
    · rw [sh] at hi hpr
      rw [sh] at hpr
      have hpr' : t.probe (fun i => (es[i]?.map (·.1)).getD 0) h (stand.getD (t.probeStart h)) = some (.candidate (nth t.mask st0 (c + q)).j i (nth t.mask st0 (c + (q + 1)))) := by
        rw [hst]; exact hpr
      rw [hpr']
      dsimp only
      have sz := R.tab.sz
      rw [List.length_map] at sz
      have hil : i < L.length := by
        have h1 : i < t.place.toList.length := (List.getElem?_eq_some_iff.mp hi).1
        omega
      have hp : L[i]? = some L[i] := List.getElem?_eq_getElem hil
      generalize L[i] = p at hp
      have hmem : p ∈ L := List.mem_of_getElem? hp
      have hpt := R.tup p hmem
      have rest : wpAny (model P w) A (searchRest a (.ref x) h true f es t (nth t.mask st0 (c + q)).j i (nth t.mask st0 (c + (q + 1)))) Q E s := by
        unfold searchRest
        rw [R.entry hp]
        dsimp only
        refine wpAny_bind (wpAny_holding ((nestedKind P w).eqBool (show A.units + 8 < cLine by omega) hpt hx ?_))
        refine wpAny_bind (wpAny_setState_of ho hd R.fits ?_)
        dsimp only
        by_cases hkk : p.2 = k
        · exact wp_if_pos (by simp [hkk]) (wpAny_pure (hin (List.mem_map.mpr ⟨p, hmem, hkk⟩)))
        · refine wp_if_neg (by simp [hkk]) ?_
          try refine wpAny_bind (wpAny_pure ?_)
          rw [sameMem]
          dsimp only
          have hsl : t.slot (nth t.mask st0 (c + q)).j = .live i := slot_live R.tab.ris hi
          simp only [if_true, hsl, R.entry hp]
          refine wpAny_bind (wpAny_isSame_ref_self (wpAny_bind (wpAny_pure ?_)))
          simp only [if_true]
          refine wp_if_neg (by simp [hkk]) ?_
          subst hh
          subst hst0
          refine lookN R hx hu hKf hK hKb hin hout f (c + (q + 1)) _ rfl (by omega) (by omega) fun i0 p0 h0 hk0 => ?_
          obtain ⟨c', a1, a2, a3⟩ := hre i0 p0 h0 hk0
          refine ⟨c', ?_, a2, a3⟩
          rcases Nat.lt_trichotomy c' (c + q) with z | z | z
          · exact absurd ((hashAt i0 p0 h0).trans (by rw [hk0])) (hno (c' - c) i0 (by omega) (by rw [sh, show c + (c' - c) = c' by omega]; exact a3))
          · subst z
            have s0 := slot_live R.tab.ris a3
            rw [show way t.mask (hN w k) (c + q) = (nth t.mask (runAt t.mask (SetTable.bits (hN w k) % (t.mask + 1)) (SetTable.bits (hN w k))) (c + q)).j from rfl, hsl] at s0
            injection s0 with s0
            subst s0
            rw [hp] at h0
            cases h0
            exact absurd hk0 hkk
          · omega
      by_cases hl : t.led = true
      · refine wp_if_neg (by simp [hl]) ?_
        try refine wpAny_bind (wpAny_pure ?_)
        exact rest
      · refine wp_if_pos (by simp [hl]) ?_
        refine wpAny_bind (unseenN hx (fun y hy => ?_) ?_)
        · obtain ⟨e, he, ee⟩ := List.mem_map.mp hy
          have he2 : e ∈ es.toList := by
            have he1 := he
            simp at he1
            simpa using he1.1
          rw [R.rows] at he2
          obtain ⟨p2, hp2, e2⟩ := List.mem_map.mp he2
          exact ⟨p2.2, p2.1, by rw [← ee, ← e2], R.tup p2 hp2⟩
        · refine wp_if_neg (by decide) ?_
          try refine wpAny_bind (wpAny_pure ?_)
          exact rest
    · rw [sh, show c + (K - c) = K by omega, ← way_e] at hpr
      have hpr' : t.probe (fun i => (es[i]?.map (·.1)).getD 0) h (stand.getD (t.probeStart h)) = some (.empty (way t.mask h K) none) := by
        rw [hst]; exact hpr
      rw [hpr']
      dsimp only
      refine wpAny_pure (hout fun hm => ?_)
      obtain ⟨p0, h0, hk0⟩ := List.mem_map.mp hm
      obtain ⟨i0, hi0, e0⟩ := List.getElem_of_mem h0
      have h00 : L[i0]? = some p0 := by rw [List.getElem?_eq_getElem hi0, e0]
      obtain ⟨c', a1, a2, a3⟩ := hre i0 p0 h00 hk0
      refine hno (c' - c) i0 (by omega) (by rw [sh, show c + (c' - c) = c' by omega, ← way_e]; exact a3) ?_
      exact (hashAt i0 p0 h00).trans (by rw [hk0]; exact hh)
theorem findN (R : SetNR P w s.heap a L es ep t) {x : Addr} {k : NestedKey} (hx : IsN P w s.heap k x) (hu : A.units + 10 < cLine) {Q : SetFound → Shared → Prop}
    (hin : k ∈ L.map (·.2) → Q (.there none) s)
    (hout : ∀ K, k ∉ L.map (·.2) → way t.mask (hN w k) K ∉ t.place.toList → (∀ c, c < K → way t.mask (hN w k) c ∈ t.place.toList) → Q (.free (way t.mask (hN w k) K) false) s) :
    wpAny (model P w) A (setSearch a (.ref x) (hN w k) true) Q E s := by
  have room := R.room
  have bd := R.tab.mok.bd
  obtain ⟨K, hKf, hK, hKb⟩ := R.tab.gap (by rw [List.length_map]; omega) (hN w k)
  have hbig : K < 100000 := by unfold SetTable.turns at hKf; omega
  unfold setSearch
  refine lookN R hx hu hKf hK hKb hin (fun hn => hout K hn hK hKb) 100000 0 none rfl (Nat.zero_le _) (by omega) fun i p hp hk => ?_
  have hi : (L.map fun p => hN w p.2)[i]? = some (hN w k) := by rw [List.getElem?_map, hp, ← hk]; rfl
  have sz := R.tab.sz
  rw [List.length_map] at sz
  have hil : i < t.place.toList.length := by
    have h1 : i < L.length := (List.getElem?_eq_some_iff.mp hp).1
    omega
  have hj := List.getElem?_eq_getElem hil
  obtain ⟨c, hc, e⟩ := R.tab.early hK hi hj
  exact ⟨c, Nat.zero_le _, hc, by rw [hj, e]⟩
end
end L2
end
section
set_option linter.all false
set_option maxRecDepth 100000
set_option maxHeartbeats 4000000
set_option autoImplicit false
/- NkU: adding to sets of nested data; set(xs). -/
namespace L2
open PySem PySem.Spec PyProof.Rows
section
variable {P : Program} {w : World} {A : Around} {E : Value → Shared → Prop} {s : Shared}
theorem isN_same {h h' : Heap} {k : NestedKey} {a b : Addr} {o : Obj} {es : Array (Int × Value)} {ep : Nat} {t : SetTable} (hb : IsN P w h k b) (ho : h.get? a = some o) (hd : o.data = .set es ep t) (hs : Heap.SameBut a h h') : IsN P w h' k b := by
  refine ⟨NestedIs.at (fun c ob vs n hc hx => ?_) k _ hb.1, hb.2⟩
  refine (hs.2 c fun e => ?_).trans hc
  subst e
  rw [ho] at hc
  cases hc
  rw [hd] at hx
  cases hx
theorem isN_keep {h h' : Heap} {k : NestedKey} {b : Addr} (x : IsN P w h k b) (hk : ∀ c o, h.get? c = some o → h'.get? c = some o) : IsN P w h' k b :=
  ⟨NestedIs.at (fun c ob vs n hc hx => hk c ob hc) k _ x.1, x.2⟩
theorem IsN.lt {h : Heap} {k : NestedKey} {b : Addr} (x : IsN P w h k b) : b < h.objs.size := by
  obtain ⟨o, _, _, _, h1, _⟩ := x.obj
  exact Heap.lt_size h1
theorem rowsN_put (L : List (Addr × NestedKey)) (p : Nat) (x : Addr) (k : NestedKey) : rowsN w (L.take p ++ (x, k) :: L.drop p) = (rowsN w L).take p ++ (hN w k, Value.ref x) :: (rowsN w L).drop p := by
  unfold rowsN
  rw [List.map_append, List.map_cons, List.map_take, List.map_drop]
theorem orderN (L : List (Addr × NestedKey)) (es : Array (Int × Value)) (order : Array Nat) (hr : es.toList = rowsN w L) (hp : order.toList.Perm (List.range L.length)) :
    ∃ L2, (order.filterMap (es[·]?)).toList = rowsN w L2 ∧ L2.Perm L ∧ (L2.map fun p => hN w p.2) = order.toList.map fun i => (es.map (·.1)).getD i 0 := by
  have hsz : es.size = L.length := by
    have h := congrArg List.length hr
    unfold rowsN at h
    rw [Array.length_toList, List.length_map] at h
    exact h
  have ent : ∀ i (h : i < L.length), es[i]? = some (hN w (L[i]).2, Value.ref (L[i]).1) := fun i h => by
    rw [← Array.getElem?_toList, hr]
    unfold rowsN
    rw [List.getElem?_map, List.getElem?_eq_getElem h] <;> rfl
  have key : ∀ l : List Nat, (∀ i ∈ l, i < L.length) → ∃ L2 : List (Addr × NestedKey), l.filterMap (fun i => es[i]?) = rowsN w L2 ∧ L2 = l.filterMap (fun i => L[i]?) ∧ (L2.map fun p => hN w p.2) = l.map fun i => (es.map (·.1)).getD i 0 := by
    intro l
    induction l with
    | nil => intro _; exact ⟨[], rfl, rfl, rfl⟩
    | cons i l ih =>
      intro hl
      have hi := hl i List.mem_cons_self
      obtain ⟨L2, e1, e2, e3⟩ := ih fun j hj => hl j (List.mem_cons_of_mem _ hj)
      refine ⟨L[i] :: L2, ?_, ?_, ?_⟩
      · rw [List.filterMap_cons_some (ent i hi), e1] <;> rfl
      · rw [List.filterMap_cons_some (List.getElem?_eq_getElem hi), e2]
      · rw [List.map_cons, List.map_cons, e3]
        have e4 : (es.map (·.1)).getD i 0 = hN w (L[i]).2 := by
          have e5 : (es.map (·.1))[i]? = some (hN w (L[i]).2) := by rw [Array.getElem?_map, ent i hi] <;> rfl
          simp [Array.getD_eq_getD_getElem?, e5]
        rw [e4]
  obtain ⟨L2, e1, e2, e3⟩ := key order.toList fun i hi => List.mem_range.mp (hp.mem_iff.mp hi)
  refine ⟨L2, by first | (rw [Array.toList_filterMap]; exact e1) | simpa using e1, ?_, e3⟩
  have h1 : L2.Perm ((List.range L.length).filterMap fun i => L[i]?) := by
    rw [e2]
    exact hp.filterMap _
  have h2 : (List.range L.length).filterMap (fun i => L[i]?) = L := by
    have key2 : ∀ n, n ≤ L.length → (List.range n).filterMap (fun i => L[i]?) = L.take n := by
      intro n
      induction n with
      | zero => intro _; rfl
      | succ n ih =>
        intro hn
        have hlt : n < L.length := hn
        rw [List.range_succ, List.filterMap_append, ih (Nat.le_of_lt hlt), List.take_succ, List.getElem?_eq_getElem hlt]
        rw [List.filterMap_cons_some (List.getElem?_eq_getElem hlt)] <;> rfl
    rw [key2 L.length (Nat.le_refl _), List.take_length]
  rw [h2] at h1
  exact h1
variable {a : Addr} {L : List (Addr × NestedKey)} {es : Array (Int × Value)} {ep : Nat} {t : SetTable}
/-- the table laid anew, larger -/
theorem relayN {o : Obj} (ho : s.heap.get? a = some o) (hex : o.ExactSet) (hd : o.data = .set es ep t) (hrows : es.toList = rowsN w L) (T0 : TabN t (L.map fun p => hN w p.2)) (hfl : es.size ≤ t.mask)
    (nd : (L.map (·.2)).Nodup) (tup : ∀ p ∈ L, IsN P w s.heap p.2 p.1) (ld : w.params.followText "set-order" = true ∨ t.led = true) (few : L.length ≤ 1000) {wanted M : Nat}
    (hw : SetTable.sizeAbove wanted - 1 = M) (hM : MkN M) (hw2 : SetTable.sizeAbove wanted ≤ 4096) (hn : L.length * 5 < M * 3) {Q : Unit → Shared → Prop}
    (hQ : ∀ h' L' es' ep' t', Heap.SameBut a s.heap h' → SetNR P w h' a L' es' ep' t' → L'.Perm L → Q () { s with heap := h' }) : wpAny (model P w) A (setRelay a wanted) Q E s := by
  have hsl : es.size = L.length := by
    have h := congrArg List.length hrows
    unfold rowsN at h
    rw [Array.length_toList, List.length_map] at h
    exact h
  have hfits : t.fits es.size = true := fitsN T0 (by rw [List.length_map, hsl]) hfl
  obtain ⟨t', order, e, hp, T, em, el⟩ := relaidN t (hs := es.map (·.1)) (wanted := wanted) hw hM (by rw [Array.size_map, hsl]; omega)
  rw [Array.size_map, hsl] at hp
  obtain ⟨L2, r1, r2, r3⟩ := orderN L es order hrows hp
  rw [← r3] at T
  have hs2 : (order.filterMap (es[·]?)).size = es.size := by
    have h := congrArg List.length r1
    unfold rowsN at h
    rw [Array.length_toList, List.length_map, r2.length_eq] at h
    rw [h, hsl]
  rw [setRelay_eq]
  refine wpAny_bind (wpAny_setState_of ho hd hfits ?_)
  dsimp only
  refine wp_if_neg (by rw [sizeLine_eq]; omega) ?_
  try refine wpAny_bind (wpAny_pure ?_)
  rw [e]
  dsimp only
  refine wpAny_bind ?_
  refine wp_if_neg (by rw [hs2]; simp) ?_
  try refine wpAny_bind (wpAny_pure ?_)
  refine wpAny_pure ?_
  dsimp only
  refine wpAny_storeSet_of ho hd ?_ (by rw [hs2, hsl, sizeLine_eq]; omega)
  have sb : Heap.SameBut a s.heap (s.heap.update a (Obj.putSet (order.filterMap (es[·]?)) t')) := Heap.SameBut.update ..
  refine hQ _ L2 (order.filterMap (es[·]?)) (ep + 1) t' sb ?_ r2
  refine ⟨⟨_, store_at ho hd, ⟨hex.1, hex.2.1, hex.2.2⟩, rfl⟩, r1, T, ?_, fun p hpm => isN_same (tup p (r2.mem_iff.mp hpm)) ho hd sb, by rw [el]; exact ld, ?_, by rw [r2.length_eq]; exact few⟩
  · exact (r2.map (·.2)).nodup_iff.mpr nd
  · rw [r2.length_eq, em]
    exact hn
/-- ADDING -/
theorem addN (R : SetNR P w s.heap a L es ep t) {x : Addr} {k : NestedKey} (hx : IsN P w s.heap k x) (hu : A.units + 10 < cLine) (hfew : L.length + 1 ≤ 1000) {Q : Bool → Shared → Prop}
    (hQ : ∀ b h' L' es' ep' t', Heap.SameBut a s.heap h' → SetNR P w h' a L' es' ep' t' → (k ∈ L.map (·.2) → L' = L) → (k ∉ L.map (·.2) → L'.Perm ((x, k) :: L)) → Q b { s with heap := h' }) :
    wpAny (model P w) A (setAddHashed a (.ref x) (hN w k)) Q E s := by
  obtain ⟨o, ho, hex, hd⟩ := R.ob
  have hsl := R.size
  have hroom := R.room
  have bd := R.tab.mok.bd
  unfold setAddHashed
  refine wpAny_holding ?_
  rw [show (100000 : Nat) = 99999 + 1 from rfl, setAddHashedIn_succ]
  refine wpAny_bind (wpAny_setState_of ho hd R.fits ?_)
  dsimp only
  refine wp_if_neg (by simp [byScan, Value.scannable]) ?_
  try refine wpAny_bind (wpAny_pure ?_)
  refine wpAny_bind (findN R hx hu (fun hm => ?_) fun K hm hK hb => ?_)
  · dsimp only
    exact wpAny_pure (hQ false s.heap L es ep t (Heap.SameBut.refl a s.heap) R (fun _ => rfl) fun z => absurd hm z)
  · dsimp only
    refine wpAny_bind (wpAny_setState_of ho hd R.fits ?_)
    dsimp only
    obtain ⟨q2, q3, q9⟩ := R.tab.put hK hb rfl
    have q1 : (t.put (way t.mask (hN w k) K)).2 = SetTable.below t.place (way t.mask (hN w k) K) := rfl
    have q4 : (t.put (way t.mask (hN w k) K)).1.mask = t.mask := rfl
    have q5 : (t.put (way t.mask (hN w k) K)).1.led = t.led := rfl
    generalize hpt : t.put (way t.mask (hN w k) K) = pt at q1 q3 q4 q5 q9 ⊢
    obtain ⟨t1, p⟩ := pt
    dsimp only at q1 q3 q4 q5 q9 ⊢
    subst q1
    have hin : (SetTable.insertAt es (SetTable.below t.place (way t.mask (hN w k) K)) (hN w k, Value.ref x)).toList = rowsN w (L.take (SetTable.below t.place (way t.mask (hN w k) K)) ++ (x, k) :: L.drop (SetTable.below t.place (way t.mask (hN w k) K))) := by
      rw [SetTable.toList_insertAt, rowsN_put, R.rows]
    generalize hpp : SetTable.below t.place (way t.mask (hN w k) K) = p at q2 q3 hin ⊢
    have pm := put_perm L p (x, k)
    have hlen : (L.take p ++ (x, k) :: L.drop p).length = L.length + 1 := pm.length_eq
    have hhs : (L.take p ++ (x, k) :: L.drop p).map (fun p => hN w p.2) = (L.map fun p => hN w p.2).take p ++ hN w k :: (L.map fun p => hN w p.2).drop p := by
      rw [List.map_append, List.map_cons, List.map_take, List.map_drop]
    rw [← hhs] at q3
    have nd1 : ((L.take p ++ (x, k) :: L.drop p).map (·.2)).Nodup := by
      refine (pm.map (·.2)).nodup_iff.mpr ?_
      rw [List.map_cons]
      exact List.nodup_cons.mpr ⟨hm, R.nd⟩
    have hes : (SetTable.insertAt es p (hN w k, Value.ref x)).size = L.length + 1 := by
      have h := congrArg List.length hin
      unfold rowsN at h
      rw [Array.length_toList, List.length_map, hlen] at h
      exact h
    generalize SetTable.insertAt es p (hN w k, Value.ref x) = es1 at hin hes ⊢
    generalize L.take p ++ (x, k) :: L.drop p = L1 at pm hlen q3 nd1 hin
    have onward : ∀ t2 : SetTable, TabN t2 (L1.map fun p => hN w p.2) → t2.mask = t.mask → t2.led = t.led →
        wpAny (model P w) A (storeSet a es1 t2 >>= fun _ => if (!false && t2.tooFull) = true then (setRelay a (SetTable.grown (es.size + 1)) >>= fun _ => pure true) else pure true) Q E s := by
      intro t2 T2 m2 l2
      refine wpAny_bind (wpAny_storeSet_of ho hd ?_ (by rw [hes, sizeLine_eq]; omega))
      have sb : Heap.SameBut a s.heap (s.heap.update a (Obj.putSet es1 t2)) := Heap.SameBut.update ..
      have ho1 := store_at (es' := es1) (t' := t2) ho hd
      generalize s.heap.update a (Obj.putSet es1 t2) = h1 at sb ho1 ⊢
      have tup1 : ∀ p ∈ L1, IsN P w h1 p.2 p.1 := fun p hp => by
        rcases List.mem_cons.mp (pm.mem_iff.mp hp) with e | hp
        · rw [e]; exact isN_same hx ho hd sb
        · exact isN_same (R.tup p hp) ho hd sb
      have ld1 : w.params.followText "set-order" = true ∨ t2.led = true := by rw [l2]; exact R.led
      have fl2 : t2.fill = L.length + 1 := by
        have h := T2.sz
        rw [Array.length_toList, List.length_map, hlen] at h
        unfold SetTable.fill
        rw [T2.dm]
        show t2.place.size + 0 = _
        omega
      by_cases hf : t2.tooFull = true
      · refine wp_if_pos (by simp [hf]) ?_
        refine wpAny_bind ?_
        rw [hsl]
        obtain ⟨z1, z2, z3⟩ := size_above (u := L.length + 1) (by
          have h := hf
          unfold SetTable.tooFull at h
          rw [decide_eq_true_eq, fl2] at h
          omega) (by omega)
        refine relayN (s := { s with heap := h1 }) ho1 ⟨hex.1, hex.2.1, hex.2.2⟩ rfl hin T2 (by rw [hes, m2]; omega) nd1 tup1 ld1 (by rw [hlen]; exact hfew) rfl z1 z2 (by rw [hlen]; omega) ?_
        intro h2 L2 es2 ep2 t2' sb2 R2 pm2
        exact wpAny_pure (hQ true h2 L2 es2 ep2 t2' (sb.trans sb2) R2 (fun z => absurd z hm) fun _ => pm2.trans pm)
      · refine wp_if_neg (by simp [hf]) ?_
        refine wpAny_pure (hQ true h1 L1 es1 (ep + 1) t2 sb ⟨⟨_, ho1, ⟨hex.1, hex.2.1, hex.2.2⟩, rfl⟩, hin, T2, nd1, tup1, ld1, ?_, by rw [hlen]; exact hfew⟩ (fun z => absurd z hm) fun _ => pm)
        have h := hf
        unfold SetTable.tooFull at h
        rw [decide_eq_true_eq, fl2] at h
        rw [hlen]
        omega
    by_cases hp1 : t1.plain = true
    · first
        | (refine wpAny_bind ?_; refine wp_if_pos hp1 ?_; refine byValueN k 8 _ _ _ hx.1 fun bv => ?_)
        | refine wp_if_pos hp1 (wpAny_bind (byValueN k 8 _ _ _ hx.1 fun bv => ?_))
      cases bv with
      | true => exact onward t1 q3 q4 q5
      | false => exact onward { t1 with plain := false } (q3.plain false) q4 q5
    · first
        | (refine wpAny_bind ?_; refine wp_if_neg hp1 ?_; refine wpAny_pure ?_)
        | refine wp_if_neg hp1 (wpAny_bind (wpAny_pure ?_))
      exact onward t1 q3 q4 q5
/-! ### set(xs) -/
structure GotN (ks : List (Addr × NestedKey)) (i : Nat) (L : List (Addr × NestedKey)) : Prop where
  sub : ∀ p ∈ L, p ∈ ks.take i
  all : ∀ p ∈ ks.take i, p.2 ∈ L.map (·.2)
  len : L.length ≤ i
theorem GotN.zero (ks : List (Addr × NestedKey)) : GotN ks 0 [] := ⟨fun p h => (by cases h), fun p h => (by simp at h), Nat.le_refl _⟩
theorem GotN.same {ks L : List (Addr × NestedKey)} {i : Nat} {x : Addr × NestedKey} (g : GotN ks i L) (h : ks[i]? = some x) (hm : x.2 ∈ L.map (·.2)) : GotN ks (i + 1) L := by
  refine ⟨fun p hp => ?_, fun p hp => ?_, Nat.le_succ_of_le g.len⟩
  · rw [take_next h]
    exact List.mem_append_left _ (g.sub p hp)
  · rw [take_next h] at hp
    rcases List.mem_append.mp hp with z | z
    · exact g.all p z
    · rw [List.mem_singleton.mp z]; exact hm
theorem GotN.more {ks L L' : List (Addr × NestedKey)} {i : Nat} {x : Addr × NestedKey} (g : GotN ks i L) (h : ks[i]? = some x) (pm : L'.Perm (x :: L)) : GotN ks (i + 1) L' := by
  refine ⟨fun p hp => ?_, fun p hp => ?_, ?_⟩
  · rw [take_next h]
    rcases List.mem_cons.mp (pm.mem_iff.mp hp) with e | z
    · rw [e]; exact List.mem_append_right _ (List.mem_singleton.mpr rfl)
    · exact List.mem_append_left _ (g.sub p z)
  · rw [(pm.map (·.2)).mem_iff, List.map_cons]
    rw [take_next h] at hp
    rcases List.mem_append.mp hp with z | z
    · exact List.mem_cons_of_mem _ (g.all p z)
    · rw [List.mem_singleton.mp z]; exact List.mem_cons_self
  · rw [pm.length_eq, List.length_cons]
    exact Nat.succ_le_succ g.len
theorem SetNR.keep {h h' : Heap} {a : Addr} {L : List (Addr × NestedKey)} {es : Array (Int × Value)} {ep : Nat} {t : SetTable} (R : SetNR P w h a L es ep t) (ha : ∀ o, h.get? a = some o → h'.get? a = some o) (ht : ∀ p ∈ L, IsN P w h' p.2 p.1) : SetNR P w h' a L es ep t := by
  obtain ⟨o, ho, r⟩ := R.ob
  exact ⟨⟨o, ha o ho, r⟩, R.rows, R.tab, R.nd, ht, R.led, R.room, R.few⟩
theorem setNR_fresh {h : Heap} {a : Addr} (ho : h.get? a = some { cls := .type "set", dict := none, data := .set #[] 0 (.fresh 0 0 (!w.params.followText "set-order")) }) : SetNR P w h a [] #[] 0 (.fresh 0 0 (!w.params.followText "set-order")) where
  ob := ⟨_, ho, ⟨rfl, rfl, rfl⟩, rfl⟩
  rows := rfl
  tab := ⟨List.Pairwise.nil, rfl, rfl, ⟨3, by omega, by omega, rfl⟩, fun i h j hi => (by simp at hi)⟩
  nd := List.nodup_nil
  tup := fun p hp => (by cases hp)
  led := by
    show _ ∨ (!w.params.followText "set-order") = true
    cases w.params.followText "set-order"
    · exact .inr rfl
    · exact .inl rfl
  room := by
    show 0 * 5 < 7 * 3
    decide
  few := by
    show 0 ≤ 1000
    decide
theorem set_updateN {I : Addr} {fp wr : List Addr} {G : Array GenState → Array GenState → Prop} {n : Nat} {Pv : Nat → Value → Prop} {St : Nat → Shared → Prop} {R : Result → Shared → Prop}
    (W : WalksS P w A.in1 I fp wr G n Pv St) (S : Addr) (hSf : S ∉ fp) (ks : List (Addr × NestedKey)) (hn : n = ks.length) (hfew : ks.length ≤ 1000) (hval : ∀ i v, Pv i v → ∃ p, ks[i]? = some p ∧ v = .ref p.1)
    (h0 : Heap) (hk : ∀ p ∈ ks, IsN P w h0 p.2 p.1) (hS0 : h0.get? S = none) (hw0 : ∀ b ∈ wr, h0.get? b = none) (hu : A.in1.units + 10 < cLine) :
    ∀ (k i : Nat) (s : Shared), n - i = k → i ≤ n → St i s → (∀ b o, h0.get? b = some o → s.heap.get? b = some o) → (∃ L es ep t, SetNR P w s.heap S L es ep t ∧ GotN ks i L) →
      (∀ s' L es ep t, Moved (S :: wr) G s s' → SetNR P w s'.heap S L es ep t → GotN ks n L → (∀ b o, h0.get? b = some o → s'.heap.get? b = some o) → R (.ok (.ret .none)) s') →
      codeAny (model P w) A (.builtin "set.update.loop" ⟨[.ref S, .ref I], []⟩) R s := by
  have hSw : S ∉ wr := fun h => hSf (W.sub _ h)
  have hsub : ∀ b ∈ wr, b ∈ S :: wr := fun b hb => List.mem_cons_of_mem _ hb
  have keepM : ∀ {s s' : Shared}, Moved wr G s s' → (∀ b o, h0.get? b = some o → s.heap.get? b = some o) → ∀ b o, h0.get? b = some o → s'.heap.get? b = some o := fun hm hkp b o e =>
    hm.heap b o (fun hb => by rw [hw0 b hb] at e; cases e) (hkp b o e)
  intro k
  induction k with
  | zero =>
    intro i s hk' hi hst hkp ⟨L, es, ep, t, hS, g⟩ hR
    have hin : i = n := by omega
    subst hin
    refine codeAny_builtin F.entry_set_update_loop ?_
    rw [Around.under_plainId F.plain_set_update_loop _]
    show wpAny _ A.in1 (pyNext (.ref I) >>= _) _ _ s
    refine wpAny_bind (W.done s _ _ hst fun s' hm => ?_)
    show wpAny _ A.in1 (ret Value.none) _ _ s'
    have hkp' := keepM hm hkp
    have sub : ∀ p ∈ L, p ∈ ks := fun p hp => List.mem_of_mem_take (g.sub p hp)
    exact wpAny_pure (hR s' L es ep t (hm.mono hsub) (hS.keep (fun o e => hm.heap S o hSw e) fun p hp => isN_keep (hk p (sub p hp)) hkp') g hkp')
  | succ k ih =>
    intro i s hk' hi hst hkp ⟨L, es, ep, t, hS, g⟩ hR
    have hlt : i < n := by omega
    refine codeAny_builtin F.entry_set_update_loop ?_
    rw [Around.under_plainId F.plain_set_update_loop _]
    show wpAny _ A.in1 (pyNext (.ref I) >>= _) _ _ s
    refine wpAny_bind (W.item i s _ _ hlt hst fun v s' hP hst' hm => ?_)
    obtain ⟨p, hp, rfl⟩ := hval i v hP
    have hkp' := keepM hm hkp
    have sub : ∀ p ∈ L, p ∈ ks := fun p hp => List.mem_of_mem_take (g.sub p hp)
    have hS' : SetNR P w s'.heap S L es ep t := hS.keep (fun o e => hm.heap S o hSw e) fun q hq => isN_keep (hk q (sub q hq)) hkp'
    have hx : IsN P w s'.heap p.2 p.1 := isN_keep (hk p (List.mem_of_getElem? hp)) hkp'
    show wpAny _ A.in1 (holding [Value.ref p.1] (setAdd S (.ref p.1)) >>= _) _ _ s'
    refine wpAny_bind (wpAny_holding ?_)
    unfold setAdd
    refine wpAny_holding ?_
    refine wpAny_bind ((nestedKind P w).pyHash (show A.in1.units + 8 < cLine by omega) hx ?_)
    refine addN (s := { s' with toks := s'.toks + (nestedKind P w).draws p.2 }) hS' hx hu (by have := g.len; omega) fun b h' L' es' ep' t' hsb hS2 c1 c2 => ?_
    have g' : GotN ks (i + 1) L' := by
      rcases Classical.em (p.2 ∈ L.map (·.2)) with c | c
      · rw [c1 c]; exact g.same hp c
      · exact g.more hp (c2 c)
    have hkp2 : ∀ b o, h0.get? b = some o → h'.get? b = some o := fun b o e => (hsb.2 b (fun z => by rw [z, hS0] at e; cases e)).trans (hkp' b o e)
    refine wpAny_pure ⟨plainId_quiet F.plain_set_update_loop _, ih (i + 1) _ (by omega) hlt (W.frame _ s' _ _ hst' (Nat.le_add_right _ _) fun b hb o e => ?_) hkp2 ⟨L', es', ep', t', hS2, g'⟩ fun s'' L2 es2 ep2 t2 hm'' hS'' g'' hkp'' => ?_⟩
    · rw [hsb.2 b (fun h : b = S => hSf (by rw [← h]; exact hb))]; exact e
    · refine hR s'' L2 es2 ep2 t2 (Moved.trans W.gtrans ((hm.mono hsub).then_heap (Nat.le_add_right _ _) fun b o hb e => ?_) hm'') hS'' g'' hkp''
      rw [hsb.2 b (fun h : b = S => hb (by rw [h]; exact List.mem_cons_self))]; exact e
end
end L2
end
section
set_option linter.all false
set_option maxRecDepth 100000
set_option maxHeartbeats 4000000
set_option autoImplicit false
/- NkV: set(xs) of nested data, len and sorted of it. -/
namespace L2
open PySem PySem.Spec PyProof.Rows
section
variable {P : Program} {w : World} {A : Around} {E : Value → Shared → Prop} {s : Shared}
theorem call_setNL {l : Addr} {items : Array Value} (ks : List (Addr × NestedKey)) {Q : Value → Shared → Prop} (hh : A.handled = none) (hl : s.heap.IsList l items) (hit : items.toList = ks.map fun p => Value.ref p.1)
    (hk : ∀ p ∈ ks, IsN P w s.heap p.2 p.1) (hfew : ks.length ≤ 1000) (hu : A.units + 20 < cLine)
    (h : ∀ (h' : Heap) (tk : Nat) L es ep t, SetNR P w h' s.heap.objs.size L es ep t → GotN ks ks.length L → (∀ b o, s.heap.get? b = some o → h'.get? b = some o) → Q (.ref s.heap.objs.size) { s with heap := h', toks := tk }) :
    wpAny (model P w) A (call (.type "set") [.ref l]) Q E s := by
  have hisz : items.size = ks.length := by
    have q := congrArg List.length hit
    rw [Array.length_toList, List.length_map] at q
    exact q
  obtain ⟨c, tl, hmro⟩ := F.called_set.mro
  have hmade := F.called_set.made
  have hsub := F.called_set.sub
  refine wpAny_call (codeAny_of_tree ?_)
  show wpAny _ _ (callAny (.type "set") _) _ _ _
  refine wpAny_pure ⟨Code.quiet_builtin _ (by decide +kernel), codeAny_builtin F.entry_type_call ?_⟩
  rw [Around.under_plain (weight_type_call_type "set" [.ref l] []) rfl]
  have h1 := F.called_set.notType
  have h2 := F.called_set.canCreate
  have hct := F.typeCall_set_1 (.ref l)
  repeat (any_goals (first | assumption | wp_step))

  refine codeAny_mono (code_set_led1 (.ref l) (E := E) (Q₁ := fun obj s₁ => obj = .ref s.heap.objs.size ∧ s₁ = { s with heap := s.heap.push { cls := .type "set", dict := none, data := .set #[] 0 (.fresh 0 0 (!w.params.followText "set-order")) } }) ⟨rfl, rfl⟩) fun r s₁ hr => ?_
  cases r with
  | error e => exact hr
  | ok fl =>
    cases fl with
    | ret obj =>
      obtain ⟨rfl, rfl⟩ := hr
      have hS : (s.heap.push { cls := .type "set", dict := none, data := .set #[] 0 (.fresh 0 0 (!w.params.followText "set-order")) }).get? s.heap.objs.size = some { cls := .type "set", dict := none, data := .set #[] 0 (.fresh 0 0 (!w.params.followText "set-order")) } := Heap.get?_push_size _ rfl
      have hT : Shared.TypeIs { s with heap := s.heap.push { cls := .type "set", dict := none, data := .set #[] 0 (.fresh 0 0 (!w.params.followText "set-order")) } } (.ref s.heap.objs.size) "set" := ⟨_, hS, rfl⟩
      have hli := F.called_set.init.lookup
      have hbi := F.called_set.init.bind (.ref s.heap.objs.size)
      repeat (any_goals (first | assumption | wp_step))

      refine codeAny_mono (codeAny_call_builtin (R := wants (fun r s₂ => r = .none ∧ ∃ h' tk L es ep t, s₂ = { s with heap := h', toks := tk } ∧ SetNR P w h' s.heap.objs.size L es ep t ∧ GotN ks ks.length L ∧
          (∀ b o, s.heap.get? b = some o → h'.get? b = some o)) E) F.called_set.init.plain F.entry_set_init (check_set_init_1 hT ?_)) fun r₂ s₂ hr₂ => ?_
      · obtain ⟨ol, hol, hcl, nl, hdl⟩ := hl
        obtain ⟨ocls, odict, odata, oslots⟩ := ol
        simp only at hcl hdl
        subst hcl; subst hdl
        have hol' : (s.heap.push { cls := .type "set", dict := none, data := .set #[] 0 (.fresh 0 0 (!w.params.followText "set-order")) }).get? l = some { cls := .type "list", dict := odict, data := .seq items nl, slots := oslots } := Heap.get?_push_of_some _ hol
        have hsls := F.sub_list_set
        have hslf := F.sub_list_frozenset
        have hne : (Value.type "list" == Value.type "dict") = false := by decide
        have hl1 : (s.heap.push { cls := .type "set", dict := none, data := .set #[] 0 (.fresh 0 0 (!w.params.followText "set-order")) }).IsList l items := ⟨_, hol', rfl, nl, rfl⟩
        unfold Builtin.«set.__init__» noKeywords Builtin.Frozenset.updateFrom
        generalize hPI : pyIter = PI
        wp_walk
        subst hPI

        refine wpAny_pyIter_list hl1 ?_
        refine wpAny_bind (wpAny_runValue ?_)
        have hlS : l < s.heap.objs.size := Heap.lt_size hol
        have hh3 : A.in1.in1.in1.handled = none := by simp [hh]
        have hz1 : (s.heap.push { cls := .type "set", dict := none, data := .set #[] 0 (.fresh 0 0 (!w.params.followText "set-order")) }).objs.size = s.heap.objs.size + 1 := Heap.size_push ..
        have hneI : l ≠ (s.heap.push { cls := .type "set", dict := none, data := .set #[] 0 (.fresh 0 0 (!w.params.followText "set-order")) }).objs.size := by
          rw [Heap.size_push]; exact Nat.ne_of_lt (Nat.lt_succ_of_lt hlS)
        have hSf : s.heap.objs.size ∉ [(s.heap.push { cls := .type "set", dict := none, data := .set #[] 0 (.fresh 0 0 (!w.params.followText "set-order")) }).objs.size, l] := by
          rw [Heap.size_push]; simp only [List.mem_cons, List.mem_singleton, List.not_mem_nil, or_false, not_or]
          exact ⟨Nat.ne_of_lt (Nat.lt_succ_self _), Nat.ne_of_gt hlS⟩
        have hval : ∀ (i : Nat) (v : Value), items[i]? = some v → ∃ p, ks[i]? = some p ∧ v = .ref p.1 := fun i v hv => by
          have q : items.toList[i]? = some v := by rw [Array.getElem?_toList]; exact hv
          rw [hit, List.getElem?_map] at q
          cases hq : ks[i]? with
          | none => rw [hq] at q; cases q
          | some p =>
            rw [hq] at q
            exact ⟨p, rfl, (Option.some.inj q).symm⟩
        have none_of : ∀ b, s.heap.objs.size ≤ b → s.heap.get? b = none := fun b hb => by
          cases q : s.heap.get? b with
          | none => rfl
          | some o => exact absurd (Nat.lt_of_lt_of_le (Heap.lt_size q) hb) (Nat.lt_irrefl _)
        refine set_updateN ((Walks.list hh3 _ l hneI items).toS) s.heap.objs.size
          hSf ks hisz hfew hval s.heap hk (none_of _ (Nat.le_refl _)) (fun b hb => none_of b (by
            rw [List.mem_singleton.mp hb, Heap.size_push]
            exact Nat.le_succ _)) (show A.units + 1 + 1 + 1 + 10 < cLine by omega) (items.size - 0) 0 _ (by omega) (Nat.zero_le _)
          ⟨⟨_, Heap.get?_push_size _ rfl, rfl, rfl⟩, (hl1.push _)⟩ (fun b o e => Heap.get?_push_of_some _ (Heap.get?_push_of_some _ e)) ?hS0 ?hR
        case hS0 =>
          have hget : ((s.heap.push { cls := .type "set", dict := none, data := .set #[] 0 (.fresh 0 0 (!w.params.followText "set-order")) }).push { cls := .type "list_iterator", data := .fields #[.ref l, .int 0 0] }).get? s.heap.objs.size
              = some { cls := .type "set", dict := none, data := .set #[] 0 (.fresh 0 0 (!w.params.followText "set-order")) } := Heap.get?_push_of_some _ hS
          exact ⟨[], #[], 0, _, setNR_fresh hget, GotN.zero ks⟩
        case hR =>
          intro s' L es ep t hm hS' g' hkp
          obtain ⟨h', g2, d', tk', os'⟩ := s'
          have eg : g2 = s.gens := hm.gens
          have ed : d' = s.drawn := hm.drawn
          have eo : os' = s.os := hm.os
          subst eg; subst ed; subst eo
          show wpAny _ _ _ _ _ _
          refine wpAny_pure ?_
          show wpAny _ _ (ret Value.none) _ _ _
          rw [hisz] at g'
          exact wpAny_pure ⟨rfl, h', tk', L, es, ep, t, rfl, hS', g', hkp⟩

      · cases r₂ with
        | error e => exact hr₂
        | ok fl₂ =>
          cases fl₂ with
          | ret r =>
            obtain ⟨rfl, h', tk, L, es, ep, t, rfl, hS', g', hk'⟩ := hr₂
            repeat (any_goals (first | assumption | wp_step))
            exact h _ _ _ _ _ _ hS' g' hk'
          | _ => exact hr₂.elim
    | _ => exact hr.elim
theorem call_setNT {l : Addr} {items : Array Value} (ks : List (Addr × NestedKey)) {Q : Value → Shared → Prop} (hh : A.handled = none) (hl : s.heap.IsTuple l items) (hit : items.toList = ks.map fun p => Value.ref p.1)
    (hk : ∀ p ∈ ks, IsN P w s.heap p.2 p.1) (hfew : ks.length ≤ 1000) (hu : A.units + 20 < cLine)
    (h : ∀ (h' : Heap) (tk : Nat) L es ep t, SetNR P w h' s.heap.objs.size L es ep t → GotN ks ks.length L → (∀ b o, s.heap.get? b = some o → h'.get? b = some o) → Q (.ref s.heap.objs.size) { s with heap := h', toks := tk }) :
    wpAny (model P w) A (call (.type "set") [.ref l]) Q E s := by
  have hisz : items.size = ks.length := by
    have q := congrArg List.length hit
    rw [Array.length_toList, List.length_map] at q
    exact q
  obtain ⟨c, tl, hmro⟩ := F.called_set.mro
  have hmade := F.called_set.made
  have hsub := F.called_set.sub
  refine wpAny_call (codeAny_of_tree ?_)
  show wpAny _ _ (callAny (.type "set") _) _ _ _
  refine wpAny_pure ⟨Code.quiet_builtin _ (by decide +kernel), codeAny_builtin F.entry_type_call ?_⟩
  rw [Around.under_plain (weight_type_call_type "set" [.ref l] []) rfl]
  have h1 := F.called_set.notType
  have h2 := F.called_set.canCreate
  have hct := F.typeCall_set_1 (.ref l)
  repeat (any_goals (first | assumption | wp_step))

  refine codeAny_mono (code_set_led1 (.ref l) (E := E) (Q₁ := fun obj s₁ => obj = .ref s.heap.objs.size ∧ s₁ = { s with heap := s.heap.push { cls := .type "set", dict := none, data := .set #[] 0 (.fresh 0 0 (!w.params.followText "set-order")) } }) ⟨rfl, rfl⟩) fun r s₁ hr => ?_
  cases r with
  | error e => exact hr
  | ok fl =>
    cases fl with
    | ret obj =>
      obtain ⟨rfl, rfl⟩ := hr
      have hS : (s.heap.push { cls := .type "set", dict := none, data := .set #[] 0 (.fresh 0 0 (!w.params.followText "set-order")) }).get? s.heap.objs.size = some { cls := .type "set", dict := none, data := .set #[] 0 (.fresh 0 0 (!w.params.followText "set-order")) } := Heap.get?_push_size _ rfl
      have hT : Shared.TypeIs { s with heap := s.heap.push { cls := .type "set", dict := none, data := .set #[] 0 (.fresh 0 0 (!w.params.followText "set-order")) } } (.ref s.heap.objs.size) "set" := ⟨_, hS, rfl⟩
      have hli := F.called_set.init.lookup
      have hbi := F.called_set.init.bind (.ref s.heap.objs.size)
      repeat (any_goals (first | assumption | wp_step))

      refine codeAny_mono (codeAny_call_builtin (R := wants (fun r s₂ => r = .none ∧ ∃ h' tk L es ep t, s₂ = { s with heap := h', toks := tk } ∧ SetNR P w h' s.heap.objs.size L es ep t ∧ GotN ks ks.length L ∧
          (∀ b o, s.heap.get? b = some o → h'.get? b = some o)) E) F.called_set.init.plain F.entry_set_init (check_set_init_1 hT ?_)) fun r₂ s₂ hr₂ => ?_
      · obtain ⟨ol, hol, hcl, nl, hdl⟩ := hl
        obtain ⟨ocls, odict, odata, oslots⟩ := ol
        simp only at hcl hdl
        subst hcl; subst hdl
        have hol' : (s.heap.push { cls := .type "set", dict := none, data := .set #[] 0 (.fresh 0 0 (!w.params.followText "set-order")) }).get? l = some { cls := .type "tuple", dict := odict, data := .seq items nl, slots := oslots } := Heap.get?_push_of_some _ hol
        have hsls := F.sub_tuple_set
        have hslf := F.sub_tuple_frozenset
        have hne : (Value.type "tuple" == Value.type "dict") = false := by decide
        have hl1 : (s.heap.push { cls := .type "set", dict := none, data := .set #[] 0 (.fresh 0 0 (!w.params.followText "set-order")) }).IsTuple l items := ⟨_, hol', rfl, nl, rfl⟩
        unfold Builtin.«set.__init__» noKeywords Builtin.Frozenset.updateFrom
        generalize hPI : pyIter = PI
        wp_walk
        subst hPI

        refine wpAny_pyIter_tuple hl1 ?_
        refine wpAny_bind (wpAny_runValue ?_)
        have hlS : l < s.heap.objs.size := Heap.lt_size hol
        have hh3 : A.in1.in1.in1.handled = none := by simp [hh]
        have hz1 : (s.heap.push { cls := .type "set", dict := none, data := .set #[] 0 (.fresh 0 0 (!w.params.followText "set-order")) }).objs.size = s.heap.objs.size + 1 := Heap.size_push ..
        have hneI : l ≠ (s.heap.push { cls := .type "set", dict := none, data := .set #[] 0 (.fresh 0 0 (!w.params.followText "set-order")) }).objs.size := by
          rw [Heap.size_push]; exact Nat.ne_of_lt (Nat.lt_succ_of_lt hlS)
        have hSf : s.heap.objs.size ∉ [(s.heap.push { cls := .type "set", dict := none, data := .set #[] 0 (.fresh 0 0 (!w.params.followText "set-order")) }).objs.size, l] := by
          rw [Heap.size_push]; simp only [List.mem_cons, List.mem_singleton, List.not_mem_nil, or_false, not_or]
          exact ⟨Nat.ne_of_lt (Nat.lt_succ_self _), Nat.ne_of_gt hlS⟩
        have hval : ∀ (i : Nat) (v : Value), items[i]? = some v → ∃ p, ks[i]? = some p ∧ v = .ref p.1 := fun i v hv => by
          have q : items.toList[i]? = some v := by rw [Array.getElem?_toList]; exact hv
          rw [hit, List.getElem?_map] at q
          cases hq : ks[i]? with
          | none => rw [hq] at q; cases q
          | some p =>
            rw [hq] at q
            exact ⟨p, rfl, (Option.some.inj q).symm⟩
        have none_of : ∀ b, s.heap.objs.size ≤ b → s.heap.get? b = none := fun b hb => by
          cases q : s.heap.get? b with
          | none => rfl
          | some o => exact absurd (Nat.lt_of_lt_of_le (Heap.lt_size q) hb) (Nat.lt_irrefl _)
        refine set_updateN ((Walks.tuple hh3 _ l hneI items).toS) s.heap.objs.size
          hSf ks hisz hfew hval s.heap hk (none_of _ (Nat.le_refl _)) (fun b hb => none_of b (by
            rw [List.mem_singleton.mp hb, Heap.size_push]
            exact Nat.le_succ _)) (show A.units + 1 + 1 + 1 + 10 < cLine by omega) (items.size - 0) 0 _ (by omega) (Nat.zero_le _)
          ⟨⟨_, Heap.get?_push_size _ rfl, rfl, rfl⟩, (hl1.push _)⟩ (fun b o e => Heap.get?_push_of_some _ (Heap.get?_push_of_some _ e)) ?hS0 ?hR
        case hS0 =>
          have hget : ((s.heap.push { cls := .type "set", dict := none, data := .set #[] 0 (.fresh 0 0 (!w.params.followText "set-order")) }).push { cls := .type "tuple_iterator", data := .fields #[.ref l, .int 0 0] }).get? s.heap.objs.size
              = some { cls := .type "set", dict := none, data := .set #[] 0 (.fresh 0 0 (!w.params.followText "set-order")) } := Heap.get?_push_of_some _ hS
          exact ⟨[], #[], 0, _, setNR_fresh hget, GotN.zero ks⟩
        case hR =>
          intro s' L es ep t hm hS' g' hkp
          obtain ⟨h', g2, d', tk', os'⟩ := s'
          have eg : g2 = s.gens := hm.gens
          have ed : d' = s.drawn := hm.drawn
          have eo : os' = s.os := hm.os
          subst eg; subst ed; subst eo
          show wpAny _ _ _ _ _ _
          refine wpAny_pure ?_
          show wpAny _ _ (ret Value.none) _ _ _
          rw [hisz] at g'
          exact wpAny_pure ⟨rfl, h', tk', L, es, ep, t, rfl, hS', g', hkp⟩

      · cases r₂ with
        | error e => exact hr₂
        | ok fl₂ =>
          cases fl₂ with
          | ret r =>
            obtain ⟨rfl, h', tk, L, es, ep, t, rfl, hS', g', hk'⟩ := hr₂
            repeat (any_goals (first | assumption | wp_step))
            exact h _ _ _ _ _ _ hS' g' hk'
          | _ => exact hr₂.elim
    | _ => exact hr.elim
end

/-! ### as calls over the abstract heap -/
structure SetN0 (P : Program) (w : World) (h : Heap) (a : Addr) (L : List (Addr × NestedKey)) : Prop where
  ex : ∃ (es : Array (Int × Value)) (ep : Nat) (t : SetTable), (∃ o, h.get? a = some o ∧ o.ExactSet ∧ o.data = .set es ep t) ∧ es.toList = rowsN w L ∧ TabN t (L.map fun p => hN w p.2) ∧ (L.map (·.2)).Nodup ∧
    (w.params.followText "set-order" = true ∨ t.led = true) ∧ L.length * 5 < t.mask * 3 ∧ L.length ≤ 1000
def SetNO (P : Program) (w : World) (a : Addr) (L : List (Addr × NestedKey)) : HO := .ext fun h => SetN0 P w h a L
theorem SetNR.t0 {P : Program} {w : World} {h : Heap} {a : Addr} {L : List (Addr × NestedKey)} {es : Array (Int × Value)} {ep : Nat} {t : SetTable} (R : SetNR P w h a L es ep t) : SetN0 P w h a L :=
  ⟨es, ep, t, R.ob, R.rows, R.tab, R.nd, R.led, R.room, R.few⟩
theorem SetN0.full {P : Program} {w : World} {h : Heap} {a : Addr} {L : List (Addr × NestedKey)} (R : SetN0 P w h a L) (ht : ∀ p ∈ L, IsN P w h p.2 p.1) : ∃ es ep t, SetNR P w h a L es ep t := by
  obtain ⟨es, ep, t, h1, h2, h3, h4, h6, h7, h8⟩ := R.ex
  exact ⟨es, ep, t, h1, h2, h3, h4, ht, h6, h7, h8⟩
theorem setNO_new {P : Program} {w : World} {H : Hp} {h : Heap} {a : Addr} {L : List (Addr × NestedKey)} (R : SetN0 P w h a L) : ObjOk P w H h a (SetNO P w a L) := by
  have ⟨es, ep, t, ⟨o, ho, r⟩, q⟩ := R.ex
  refine ⟨R, ⟨o, ho⟩, fun h1 h2 p k => ?_⟩
  have ⟨es', ep', t', ⟨o', ho', r'⟩, q'⟩ := SetN0.ex p
  exact ⟨es', ep', t', ⟨o', k o' ho', r'⟩, q'⟩
/-- the set at a has just these members, each once -/
structure SetN (P : Program) (w : World) (K : PySem.W.Frag) (H : Hp) (a : Addr) (S : List NestedKey) : Prop where
  ex : ∃ L, H a = some (SetNO P w a L) ∧ L.map (·.2) = S ∧ ∀ p ∈ L, Nk K H p.2 (.ref p.1) ∧ p.2.depth ≤ 8
/-- a tuple's datum -/
def isTp : NestedKey → Bool
  | .tup _ => true
  | _ => false
theorem nk_refs {K : PySem.W.Frag} {H : Hp} : ∀ {ks : List NestedKey} {vs : List V}, NkAll K H ks vs → (∀ k ∈ ks, isTp k = true ∧ k.depth ≤ 8) → ∃ L : List (Addr × NestedKey), vs = L.map (fun p => V.ref p.1) ∧ L.map (·.2) = ks ∧ ∀ p ∈ L, Nk K H p.2 (.ref p.1) ∧ p.2.depth ≤ 8
  | _, _, .nil, _ => ⟨[], rfl, rfl, fun p hp => (by cases hp)⟩
  | k :: ks, _, .cons h t, hk => by
    obtain ⟨L, e1, e2, e3⟩ := nk_refs t fun k' hk' => hk k' (List.mem_cons_of_mem _ hk')
    have hk0 := hk k List.mem_cons_self
    cases h with
    | tup h1 h2 =>
      refine ⟨(_, _) :: L, by rw [List.map_cons, ← e1], by rw [List.map_cons, e2], fun p hp => ?_⟩
      rcases List.mem_cons.mp hp with e | hp
      · rw [e]; exact ⟨.tup h1 h2, hk0.2⟩
      · exact e3 p hp
    | _ => exact absurd hk0.1 (fun z => nomatch z)
theorem refs_valsN : ∀ {L : List (Addr × NestedKey)} {us : List Value}, Vals (L.map fun p => V.ref p.1) us → us = L.map fun p => Value.ref p.1
  | [], _, .nil => rfl
  | p :: L, _, .cons r t => by
    cases r
    rw [refs_valsN t] <;> rfl
theorem vals_refsN : ∀ (L : List (Addr × NestedKey)), Vals (L.map fun p => V.ref p.1) (L.map fun p => Value.ref p.1)
  | [] => .nil
  | p :: L => .cons rfl (vals_refsN L)
section
variable {X : Cx}
def rSetN (P : Program) (w : World) (K : PySem.W.Frag) : List V → Hp → VK → Prop := fun xs H Q => ∃ (l : Addr) (ks : List NestedKey) (vs : List V), xs = [V.ref l] ∧ (SqL K H l vs ∨ SqT K H l vs) ∧ NkAll K H ks vs ∧ (∀ k ∈ ks, isTp k = true ∧ k.depth ≤ 8) ∧ ks.length ≤ 1000 ∧
  ∀ a H' S, H a = none → SetN P w K H' a S → S.Nodup → (∀ k, k ∈ S ↔ k ∈ ks) → At1 a H H' → Same H H' → Q (.ref a) H'
theorem cr_setN (hc : X.calm = true) (hu : X.A.units + 64 < cLine) : CallR X (.type "set") (rSetN X.prog X.w X.K) := by
  intro pins s σ H xs us Q I r h
  obtain ⟨l, ks, vs, rfl, hl, hk, ht, hf, q⟩ := h
  rw [Vals.ref1 r]
  obtain ⟨L0, rfl, rfl, hL⟩ := nk_refs hk ht
  have hn : H s.heap.objs.size = none := I.hok.fresh (Nat.le_refl _)
  have his : ∀ p ∈ L0, IsN X.prog X.w s.heap p.2 p.1 := fun p hp => key_is I (hL p hp).1 (hL p hp).2
  have fin : ∀ (h' : Heap) (tk : Nat) L es ep t, SetNR X.prog X.w h' s.heap.objs.size L es ep t → GotN L0 L0.length L → (∀ b o, s.heap.get? b = some o → h'.get? b = some o) →
      ∃ x H1, Inv X pins σ H1 { s with heap := h', toks := tk } ∧ RelV x (.ref s.heap.objs.size) ∧ Q x H1 := by
    intro h' tk L es ep t R g k
    have hLm : ∀ p ∈ L, p ∈ L0 := fun p hp => List.mem_of_mem_take (g.sub p hp)
    refine ⟨.ref s.heap.objs.size, upd H s.heap.objs.size (SetNO X.prog X.w s.heap.objs.size L), I.laid (t' := tk) k (Nat.le_refl _) (setNO_new R.t0), rfl,
      q _ _ (L.map (·.2)) hn ⟨L, upd_same, rfl, fun p hp => ⟨Nk.tk (Tk.new hn) _ _ (hL p (hLm p hp)).1, (hL p (hLm p hp)).2⟩⟩ R.nd (fun k => ⟨fun hk => ?_, fun hk => ?_⟩) At1.wr (same_upd hn)⟩
    · obtain ⟨p, hp, rfl⟩ := List.mem_map.mp hk
      exact List.mem_map.mpr ⟨p, hLm p hp, rfl⟩
    · obtain ⟨p, hp, rfl⟩ := List.mem_map.mp hk
      exact g.all p (by rw [List.take_length]; exact hp)
  rw [List.length_map] at hf
  rcases hl with hl | hl
  · obtain ⟨its, rv, pl, hz⟩ := I.list hl
    exact call_setNL (P := X.prog) (w := X.w) L0 (I.ok.hd hc) pl.isList (by simpa using refs_valsN rv) his hf (by omega) fun h' tk L es ep t R g k => fin h' tk L es ep t R g k
  · obtain ⟨its, rv, pl, hz⟩ := I.tuple hl
    exact call_setNT (P := X.prog) (w := X.w) L0 (I.ok.hd hc) pl (by simpa using refs_valsN rv) his hf (by omega) fun h' tk L es ep t R g k => fin h' tk L es ep t R g k
theorem SetN.raw {pins : List (Addr × Obj)} {σ : St} {H : Hp} {s : Shared} {a : Addr} {S : List NestedKey} (d : SetN X.prog X.w X.K H a S) (I : Inv X pins σ H s) :
    ∃ L es ep t, L.map (·.2) = S ∧ (∀ p ∈ L, Nk X.K H p.2 (.ref p.1) ∧ p.2.depth ≤ 8) ∧ SetNR X.prog X.w s.heap a L es ep t := by
  obtain ⟨L, h1, h2, h3⟩ := d.ex
  have R0 : SetN0 X.prog X.w s.heap a L := (I.hok a _ h1).1
  obtain ⟨es, ep, t, R⟩ := R0.full fun p hp => key_is I (h3 p hp).1 (h3 p hp).2
  exact ⟨L, es, ep, t, h2, h3, R⟩
/-- len(set) -/
def rSetLen (P : Program) (w : World) (K : PySem.W.Frag) : List V → Hp → VK → Prop := fun xs H Q => ∃ a S, xs = [.ref a] ∧ SetN P w K H a S ∧ Q (.int S.length) H
theorem cr_setLen : CallR X (.builtin "len") (rSetLen X.prog X.w X.K) := by
  intro pins s σ H xs us Q I r h
  obtain ⟨a, S, rfl, d, q⟩ := h
  rw [Vals.ref1 r]
  obtain ⟨L, es, ep, t, e, hL, R⟩ := d.raw I
  obtain ⟨o, ho, hex, hd⟩ := R.ob
  have sz := R.size
  have few := R.few
  refine call_len_set ho hex hd R.fits (by omega) ⟨.int S.length, H, I.tok _, ⟨_, by rw [sz, ← e, List.length_map]⟩, q⟩
/-- sorted(set) -/
def rNSortS (P : Program) (w : World) (K : PySem.W.Frag) : List V → Hp → VK → Prop := fun xs H Q => ∃ a S, xs = [.ref a] ∧ SetN P w K H a S ∧ SrtOk S ∧
  ∀ p H' vs', H p = none → H' p = some (.lst vs') → NkAll K H' (srtN S) vs' → At1 p H H' → Same H H' → Q (.ref p) H'
theorem nkall_refs {K : PySem.W.Frag} {H : Hp} : ∀ {L : List (Addr × NestedKey)}, (∀ p ∈ L, Nk K H p.2 (.ref p.1) ∧ p.2.depth ≤ 8) → NkAll K H (L.map (·.2)) (L.map fun p => V.ref p.1)
  | [], _ => .nil
  | p :: L, h => .cons (h p List.mem_cons_self).1 (nkall_refs fun q hq => h q (List.mem_cons_of_mem _ hq))
/-- the values are the members' addresses: in the order of some list of the members -/
theorem lift_perm {L : List (Addr × NestedKey)} : ∀ {vs : List Value}, vs.Perm (L.map fun p => Value.ref p.1) → ∃ L1 : List (Addr × NestedKey), L1.Perm L ∧ vs = L1.map fun p => Value.ref p.1 := by
  have key : ∀ {vs ws : List Value}, vs.Perm ws → ∀ L : List (Addr × NestedKey), ws = L.map (fun p => Value.ref p.1) → ∃ L1 : List (Addr × NestedKey), L1.Perm L ∧ vs = L1.map fun p => Value.ref p.1 := by
    intro vs ws h
    induction h with
    | nil => intro L e; exact ⟨L, .refl _, e⟩
    | @cons x l1 l2 _ ih =>
      intro L e
      cases L with
      | nil => cases e
      | cons p L =>
        rw [List.map_cons] at e
        injection e with e1 e2
        obtain ⟨L1, h1, h2⟩ := ih L e2
        exact ⟨p :: L1, h1.cons p, by rw [List.map_cons, ← h2, e1]⟩
    | @swap x y l =>
      intro L e
      cases L with
      | nil => cases e
      | cons p L =>
        cases L with
        | nil => simp at e
        | cons q L =>
          rw [List.map_cons, List.map_cons] at e
          injection e with e1 e2
          injection e2 with e2 e3
          exact ⟨q :: p :: L, .swap _ _ _, by rw [List.map_cons, List.map_cons, e1, e2, e3]⟩
    | @trans l1 l2 l3 _ _ ih1 ih2 =>
      intro L e
      obtain ⟨L1, h1, h2⟩ := ih2 L e
      obtain ⟨L2, h3, h4⟩ := ih1 L1 h2
      exact ⟨L2, h3.trans h1, h4⟩
  intro vs h
  exact key h L rfl
theorem srtOk_perm {ks ls : List NestedKey} (p : ks.Perm ls) (ok : SrtOk ls) : SrtOk ks := by
  have m : ∀ d, d ∈ ks.map NestedKey.data → d ∈ ls.map NestedKey.data := fun d hd => (p.map _).mem_iff.mp hd
  refine ⟨fun d hd d' hd' => ok.1 d (m d hd) d' (m d' hd'), ?_⟩
  rcases ok.2 with h | h
  · exact .inl fun d hd => h d (m d hd)
  · exact .inr fun d hd => h d (m d hd)
theorem cr_nsortS (hc : X.calm = true) (hu : X.A.units + 64 < cLine) : CallR X (.builtin "sorted") (rNSortS X.prog X.w X.K) := by
  intro pins s σ H xs us Q I r h
  obtain ⟨a, S, rfl, d, ok, q⟩ := h
  rw [Vals.ref1 r]
  obtain ⟨L, es, ep, t, e, hL, R⟩ := d.raw I
  obtain ⟨o, ho, hex, hd⟩ := R.ob
  have few := R.few
  have sz := R.size
  have sl := sizeLine_eq
  refine Calls.call_function_entry PyProof.Rows.kind_sorted PyProof.Rows.plain_sorted PyProof.Rows.entry_sorted (PyProof.Rows.args_sorted1 _) ?_
  unfold Builtin.«sorted»
  refine wpAny_bind (m := checkCount "sorted" 1 1 _) (wpAny_pure ?_)
  refine wpAny_bind (collect_set (A := X.A.in1) (I.ok.hd hc) ⟨o, ho, hex.1, hd⟩ R.fits (by unfold scanBound; omega) R.tab.ris R.led fun s1 vs k1 hz g1 o1 pm => ?_)
  have hes : es.toList.map (·.2) = L.map fun q => Value.ref q.1 := by
    rw [R.rows]
    unfold rowsN
    rw [List.map_map] <;> rfl
  rw [hes] at pm
  obtain ⟨L1, p1, rfl⟩ := lift_perm pm
  have I1 : Inv X pins σ H s1 := I.call' (ch := []) o1 (Un.kept k1) (I.hok.kept k1) (by rw [g1]; exact I.bare) (fun _ z => nomatch z)
  have na : NkAll X.K H (L1.map (·.2)) (L1.map fun p => V.ref p.1) := nkall_refs fun p hp => hL p (p1.mem_iff.mp hp)
  have ev := each_of I1 na (vals_refsN L1)
  have pS : (L1.map (·.2)).Perm S := by rw [← e]; exact p1.map _
  have ok1 : SrtOk (L1.map (·.2)) := srtOk_perm pS ok
  have hlen : (L1.map (·.2)).length ≤ sizeLine := by rw [List.length_map, p1.length_eq]; omega
  refine wpAny_bind (wpAny_newList ?_ (by rw [List.length_map, p1.length_eq]; omega))
  refine wpAny_bind (wpAny_holding (sort_made (s := s1) I1 ev ok1 hlen (fun k hk' => ?_) fun s' vs' I' n' => ?_))
  · obtain ⟨p, hp, rfl⟩ := List.mem_map.mp hk'
    have := (hL p (p1.mem_iff.mp hp)).2
    show X.A.units + 1 + 1 + p.2.depth < cLine
    omega
  · have hno := I1.hok.fresh (Nat.le_refl s1.heap.objs.size)
    exact wpAny_pure ⟨_, rfl, .ref s1.heap.objs.size, _, I', rfl, q _ _ vs' hno upd_same (by rw [← srtN_congr ok1 pS]; exact NkAll.tk (Tk.new hno) _ _ n') At1.wr (same_upd hno)⟩
end
end L2
end
section
set_option linter.all false
set_option maxRecDepth 100000
set_option maxHeartbeats 4000000
set_option autoImplicit false
/- NkW: dict comprehensions whose keys are nested data. -/
namespace L2
open PySem PySem.Spec PyProof.Rows
theorem dn_dictSet {X : Cx} {pins : List (Addr × Obj)} {σ : St} {H : Hp} {s : Shared} {E : Value → Shared → Prop} {a b : Addr} {kvs : List (NestedKey × V)} {k : NestedKey} {v : V} {r : Value} {Q : Unit → Shared → Prop} (hu : X.A.units + 64 < cLine) (I : Inv X pins σ H s) (d : DictN X.prog X.w X.K H a kvs) (hk : Nk X.K H k (.ref b)) (hd : k.depth ≤ 8) (hz : kvs.length < sizeLine) (rv : RelV v r)
    (h : ∀ H' s', Inv X pins σ H' s' → DictN X.prog X.w X.K H' a (putK kvs k v) → At1 a H H' → Tk H H' → Q () s') :
    wpAny (model X.prog X.w) X.A (dictSet a (.ref b) r) Q E s := by
  obtain ⟨l, xs, e1, e, h3, z, hm, rr, m⟩ := d.raw I
  subst e
  have hz' : l.length < sizeLine := by unfold prs at hz; rw [List.length_map] at hz; exact hz
  have mu := d.mut
  have t : Tk H (upd H a (DNo X.prog X.w a (putN l k b v))) := Tk.wr (.inl mu)
  unfold dictSet
  try with_reducible refine wpAny_holding ?_
  refine wpAny_bind ((nestedKind X.prog X.w).pyHash (show X.A.units + 8 < cLine by omega) (key_is I hk hd) ?_)
  have hkk : (nestedKind X.prog X.w).is s.heap k b := key_is I hk hd
  refine wpAny_dictSetHashed_heap (s := { s with toks := s.toks + (nestedKind X.prog X.w).draws k }) (hsz := by rw [← rr.length]; exact z) (show X.A.units + 8 < cLine by omega) hkk m fun h' m' hs => ?_
  refine h _ _ (dn_stored (t' := s.toks + (nestedKind X.prog X.w).draws k) (I.tok (s.toks + (nestedKind X.prog X.w).draws k)) mu hs (by have := length_putN l k b v; omega) hm (rr.put k b rv) m') ⟨_, upd_same, prs_putN l k b v, fun p hp => ?_⟩ At1.wr t
  rcases mem_putN hp with ⟨q, hq, e1, e2⟩ | ⟨e1, e2⟩
  · rw [← e1, ← e2]; exact ⟨Nk.tk t _ _ (h3 q hq).1, (h3 q hq).2⟩
  · rw [e1, e2]; exact ⟨Nk.tk t _ _ hk, hd⟩
section
variable {X : Cx}
/-- {k: v for target in iter if ..}, keys ints or texts: D the new dict -/
def tDcN (P : Program) (w : World) (K : PySem.W.Frag) (wi : TI) (g : TG) (tt : TT) (tk tv : TE) (vs : List Nat) : TE := fun σ H Q => wi σ H fun J H1 => ∀ D, H1 D = none → ∃ W : Nat → Nat → Hp → Prop, (∃ m, W 0 m (upd H1 D (DNo P w D []))) ∧ ∀ i m H, W i m H →
  (J.stop i H ∧ Q (.ref D) H) ∨ (J.go i H ∧ ∃ Nx : Hp → Prop, (∀ H', Nx H' → ∃ m', m' < m ∧ W (i + 1) m' H') ∧ ∀ x H', J.yld i H x H' → g x (wipe σ vs) H' fun σ2 H2 => wipe σ2 vs = wipe σ vs ∧ tt σ2 H2 fun b H3 =>
    if b = true then tk σ2 H3 fun y H4 => tv σ2 H4 fun z H5 => ∃ b kvs k, y = .ref b ∧ DictN P w K H5 D kvs ∧ Nk K H5 k (.ref b) ∧ k.depth ≤ 8 ∧ kvs.length < sizeLine ∧ ∀ H6, DictN P w K H6 D (putK kvs k z) → At1 D H5 H6 → Tk H5 H6 → Nx H6 else Nx H3)
theorem dc_coreN {pins : List (Addr × Obj)} {s : Shared} {σ : St} {H : Hp} {Q : VK} {kx vx tg iter : Expr} {ifs : List Expr} {scope : Scope} {own : List (Str × Nat)} {pos pos' : Pos} {wi : TI} {g : TG} {tt : TT} {tk tv : TE} {use : Option (Value → Sem Unit)} {Qf : Value → Shared → Prop}
    (hu : X.A.units + 64 < cLine) (hc : X.calm = true) (hN : X.N.Nodup) (I : Inv X pins σ H s) (hi : PI X tg iter wi) (ok : BlkOk X.N X.env.scope scope own)
    (hg : ∀ (s : Shared) (H : Hp) (C : Addr) (cl : List (Str × Addr)) (fp : List Addr), PG (X.blk s H scope (compEnvC scope cl C X.env) fp) tg g) (ht : ∀ (s : Shared) (H : Hp) (C : Addr) (cl : List (Str × Addr)) (fp : List Addr), PTs (X.blk s H scope (compEnvC scope cl C X.env) fp) ifs tt)
    (hk : ∀ (s : Shared) (H : Hp) (C : Addr) (cl : List (Str × Addr)) (fp : List Addr), PE (X.blk s H scope (compEnvC scope cl C X.env) fp) kx tk)
    (he : ∀ (s : Shared) (H : Hp) (C : Addr) (cl : List (Str × Addr)) (fp : List Addr), PE (X.blk s H scope (compEnvC scope cl C X.env) fp) vx tv) (hs : ∀ x, foldedSetIterable iter X.env x = pure x)
    (h : tDcN X.prog X.w X.K wi g tt tk tv (own.map (·.2)) σ H Q)
    (hRR : ∀ D C s' m H', Inv X pins σ H' s' → Q (.ref D) H' → s'.heap.Ns C m → FpOk X pins H' C → compPost (model X.prog X.w) X.A X.xe use Qf (.ref D) C (.ok .next) s') :
    wpAny (model X.prog X.w) X.A (comprehension (.DictComp kx vx [⟨tg, iter, ifs, 0⟩] scope pos) scope X.env pos' newDict false (eval iter X.env) use) Qf X.xe s := by
  have hfree : ∀ y ∈ scope.names, y.2 = .free → ∃ c, X.env.cells.lookup y.1 = some c := fun y hy e => by
    rcases ok.free y hy e with k | k
    · exact I.ok.has _ (.inl k)
    · exact I.ok.has _ (.inr k)
  refine wpAny_comprehension_free (use := use) rfl hs (closure_ok hfree) ok.kind (fun y hy e => by rw [ok.uniq y hy, e])
    (thn (hi.run pins s σ H _ I h) fun xv s1 hx => thn hx fun itv s2 h2 => ?_)
  obtain ⟨it, fp, tn, J, H2, e, I2, T, st2, f2, q⟩ := h2
  subst e
  refine wpAny_newObj_type (newEnv_comp ?_)
  generalize hD : s2.heap.objs.size = D
  have hDn : H2 D = none := I2.hok.fresh (Nat.le_of_eq hD)
  obtain ⟨W, ⟨m0, w0⟩, turn⟩ := q D hDn
  -- the new list
  generalize hs3 : ({ s2 with heap := s2.heap.push { cls := .type "dict", data := .dict #[] } } : Shared) = s3
  have I3 : Inv X pins σ (upd H2 D (DNo X.prog X.w D [])) s3 := by
    rw [← hs3]
    refine I2.laid (t' := s2.toks) (fun b o e => Heap.get?_push_of_some _ e) (Nat.le_of_eq hD) ?_
    rw [← hD]
    exact dno_empty s2.heap I2.big
  have h3 : s3.heap = s2.heap.push { cls := .type "dict", data := .dict #[] } := by rw [← hs3]
  have sz : ∀ b ∈ fp, b < s2.heap.objs.size := fun b hb => by
    obtain ⟨o, e, _⟩ := T.obj _ _ st2 b hb
    exact Heap.lt_size e
  have f3 : ∀ b ∈ fp, FpOk X pins (upd H2 D (DNo X.prog X.w D [])) b ∧ b < s3.heap.objs.size := fun b hb => by
    have hlt := sz b hb
    refine ⟨⟨?_, (f2 b hb).2⟩, by rw [h3, Heap.size_push]; exact Nat.lt_succ_of_lt hlt⟩
    rw [upd_ne (by rw [← hD]; exact Nat.ne_of_lt hlt)]
    exact (f2 b hb).1
  have st3 : tn 0 s3.heap := T.keep _ _ _ st2 fun b _ o e => by rw [h3]; exact Heap.get?_push_of_some _ e
  have I4 := block_start I3 ok hN f3
  have pg := hg s3 (upd H2 D (DNo X.prog X.w D [])) s3.heap.objs.size (cellsFrom (s3.heap.objs.size + 1) scope.names (cloFrom X.env.cells scope.names [])) fp
  have pt := ht s3 (upd H2 D (DNo X.prog X.w D [])) s3.heap.objs.size (cellsFrom (s3.heap.objs.size + 1) scope.names (cloFrom X.env.cells scope.names [])) fp
  have pk := hk s3 (upd H2 D (DNo X.prog X.w D [])) s3.heap.objs.size (cellsFrom (s3.heap.objs.size + 1) scope.names (cloFrom X.env.cells scope.names [])) fp
  have pe := he s3 (upd H2 D (DNo X.prog X.w D [])) s3.heap.objs.size (cellsFrom (s3.heap.objs.size + 1) scope.names (cloFrom X.env.cells scope.names [])) fp
  show codeAny _ _ (.compStart (.DictComp kx vx [⟨tg, iter, ifs, 0⟩] scope pos) 0 (.ref it) (.ref D) (compEnvC scope (cellsFrom (s3.heap.objs.size + 1) scope.names (cloFrom X.env.cells scope.names [])) s3.heap.objs.size X.env)) (compPost (model X.prog X.w) X.A X.xe use Qf (.ref D) s3.heap.objs.size) { s3 with heap := pushCells (s3.heap.push { cls := .type "dict", data := .dict #[] }) scope.names }
  have nfp : ∀ b ∈ fp, (upd H2 D (DNo X.prog X.w D [])) b = none := fun b hb => (f3 b hb).1.1
  generalize hce : compEnvC scope (cellsFrom (s3.heap.objs.size + 1) scope.names (cloFrom X.env.cells scope.names [])) s3.heap.objs.size X.env = ce at I4 pg pt pk pe ⊢
  have cL : ce.locals = s3.heap.objs.size := by subst hce; rfl
  generalize hH3 : upd H2 D (DNo X.prog X.w D []) = H3 at I3 I4 pg pt pk pe w0 nfp f3
  generalize hs4 : ({ s3 with heap := pushCells (s3.heap.push { cls := .type "dict", data := .dict #[] }) scope.names } : Shared) = s4 at I4 ⊢
  have st4 : tn 0 s4.heap := T.keep _ _ _ st3 fun b _ o e => by rw [← hs4]; exact pushCells_keeps _ _ _ _ (Heap.get?_push_of_some _ e)
  have stat : ∀ {σ' : St} {H' : Hp} {s' : Shared}, Inv (X.blk s3 H3 scope ce fp) [] σ' H' s' → (∀ b ∈ fp, H' b = none) → ∀ b ∈ fp, FpOk (X.blk s3 H3 scope ce fp) [] H' b := fun {σ' H' s'} I' hn b hb =>
    ⟨hn b hb, (I'.ok.exf b hb).1, I'.ok.exfs b hb, .inl hb, fun x c e => (I'.ok.exf b hb).2 x c e, fun p hp => absurd (show p ∈ ([] : List (Addr × Obj)) ++ [] from hp) (by simp)⟩
  have loop : codeAny (model X.prog X.w) X.A (.compLoop (.DictComp kx vx [⟨tg, iter, ifs, 0⟩] scope pos) 0 (.ref it) (.ref D) ce) (compPost (model X.prog X.w) X.A X.xe use Qf (.ref D) s3.heap.objs.size) s4 := by
    refine compLoop_anyD (fun n s' => ∃ i H', Inv (X.blk s3 H3 scope ce fp) [] (wipe σ (own.map (·.2))) H' s' ∧ tn i s'.heap ∧ (∀ b ∈ fp, H' b = none) ∧ W i n H') ?_ m0 ⟨0, H3, I4, st4, nfp, w0⟩
    rintro n s5 ⟨i, H5, I5, st5, n5, w5⟩
    rcases turn i n H5 w5 with ⟨stop, qq⟩ | ⟨go, Nx, hNx, step⟩
    · have td := T.done (X.blk s3 H3 scope ce fp) rfl rfl rfl hc i [] s5 _ H5 (fun _ _ => False) I5 (stat I5 n5) st5 stop
      refine thnF td fun r s6 ⟨hr, I6⟩ => ?_
      subst hr
      -- back in the def's context
      have I7 : Inv X pins σ H5 s6 := I3.call' (ch := fp) I6.os I6.base I6.hok I6.bare fun b hb => ⟨(f3 b hb).1.2.2.2.1, (f3 b hb).1.2.1, (f3 b hb).1.2.2.2.2.1, (f3 b hb).1.2.2.2.2.2⟩
      have nC : H5 s3.heap.objs.size = none := by
        have z : H5 ce.locals = none := I6.free
        rw [cL] at z
        exact z
      obtain ⟨m, hn, _⟩ := I6.loc
      have hn : s6.heap.Ns ce.locals m := hn
      rw [cL] at hn
      exact hRR D s3.heap.objs.size s6 m H5 I7 qq hn (I3.fpOk (Nat.le_refl _) nC)
    · have ti := T.item (X.blk s3 H3 scope ce fp) rfl rfl rfl hc i [] s5 _ H5 (fun _ _ => False) I5 (stat I5 n5) st5 go
      refine thnF ti fun r s6 ⟨u, hr, h6⟩ => ?_
      subst hr
      refine thnF h6 fun _ s7 ⟨x, H7, I7, r7, y7, st7, n7⟩ => ?_
      have I7' := I7.pinned (stat I7 n7) (T.obj _ _ st7)
      refine thnF (pg.run _ s7 _ H7 x u _ I7' r7 (step x H7 y7)) fun _ s8 ⟨σ8, H8, I8, hw8, q8⟩ => ?_
      refine thnF (pt.run _ s8 σ8 H8 _ I8 q8) fun b s9 ⟨H9, I9, q9⟩ => ?_
      -- the turn's end
      have fin : ∀ {s' : Shared} {H' : Hp}, Inv (X.blk s3 H3 scope ce fp) ([] ++ pinsAt fp s7.heap) σ8 H' s' → Nx H' → ∃ m, m < n ∧ ∃ i H', Inv (X.blk s3 H3 scope ce fp) [] (wipe σ (own.map (·.2))) H' s' ∧ tn i s'.heap ∧ (∀ b ∈ fp, H' b = none) ∧ W i m H' := fun {s' H'} I' nx => by
        obtain ⟨m', hm, w'⟩ := hNx H' nx
        have pin' : ∀ b ∈ fp, ∀ o, s7.heap.get? b = some o → s'.heap.get? b = some o ∧ H' b = none := fun b hb o e =>
          let z := I'.pin (b, o) (List.mem_append_right _ (List.mem_append_right _ (mem_pinsAt hb e)))
          ⟨z.1, z.2.1⟩
        have hl : (wipe σ (own.map (·.2))).length = σ8.length := by rw [← hw8, wipe_length]
        refine ⟨m', hm, i + 1, H', (I'.unpinned (pins := [])).weak hl (fun j v e => ?_), T.keep _ _ _ st7 fun b hb o e => (pin' b hb o e).1, fun b hb => ?_, w'⟩
        · rw [← hw8] at e
          exact (wipe_some e).1
        · obtain ⟨o, e, _⟩ := T.obj _ _ st7 b hb
          exact (pin' b hb o e).2
      cases b with
      | false =>
        simp only [Bool.false_eq_true, if_false] at q9 ⊢
        exact fin I9 q9
      | true =>
        simp only [if_true] at q9 ⊢
        refine thnF (pk.run _ s9 σ8 H9 _ I9 q9) fun z s10 ⟨yk, H10, I10, r10, q10⟩ => ?_
        refine thnF (pe.run _ s10 σ8 H10 _ I10 q10) fun z2 s11 ⟨yv, H11, I11, r11, bk, kvs, k, ek, hD11, hk11, hd11, hz11, nx⟩ => ?_
        subst ek
        cases r10
        exact dn_dictSet (X := X.blk s3 H3 scope ce fp) hu I11 hD11 hk11 hd11 hz11 r11 fun H12 s12 I12 d12 a12 t12 => fin I12 (nx H12 d12 a12 t12)
  exact codeAny_compStart_dict loop (T.self X.A 0 _ _ _ st4 loop)
/-- as a value -/
theorem pe_dcN {kx vx tg iter : Expr} {ifs : List Expr} {scope : Scope} {own : List (Str × Nat)} {pos : Pos} {wi : TI} {g : TG} {tt : TT} {tk tv : TE} (hu : X.A.units + 64 < cLine) (hc : X.calm = true) (hN : X.N.Nodup) (hi : PI X tg iter wi) (ok : BlkOk X.N X.env.scope scope own)
    (hg : ∀ (s : Shared) (H : Hp) (C : Addr) (cl : List (Str × Addr)) (fp : List Addr), PG (X.blk s H scope (compEnvC scope cl C X.env) fp) tg g) (ht : ∀ (s : Shared) (H : Hp) (C : Addr) (cl : List (Str × Addr)) (fp : List Addr), PTs (X.blk s H scope (compEnvC scope cl C X.env) fp) ifs tt)
    (hk : ∀ (s : Shared) (H : Hp) (C : Addr) (cl : List (Str × Addr)) (fp : List Addr), PE (X.blk s H scope (compEnvC scope cl C X.env) fp) kx tk)
    (he : ∀ (s : Shared) (H : Hp) (C : Addr) (cl : List (Str × Addr)) (fp : List Addr), PE (X.blk s H scope (compEnvC scope cl C X.env) fp) vx tv) (hs : ∀ x, foldedSetIterable iter X.env x = pure x := by intro _; rfl) :
    PE X (.DictComp kx vx [⟨tg, iter, ifs, 0⟩] scope pos) (tDcN X.prog X.w X.K wi g tt tk tv (own.map (·.2))) := by
  refine ⟨fun pins s σ H Q I h => ?_⟩
  rw [arm_eval_DictComp]
  refine dc_coreN hu hc hN I hi ok hg ht hk he hs h fun D C s' m H' I' q hn f => ⟨m, hn, fun h'' sb => ?_⟩
  obtain ⟨f0, f1, f2, f3, f4, f5⟩ := f
  exact ⟨.ref D, H', I'.turned (t' := s'.toks) (fun b o hb e => (sb.2 b hb).trans e) f0 f1 f3 f4 f5, rfl, q⟩
/-- over a tuple that stays -/
theorem dc_tupN {P : Program} {w : World} {K : PySem.W.Frag} {a : Addr} {xs : List V} {g : TG} {tt : TT} {tk tv : TE} {vs : List Nat} {σ : St} {H1 : Hp} {D : Addr} {Qd : Hp → Prop} (Pv : Nat → Hp → Prop) (h0 : Pv 0 (upd H1 D (DNo P w D []))) (hl : ∀ i H, i ≤ xs.length → Pv i H → SqT K H a xs)
    (hs : ∀ i x H, xs[i]? = some x → Pv i H → g x (wipe σ vs) H fun σ2 H2 => wipe σ2 vs = wipe σ vs ∧ tt σ2 H2 fun b H3 =>
      if b = true then tk σ2 H3 fun y H4 => tv σ2 H4 fun z H5 => ∃ b kvs k, y = .ref b ∧ DictN P w K H5 D kvs ∧ Nk K H5 k (.ref b) ∧ k.depth ≤ 8 ∧ kvs.length < sizeLine ∧ ∀ H6, DictN P w K H6 D (putK kvs k z) → At1 D H5 H6 → Tk H5 H6 → Pv (i + 1) H6 else Pv (i + 1) H3) (hd : ∀ H, Pv xs.length H → Qd H) :
    ∃ W : Nat → Nat → Hp → Prop, (∃ m, W 0 m (upd H1 D (DNo P w D []))) ∧ ∀ i m H, W i m H →
      ((Itt K a).stop i H ∧ Qd H) ∨ ((Itt K a).go i H ∧ ∃ Nx : Hp → Prop, (∀ H', Nx H' → ∃ m', m' < m ∧ W (i + 1) m' H') ∧ ∀ x H', (Itt K a).yld i H x H' → g x (wipe σ vs) H' fun σ2 H2 => wipe σ2 vs = wipe σ vs ∧ tt σ2 H2 fun b H3 =>
        if b = true then tk σ2 H3 fun y H4 => tv σ2 H4 fun z H5 => ∃ b kvs k, y = .ref b ∧ DictN P w K H5 D kvs ∧ Nk K H5 k (.ref b) ∧ k.depth ≤ 8 ∧ kvs.length < sizeLine ∧ ∀ H6, DictN P w K H6 D (putK kvs k z) → At1 D H5 H6 → Tk H5 H6 → Nx H6 else Nx H3) := by
  refine ⟨fun i m H => m = xs.length - i ∧ i ≤ xs.length ∧ Pv i H, ⟨xs.length, by simp, Nat.zero_le _, h0⟩, ?_⟩
  rintro i m H ⟨rfl, hi, p⟩
  have q := hl i H hi p
  by_cases hlt : i < xs.length
  · refine .inr ⟨⟨xs, xs[i], q, by simp [hlt]⟩, Pv (i + 1), fun H' p' => ⟨xs.length - (i + 1), by omega, rfl, hlt, p'⟩, fun x H' y => ?_⟩
    obtain ⟨e, y⟩ := y
    subst e
    exact hs i x _ (y xs q) p
  · have e : i = xs.length := by omega
    subst e
    exact .inl ⟨⟨xs, q, Nat.le_refl _⟩, hd H p⟩
/-- over a list that stays -/
theorem dc_listN {P : Program} {w : World} {K : PySem.W.Frag} {a : Addr} {xs : List V} {g : TG} {tt : TT} {tk tv : TE} {vs : List Nat} {σ : St} {H1 : Hp} {D : Addr} {Qd : Hp → Prop} (Pv : Nat → Hp → Prop) (h0 : Pv 0 (upd H1 D (DNo P w D []))) (hl : ∀ i H, i ≤ xs.length → Pv i H → SqL K H a xs)
    (hs : ∀ i x H, xs[i]? = some x → Pv i H → g x (wipe σ vs) H fun σ2 H2 => wipe σ2 vs = wipe σ vs ∧ tt σ2 H2 fun b H3 =>
      if b = true then tk σ2 H3 fun y H4 => tv σ2 H4 fun z H5 => ∃ b kvs k, y = .ref b ∧ DictN P w K H5 D kvs ∧ Nk K H5 k (.ref b) ∧ k.depth ≤ 8 ∧ kvs.length < sizeLine ∧ ∀ H6, DictN P w K H6 D (putK kvs k z) → At1 D H5 H6 → Tk H5 H6 → Pv (i + 1) H6 else Pv (i + 1) H3) (hd : ∀ H, Pv xs.length H → Qd H) :
    ∃ W : Nat → Nat → Hp → Prop, (∃ m, W 0 m (upd H1 D (DNo P w D []))) ∧ ∀ i m H, W i m H →
      ((Itl K a).stop i H ∧ Qd H) ∨ ((Itl K a).go i H ∧ ∃ Nx : Hp → Prop, (∀ H', Nx H' → ∃ m', m' < m ∧ W (i + 1) m' H') ∧ ∀ x H', (Itl K a).yld i H x H' → g x (wipe σ vs) H' fun σ2 H2 => wipe σ2 vs = wipe σ vs ∧ tt σ2 H2 fun b H3 =>
        if b = true then tk σ2 H3 fun y H4 => tv σ2 H4 fun z H5 => ∃ b kvs k, y = .ref b ∧ DictN P w K H5 D kvs ∧ Nk K H5 k (.ref b) ∧ k.depth ≤ 8 ∧ kvs.length < sizeLine ∧ ∀ H6, DictN P w K H6 D (putK kvs k z) → At1 D H5 H6 → Tk H5 H6 → Nx H6 else Nx H3) := by
  refine ⟨fun i m H => m = xs.length - i ∧ i ≤ xs.length ∧ Pv i H, ⟨xs.length, by simp, Nat.zero_le _, h0⟩, ?_⟩
  rintro i m H ⟨rfl, hi, p⟩
  have q := hl i H hi p
  by_cases hlt : i < xs.length
  · refine .inr ⟨⟨xs, xs[i], q, by simp [hlt]⟩, Pv (i + 1), fun H' p' => ⟨xs.length - (i + 1), by omega, rfl, hlt, p'⟩, fun x H' y => ?_⟩
    obtain ⟨e, y⟩ := y
    subst e
    exact hs i x _ (y xs q) p
  · have e : i = xs.length := by omega
    subst e
    exact .inl ⟨⟨xs, q, Nat.le_refl _⟩, hd H p⟩
end
end L2
end
section
set_option linter.all false
set_option maxRecDepth 100000
set_option maxHeartbeats 4000000
set_option autoImplicit false
/- NkX: walks over a list or a tuple, comprehensions whose items are found without a store, x = {..: .. for ..}, list.extend(tuple). -/
namespace L2
open PySem PySem.Spec PyProof.Rows
def Sq (K : PySem.W.Frag) (H : Hp) (a : Addr) (xs : List V) : Prop := SqL K H a xs ∨ SqT K H a xs
section
variable {X : Cx}
/-- over a list or a tuple -/
def iSq (K : PySem.W.Frag) (tl : TE) : TI := fun σ H R => tl σ H fun x H1 => ∃ a xs J, x = .ref a ∧ Sq K H1 a xs ∧ ((SqL K H1 a xs ∧ J = Itl K a) ∨ (SqT K H1 a xs ∧ J = Itt K a)) ∧ (xs.length ≤ sizeLine → R J H1)
theorem pi_sq {tg l : Expr} {tl : TE} (hl : PE X l tl) : PI X tg l (iSq X.K tl) := by
  refine ⟨fun pins s σ H R I h => ?_⟩
  refine thn (hl.run pins s σ H _ I h) fun v s1 ⟨x, H1, I1, r1, q1⟩ => ?_
  obtain ⟨a, xs, J, e, _, hq, q⟩ := q1
  subst e
  cases r1
  rcases hq with ⟨hq, rfl⟩ | ⟨hq, rfl⟩
  · obtain ⟨its, rv, p, hz⟩ := I1.list hq
    refine wpAny_pyIter_list p.isList ?_
    refine ⟨s1.heap.objs.size, [s1.heap.objs.size], _, _, H1, rfl, I1.kept (t' := s1.toks) fun b o e => Heap.get?_push_of_some _ e, turn_list a _, ⟨_, Heap.get?_push_size _ rfl, rfl, rfl⟩, fun b hb => ?_, q (by first | exact hz | (have := rv.length; omega))⟩
    have e : b = s1.heap.objs.size := by simpa using hb
    subst e
    exact I1.fpOk (Nat.le_refl _) (I1.hok.fresh (Nat.le_refl _))
  · obtain ⟨its, rv, p, hz⟩ := I1.tuple hq
    refine wpAny_pyIter_tuple (show s1.heap.IsTuple a its.toArray from p) ?_
    refine ⟨s1.heap.objs.size, [s1.heap.objs.size], _, _, H1, rfl, I1.kept (t' := s1.toks) fun b o e => Heap.get?_push_of_some _ e, turn_tuple a _, ⟨_, Heap.get?_push_size _ rfl, rfl, rfl⟩, fun b hb => ?_, q (by first | exact hz | (have := rv.length; omega))⟩
    have e : b = s1.heap.objs.size := by simpa using hb
    subst e
    exact I1.fpOk (Nat.le_refl _) (I1.hok.fresh (Nat.le_refl _))
/-- how such a thing is walked, while what stood in H stands -/
structure SqW (K : PySem.W.Frag) (H : Hp) (a : Addr) (xs : List V) (J : It) (G : Hp → Prop) : Prop where
  arm : ∀ {H'}, Same H H' → (SqL K H' a xs ∧ J = Itl K a) ∨ (SqT K H' a xs ∧ J = Itt K a)
  sq : ∀ {H'}, Same H H' → Sq K H' a xs
  g : ∀ {H'}, Same H H' → G H'
  walk : Walk J xs.length G (YAt xs)
theorem sq_walk {K : PySem.W.Frag} {H : Hp} {a : Addr} {xs : List V} (h : Sq K H a xs) : ∃ (J : It) (G : Hp → Prop), SqW K H a xs J G := by
  rcases h with h | h
  · exact ⟨Itl K a, fun H => SqL K H a xs, fun s => .inl ⟨s.seq h, rfl⟩, fun s => .inl (s.seq h), fun s => s.seq h, walk_list⟩
  · exact ⟨Itt K a, fun H => SqT K H a xs, fun s => .inr ⟨(Tk.same s).sqT h, rfl⟩, fun s => .inr ((Tk.same s).sqT h), fun s => (Tk.same s).sqT h, walk_tup⟩
/-- name = {k: v for ..} on one line, the name a local -/
theorem ps_setDcN {i : Nat} {y : Str} {py : Pos} {kx vx tg iter : Expr} {ifs : List Expr} {scope : Scope} {own : List (Str × Nat)} {pos spos : Pos} {wi : TI} {g : TG} {tt : TT} {tk tv : TE} (hu : X.A.units + 64 < cLine) (hc : X.calm = true) (hN : X.N.Nodup) (hy : X.N[i]? = some y) (hyl : X.env.scope.names.lookup y = some .local)
    (hsw : swapsWith (.DictComp kx vx [⟨tg, iter, ifs, 0⟩] scope pos) (some (.Name y py)) spos.line X.env = pure true) (hi : PI X tg iter wi) (ok : BlkOk X.N X.env.scope scope own)
    (hg : ∀ (s : Shared) (H : Hp) (C : Addr) (cl : List (Str × Addr)) (fp : List Addr), PG (X.blk s H scope (compEnvC scope cl C X.env) fp) tg g) (ht : ∀ (s : Shared) (H : Hp) (C : Addr) (cl : List (Str × Addr)) (fp : List Addr), PTs (X.blk s H scope (compEnvC scope cl C X.env) fp) ifs tt)
    (hk : ∀ (s : Shared) (H : Hp) (C : Addr) (cl : List (Str × Addr)) (fp : List Addr), PE (X.blk s H scope (compEnvC scope cl C X.env) fp) kx tk)
    (he : ∀ (s : Shared) (H : Hp) (C : Addr) (cl : List (Str × Addr)) (fp : List Addr), PE (X.blk s H scope (compEnvC scope cl C X.env) fp) vx tv) (hs : ∀ x, foldedSetIterable iter X.env x = pure x := by intro _; rfl) :
    PS X (.Assign [.Name y py] (.DictComp kx vx [⟨tg, iter, ifs, 0⟩] scope pos) spos) (tAsg (tDcN X.prog X.w X.K wi g tt tk tv (own.map (·.2))) (gName i)) := by
  refine ⟨fun pins s σ H D I h => ?_⟩
  rw [exec_Assign_Name_used _ _ _ _ hsw]
  refine wpAny_bind (wpAny_standAt (wpAny_bind ?_))
  show wpAny _ X.A (do let _ ← comprehension (.DictComp kx vx [⟨tg, iter, ifs, 0⟩] scope pos) scope X.env (firstIterPos [⟨tg, iter, ifs, 0⟩] pos) newDict false (eval iter X.env) (some (assign (.Name y py) X.env))) _ _ s
  have h : tDcN X.prog X.w X.K wi g tt tk tv (own.map (·.2)) σ H (fun x H1 => gName i x σ H1 D.nx) := h
  refine wpAny_bind (thn (dc_coreN (Qf := fun _ s' => SP X pins D .next s') hu hc hN I hi ok hg ht hk he hs h fun L C s' m H' I' q hn f => ?_) fun _ s' hq => wpAny_pure (wpAny_pure hq))
  show wpAny _ _ (assign (.Name y py) X.env (.ref L)) _ _ _
  refine wpAny_assign_Name (store_ok2 (v := V.ref L) I' hN hy (.inl hyl) rfl (fun s2 I2 ⟨a, sb, ha⟩ => ?_) (.inr hyl))
  obtain ⟨f0, f1, f2, f3, f4, f5⟩ := f
  have haC : C ≠ a := by
    rcases ha with z | z
    · rw [z]; exact f1
    · exact fun e => f4 y a z e.symm
  refine ⟨m, hn.sameBut sb haC, fun h3 sb3 => ?_⟩
  exact ⟨_, H', I2.turned (t' := s2.toks) (fun b o hb e => (sb3.2 b hb).trans e) f0 f1 f3 f4 f5, q⟩
theorem sw_trueD {kx vx : Expr} {gs : List Comprehension} {scope : Scope} {pos py : Pos} {y : Str} {l : Nat} {env : Env} (hk : env.scope.kind = .function) (hy : env.scope.names.lookup y = some .local) (hl : (py.line == pos.line) = true)
    (ha : (scope.names.any fun (n, k) => n == y && (k == .local || k == .cell)) = false) : swapsWith (.DictComp kx vx gs scope pos) (some (.Name y py)) l env = pure true := by
  have ky : env.kindOf y = some .local := hy
  have hb : env.blockKind = .function := by unfold Env.blockKind; rw [hk]; rfl
  unfold swapsWith
  simp only [hb, ky, ha, Expr.pos, hl]
  rfl
end
/-- l.extend(t), t a tuple of any make -/
theorem extend_tupA (l : Addr) (items : Array Value) (n : Nat) (b : Addr) (items2 : Array Value) (n2 : Nat) (dd : Option Addr) (sl : Array (Option Value)) (hs0 : ¬(!items.isEmpty && Builtin.List.listTooLong (items.size + items2.size)) = true) (hs1 : items.size ≤ sizeLine) (hs2 : items.size + items2.size ≤ sizeLine + 1) :
    Meets (Builtin.«list.extend» ⟨[.ref l, .ref b], []⟩) (fun _ R s => s.heap.get? l = some { cls := .type "list", dict := none, data := .seq items n, slots := #[] } ∧ s.heap.get? b = some { cls := .type "tuple", dict := dd, data := .seq items2 n2, slots := sl } ∧ R (.ok (.ret Value.none)) { s with heap := s.heap.update l (Obj.mapSeq fun x => x ++ items2), toks := s.toks }) :=
  .of_wp fun prog w A R s h => by
    obtain ⟨hp, g, d, tk, os⟩ := s; obtain ⟨hl, hb, h⟩ := h; have f1 := AutoSeq1.idx_int; have f2 := PySem.F.sub_tuple_tuple; have f3 := PySem.F.sub_list_list; have f4 := PySem.F.sub_tuple_list; have f5 := PySem.F.sub_list_tuple;
    have hz' : (items ++ items2).size ≤ sizeLine + 1 := by rw [Array.size_append]; exact hs2
    wp_walk using (wpAny_updateSeq hl rfl (hz := hs1) (_hz' := hz')), AutoSeq1.wpAny_loadPart' hl, AutoSeq1.wpAny_loadPart' hb; exact ⟨_, rfl, h⟩

section
variable {X : Cx}
def rExtendT (K : PySem.W.Frag) : V → List V → Hp → VK → Prop := fun x vs H Q => ∃ l b xs zs, x = .ref l ∧ vs = [.ref b] ∧ H l = some (.lst xs) ∧ SqT K H b zs ∧ xs.length + zs.length ≤ sizeLine ∧ Q .non (upd H l (.lst (xs ++ zs)))
theorem mt_extendT : MtR X "list.extend" (rExtendT X.K) := by
  intro pins s σ H x vs v us Q I rx rv h
  obtain ⟨l, b, xs, zs, rfl, rfl, hH, hB, hz, q⟩ := h
  cases rx
  obtain ⟨u, rfl, ru⟩ := rv.one
  cases ru
  obtain ⟨z, its, n, r, hl, e⟩ := I.lstM hH
  obtain ⟨its2, r2, ⟨o2, ho2, hc2, n2, hd2⟩, z2⟩ := I.tuple hB
  have hl2 := r2.length
  obtain ⟨ocls, odict, odata, oslots⟩ := o2
  simp only at hc2 hd2
  subst hc2
  subst hd2
  have hsz : its.toArray.size + its2.toArray.size ≤ sizeLine := by rw [List.size_toArray, List.size_toArray]; omega
  have hlong : ¬ (!its.toArray.isEmpty && Builtin.List.listTooLong (its.toArray.size + its2.toArray.size)) = true := by
    rw [notLongL hsz, Bool.and_false]
    exact Bool.false_ne_true
  refine call_meets PySem.F.slot_list_extend ⟨_, e, rfl⟩ PySem.F.entry_list_extend (PySem.F.args_list_extend_2 _ _)
    (extend_tupA l its.toArray n b its2.toArray n2 odict oslots hlong (by rw [List.size_toArray]; omega) (by omega)) ⟨e, ho2, ?_⟩
  refine ⟨.non, _, I.lset (its' := its ++ its2) hH e (by simp) (r.append r2) ?_, rfl, q⟩
  rw [List.length_append]
  omega
end

/-! ### comprehensions that only make things -/
/-- the two lists go together -/
inductive Two {α β : Type} (R : α → β → Prop) : List α → List β → Prop
  | nil : Two R [] []
  | cons {a : α} {b : β} {as : List α} {bs : List β} : R a b → Two R as bs → Two R (a :: as) (b :: bs)
theorem Two.length {α β : Type} {R : α → β → Prop} : ∀ {as : List α} {bs : List β}, Two R as bs → bs.length = as.length
  | _, _, .nil => rfl
  | _, _, .cons _ t => by rw [List.length_cons, List.length_cons, t.length]
theorem Two.mono {α β : Type} {R S : α → β → Prop} (h : ∀ a b, R a b → S a b) : ∀ {as : List α} {bs : List β}, Two R as bs → Two S as bs
  | _, _, .nil => .nil
  | _, _, .cons r t => .cons (h _ _ r) (t.mono h)
theorem Two.snoc {α β : Type} {R : α → β → Prop} {a : α} {b : β} (h : R a b) : ∀ {as : List α} {bs : List β}, Two R as bs → Two R (as ++ [a]) (bs ++ [b])
  | _, _, .nil => .cons h .nil
  | _, _, .cons r t => .cons r (t.snoc h)
theorem Two.app {α β : Type} {R : α → β → Prop} : ∀ {as as' : List α} {bs bs' : List β}, Two R as bs → Two R as' bs' → Two R (as ++ as') (bs ++ bs')
  | _, _, _, _, .nil, h => h
  | _, _, _, _, .cons r t, h => .cons r (t.app h)
theorem Two.get {α β : Type} {R : α → β → Prop} : ∀ {as : List α} {bs : List β} {i : Nat} {b : β}, Two R as bs → bs[i]? = some b → ∃ a, as[i]? = some a ∧ R a b
  | _, _, _, _, .nil, e => by simp at e
  | _, _, 0, b, .cons r _, e => by simp at e; subst e; exact ⟨_, rfl, r⟩
  | _, _, i + 1, b, .cons _ t, e => by
    obtain ⟨a, h1, h2⟩ := t.get (i := i) (b := b) (by simpa using e)
    exact ⟨a, by simpa using h1, h2⟩
theorem Two.got {α β : Type} {R : α → β → Prop} : ∀ {as : List α} {bs : List β} {i : Nat} {a : α}, Two R as bs → as[i]? = some a → ∃ b, bs[i]? = some b ∧ R a b
  | _, _, _, _, .nil, e => by simp at e
  | _, _, 0, b, .cons r _, e => by simp at e; subst e; exact ⟨_, rfl, r⟩
  | _, _, i + 1, b, .cons _ t, e => by
    obtain ⟨a, h1, h2⟩ := t.got (i := i) (a := b) (by simpa using e)
    exact ⟨a, by simpa using h1, h2⟩
theorem two_nk {K : PySem.W.Frag} {H : Hp} {α : Type} (f : α → NestedKey) : ∀ {as : List α} {vs : List V}, Two (fun a v => Nk K H (f a) v) as vs → NkAll K H (as.map f) vs
  | _, _, .nil => .nil
  | _, _, .cons r t => .cons r (two_nk f t)
theorem nk_two {K : PySem.W.Frag} {H : Hp} {α : Type} (f : α → NestedKey) : ∀ {as : List α} {vs : List V}, NkAll K H (as.map f) vs → Two (fun a v => Nk K H (f a) v) as vs
  | [], _, h => by cases h; exact .nil
  | a :: as, _, h => by
    cases h with
    | cons r t => exact .cons r (nk_two f t)
theorem take_succ' {α : Type} {l : List α} {i : Nat} {x : α} (h : l[i]? = some x) : l.take (i + 1) = l.take i ++ [x] := take_next h
theorem upd_lst_tk {H : Hp} {D : Addr} {acc ys : List V} (h : H D = some (.lst acc)) : Tk H (upd H D (.lst ys)) := Tk.wr (.inl (by rw [h]; exact True.intro))
/-- over a walk whose turns leave the heap as it is. as: what the items stand for (f i x: the i-th item's sense), Rr: what the made values are -/
theorem lc_gen {α : Type} {J : It} {G : Hp → Prop} {xs : List V} {g : TG} {tt : TT} {te : TE} {vs : List Nat} {σ : St} {H : Hp} {Qd : Hp → Prop} {D : Addr} (as : List α) (Rr : α → V → Hp → Prop) (keep : α → Bool)
    (hJ : Walk J xs.length G (YAt xs)) (hG : ∀ H', Same H H' → G H') (hl : as.length = xs.length) (hz : as.length ≤ sizeLine) (hD : H D = none)
    (mono : ∀ a y H1 H2, Tk H1 H2 → Rr a y H1 → Rr a y H2)
    (step : ∀ (i : Nat) (a : α) (x : V) (H' : Hp), as[i]? = some a → xs[i]? = some x → Same H H' → ∀ (k : VK) (kn : Hp → Prop), (keep a = true → ∀ y H4, Same H' H4 → Rr a y H4 → k y H4) → (keep a = false → ∀ H3, Same H' H3 → kn H3) →
      g x (wipe σ vs) H' fun σ2 H2 => wipe σ2 vs = wipe σ vs ∧ tt σ2 H2 fun b H3 => if b = true then te σ2 H3 k else kn H3)
    (fin : ∀ (ys : List V) (H' : Hp), Same H H' → H' D = some (.lst ys) → Two (fun a y => Rr a y H') (as.filter keep) ys → Qd H') :
    ∃ W : Nat → Nat → Hp → Prop, (∃ m, W 0 m (upd H D (.lst []))) ∧ ∀ i m H, W i m H →
      (J.stop i H ∧ Qd H) ∨ (J.go i H ∧ ∃ Nx : Hp → Prop, (∀ H', Nx H' → ∃ m', m' < m ∧ W (i + 1) m' H') ∧ ∀ x H', J.yld i H x H' → g x (wipe σ vs) H' fun σ2 H2 => wipe σ2 vs = wipe σ vs ∧ tt σ2 H2 fun b H3 =>
        if b = true then te σ2 H3 fun y H4 => ∃ acc, H4 D = some (.lst acc) ∧ acc.length < sizeLine ∧ Nx (upd H4 D (.lst (acc ++ [y]))) else Nx H3) := by
  have fl : ∀ l : List α, (l.filter keep).length ≤ l.length := fun l => List.length_filter_le _ _
  refine lc_it hJ (fun i H' => Same H H' ∧ ∃ ys, H' D = some (.lst ys) ∧ Two (fun a y => Rr a y H') ((as.take i).filter keep) ys) ⟨same_upd hD, [], upd_same, .nil⟩ (fun i H' _ p => hG H' p.1) ?_ ?_
  · rintro i x H0 H0' hi ⟨sm, ys, hy, two⟩ ⟨rfl, hx⟩
    have hia : i < as.length := by omega
    have ha : as[i]? = some as[i] := List.getElem?_eq_getElem hia
    have tkn : ∀ b, (as.take (i + 1)).filter b = (as.take i).filter b ++ [as[i]].filter b := fun b => by rw [take_succ' ha, List.filter_append]
    have hlen : ys.length < sizeLine := by
      rw [two.length]
      have := fl (as.take i)
      rw [List.length_take] at this
      omega
    refine step i as[i] x H0' ha hx sm _ _ (fun hk y H4 s4 ry => ?_) (fun hk H3 s3 => ?_)
    · have hy4 := s4 _ _ hy
      refine ⟨ys, hy4, hlen, ?_, ys ++ [y], upd_same, ?_⟩
      · intro b o e
        have e4 := s4 _ _ (sm _ _ e)
        rw [upd_ne (ne_of_none e hD)]
        exact e4
      · rw [tkn, List.filter_cons_of_pos hk]
        exact Two.snoc (R := fun a y' => Rr a y' (upd H4 D (.lst (ys ++ [y])))) (mono _ _ _ _ (upd_lst_tk hy4) ry) (two.mono fun a y' r => mono _ _ _ _ ((Tk.same s4).trans (upd_lst_tk hy4)) r)
    · refine ⟨fun b o e => s3 _ _ (sm _ _ e), ys, s3 _ _ hy, ?_⟩
      have hk' : ¬ keep as[i] = true := by rw [hk]; exact Bool.false_ne_true
      rw [tkn, List.filter_cons_of_neg hk', List.filter_nil, List.append_nil]
      exact two.mono fun a y r => mono _ _ _ _ (Tk.same s3) r
  · rintro H' ⟨sm, ys, hy, two⟩
    rw [List.take_of_length_le (by omega)] at two
    exact fin ys H' sm hy two
end L2
end
section
set_option linter.all false
set_option maxRecDepth 100000
set_option autoImplicit false
/- M1: difference atoms; Bellman and Ford: the mathematics. -/
namespace OW
open PySem
/-- u - v ≤ k -/
structure Ato where
  u : NestedKey
  v : NestedKey
  k : Int
deriving DecidableEq
def Ato.key (a : Ato) : NestedKey := .tup [a.u, a.v, .num a.k]
theorem Ato.inj {a b : Ato} (h : a.key = b.key) : a = b := by
  cases a; cases b
  simp only [Ato.key, NestedKey.tup.injEq, List.cons.injEq, NestedKey.num.injEq, and_true] at h
  obtain ⟨h1, h2, h3⟩ := h
  subst h1; subst h2; subst h3; rfl
def sumK : List Ato → Int
  | [] => 0
  | a :: r => a.k + sumK r
theorem sumK_app : ∀ l m : List Ato, sumK (l ++ m) = sumK l + sumK m
  | [], m => by simp [sumK]
  | a :: l, m => by simp only [List.cons_append, sumK, sumK_app l m]; omega
def Sat (f : NestedKey → Int) (as : List Ato) : Prop := ∀ a ∈ as, f a.u - f a.v ≤ a.k
structure RingOk (as r : List Ato) : Prop where
  two : 2 ≤ r.length
  nd : r.Nodup
  sub : ∀ a ∈ r, a ∈ as
  round : r.map (·.v) = (r.drop 1 ++ r.take 1).map (·.u)
  neg : sumK r < 0
/-! ### sums around -/
def sumF (f : NestedKey → Int) : List NestedKey → Int
  | [] => 0
  | a :: r => f a + sumF f r
theorem sumF_perm {f : NestedKey → Int} {l m : List NestedKey} (h : l.Perm m) : sumF f l = sumF f m := by
  induction h with
  | nil => rfl
  | cons x _ ih => simp only [sumF, ih]
  | swap x y l => simp only [sumF]; omega
  | trans _ _ h1 h2 => rw [h1, h2]
theorem sum_le {f : NestedKey → Int} : ∀ (r : List Ato), Sat f r → sumF f (r.map (·.u)) - sumF f (r.map (·.v)) ≤ sumK r
  | [], _ => by simp [sumF, sumK]
  | a :: r, h => by
    have h1 := h a List.mem_cons_self
    have h2 := sum_le r fun b hb => h b (List.mem_cons_of_mem _ hb)
    simp only [List.map_cons, sumF, sumK]
    omega
theorem ring_no {as r : List Ato} (R : RingOk as r) {f : NestedKey → Int} (h : Sat f as) : False := by
  have h1 := sum_le (f := f) r fun a ha => h a (R.sub a ha)
  have p : (r.map (·.v)).Perm (r.map (·.u)) := by
    rw [R.round]
    refine List.Perm.map _ ?_
    have := List.perm_append_comm (l₁ := r.drop 1) (l₂ := r.take 1)
    rwa [List.take_append_drop] at this
  rw [sumF_perm p] at h1
  have := R.neg
  omega
/-! ### paths by causes -/
abbrev Cau := NestedKey → Option Ato
inductive Path (C : Cau) : NestedKey → List Ato → NestedKey → Prop
  | nil (u : NestedKey) : Path C u [] u
  | cons {u w : NestedKey} {a : Ato} {l : List Ato} : C u = some a → a.u = u → Path C a.v l w → Path C u (a :: l) w
section
variable {C : Cau}
theorem Path.app : ∀ {u y w : NestedKey} {l m : List Ato}, Path C u l y → Path C y m w → Path C u (l ++ m) w
  | _, _, _, _, _, .nil _, h => h
  | _, _, _, _, _, .cons a b c, h => .cons a b (c.app h)
theorem Path.split : ∀ {u w : NestedKey} (l : List Ato) {m : List Ato}, Path C u (l ++ m) w → ∃ y, Path C u l y ∧ Path C y m w
  | u, _, [], _, h => ⟨u, .nil u, h⟩
  | _, _, a :: l, _, h => by
    cases h with
    | cons h1 h2 h3 =>
      obtain ⟨y, h4, h5⟩ := Path.split l h3
      exact ⟨y, .cons h1 h2 h4, h5⟩
theorem Path.head {u w : NestedKey} {a : Ato} {l : List Ato} (h : Path C u (a :: l) w) : a.u = u ∧ C u = some a ∧ Path C a.v l w := by
  cases h with
  | cons h1 h2 h3 => exact ⟨h2, h1, h3⟩
/-- one way alone -/
theorem Path.det : ∀ {u w w' : NestedKey} {l l' : List Ato}, Path C u l w → Path C u l' w' → l.length ≤ l'.length → ∃ r, l' = l ++ r ∧ Path C w r w'
  | _, _, _, _, l', .nil _, h', _ => ⟨l', rfl, h'⟩
  | _, _, _, _, [], .cons .., _, hl => by simp at hl
  | _, _, _, _, b :: l', .cons (a := a) h1 h2 h3, h', hl => by
    obtain ⟨g2, g1, g3⟩ := h'.head
    rw [h1] at g1
    obtain rfl : a = b := Option.some.inj g1
    obtain ⟨r, e, p⟩ := h3.det g3 (by simpa using hl)
    exact ⟨r, by rw [e, List.cons_append], p⟩
/-- a node that is met on the way -/
theorem Path.meet : ∀ {u w x : NestedKey} {l : List Ato}, Path C u l w → x ∈ l.map (·.u) ++ [w] → ∃ m1 m2, l = m1 ++ m2 ∧ Path C u m1 x ∧ Path C x m2 w
  | u, _, x, _, .nil _, hx => by
    have e : x = u := by simpa using hx
    subst e
    exact ⟨[], [], rfl, .nil _, .nil _⟩
  | u, _, x, _, .cons (a := a) h1 h2 h3, hx => by
    rw [List.map_cons, List.cons_append] at hx
    rcases List.mem_cons.mp hx with e | hx
    · subst e
      rw [h2]
      exact ⟨[], _, rfl, .nil _, .cons h1 h2 h3⟩
    · obtain ⟨m1, m2, e, p1, p2⟩ := h3.meet hx
      exact ⟨a :: m1, m2, by rw [e, List.cons_append], .cons h1 h2 p1, p2⟩
/-- a node met twice -/
theorem Path.twice : ∀ {u w : NestedKey} {l : List Ato}, Path C u l w → ¬ (l.map (·.u) ++ [w]).Nodup → ∃ l1 l2 l3 y, l = l1 ++ (l2 ++ l3) ∧ l2 ≠ [] ∧ Path C u l1 y ∧ Path C y l2 y ∧ Path C y l3 w
  | u, _, _, .nil _, hn => absurd (by simp) hn
  | u, w, _, .cons (a := a) (l := l) h1 h2 h3, hn => by
    by_cases hm : a.u ∈ l.map (·.u) ++ [w]
    · obtain ⟨m1, m2, e, p1, p2⟩ := h3.meet hm
      rw [h2] at p1 p2
      exact ⟨[], a :: m1, m2, u, by rw [e]; rfl, by simp, .nil _, .cons h1 h2 p1, p2⟩
    · have hn' : ¬ (l.map (·.u) ++ [w]).Nodup := fun z => hn (by rw [List.map_cons, List.cons_append]; exact List.nodup_cons.mpr ⟨hm, z⟩)
      obtain ⟨l1, l2, l3, y, e, ne, p1, p2, p3⟩ := h3.twice hn'
      exact ⟨a :: l1, l2, l3, y, by rw [e, List.cons_append], ne, .cons h1 h2 p1, p2, p3⟩
end
theorem nodup_sub {α : Type} [DecidableEq α] : ∀ (l m : List α), l.Nodup → (∀ x ∈ l, x ∈ m) → l.length ≤ m.length
  | [], _, _, _ => Nat.zero_le _
  | x :: l, m, hn, hs => by
    obtain ⟨h1, h2⟩ := List.nodup_cons.mp hn
    have hx := hs x List.mem_cons_self
    have ih := nodup_sub l (m.erase x) h2 fun y hy => (List.mem_erase_of_ne (fun e => h1 (by rw [← e]; exact hy))).mpr (hs y (List.mem_cons_of_mem _ hy))
    rw [List.length_erase_of_mem hx] at ih
    have hpos : 0 < m.length := List.length_pos_of_mem hx
    rw [List.length_cons]
    omega
/-! ### negative rings only -/
def Neg (C : Cau) : Prop := ∀ u l, l ≠ [] → Path C u l u → sumK l < 0
def Down (L : NestedKey → Int) (C : Cau) : Prop := ∀ u a, C u = some a → L a.v + a.k ≤ L u
theorem Path.pot {C : Cau} {L : NestedKey → Int} (d : Down L C) : ∀ {u w : NestedKey} {l : List Ato}, Path C u l w → sumK l ≤ L u - L w
  | _, _, _, .nil _ => by simp [sumK]
  | _, _, _, .cons h1 h2 h3 => by
    have := d _ _ h1
    have := h3.pot d
    simp only [sumK]
    omega
def setC (C : Cau) (a : Ato) : Cau := fun x => if x = a.u then some a else C x
theorem path_old {C : Cau} {a : Ato} : ∀ {u w : NestedKey} {l : List Ato}, Path (setC C a) u l w → Path C u l w ∨ ∃ l1 l2, l = l1 ++ a :: l2 ∧ Path C u l1 a.u ∧ Path (setC C a) a.v l2 w
  | _, _, _, .nil _ => .inl (.nil _)
  | u, _, _, .cons (a := b) (l := l) h1 h2 h3 => by
    by_cases e : u = a.u
    · have hb : b = a := by
        unfold setC at h1
        rw [if_pos e] at h1
        exact (Option.some.inj h1).symm
      subst hb
      exact .inr ⟨[], l, rfl, by rw [← e]; exact .nil _, h3⟩
    · have h1' : C u = some b := by
        unfold setC at h1
        rw [if_neg e] at h1
        exact h1
      rcases path_old h3 with p | ⟨l1, l2, e1, p1, p2⟩
      · exact .inl (.cons h1' h2 p)
      · exact .inr ⟨b :: l1, l2, by rw [e1, List.cons_append], .cons h1' h2 p1, p2⟩
theorem neg_set {C : Cau} {L : NestedKey → Int} {a : Ato} (d : Down L C) (n : Neg C) (h : L a.u > L a.v + a.k) : Neg (setC C a) := by
  have key : ∀ (m : Nat) (u : NestedKey) (l : List Ato), l.length ≤ m → l ≠ [] → Path (setC C a) u l u → sumK l < 0 := by
    intro m
    induction m with
    | zero => intro u l hm hl _; exact absurd (List.eq_nil_of_length_eq_zero (Nat.le_zero.mp hm)) hl
    | succ m ih =>
      intro u l hm hl p
      rcases path_old p with q | ⟨l1, l2, e, p1, p2⟩
      · exact n u l hl q
      · have s1 := p1.pot d
        rcases path_old p2 with q | ⟨m1, m2, e2, q1, q2⟩
        · have s2 := q.pot d
          rw [e, sumK_app]
          simp only [sumK]
          omega
        · have s2 := q1.pot d
          have pp : Path (setC C a) u (l1 ++ a :: m2) u := by
            rw [e] at p
            obtain ⟨y, r1, r2⟩ := Path.split l1 p
            obtain ⟨g2, g1, _⟩ := r2.head
            subst g2
            exact r1.app (.cons g1 rfl q2)
          have := ih u (l1 ++ a :: m2) (by
            rw [e, e2] at hm
            simp only [List.length_append, List.length_cons] at hm ⊢
            omega) (by simp) pp
          rw [e, e2]
          simp only [sumK_app, sumK] at this ⊢
          omega
  exact fun u l hl p => key l.length u l (Nat.le_refl _) hl p
/-! ### the passes -/
structure BF where
  L : NestedKey → Int
  C : Cau
  last : Option Ato
def setL (L : NestedKey → Int) (x : NestedKey) (i : Int) : NestedKey → Int := fun y => if y = x then i else L y
def relax (s : BF) (a : Ato) : BF := if s.L a.u > s.L a.v + a.k then ⟨setL s.L a.u (s.L a.v + a.k), setC s.C a, some a⟩ else s
structure Good (as : List Ato) (t : Nat) (L : NestedKey → Int) (C : Cau) (T : NestedKey → Nat) : Prop where
  src : ∀ u a, C u = some a → a.u = u ∧ a ∈ as ∧ L a.v + a.k ≤ L u ∧ T u ≤ T a.v + 1
  has : ∀ u, 1 ≤ T u → ∃ a, C u = some a
  cap : ∀ u, T u ≤ t
  neg : Neg C
  old : ∀ a ∈ as, T a.v + 1 < t → L a.u ≤ L a.v + a.k
theorem Good.start {as : List Ato} : Good as 1 (fun _ => 0) (fun _ => none) (fun _ => 0) where
  src := fun _ _ h => (nomatch h)
  has := fun _ h => absurd h (by omega)
  cap := fun _ => by omega
  neg := fun u l hl p => by
    cases p with
    | nil => exact absurd rfl hl
    | cons h1 _ _ => cases h1
  old := fun a _ h => absurd h (by omega)
theorem Good.down {as : List Ato} {t : Nat} {L : NestedKey → Int} {C : Cau} {T : NestedKey → Nat} (g : Good as t L C T) : Down L C := fun u a h => (g.src u a h).2.2.1
/-- within pass t, behind the atoms done -/
structure Mid (as : List Ato) (t : Nat) (done : List Ato) (s : BF) (T : NestedKey → Nat) : Prop where
  good : Good as t s.L s.C T
  now : ∀ a ∈ done, T a.v < t → s.L a.u ≤ s.L a.v + a.k
  last : ∀ b, s.last = some b → b ∈ as ∧ s.C b.u = some b ∧ T b.u = t
theorem Mid.step {as done : List Ato} {t : Nat} {s : BF} {T : NestedKey → Nat} (ht1 : 1 ≤ t) (M : Mid as t done s T) {a : Ato} (ha : a ∈ as) : ∃ T', Mid as t (done ++ [a]) (relax s a) T' := by
  obtain ⟨g, nw, la⟩ := M
  unfold relax
  by_cases c : s.L a.u > s.L a.v + a.k
  · rw [if_pos c]
    have ht : t ≤ T a.v + 1 := by
      refine Nat.le_of_not_lt fun z => ?_
      have := g.old a ha z
      omega
    have le : ∀ y, setL s.L a.u (s.L a.v + a.k) y ≤ s.L y := fun y => by
      unfold setL
      split
      · rename_i e; rw [e]; omega
      · exact Int.le_refl _
    have same : ∀ y, y ≠ a.u → setL s.L a.u (s.L a.v + a.k) y = s.L y := fun y h => if_neg h
    have at_ : setL s.L a.u (s.L a.v + a.k) a.u = s.L a.v + a.k := if_pos rfl
    have cat : setC s.C a a.u = some a := if_pos rfl
    have cne : ∀ y, y ≠ a.u → setC s.C a y = s.C y := fun y h => if_neg h
    -- the stamps
    let T' : NestedKey → Nat := fun y => if y = a.u then t else T y
    have tat : T' a.u = t := if_pos rfl
    have tne : ∀ y, y ≠ a.u → T' y = T y := fun y h => if_neg h
    have tm : ∀ y, T y ≤ T' y := fun y => by
      by_cases e : y = a.u
      · rw [e, tat]; exact g.cap a.u
      · rw [tne y e]; exact Nat.le_refl _
    have ineq : ∀ (b : Ato) (m : Nat), m ≤ t → (T b.v < m → s.L b.u ≤ s.L b.v + b.k) → T' b.v < m → setL s.L a.u (s.L a.v + a.k) b.u ≤ setL s.L a.u (s.L a.v + a.k) b.v + b.k := fun b m hm h hT => by
      by_cases e : b.v = a.u
      · rw [e, tat] at hT; omega
      · rw [tne _ e] at hT
        rw [same _ e]
        exact Int.le_trans (le b.u) (h hT)
    refine ⟨T', ⟨⟨fun u b hb => ?_, fun u hu => ?_, fun u => ?_, neg_set g.down g.neg c, fun b hb hT => ?_⟩, fun b hb hT => ?_, fun b hb => ?_⟩⟩
    · by_cases e : u = a.u
      · subst e
        have hb' : setC s.C a a.u = some b := hb
        rw [cat] at hb'
        obtain rfl : a = b := Option.some.inj hb'
        refine ⟨rfl, ha, ?_, ?_⟩
        · show setL s.L a.u (s.L a.v + a.k) a.v + a.k ≤ setL s.L a.u (s.L a.v + a.k) a.u
          rw [at_]
          have := le a.v
          omega
        · rw [tat]
          have := tm a.v
          omega
      · have hb' : setC s.C a u = some b := hb
        rw [cne u e] at hb'
        obtain ⟨h1, h2, h3, h4⟩ := g.src u b hb'
        refine ⟨h1, h2, ?_, ?_⟩
        · show setL s.L a.u (s.L a.v + a.k) b.v + b.k ≤ setL s.L a.u (s.L a.v + a.k) u
          rw [same u e]
          have := le b.v
          omega
        · rw [tne u e]
          have := tm b.v
          omega
    · by_cases e : u = a.u
      · subst e; exact ⟨a, cat⟩
      · rw [tne u e] at hu
        obtain ⟨b, hb⟩ := g.has u hu
        exact ⟨b, (cne u e).trans hb⟩
    · by_cases e : u = a.u
      · rw [e, tat]; exact Nat.le_refl _
      · rw [tne u e]; exact g.cap u
    · exact ineq b (t - 1) (by omega) (fun h => g.old b hb (by omega)) (by omega)
    · rcases List.mem_append.mp hb with hb | hb
      · exact ineq b t (Nat.le_refl _) (nw b hb) hT
      · obtain rfl : b = a := by simpa using hb
        show setL s.L b.u (s.L b.v + b.k) b.u ≤ setL s.L b.u (s.L b.v + b.k) b.v + b.k
        have e : b.v ≠ b.u := fun e => by rw [e, tat] at hT; omega
        rw [at_, same _ e]
        exact Int.le_refl _
    · have hb' : some a = some b := hb
      obtain rfl : a = b := Option.some.inj hb'
      exact ⟨ha, cat, tat⟩
  · rw [if_neg c]
    refine ⟨T, ⟨g, fun b hb hT => ?_, la⟩⟩
    rcases List.mem_append.mp hb with hb | hb
    · exact nw b hb hT
    · obtain rfl : b = a := by simpa using hb
      omega
def pass (as : List Ato) (L : NestedKey → Int) (C : Cau) : BF := as.foldl relax ⟨L, C, none⟩
theorem mid_all {as : List Ato} {t : Nat} (ht : 1 ≤ t) : ∀ (rest done : List Ato) (s : BF) (T : NestedKey → Nat), (∀ a ∈ rest, a ∈ as) → Mid as t done s T → ∃ T', Mid as t (done ++ rest) (rest.foldl relax s) T'
  | [], done, s, T, _, M => ⟨T, by rw [List.append_nil]; exact M⟩
  | a :: rest, done, s, T, hs, M => by
    obtain ⟨T1, M1⟩ := M.step ht (hs a List.mem_cons_self)
    obtain ⟨T2, M2⟩ := mid_all ht rest (done ++ [a]) (relax s a) T1 (fun b hb => hs b (List.mem_cons_of_mem _ hb)) M1
    exact ⟨T2, by rw [List.append_assoc] at M2; exact M2⟩
/-- a whole pass -/
theorem pass_good {as : List Ato} {t : Nat} {L : NestedKey → Int} {C : Cau} {T : NestedKey → Nat} (ht : 1 ≤ t) (g : Good as t L C T) :
    ∃ T', Good as (t + 1) (pass as L C).L (pass as L C).C T' ∧ ∀ b, (pass as L C).last = some b → b ∈ as ∧ (pass as L C).C b.u = some b ∧ T' b.u = t := by
  obtain ⟨T', M⟩ := mid_all (as := as) ht as [] ⟨L, C, none⟩ T (fun a h => h) ⟨g, fun a h => (nomatch h), fun b h => (nomatch h)⟩
  rw [List.nil_append] at M
  obtain ⟨g', nw, la⟩ := M
  exact ⟨T', ⟨g'.src, g'.has, fun u => Nat.le_succ_of_le (g'.cap u), g'.neg, fun a ha h => nw a ha (by omega)⟩, la⟩
/-- nothing was made less: the levels keep all atoms -/
theorem relax_last (s : BF) (a : Ato) (h : s.last ≠ none) : (relax s a).last ≠ none := by
  unfold relax
  split
  · exact fun z => nomatch z
  · exact h
theorem fold_last : ∀ (as : List Ato) (s : BF), s.last ≠ none → (as.foldl relax s).last ≠ none
  | [], _, h => h
  | a :: as, s, h => fold_last as (relax s a) (relax_last s a h)
theorem fold_none : ∀ (as : List Ato) (s : BF), (as.foldl relax s).last = none → (as.foldl relax s) = s ∧ ∀ a ∈ as, s.L a.u ≤ s.L a.v + a.k
  | [], s, _ => ⟨rfl, fun a h => (nomatch h)⟩
  | a :: as, s, h => by
    rw [List.foldl_cons] at h ⊢
    by_cases c : s.L a.u > s.L a.v + a.k
    · exact absurd h (fold_last as (relax s a) (by unfold relax; rw [if_pos c]; exact fun z => nomatch z))
    · have e : relax s a = s := by unfold relax; rw [if_neg c]
      rw [e] at h ⊢
      obtain ⟨h1, h2⟩ := fold_none as s h
      refine ⟨h1, fun b hb => ?_⟩
      rcases List.mem_cons.mp hb with e | hb
      · rw [e]; omega
      · exact h2 b hb
theorem pass_none {as : List Ato} {L : NestedKey → Int} {C : Cau} (h : (pass as L C).last = none) : ∀ a ∈ as, (pass as L C).L a.u ≤ (pass as L C).L a.v + a.k := by
  obtain ⟨h1, h2⟩ := fold_none as ⟨L, C, none⟩ h
  have e : pass as L C = ⟨L, C, none⟩ := h1
  rw [e]
  exact h2
/-! ### behind the last pass -/
/-- causes without an end from u on -/
def Alive (C : Cau) (u : NestedKey) : Prop := ∀ m : Nat, ∃ l w, Path C u l w ∧ l.length = m
theorem Alive.next {C : Cau} {u : NestedKey} (h : Alive C u) : ∃ a, C u = some a ∧ a.u = u ∧ Alive C a.v := by
  obtain ⟨l, w, p, hl⟩ := h 1
  cases p with
  | nil => cases hl
  | cons h1 h2 h3 =>
    refine ⟨_, h1, h2, fun m => ?_⟩
    obtain ⟨l', w', p', hl'⟩ := h (m + 1)
    cases p' with
    | nil => cases hl'
    | cons g1 g2 g3 =>
      rw [h1] at g1
      cases Option.some.inj g1
      exact ⟨_, _, g3, by simpa using hl'⟩
theorem alive_of {C : Cau} {y : NestedKey} {l2 : List Ato} (ne : l2 ≠ []) (p : Path C y l2 y) : Alive C y := by
  have long : ∀ m : Nat, ∃ l, Path C y l y ∧ m ≤ l.length := by
    intro m
    induction m with
    | zero => exact ⟨[], .nil _, Nat.le_refl _⟩
    | succ m ih =>
      obtain ⟨l, q, hl⟩ := ih
      have := List.length_pos_iff.mpr ne
      exact ⟨l2 ++ l, p.app q, by rw [List.length_append]; omega⟩
  intro m
  obtain ⟨l, q, hl⟩ := long m
  rw [← List.take_append_drop m l] at q
  obtain ⟨w, q1, _⟩ := Path.split _ q
  exact ⟨_, w, q1, by rw [List.length_take]; omega⟩
theorem Alive.back {C : Cau} {u y : NestedKey} {l : List Ato} (p : Path C u l y) (h : Alive C y) : Alive C u := by
  intro m
  obtain ⟨l', w, q, hl⟩ := h m
  have q2 := p.app q
  rw [← List.take_append_drop m (l ++ l')] at q2
  obtain ⟨w', q1, _⟩ := Path.split _ q2
  exact ⟨_, w', q1, by rw [List.length_take, List.length_append]; omega⟩
theorem Alive.fwd {C : Cau} : ∀ {u y : NestedKey} {l : List Ato}, Path C u l y → Alive C u → Alive C y
  | _, _, _, .nil _, h => h
  | _, _, _, .cons h1 h2 h3, h => by
    obtain ⟨a, e, _, ha⟩ := h.next
    rw [h1] at e
    cases Option.some.inj e
    exact Alive.fwd h3 ha
/-- stamps fall by one at most: a path as long as the stamp -/
theorem stamp_path {as : List Ato} {t : Nat} {L : NestedKey → Int} {C : Cau} {T : NestedKey → Nat} (g : Good as t L C T) : ∀ (m : Nat) (u : NestedKey), m ≤ T u → ∃ l w, Path C u l w ∧ l.length = m
  | 0, u, _ => ⟨[], u, .nil _, rfl⟩
  | m + 1, u, h => by
    obtain ⟨a, ha⟩ := g.has u (by omega)
    obtain ⟨h1, _, _, h4⟩ := g.src u a ha
    obtain ⟨l, w, p, hl⟩ := stamp_path g m a.v (by omega)
    exact ⟨a :: l, w, .cons ha h1 p, by rw [List.length_cons, hl]⟩
theorem path_nodes {as : List Ato} {t : Nat} {L : NestedKey → Int} {C : Cau} {T : NestedKey → Nat} (g : Good as t L C T) {nodes : List NestedKey} (hn : ∀ a ∈ as, a.u ∈ nodes ∧ a.v ∈ nodes) : ∀ {u w : NestedKey} {l : List Ato}, Path C u l w → u ∈ nodes → ∀ x ∈ l.map (·.u) ++ [w], x ∈ nodes
  | _, _, _, .nil _, hu, x, hx => by
    obtain rfl : x = _ := by simpa using hx
    exact hu
  | _, _, _, .cons h1 h2 h3, hu, x, hx => by
    rw [List.map_cons, List.cons_append] at hx
    rcases List.mem_cons.mp hx with e | hx
    · rw [e, h2]; exact hu
    · exact path_nodes g hn h3 (hn _ (g.src _ _ h1).2.1).2 x hx
/-- so many passes as nodes, and still less in the last one: no end -/
theorem last_alive {as : List Ato} {t : Nat} {L : NestedKey → Int} {C : Cau} {T : NestedKey → Nat} (g : Good as (t + 1) L C T) {nodes : List NestedKey} (hn : ∀ a ∈ as, a.u ∈ nodes ∧ a.v ∈ nodes) (hl : nodes.length ≤ t) {b : Ato} (hb : b ∈ as) (hT : T b.u = t) : Alive C b.u := by
  obtain ⟨l, w, p, e⟩ := stamp_path g t b.u (by omega)
  have all := path_nodes g hn p (hn b hb).1
  have dup : ¬ (l.map (·.u) ++ [w]).Nodup := fun nd => by
    have := nodup_sub _ _ nd all
    rw [List.length_append, List.length_map, List.length_singleton, e] at this
    omega
  obtain ⟨l1, l2, l3, y, _, ne, p1, p2, _⟩ := p.twice dup
  exact (alive_of ne p2).back p1
/-- c steps on, c the number of causes: on a ring -/
theorem on_ring {C : Cau} {u w : NestedKey} {l : List Ato} {keys : List NestedKey} (hk : ∀ x a, C x = some a → x ∈ keys) (h : Alive C u) (p : Path C u l w) (hl : l.length = keys.length) : ∃ r, r ≠ [] ∧ r.length ≤ keys.length ∧ Path C w r w := by
  have all : ∀ x ∈ l.map (·.u) ++ [w], x ∈ keys := fun x hx => by
    obtain ⟨m1, m2, _, p1, p2⟩ := p.meet hx
    obtain ⟨a, ha, _⟩ := (h.fwd p1).next
    exact hk x a ha
  have dup : ¬ (l.map (·.u) ++ [w]).Nodup := fun nd => by
    have := nodup_sub _ _ nd all
    rw [List.length_append, List.length_map, List.length_singleton, hl] at this
    omega
  obtain ⟨l1, l2, l3, y, el, ne, _, p2, p3⟩ := p.twice dup
  obtain ⟨r, e, q⟩ := p3.det (p2.app p3) (by rw [List.length_append]; omega)
  have e' := congrArg List.length e
  have el' := congrArg List.length el
  refine ⟨r, fun z => ?_, by simp only [List.length_append] at e' el'; omega, q⟩
  rw [z, List.append_nil, List.length_append] at e'
  have := List.length_pos_iff.mpr ne
  omega
/-! ### the ring that is gone round -/
theorem path_round {C : Cau} : ∀ {u w : NestedKey} {l : List Ato}, Path C u l w → l.map (·.v) = (l.drop 1).map (·.u) ++ (match l with | [] => [] | _ => [w])
  | _, _, _, .nil _ => rfl
  | _, w, _, .cons (a := a) (l := l) h1 h2 h3 => by
    have ih := path_round h3
    cases h3 with
    | nil => rfl
    | cons g1 g2 g3 =>
      rw [List.map_cons, ih]
      simp only [List.drop_succ_cons, List.drop_zero, List.map_cons, List.cons_append, g2]
theorem ring_made {as : List Ato} {t : Nat} {L : NestedKey → Int} {C : Cau} {T : NestedKey → Nat} (g : Good as t L C T) (ns : ∀ a ∈ as, a.u ≠ a.v) {x : NestedKey} {a0 : Ato} {tl : List Ato} (p : Path C x (a0 :: tl) x) (first : ∀ a ∈ tl, a.u ≠ x) : RingOk as (a0 :: tl) := by
  have inC : ∀ {u w : NestedKey} {l : List Ato}, Path C u l w → ∀ a ∈ l, a ∈ as := by
    intro u w l q
    induction q with
    | nil => intro a h; exact nomatch h
    | cons h1 h2 _ ih =>
      intro a h
      rcases List.mem_cons.mp h with e | h
      · rw [e]; exact (g.src _ _ h1).2.1
      · exact ih a h
  have nd : ((a0 :: tl).map (·.u)).Nodup := Classical.byContradiction fun dup => by
    -- the last one off
    obtain ⟨b, l0, e0⟩ : ∃ b l0, a0 :: tl = l0 ++ [b] := by
      rcases List.eq_nil_or_concat (a0 :: tl) with z | ⟨l0, b, e⟩
      · cases z
      · exact ⟨b, l0, by rw [e]; simp⟩
    have p' := p
    rw [e0] at p'
    obtain ⟨z, q1, q2⟩ := Path.split l0 p'
    obtain ⟨hb, hcb, _⟩ := q2.head
    have dup' : ¬ (l0.map (·.u) ++ [z]).Nodup := fun nd => dup (by rw [e0, List.map_append, List.map_singleton, hb]; exact nd)
    obtain ⟨l1, l2, l3, y, e1, ne, r1, r2, r3⟩ := q1.twice dup'
    have short : Path C x (l1 ++ (l3 ++ [b])) x := r1.app (r3.app q2)
    obtain ⟨r, er, pr⟩ := short.det p (by
      rw [e0, e1]
      simp only [List.length_append]
      omega)
    have hr : r ≠ [] := fun zr => by
      have := congrArg List.length er
      rw [zr, e0, e1] at this
      simp only [List.length_append, List.length_nil] at this
      have := List.length_pos_iff.mpr ne
      omega
    cases r with
    | nil => exact hr rfl
    | cons c r =>
      have hc := pr.head.1
      have hm : c ∈ tl := by
        have hx : ∃ d r0, l1 ++ (l3 ++ [b]) = d :: r0 := by
          cases h : l1 ++ (l3 ++ [b]) with
          | nil => simp at h
          | cons d r0 => exact ⟨d, r0, rfl⟩
        obtain ⟨d, r0, ed⟩ := hx
        rw [ed, List.cons_append] at er
        have et := (List.cons.inj er).2
        rw [et]
        exact List.mem_append_right _ List.mem_cons_self
      exact first c hm hc
  refine ⟨?_, L2.nodup_of_map nd, inC p, ?_, g.neg x _ (by simp) p⟩
  · cases tl with
    | nil =>
      obtain ⟨h1, h2, h3⟩ := p.head
      cases h3
      exact absurd h1 (ns a0 (inC p a0 (by simp)))
    | cons b tl => simp only [List.length_cons]; omega
  · rw [path_round p, List.map_append]
    have e : a0.u = x := p.head.1
    simp [e]
end OW
end
section
set_option linter.all false
set_option maxRecDepth 100000
set_option autoImplicit false
/- M2: names, alternatives, clauses, trees. -/
namespace OW
open PySem L2
abbrev ZK : NestedKey := .tup []
/-- an unknown that is not the nought -/
def Unk1 (k : NestedKey) : Prop := ∃ r ns c, k = .tup [.text r, .tup (List.map NestedKey.num ns), .text c]
def Unk (k : NestedKey) : Prop := k = ZK ∨ Unk1 k
structure AtoOk (a : Ato) : Prop where
  u : Unk a.u
  v : Unk a.v
  ne : a.u ≠ a.v
abbrev Alt := List Ato
abbrev Cla := List Alt
def altK (a : Alt) : NestedKey := .tup (a.map Ato.key)
def claK (c : Cla) : NestedKey := .tup (c.map altK)
def AltOk (a : Alt) : Prop := a ≠ [] ∧ ∀ x ∈ a, AtoOk x
def ClaOk (c : Cla) : Prop := c ≠ [] ∧ ∀ a ∈ c, AltOk a
theorem map_inj {α β : Type} {f : α → β} (hf : ∀ a b, f a = f b → a = b) : ∀ {l m : List α}, l.map f = m.map f → l = m
  | [], [], _ => rfl
  | [], _ :: _, h => by simp at h
  | _ :: _, [], h => by simp at h
  | a :: l, b :: m, h => by
    rw [List.map_cons, List.map_cons] at h
    injection h with h1 h2
    rw [hf a b h1, map_inj hf h2]
theorem altK_inj {a b : Alt} (h : altK a = altK b) : a = b := map_inj (fun _ _ e => Ato.inj e) (NestedKey.tup.inj h)
theorem claK_inj {a b : Cla} (h : claK a = claK b) : a = b := map_inj (fun _ _ e => altK_inj e) (NestedKey.tup.inj h)
theorem mem_key {as : List Ato} {a : Ato} : a.key ∈ as.map Ato.key ↔ a ∈ as := ⟨fun h => by
  obtain ⟨b, hb, e⟩ := List.mem_map.mp h
  rw [← Ato.inj e]; exact hb, fun h => List.mem_map.mpr ⟨a, h, rfl⟩⟩
theorem mem_claK {as : List Cla} {a : Cla} : claK a ∈ as.map claK ↔ a ∈ as := ⟨fun h => by
  obtain ⟨b, hb, e⟩ := List.mem_map.mp h
  rw [← claK_inj e]; exact hb, fun h => List.mem_map.mpr ⟨a, h, rfl⟩⟩
/-! ### depths -/
theorem depthAll_le {ks : List NestedKey} {d : Nat} (h : ∀ k ∈ ks, k.depth ≤ d) : NestedKey.depthAll ks ≤ d := by
  induction ks with
  | nil => simp [NestedKey.depthAll]
  | cons k ks ih =>
    have h1 := h k List.mem_cons_self
    have h2 := ih fun x hx => h x (List.mem_cons_of_mem _ hx)
    simp only [NestedKey.depthAll]
    omega
theorem depth_tup {ks : List NestedKey} {d : Nat} (h : ∀ k ∈ ks, k.depth ≤ d) : (NestedKey.tup ks).depth ≤ d + 1 := by
  have := depthAll_le h
  simp only [NestedKey.depth]
  omega
theorem depth_map {α : Type} {f : α → NestedKey} {as : List α} {d : Nat} (h : ∀ a ∈ as, (f a).depth ≤ d) : (NestedKey.tup (as.map f)).depth ≤ d + 1 :=
  depth_tup fun k hk => by
    obtain ⟨a, ha, rfl⟩ := List.mem_map.mp hk
    exact h a ha
theorem Unk.depth {k : NestedKey} (h : Unk k) : k.depth ≤ 2 := by
  rcases h with rfl | ⟨r, ns, c, rfl⟩
  · decide
  · refine depth_tup (d := 1) fun k hk => ?_
    simp only [List.mem_cons, List.not_mem_nil, or_false] at hk
    rcases hk with rfl | rfl | rfl
    · simp [NestedKey.depth]
    · exact depth_map (d := 0) fun _ _ => by simp [NestedKey.depth]
    · simp [NestedKey.depth]
theorem AtoOk.depth {a : Ato} (h : AtoOk a) : a.key.depth ≤ 3 := depth_tup (d := 2) fun k hk => by
  simp only [List.mem_cons, List.not_mem_nil, or_false] at hk
  rcases hk with rfl | rfl | rfl
  · exact h.u.depth
  · exact h.v.depth
  · simp [NestedKey.depth]
theorem AltOk.depth {a : Alt} (h : ∀ x ∈ a, AtoOk x) : (altK a).depth ≤ 4 := depth_map fun x hx => (h x hx).depth
theorem ClaOk.depth {c : Cla} (h : ClaOk c) : (claK c).depth ≤ 5 := depth_map fun x hx => AltOk.depth (h.2 x hx).2
/-! ### sorting -/
theorem alikeAll_of : ∀ {ks ls : List NestedKey}, (∀ x ∈ ks, ∀ y ∈ ls, PySem.W.alike x.data y.data = true) → PySem.W.alikeAll (NestedKey.datas ks) (NestedKey.datas ls) = true
  | [], _, _ => by simp [NestedKey.datas, PySem.W.alikeAll]
  | _ :: _, [], _ => by simp [NestedKey.datas, PySem.W.alikeAll]
  | k :: ks, l :: ls, h => by
    have h1 := h k List.mem_cons_self l List.mem_cons_self
    have h2 := alikeAll_of (ks := ks) (ls := ls) fun x hx y hy => h x (List.mem_cons_of_mem _ hx) y (List.mem_cons_of_mem _ hy)
    simp only [NestedKey.datas, PySem.W.alikeAll, h1, h2, Bool.and_true]
theorem alike_tup {ks ls : List NestedKey} (h : ∀ x ∈ ks, ∀ y ∈ ls, PySem.W.alike x.data y.data = true) : PySem.W.alike (NestedKey.tup ks).data (NestedKey.tup ls).data = true := by
  simp only [NestedKey.data, PySem.W.alike]
  exact alikeAll_of h
theorem alike_map {α β : Type} {f : α → NestedKey} {g : β → NestedKey} {as : List α} {bs : List β} (h : ∀ x ∈ as, ∀ y ∈ bs, PySem.W.alike (f x).data (g y).data = true) : PySem.W.alike (NestedKey.tup (as.map f)).data (NestedKey.tup (bs.map g)).data = true :=
  alike_tup fun x hx y hy => by
    obtain ⟨a, ha, rfl⟩ := List.mem_map.mp hx
    obtain ⟨b, hb, rfl⟩ := List.mem_map.mp hy
    exact h a ha b hb
theorem alike3 {a b c a' b' c' : NestedKey} (h1 : PySem.W.alike a.data a'.data = true) (h2 : PySem.W.alike b.data b'.data = true) (h3 : PySem.W.alike c.data c'.data = true) : PySem.W.alike (NestedKey.tup [a, b, c]).data (NestedKey.tup [a', b', c']).data = true := by
  simp only [NestedKey.data, NestedKey.datas, PySem.W.alike, PySem.W.alikeAll, h1, h2, h3, Bool.and_true]
theorem Unk.alike {k l : NestedKey} (h : Unk k) (g : Unk l) : PySem.W.alike k.data l.data = true := by
  rcases h with rfl | ⟨r, ns, c, rfl⟩
  · rcases g with rfl | ⟨r', ns', c', rfl⟩
    · exact alike_tup (by simp)
    · exact alike_tup (by simp)
  · rcases g with rfl | ⟨r', ns', c', rfl⟩
    · exact alike_tup (by simp)
    · refine alike3 (by simp [NestedKey.data, PySem.W.alike]) (alike_map fun x _ y _ => by simp [NestedKey.data, PySem.W.alike]) (by simp [NestedKey.data, PySem.W.alike])
theorem AtoOk.alike {a b : Ato} (h : AtoOk a) (g : AtoOk b) : PySem.W.alike a.key.data b.key.data = true :=
  alike3 (h.u.alike g.u) (h.v.alike g.v) (by simp [NestedKey.data, PySem.W.alike])
theorem alt_alike {a b : Alt} (h : ∀ x ∈ a, AtoOk x) (g : ∀ x ∈ b, AtoOk x) : PySem.W.alike (altK a).data (altK b).data = true := alike_map fun x hx y hy => (h x hx).alike (g y hy)
theorem cla_alike {a b : Cla} (h : ClaOk a) (g : ClaOk b) : PySem.W.alike (claK a).data (claK b).data = true := alike_map fun x hx y hy => alt_alike (h.2 x hx).2 (g.2 y hy).2
theorem srtOk_of {α : Type} {f : α → NestedKey} {as : List α} (h1 : ∀ a ∈ as, ∀ b ∈ as, PySem.W.alike (f a).data (f b).data = true) (h2 : ∀ a ∈ as, ∃ k ks, f a = .tup (k :: ks)) : SrtOk (as.map f) := by
  have m : ∀ d, d ∈ (as.map f).map NestedKey.data → ∃ a ∈ as, d = (f a).data := fun d hd => by
    obtain ⟨k, hk, rfl⟩ := List.mem_map.mp hd
    obtain ⟨a, ha, rfl⟩ := List.mem_map.mp hk
    exact ⟨a, ha, rfl⟩
  refine ⟨fun d hd d' hd' => ?_, .inl fun d hd => ?_⟩
  · obtain ⟨a, ha, rfl⟩ := m d hd
    obtain ⟨b, hb, rfl⟩ := m d' hd'
    exact h1 a ha b hb
  · obtain ⟨a, ha, rfl⟩ := m d hd
    obtain ⟨k, ks, e⟩ := h2 a ha
    exact ⟨k.data, NestedKey.datas ks, by rw [e]; simp [NestedKey.data, NestedKey.datas]⟩
theorem srt_names {ks : List NestedKey} (h : ∀ k ∈ ks, Unk1 k) : SrtOk ks := by
  have := srtOk_of (f := id) (as := ks) (fun a ha b hb => Unk.alike (.inr (h a ha)) (.inr (h b hb))) fun a ha => by
    obtain ⟨r, ns, c, e⟩ := h a ha
    exact ⟨_, _, e⟩
  rwa [List.map_id] at this
theorem srt_atoms {as : List Ato} (h : ∀ a ∈ as, AtoOk a) : SrtOk (as.map Ato.key) := srtOk_of (fun a ha b hb => (h a ha).alike (h b hb)) fun a _ => ⟨_, _, rfl⟩
theorem srt_alts {as : List Alt} (h : ∀ a ∈ as, AltOk a) : SrtOk (as.map altK) := srtOk_of (fun a ha b hb => alt_alike (h a ha).2 (h b hb).2) fun a ha => by
  cases a with
  | nil => exact absurd rfl (h _ ha).1
  | cons x r => exact ⟨_, _, rfl⟩
theorem srt_clas {as : List Cla} (h : ∀ a ∈ as, ClaOk a) : SrtOk (as.map claK) := srtOk_of (fun a ha b hb => cla_alike (h a ha) (h b hb)) fun a ha => by
  cases a with
  | nil => exact absurd rfl (h _ ha).1
  | cons x r => exact ⟨_, _, rfl⟩
/-- a sorted list of images is a list of images -/
theorem srt_back {α : Type} {f : α → NestedKey} {as : List α} : ∃ bs : List α, bs.Perm as ∧ srtN (as.map f) = bs.map f := by
  have key : ∀ {l m : List NestedKey}, l.Perm m → ∀ as : List α, m = as.map f → ∃ bs : List α, bs.Perm as ∧ l = bs.map f := by
    intro l m h
    induction h with
    | nil => intro L e; exact ⟨L, .refl _, e⟩
    | @cons x l1 l2 _ ih =>
      intro L e
      cases L with
      | nil => cases e
      | cons p L =>
        rw [List.map_cons] at e
        injection e with e1 e2
        obtain ⟨L1, h1, h2⟩ := ih L e2
        exact ⟨p :: L1, h1.cons p, by rw [List.map_cons, ← h2, e1]⟩
    | @swap x y l =>
      intro L e
      cases L with
      | nil => cases e
      | cons p L =>
        cases L with
        | nil => simp at e
        | cons q L =>
          rw [List.map_cons, List.map_cons] at e
          injection e with e1 e2
          injection e2 with e2 e3
          exact ⟨q :: p :: L, .swap _ _ _, by rw [List.map_cons, List.map_cons, e1, e2, e3]⟩
    | @trans l1 l2 l3 _ _ ih1 ih2 =>
      intro L e
      obtain ⟨L1, h1, h2⟩ := ih2 L e
      obtain ⟨L2, h3, h4⟩ := ih1 L1 h2
      exact ⟨L2, h3.trans h1, h4⟩
  exact key (srtN_perm _) as rfl
/-! ### the names of a list of atoms -/
def ddup {α : Type} [DecidableEq α] : List α → List α
  | [] => []
  | x :: r => if x ∈ r then ddup r else x :: ddup r
theorem mem_ddup {α : Type} [DecidableEq α] {x : α} : ∀ {l : List α}, x ∈ ddup l ↔ x ∈ l
  | [] => Iff.rfl
  | y :: l => by
    unfold ddup
    by_cases h : y ∈ l
    · rw [if_pos h, mem_ddup]
      exact ⟨fun z => List.mem_cons_of_mem _ z, fun z => (List.mem_cons.mp z).elim (fun e => by rw [e]; exact h) id⟩
    · rw [if_neg h, List.mem_cons, List.mem_cons, mem_ddup]
theorem nodup_ddup {α : Type} [DecidableEq α] : ∀ (l : List α), (ddup l).Nodup
  | [] => List.nodup_nil
  | y :: l => by
    unfold ddup
    by_cases h : y ∈ l
    · rw [if_pos h]; exact nodup_ddup l
    · rw [if_neg h]; exact List.nodup_cons.mpr ⟨fun z => h (mem_ddup.mp z), nodup_ddup l⟩
def sides (as : List Ato) : List NestedKey := as.map (·.u) ++ as.map (·.v)
def names (as : List Ato) : List NestedKey := srtN (ddup ((sides as).filter fun k => decide (k ≠ ZK)))
theorem mem_sides {as : List Ato} {k : NestedKey} : k ∈ sides as ↔ ∃ a ∈ as, k = a.u ∨ k = a.v := by
  unfold sides
  rw [List.mem_append, List.mem_map, List.mem_map]
  exact ⟨fun h => h.elim (fun ⟨a, ha, e⟩ => ⟨a, ha, .inl e.symm⟩) fun ⟨a, ha, e⟩ => ⟨a, ha, .inr e.symm⟩, fun ⟨a, ha, e⟩ => e.elim (fun e => .inl ⟨a, ha, e.symm⟩) fun e => .inr ⟨a, ha, e.symm⟩⟩
theorem mem_names {as : List Ato} {k : NestedKey} : k ∈ names as ↔ k ≠ ZK ∧ ∃ a ∈ as, k = a.u ∨ k = a.v := by
  unfold names
  rw [srtN_mem, mem_ddup, List.mem_filter, mem_sides, decide_eq_true_eq]
  exact And.comm
theorem names_nodup (as : List Ato) : (names as).Nodup := (srtN_perm _).nodup_iff.mpr (nodup_ddup _)
theorem names_unk {as : List Ato} (h : ∀ a ∈ as, AtoOk a) : ∀ k ∈ names as, Unk1 k := fun k hk => by
  obtain ⟨h0, a, ha, e⟩ := mem_names.mp hk
  rcases e with e | e
  · rcases (h a ha).u with z | z
    · exact absurd (e.trans z) h0
    · rw [e]; exact z
  · rcases (h a ha).v with z | z
    · exact absurd (e.trans z) h0
    · rw [e]; exact z
/-- whatever list has these members, each once: sorted it is names -/
theorem names_eq {as : List Ato} (h : ∀ a ∈ as, AtoOk a) {S : List NestedKey} (nd : S.Nodup) (hm : ∀ k, k ∈ S ↔ k ≠ ZK ∧ ∃ a ∈ as, k = a.u ∨ k = a.v) : srtN S = names as := by
  have hs : ∀ k ∈ S, Unk1 k := fun k hk => names_unk h k (mem_names.mpr ((hm k).mp hk))
  refine srtN_set (srt_names hs) nd (nodup_ddup _) fun k => ?_
  rw [hm k, ← mem_names]
  unfold names
  exact srtN_mem
theorem names_congr {as bs : List Ato} (h : ∀ a ∈ as, AtoOk a) (hm : ∀ a, a ∈ as ↔ a ∈ bs) : names as = names bs := by
  have hb : ∀ a ∈ bs, AtoOk a := fun a ha => h a ((hm a).mpr ha)
  refine (names_eq h (S := ddup ((sides bs).filter fun k => decide (k ≠ ZK))) (nodup_ddup _) fun k => ?_).symm
  rw [mem_ddup, List.mem_filter, mem_sides, decide_eq_true_eq]
  exact ⟨fun ⟨⟨a, ha, e⟩, z⟩ => ⟨z, a, (hm a).mpr ha, e⟩, fun ⟨z, a, ha, e⟩ => ⟨⟨a, (hm a).mp ha, e⟩, z⟩⟩
theorem names_len {as : List Ato} : (names as).length ≤ 2 * as.length := by
  have h1 := nodup_sub _ (sides as) (names_nodup as) fun k hk => mem_sides.mpr (mem_names.mp hk).2
  unfold sides at h1
  rw [List.length_append, List.length_map, List.length_map] at h1
  omega
/-! ### trees -/
abbrev tRing : Str := Str.ofString "ring"
abbrev tSplit : Str := Str.ofString "split"
inductive Acc : List Ato → List Cla → NestedKey → Prop
  | ring {held : List Ato} {left : List Cla} {r : List Ato} : RingOk held r → Acc held left (.tup [.text tRing, .tup (r.map Ato.key)])
  | split {held : List Ato} {left : List Cla} {c : Cla} {ts : List NestedKey} : c ∈ left → ts.length = c.length → (∀ (i : Nat) (a : Alt) (t : NestedKey), c[i]? = some a → ts[i]? = some t → Acc (held ++ a) (left.filter fun d => decide (d ≠ c)) t) →
    Acc held left (.tup [.text tSplit, claK c, .tup ts])
theorem RingOk.mono {as bs r : List Ato} (R : RingOk as r) (h : ∀ a ∈ as, a ∈ bs) : RingOk bs r := ⟨R.two, R.nd, fun a ha => h a (R.sub a ha), R.round, R.neg⟩
theorem Acc.mono {held : List Ato} {left : List Cla} {t : NestedKey} (A : Acc held left t) : ∀ {held' : List Ato} {left' : List Cla}, (∀ a ∈ held, a ∈ held') → (∀ c ∈ left, c ∈ left') → Acc held' left' t := by
  induction A with
  | ring R => intro held' left' h1 h2; exact .ring (R.mono h1)
  | split hc hl hs ih =>
    intro held' left' h1 h2
    refine .split (h2 _ hc) hl fun i a t ha ht => ih i a t ha ht (fun b hb => ?_) fun d hd => ?_
    · rcases List.mem_append.mp hb with hb | hb
      · exact List.mem_append_left _ (h1 b hb)
      · exact List.mem_append_right _ hb
    · obtain ⟨q1, q2⟩ := List.mem_filter.mp hd
      exact List.mem_filter.mpr ⟨h2 d q1, q2⟩
/-- all clauses are met -/
def Met (f : NestedKey → Int) (cs : List Cla) : Prop := ∀ c ∈ cs, ∃ a ∈ c, Sat f a
theorem Acc.sound {held : List Ato} {left : List Cla} {t : NestedKey} (A : Acc held left t) : ∀ {f : NestedKey → Int}, Sat f held → Met f left → False := by
  induction A with
  | ring R => intro f h _; exact ring_no R h
  | @split held left c ts hc hl hs ih =>
    intro f h1 h2
    obtain ⟨a, ha, sa⟩ := h2 _ hc
    obtain ⟨i, hi, e⟩ := List.getElem_of_mem ha
    have hi2 : i < ts.length := by omega
    exact ih i a ts[i] (by rw [List.getElem?_eq_getElem hi, e]) (List.getElem?_eq_getElem hi2) (fun b hb => (List.mem_append.mp hb).elim (h1 b) (sa b)) fun d hd => h2 d (List.mem_filter.mp hd).1
theorem Acc.depth {held : List Ato} {left : List Cla} {t : NestedKey} (A : Acc held left t) : ∀ (n : Nat), left.length ≤ n → (∀ a ∈ held, AtoOk a) → (∀ c ∈ left, ClaOk c) → t.depth ≤ 2 * n + 6 := by
  induction A with
  | @ring held left r R =>
    intro n _ h _
    refine Nat.le_trans (depth_tup (d := 4) fun k hk => ?_) (by omega)
    simp only [List.mem_cons, List.not_mem_nil, or_false] at hk
    rcases hk with rfl | rfl
    · simp [NestedKey.depth]
    · exact depth_map (d := 3) fun a ha => (h a (R.sub a ha)).depth
  | @split held left c ts hc hl hs ih =>
    intro n hn h1 h2
    have hlt : (left.filter fun d => decide (d ≠ c)).length < left.length := by
      refine Nat.lt_of_le_of_ne (List.length_filter_le _ _) fun e => ?_
      have := (List.length_filter_eq_length_iff.mp e) c hc
      simp at this
    refine Nat.le_trans (depth_tup (d := 2 * n + 5) fun k hk => ?_) (by omega)
    simp only [List.mem_cons, List.not_mem_nil, or_false] at hk
    rcases hk with rfl | rfl | rfl
    · simp [NestedKey.depth]
    · have := (h2 c hc).depth; omega
    · refine Nat.le_trans (depth_tup (d := 2 * n + 4) fun k hk => ?_) (by omega)
      obtain ⟨i, hi, e⟩ := List.getElem_of_mem hk
      have hi2 : i < c.length := by omega
      have := ih i c[i] k (List.getElem?_eq_getElem hi2) (by rw [List.getElem?_eq_getElem hi, e]) (n - 1) (by omega) (fun b hb => (List.mem_append.mp hb).elim (h1 b) fun hb => (h2 c hc).2 _ (List.getElem_mem hi2) |>.2 b hb) fun d hd => h2 d (List.mem_filter.mp hd).1
      omega
end OW
end
section
set_option linter.all false
set_option maxRecDepth 100000
set_option maxHeartbeats 4000000
set_option autoImplicit false
/- P0: the text by places; small rules; has_bools. -/
namespace OW
open PySem L2
def top (i : Nat) : Stmt := PySem.Challenge.pw_ownwake_k52_great_systems.main.body.getD i (.Pass ⟨0, 0, 0, 0⟩)
/-- a def of the text -/
structure Df (K : PySem.W.Frag) (mg : Str → Option Value) (x : Str) (st : Stmt) (ps : List Str) (f : Addr) (fd : FuncData) : Prop where
  fn : Fun K x x st f fd
  b : Binds K fd ps []
  m : mg x = some (.ref f)
theorem Df.kp {K : PySem.W.Frag} {mg : Str → Option Value} {x : Str} {st : Stmt} {ps : List Str} {f : Addr} {fd : FuncData} (D : Df K mg x st ps f fd) : PySem.W.keepIn K (.ref f) = true := D.fn.kp
/-- the built-ins and constants that the text uses -/
structure Bl (K : PySem.W.Frag) (mg : Str → Option Value) : Prop where
  isi : mg "isinstance" = none
  tup : mg "tuple" = none
  any : mg "any" = none
  all : mg "all" = none
  bool : mg "bool" = none
  int : mg "int" = none
  str : mg "str" = none
  sorted : mg "sorted" = none
  range : mg "range" = none
  len : mg "len" = none
  dict : mg "dict" = none
  list : mg "list" = none
  set : mg "set" = none
  sum : mg "sum" = none
  zip : mg "zip" = none
  zero : ∃ z, mg "ZERO" = some (.ref z) ∧ ∃ o n, K.lookup z = some o ∧ o.cls = .type "tuple" ∧ o.data = .seq #[] n
  pair : ∃ t, mg "PAIR_PARTS" = some (.int 2 t)
  lring : ∃ t, mg "LEAST_RING" = some (.int 2 t)
  ring : ∃ t, mg "RING" = some (.str "ring" t)
  split : ∃ t, mg "SPLIT" = some (.str "split" t)
  sol : ∃ t, mg "SOLUTION" = some (.str "solution" t)
  tree : ∃ t, mg "TREE" = some (.str "tree" t)
  rparts : ∃ t, mg "RING_PARTS" = some (.int 2 t)
  sparts : ∃ t, mg "SPLIT_PARTS" = some (.int 3 t)
/-! ### types of data -/
def tyName : NestedKey → String
  | .none => "NoneType"
  | .num _ => "int"
  | .text _ => "str"
  | .tup _ => "tuple"
theorem sqT_tyx {K : PySem.W.Frag} {H : Hp} {a : Addr} {xs : List V} (h : SqT K H a xs) : TyX K H (.ref a) (.type "tuple") := by
  rcases h with (h | ⟨o, h⟩) | ⟨o, its, n, h1, h2, _⟩
  · exact .base (.tup h)
  · exact .fTuple h
  · exact .kTuple h1 h2
theorem nk_tyx {K : PySem.W.Frag} {H : Hp} {k : NestedKey} {v : V} (h : Nk K H k v) : TyX K H v (.type (tyName k)) := by
  cases h with
  | non => exact .base .non
  | num i => exact .base (.int i)
  | text x _ => exact .base (.str x)
  | tup h _ => exact sqT_tyx h
def rIsiB (K : PySem.W.Frag) : List V → Hp → VK → Prop := fun xs H Q => ∃ x T t b, xs = [x, .ty T] ∧ TyX K H x (.type t) ∧ kitB t T = some b ∧ Q (.bl b) H
section
variable {X : Cx}
theorem cr_isi : CallR X (.builtin "isinstance") (rIsiB X.K) := by
  intro pins s σ H xs us Q I r h
  obtain ⟨x, T, t, b, rfl, h1, h2, q⟩ := h
  exact call_isi pins s σ H _ us Q I r ⟨x, .ty T, .type t, .type T, b, rfl, .ty T, h1, kit_ty h2, q⟩
/-- a built-in class as a value -/
theorem pe_ty {T : Str} {Tn : String} {q : Pos} (hgT : Gl X T) (hmT : X.mg T = none) (hv : bootBuiltins T = some (.type Tn)) (hn : T ≠ "__name__" := by decide) (hd : (T == ("__debug__" : Str)) = false := by decide) : PE X (.Name T q) (tC (.ty Tn)) := pe_bltn hgT hmT hv rfl hn hd
end
/-! ### has_bools -/
theorem depth_mem {k : NestedKey} : ∀ {ks : List NestedKey}, k ∈ ks → k.depth ≤ NestedKey.depthAll ks
  | l :: ks, h => by
    simp only [NestedKey.depthAll]
    rcases List.mem_cons.mp h with e | h
    · rw [e]; omega
    · have := depth_mem h; omega
/-- no truth value within data -/
def spHas (K : PySem.W.Frag) (n : Nat) : Sp := fun vs H Q _ => ∃ v k, vs = [v] ∧ Nk K H k v ∧ k.depth < n ∧ ∀ H', Same H H' → Q (.bl false) H'
abbrev sHas : Stmt := top 4
theorem scHas : FnScope ["value", "part"] ["value"] (defScope sHas) := ⟨rfl, rfl, rfl, by decide +kernel, rfl, by decide +kernel, by decide +kernel⟩
section
variable {P : Program} {w : World} {K : PySem.W.Frag} {mg : Str → Option Value} {base : Heap}
theorem ok_has {f : Addr} {fd : FuncData} {n : Nat} (B : Bl K mg) (D : Df K mg "has_bools" sHas ["value"] f fd) (G : FnOk P w K mg base CX0 n f fd ["value"] (spHas K n)) : FnOk P w K mg base CX0 (n + 1) f fd ["value"] (spHas K (n + 1)) := by
  refine D.fn.ok scHas (fun vs H Q E h => ?_) (fun cdv A outer s H vs Q E hr h => ?_)
  · obtain ⟨v, k, rfl, _⟩ := h
    rfl
  obtain ⟨v, k, rfl, hk, hd, q⟩ := h
  refine ⟨_, pss_cons (ps_if (pt_val (pe_callB cr_isi (by rfl) B.isi PyProof.Rows.boot_isinstance (pa_cons (pv 0) (pa_cons (pe_ty (by rfl) B.tup PyProof.Rows.boot_tuple) pa_nil))))
      (pss_one (ps_ret (pe_callB (cr_any rfl) (by rfl) B.any PyProof.Rows.boot_any (pa_cons
        (pe_lc (own := [("part", 1)]) (g := gName 1) rfl scHas.nd (pi_sq (pv 0)) (blkOk_by (N := ["value", "part"]) (sc := defScope sHas) (by decide +kernel)) (fun _ _ _ _ _ => pg_name (i := 1) scHas.nd rfl (Or.inl rfl)) (fun _ _ _ _ _ => pts_nil)
          (fun _ _ _ _ _ => pe_call G hr rfl D.m D.kp D.b .nil pass0 (pa_cons (pv 1) pa_nil))) pa_nil)))) pss_nil)
    (pss_one (ps_ret (pe_callB cr_isi (by rfl) B.isi PyProof.Rows.boot_isinstance (pa_cons (pv 0) (pa_cons (pe_ty (by rfl) B.bool PyProof.Rows.boot_bool) pa_nil))))), ?_⟩
  refine ⟨v, rfl, _, _, tyName k, (tyName k == "tuple"), rfl, nk_tyx hk, by cases k <;> rfl, _, rfl, ?_⟩
  cases hk with
  | non => exact ⟨_, rfl, _, _, "NoneType", _, rfl, .base .non, by decide +kernel, q H fun _ _ z => z⟩
  | num i => exact ⟨_, rfl, _, _, "int", _, rfl, .base (.int i), by decide +kernel, q H fun _ _ z => z⟩
  | text x ho => exact ⟨_, rfl, _, _, "str", _, rfl, .base (.str x), by decide +kernel, q H fun _ _ z => z⟩
  | @tup a xs ks h1 h2 =>
    simp only [NestedKey.depth] at hd
    obtain ⟨J, Gs, W⟩ := sq_walk (K := K) (H := H) (a := a) (xs := xs) (.inr h1)
    refine ⟨_, rfl, a, xs, J, rfl, .inr h1, W.arm (fun _ _ z => z), fun hz D' hD => ?_⟩
    rw [h2.length] at hz
    refine lc_gen ks (fun _ y _ => y = .bl false) (fun _ => true) W.walk (fun _ s => W.g s) h2.length.symm hz hD (fun _ _ _ _ _ e => e) (fun i k x H' hk hx sm c cn yes no => ?_) (fun ys H' sm hy two => ?_)
    · obtain ⟨x', e1, e2⟩ := h2.get hk
      rw [hx] at e1
      obtain rfl : x = x' := Option.some.inj e1
      have hm : k ∈ ks := List.mem_of_getElem? hk
      have := depth_mem hm
      refine ⟨rfl, x, rfl, x, k, rfl, Nk.tk (Tk.same sm) _ _ e2, by omega, fun H4 s4 => yes rfl _ H4 s4 rfl⟩
    · have ey : ys = (ks.map fun _ => false).map V.bl := by
        have key : ∀ {l : List NestedKey} {ys : List V}, Two (fun _ y => y = V.bl false) (l.filter fun _ => true) ys → ys = (l.map fun _ => false).map V.bl := by
          intro l
          induction l with
          | nil => intro ys t; cases t; rfl
          | cons k l ih =>
            intro ys t
            rw [List.filter_cons_of_pos rfl] at t
            cases t with
            | cons r t => rw [r, ih t]; rfl
        exact key two
      refine ⟨D', _, rfl, .inl (.inl (by rw [← ey]; exact hy)), ?_⟩
      have e : (ks.map fun _ => false).any id = false := by
        induction ks with
        | nil => rfl
        | cons _ _ _ => simp
      rw [e]
      exact q H' sm
end
end OW
end
section
set_option linter.all false
set_option maxRecDepth 100000
set_option maxHeartbeats 4000000
set_option autoImplicit false
/- P1: unknowns_in, atoms_in. -/
namespace OW
open PySem L2
/-! ### lists of data in the heap -/
def Lx (K : PySem.W.Frag) (H : Hp) (ks : List NestedKey) (a : Addr) : Prop := ∃ xs, H a = some (.lst xs) ∧ NkAll K H ks xs
def Sx (K : PySem.W.Frag) (H : Hp) (ks : List NestedKey) (a : Addr) : Prop := ∃ xs, Sq K H a xs ∧ NkAll K H ks xs
section
variable {K : PySem.W.Frag} {H H' : Hp} {ks : List NestedKey} {a : Addr}
theorem sq_same {xs : List V} (h : Sq K H a xs) (s : Same H H') : Sq K H' a xs := h.elim (fun h => .inl (s.seq h)) fun h => .inr ((Tk.same s).sqT h)
theorem Lx.sx (h : Lx K H ks a) : Sx K H ks a := by
  obtain ⟨xs, h1, h2⟩ := h
  exact ⟨xs, .inl (.inl (.inl h1)), h2⟩
theorem Sx.same (h : Sx K H ks a) (s : Same H H') : Sx K H' ks a := by
  obtain ⟨xs, h1, h2⟩ := h
  refine ⟨xs, ?_, NkAll.tk (Tk.same s) _ _ h2⟩
  rcases h1 with h1 | h1
  · exact .inl (s.seq h1)
  · exact .inr ((Tk.same s).sqT h1)
theorem Lx.same (h : Lx K H ks a) (s : Same H H') : Lx K H' ks a := by
  obtain ⟨xs, h1, h2⟩ := h
  exact ⟨xs, s _ _ h1, NkAll.tk (Tk.same s) _ _ h2⟩
theorem Lx.tk (h : Lx K H ks a) (t : Tk H H') (e : H' a = H a) : Lx K H' ks a := by
  obtain ⟨xs, h1, h2⟩ := h
  exact ⟨xs, by rw [e]; exact h1, NkAll.tk t _ _ h2⟩
theorem Nk.sx (h : Nk K H (.tup ks) (.ref a)) : Sx K H ks a := by
  cases h with
  | tup h1 h2 => exact ⟨_, .inr h1, h2⟩
theorem Nk.same {k : NestedKey} {v : V} (h : Nk K H k v) (s : Same H H') : Nk K H' k v := Nk.tk (Tk.same s) _ _ h
theorem NkAll.same {vs : List V} (h : NkAll K H ks vs) (s : Same H H') : NkAll K H' ks vs := NkAll.tk (Tk.same s) _ _ h
/-- a tuple's datum stands at an address -/
theorem Nk.ref {v : V} (h : Nk K H (.tup ks) v) : ∃ b xs, v = .ref b ∧ SqT K H b xs ∧ NkAll K H ks xs := by
  cases h with
  | tup h1 h2 => exact ⟨_, _, rfl, h1, h2⟩
end
/-- the three parts of an atom -/
theorem ato_parts {K : PySem.W.Frag} {H : Hp} {a : Ato} {v : V} (h : Nk K H a.key v) (ok : AtoOk a) : ∃ b bu bv, v = .ref b ∧ SqT K H b [.ref bu, .ref bv, .int a.k] ∧ Nk K H a.u (.ref bu) ∧ Nk K H a.v (.ref bv) := by
  have tp : ∀ {k : NestedKey} {v : V}, Unk k → Nk K H k v → ∃ b, v = .ref b := by
    intro k v hu hk
    rcases hu with rfl | ⟨r, ns, c, rfl⟩ <;> (cases hk; exact ⟨_, rfl⟩)
  unfold Ato.key at h
  cases h with
  | tup h1 h2 =>
    cases h2 with
    | cons q1 h2 =>
      cases h2 with
      | cons q2 h2 =>
        cases h2 with
        | cons q3 h2 =>
          cases h2
          cases q3
          obtain ⟨bu, rfl⟩ := tp ok.u q1
          obtain ⟨bv, rfl⟩ := tp ok.v q2
          exact ⟨_, bu, bv, rfl, h1, q1, q2⟩
/-! ### keys -/
theorem keys_putK (kvs : List (NestedKey × V)) (k : NestedKey) (v : V) : (putK kvs k v).map (·.1) = if k ∈ kvs.map (·.1) then kvs.map (·.1) else kvs.map (·.1) ++ [k] := by
  have e : (kvs.any fun kv => decide (kv.1 = k)) = decide (k ∈ kvs.map (·.1)) := by
    induction kvs with
    | nil => simp
    | cons p r ih =>
      rw [List.any_cons, ih, List.map_cons]
      by_cases h : p.1 = k
      · simp [h]
      · have h' : ¬ k = p.1 := fun z => h z.symm
        simp [h, h']
  unfold putK
  by_cases h : k ∈ kvs.map (·.1)
  · rw [if_pos (by rw [e]; exact decide_eq_true h), if_pos h, List.map_map]
    refine List.map_congr_left fun p _ => ?_
    by_cases z : p.1 = k <;> simp [z]
  · rw [if_neg (by rw [e, decide_eq_true_eq]; exact h), if_neg h, List.map_append] <;> rfl
theorem keys_nodup {kvs : List (NestedKey × V)} {k : NestedKey} {v : V} (h : (kvs.map (·.1)).Nodup) : ((putK kvs k v).map (·.1)).Nodup := by
  rw [keys_putK]
  split
  · exact h
  · rename_i n
    refine List.nodup_append.mpr ⟨h, by simp, fun a ha b hb e => n ?_⟩
    have e2 : b = k := by simpa using hb
    rw [← e2, ← e]; exact ha
theorem keys_mem {kvs : List (NestedKey × V)} {k j : NestedKey} {v : V} : j ∈ (putK kvs k v).map (·.1) ↔ j ∈ kvs.map (·.1) ∨ j = k := by
  rw [keys_putK]
  split
  · rename_i h
    exact ⟨.inl, fun z => z.elim id fun e => by rw [e]; exact h⟩
  · rw [List.mem_append, List.mem_singleton]
theorem keys_len (kvs : List (NestedKey × V)) (k : NestedKey) (v : V) : (putK kvs k v).length ≤ kvs.length + 1 := by
  have h := congrArg List.length (keys_putK kvs k v)
  split at h <;> simp only [List.length_map, List.length_append, List.length_singleton] at h <;> omega
theorem valV_putK (kvs : List (NestedKey × V)) (k j : NestedKey) (v : V) : valV (putK kvs k v) j = if j = k then some v else valV kvs j := by
  unfold putK
  rw [valV_any]
  by_cases h : (valV kvs k).isSome = true
  · rw [if_pos h, valV_map]
    by_cases e : j = k
    · subst e
      obtain ⟨x, hx⟩ := Option.isSome_iff_exists.mp h
      simp [hx]
    · simp [e]
  · rw [if_neg h]
    exact valV_snoc k j v kvs (by simpa using h)
theorem keys_dropK (kvs : List (NestedKey × V)) (k : NestedKey) : (dropK kvs k).map (·.1) = (kvs.map (·.1)).filter fun j => decide (j ≠ k) := by
  unfold dropK
  rw [List.filter_map]
  rfl
/-- the nought as a name of the module -/
theorem zero_is {K : PySem.W.Frag} {mg : Str → Option Value} (B : Bl K mg) : ∃ z, mg "ZERO" = some (.ref z) ∧ ∀ H, Nk K H ZK (.ref z) := by
  obtain ⟨z, h1, o, n, h2, h3, h4⟩ := B.zero
  exact ⟨z, h1, fun H => .tup (.inr ⟨o, #[], n, h2, h3, h4, by simp, .nil⟩) .nil⟩
/-! ### unknowns_in -/
abbrev sUnk : Stmt := top 5
theorem scUnk : FnScope ["atoms", "found", "left", "right", "bound"] ["atoms"] (defScope sUnk) := ⟨rfl, rfl, rfl, by decide +kernel, rfl, by decide +kernel, by decide +kernel⟩
def spUnk (K : PySem.W.Frag) : Sp := fun vs H Q _ => ∃ a as, vs = [.ref a] ∧ Sx K H (as.map Ato.key) a ∧ (∀ b ∈ as, AtoOk b) ∧ as.length ≤ 1000000 ∧
  ∀ p H', Same H H' → H p = none → Lx K H' (names as) p → Q (.ref p) H'
section
variable {P : Program} {w : World} {K : PySem.W.Frag} {mg : Str → Option Value} {base : Heap}
theorem small6 {n : Nat} (h : n ≤ 4000000) : n < sizeLine := Nat.lt_of_le_of_lt h (by decide)
theorem ok_unk {f : Addr} {fd : FuncData} (B : Bl K mg) (D : Df K mg "unknowns_in" sUnk ["atoms"] f fd) : FnOk P w K mg base CX0 1 f fd ["atoms"] (spUnk K) := by
  refine D.fn.ok scUnk (fun vs H Q E h => ?_) (fun cdv A outer s H vs Q E hr h => ?_)
  · obtain ⟨a, as, rfl, _⟩ := h
    rfl
  obtain ⟨a, as, rfl, ⟨xs, hS, hN⟩, ok, hlen, q⟩ := h
  obtain ⟨z, mz, hz⟩ := zero_is B
  refine ⟨_, pss_cons (ps_set (i := 1) scUnk.nd rfl (.inl rfl) pe_ndnew)
    (pss_cons (ps_for PassesOwn.never rfl (pi_sq (pv 0)) (pg_tup rfl (pgs_cons (pg_name (i := 2) scUnk.nd rfl (.inl rfl)) (pgs_cons (pg_name (i := 3) scUnk.nd rfl (.inl rfl)) (pgs_cons (pg_name (i := 4) scUnk.nd rfl (.inl rfl)) pgs_nil))))
      (pss_cons (ps_ndput hr.units (pv 1) (pv 2) pe_bl) (pss_one (ps_ndput hr.units (pv 1) (pv 3) pe_bl))))
    (pss_cons (ps_expr (pe_mG tyN_ok PySem.F.plainAttrs_dict PySem.F.slot_dict_pop PySem.F.type_dict_pop (mt_npop hr.units) (pv 1) (pa_cons (pe_glob (v := .ref z) (by rfl) mz rfl) (pa_cons pe_non pa_nil))))
    (pss_one (ps_ret (pe_callB (cr_nsortD rfl hr.units) (by rfl) B.sorted PyProof.Rows.boot_sorted (pa_cons (pv 1) pa_nil)))))), ?_⟩
  refine fun d H1 hd d1 at1 s1 => ?_
  obtain ⟨J, Gs, W⟩ := sq_walk hS
  have two := nk_two Ato.key hN
  have hl : xs.length = as.length := two.length
  refine ⟨_, rfl, a, xs, J, rfl, W.sq s1, W.arm s1, fun _ => ?_⟩
  refine for_it W.walk (fun i σ H' => ∃ y2 y3 y4 kvs, σ = [some (.ref a), some (.ref d), y2, y3, y4] ∧ Same H H' ∧ DictN P w K H' d kvs ∧ (kvs.map (·.1)).Nodup ∧ kvs.length ≤ 2 * i ∧ ∀ k, k ∈ kvs.map (·.1) ↔ ∃ b ∈ as.take i, k = b.u ∨ k = b.v)
    ⟨none, none, none, [], rfl, s1, d1, List.nodup_nil, Nat.zero_le _, fun k => by simp⟩ (fun i σ H' _ h => by obtain ⟨_, _, _, _, _, h, _⟩ := h; exact W.g h) ?_ ?_
  · rintro i x σ H2 H2' hi ⟨y2, y3, y4, kvs, rfl, sm, d2, nd, hle, mem⟩ ⟨rfl, hx⟩
    obtain ⟨b, hb, hbx⟩ := two.get hx
    have hbm : b ∈ as := List.mem_of_getElem? hb
    obtain ⟨t, bu, bv, rfl, ht, hu, hv⟩ := ato_parts (Nk.same hbx sm) (ok b hbm)
    have hd8 := (ok b hbm).u.depth
    have hd9 := (ok b hbm).v.depth
    refine ⟨t, _, rfl, ht, rfl, _, _, rfl, _, _, rfl, _, _, rfl, rfl, ?_⟩
    refine ⟨_, rfl, _, rfl, d, bu, kvs, b.u, rfl, rfl, d2, hu, by omega, small6 (by omega), fun H3 d3 at3 tk3 => ?_⟩
    refine ⟨_, rfl, _, rfl, d, bv, _, b.v, rfl, rfl, d3, Nk.tk tk3 _ _ hv, by omega, small6 (by have := keys_len kvs b.u (.bl true); omega), fun H4 d4 at4 tk4 => ?_⟩
    have e4 : ∀ c o, H c = some o → H4 c = some o := fun c o e => by
      have ne : c ≠ d := fun z => by rw [z, hd] at e; cases e
      rw [at4 c ne, at3 c ne]
      exact sm c o e
    refine ⟨_, _, _, _, rfl, e4, d4, keys_nodup (keys_nodup nd), ?_, fun k => ?_⟩
    · have h1 := keys_len kvs b.u (.bl true)
      have h2 := keys_len (putK kvs b.u (.bl true)) b.v (.bl true)
      omega
    · rw [keys_mem, keys_mem, mem k, take_next hb]
      constructor
      · rintro ((⟨c, hc, e⟩ | e) | e)
        · exact ⟨c, List.mem_append_left _ hc, e⟩
        · exact ⟨b, List.mem_append_right _ (by simp), .inl e⟩
        · exact ⟨b, List.mem_append_right _ (by simp), .inr e⟩
      · rintro ⟨c, hc, e⟩
        rcases List.mem_append.mp hc with hc | hc
        · exact .inl (.inl ⟨c, hc, e⟩)
        · obtain rfl : c = b := by simpa using hc
          exact e.elim (fun e => .inl (.inr e)) .inr
  · rintro σ H2 ⟨y2, y3, y4, kvs, rfl, sm, d2, nd, hle, mem⟩
    rw [hl, List.take_length] at mem
    refine ⟨_, rfl, ⟨d, kvs, rfl, d2⟩, d, z, kvs, ZK, .non, rfl, rfl, d2, hz _, by decide, fun y H3 d3 at3 tk3 => ?_⟩
    have mem3 : ∀ k, k ∈ (dropK kvs ZK).map (·.1) ↔ k ≠ ZK ∧ ∃ b ∈ as, k = b.u ∨ k = b.v := fun k => by
      rw [keys_dropK, List.mem_filter, mem k, decide_eq_true_eq]
      exact And.comm
    have nd3 : ((dropK kvs ZK).map (·.1)).Nodup := by rw [keys_dropK]; exact nd.filter _
    have ok3 : SrtOk ((dropK kvs ZK).map (·.1)) := srt_names fun k hk => names_unk ok k (mem_names.mpr ((mem3 k).mp hk))
    refine ⟨_, rfl, d, _, rfl, d3, ok3, fun p H4 vs hp hvs hn at4 s4 => ?_⟩
    have s3 : Same H H3 := fun c o e => by
      have ne : c ≠ d := fun z => by rw [z, hd] at e; cases e
      rw [at3 c ne]
      exact sm c o e
    refine q p H4 (s3.trans s4) (s3.free hp) ⟨vs, hvs, ?_⟩
    rw [← names_eq ok nd3 mem3]
    exact hn
end
end OW
end
section
set_option linter.all false
set_option maxRecDepth 100000
set_option maxHeartbeats 4000000
set_option autoImplicit false
/- P2: atoms_in, tighten. -/
namespace OW
open PySem L2
theorem same_wr {H H' : Hp} {p : Addr} {o : HO} (hp : H p = none) (s : Same H H') : Same H (upd H' p o) := fun c u e => by
  rw [upd_ne (ne_of_none e hp)]
  exact s c u e
/-! ### atoms_in -/
abbrev sAin : Stmt := top 6
def allA (cs : List Cla) : List Ato := cs.flatten.flatten
theorem scAin : FnScope ["clauses", "found", "clause", "alternative"] ["clauses"] (defScope sAin) := ⟨rfl, rfl, rfl, by decide +kernel, rfl, by decide +kernel, by decide +kernel⟩
def spAin (K : PySem.W.Frag) : Sp := fun vs H Q _ => ∃ a cs, vs = [.ref a] ∧ Sx K H (cs.map claK) a ∧ (allA cs).length ≤ 1000000 ∧
  ∀ p H', Same H H' → H p = none → Lx K H' ((allA cs).map Ato.key) p → Q (.ref p) H'
section
variable {P : Program} {w : World} {K : PySem.W.Frag} {mg : Str → Option Value} {base : Heap}
theorem ok_ain {f : Addr} {fd : FuncData} (D : Df K mg "atoms_in" sAin ["clauses"] f fd) : FnOk P w K mg base CX0 1 f fd ["clauses"] (spAin K) := by
  refine D.fn.ok scAin (fun vs H Q E h => ?_) (fun cdv A outer s H vs Q E hr h => ?_)
  · obtain ⟨a, cs, rfl, _⟩ := h
    rfl
  obtain ⟨a, cs, rfl, ⟨xs, hS, hN⟩, hlen, q⟩ := h
  refine ⟨_, pss_cons (ps_set (i := 1) scAin.nd rfl (.inl rfl) (pe_lst pa_nil))
    (pss_cons (ps_for PassesOwn.never rfl (pi_sq (pv 0)) (pg_name (i := 2) scAin.nd rfl (.inl rfl))
      (pss_one (ps_for PassesOwn.never rfl (pi_sq (pv 2)) (pg_name (i := 3) scAin.nd rfl (.inl rfl))
        (pss_one (ps_expr (pe_bm PySem.F.plainAttrs_list PySem.F.slot_list_extend PySem.F.type_list_extend mt_extendT (pv 1) (pa_cons (pv 3) pa_nil)))))))
    (pss_one (ps_ret (pv 1)))), ?_⟩
  refine ⟨Nat.zero_le _, fun p hp => ?_⟩
  obtain ⟨J, Gs, W⟩ := sq_walk hS
  have two := nk_two claK hN
  have hl : xs.length = cs.length := two.length
  refine ⟨_, rfl, a, xs, J, rfl, W.sq (same_upd hp), W.arm (same_upd hp), fun _ => ?_⟩
  have cut : ∀ i, ((cs.take i).flatten.flatten).length ≤ (allA cs).length := fun i => by
    have e : cs = cs.take i ++ cs.drop i := (List.take_append_drop i cs).symm
    unfold allA
    conv => rhs; rw [e]
    rw [List.flatten_append, List.flatten_append, List.length_append]
    omega
  refine for_it W.walk (fun i σ H' => ∃ y2 y3 acc, σ = [some (.ref a), some (.ref p), y2, y3] ∧ Same H H' ∧ H' p = some (.lst acc) ∧ NkAll K H' (((cs.take i).flatten.flatten).map Ato.key) acc)
    ⟨none, none, [], rfl, same_upd hp, upd_same, .nil⟩ (fun i σ H' _ h => by obtain ⟨_, _, _, _, h, _⟩ := h; exact W.g h) ?_ ?_
  · rintro i x σ H2 H2' hi ⟨y2, y3, acc, rfl, sm, hacc, nacc⟩ ⟨rfl, hx⟩
    obtain ⟨c, hc, hcx⟩ := two.get hx
    obtain ⟨b, bs, rfl, hb, nb⟩ := Nk.ref hcx
    obtain ⟨J2, G2, W2⟩ := sq_walk (K := K) (H := H) (a := b) (xs := bs) (.inr hb)
    have two2 := nk_two altK nb
    have hl2 : bs.length = c.length := two2.length
    refine ⟨_, rfl, b, bs, J2, rfl, W2.sq sm, W2.arm sm, fun _ => ?_⟩
    have nxt : (cs.take (i + 1)).flatten.flatten = (cs.take i).flatten.flatten ++ c.flatten := by rw [take_next hc, List.flatten_append, List.flatten_append]; simp
    refine for_it W2.walk (fun j σ H' => ∃ y3 acc, σ = [some (.ref a), some (.ref p), some (.ref b), y3] ∧ Same H H' ∧ H' p = some (.lst acc) ∧ NkAll K H' ((((cs.take i).flatten.flatten) ++ (c.take j).flatten).map Ato.key) acc)
      ⟨_, acc, rfl, sm, hacc, by simpa using nacc⟩ (fun i σ H' _ h => by obtain ⟨_, _, _, h, _⟩ := h; exact W2.g h) ?_ ?_
    · rintro j y σ H3 H3' hj ⟨y3, acc3, rfl, sm3, hacc3, nacc3⟩ ⟨rfl, hy⟩
      obtain ⟨l, hlj, hly⟩ := two2.get hy
      obtain ⟨t, ts, rfl, ht, nt⟩ := Nk.ref hly
      have more : ((cs.take i).flatten.flatten ++ (c.take (j + 1)).flatten) = ((cs.take i).flatten.flatten ++ (c.take j).flatten) ++ l := by rw [take_next hlj, List.flatten_append]; simp
      have bnd : acc3.length + ts.length ≤ sizeLine := by
        have h1 := nacc3.length
        have h2 := nt.length
        rw [List.length_map] at h1 h2
        have h3 := cut (i + 1)
        have e : c = c.take (j + 1) ++ c.drop (j + 1) := (List.take_append_drop _ c).symm
        have h4 := congrArg List.length nxt
        have h5 := congrArg List.length more
        have h6 : c.flatten.length = (c.take (j + 1)).flatten.length + (c.drop (j + 1)).flatten.length := by
          conv => lhs; rw [e]
          rw [List.flatten_append, List.length_append]
        simp only [List.length_append] at h4 h5 h1
        have : acc3.length + ts.length ≤ 1000000 := by omega
        exact Nat.le_of_lt (small6 (by omega))
      refine ⟨_, rfl, .inl ⟨rfl, _, .inl (.inl hacc3)⟩, _, rfl, p, t, acc3, ts, rfl, rfl, hacc3, (Tk.same sm3).sqT ht, bnd, ?_⟩
      refine ⟨_, _, rfl, same_wr hp sm3, upd_same, ?_⟩
      rw [more, List.map_append]
      exact (NkAll.tk (upd_lst_tk hacc3) _ _ nacc3).app (NkAll.tk ((Tk.same sm3).trans (upd_lst_tk hacc3)) _ _ nt)
    · rintro σ H3 ⟨y3, acc3, rfl, sm3, hacc3, nacc3⟩
      rw [hl2, List.take_length, ← nxt] at nacc3
      exact ⟨_, _, acc3, rfl, sm3, hacc3, nacc3⟩
  · rintro σ H2 ⟨y2, y3, acc, rfl, sm, hacc, nacc⟩
    rw [hl, List.take_length] at nacc
    exact ⟨_, rfl, q p H2 sm hp ⟨acc, hacc, nacc⟩⟩
end
end OW
end
section
set_option linter.all false
set_option maxRecDepth 100000
set_option maxHeartbeats 4000000
set_option autoImplicit false
/- P3: tighten. -/
namespace OW
open PySem L2
/-- what stood in H stands, but at d and e -/
def But2 (d e : Addr) (H H' : Hp) : Prop := ∀ b o, b ≠ d → b ≠ e → H b = some o → H' b = some o
theorem But2.refl {d e : Addr} (H : Hp) : But2 d e H H := fun _ _ _ _ h => h
theorem But2.at1 {d e : Addr} {H H1 H2 : Hp} (h : But2 d e H H1) {a : Addr} (ha : a = d ∨ a = e) (at1 : At1 a H1 H2) : But2 d e H H2 := fun b o h1 h2 e1 => by
  rw [at1 b (fun z => ha.elim (fun w => h1 (z.trans w)) fun w => h2 (z.trans w))]
  exact h b o h1 h2 e1
def notExt : HO → Prop
  | .ext _ => False
  | _ => True
/-- all stays that is no dict with such keys (nor a set) -/
def Sty (H H' : Hp) : Prop := ∀ b o, H b = some o → notExt o → H' b = some o
theorem Sty.tk {H H' : Hp} (s : Sty H H') : Tk H H' := ⟨fun b xs h => s b _ h trivial, fun b o u h => s b _ h trivial⟩
theorem Sty.seq {K : PySem.W.Frag} {H H' : Hp} {a : Addr} {xs : List V} (s : Sty H H') (h : SqL K H a xs) : SqL K H' a xs := by
  rcases h with (h | ⟨o, h⟩) | h
  · exact .inl (.inl (s _ _ h trivial))
  · exact .inl (.inr ⟨o, s _ _ h trivial⟩)
  · exact .inr h
theorem Same.sty {H H' : Hp} (s : Same H H') : Sty H H' := fun b o e _ => s b o e
theorem Sty.trans {H H1 H2 : Hp} (s : Sty H H1) (t : Sty H1 H2) : Sty H H2 := fun b o e n => t b o (s b o e n) n
theorem But2.sty {P : Program} {w : World} {K : PySem.W.Frag} {H H' : Hp} {d e : Addr} {kd ke : List (NestedKey × V)} (h : But2 d e H H') (hd : DictN P w K H d kd) (he : DictN P w K H e ke) : Sty H H' := fun b o q n => by
  obtain ⟨l, h1, _⟩ := hd.ex
  obtain ⟨m, h2, _⟩ := he.ex
  refine h b o (fun z => ?_) (fun z => ?_) q
  · rw [z, h1] at q
    cases q
    exact n
  · rw [z, h2] at q
    cases q
    exact n
structure SqY (K : PySem.W.Frag) (H : Hp) (a : Addr) (xs : List V) (J : It) (G : Hp → Prop) : Prop where
  arm : ∀ {H'}, Sty H H' → (SqL K H' a xs ∧ J = Itl K a) ∨ (SqT K H' a xs ∧ J = Itt K a)
  sq : ∀ {H'}, Sty H H' → Sq K H' a xs
  g : ∀ {H'}, Sty H H' → G H'
  walk : Walk J xs.length G (YAt xs)
theorem sq_walkY {K : PySem.W.Frag} {H : Hp} {a : Addr} {xs : List V} (h : Sq K H a xs) : ∃ (J : It) (G : Hp → Prop), SqY K H a xs J G := by
  rcases h with h | h
  · exact ⟨Itl K a, fun H => SqL K H a xs, fun s => .inl ⟨s.seq h, rfl⟩, fun s => .inl (s.seq h), fun s => s.seq h, walk_list⟩
  · exact ⟨Itt K a, fun H => SqT K H a xs, fun s => .inr ⟨s.tk.sqT h, rfl⟩, fun s => .inr (s.tk.sqT h), fun s => s.tk.sqT h, walk_tup⟩
section
variable {P : Program} {w : World} {K : PySem.W.Frag} {mg : Str → Option Value} {base : Heap}
/-- the levels of the nodes ns, at d -/
def Lev (P : Program) (w : World) (K : PySem.W.Frag) (H : Hp) (d : Addr) (L : NestedKey → Int) (ns : List NestedKey) : Prop := ∃ kvs, DictN P w K H d kvs ∧ kvs.map (·.1) = ns ∧ ∀ k ∈ ns, valV kvs k = some (.int (L k))
/-- the causes, at d -/
def CauD (P : Program) (w : World) (K : PySem.W.Frag) (H : Hp) (d : Addr) (C : Cau) (ns : List NestedKey) : Prop := ∃ kvs, DictN P w K H d kvs ∧ (kvs.map (·.1)).Nodup ∧ (∀ k ∈ kvs.map (·.1), k ∈ ns) ∧ (∀ k, C k = none → valV kvs k = none) ∧ ∀ k a, C k = some a → ∃ p, valV kvs k = some (.ref p) ∧ Nk K H a.key (.ref p)
theorem Lev.tk {H H' : Hp} {d : Addr} {L : NestedKey → Int} {ns : List NestedKey} (h : Lev P w K H d L ns) (t : Tk H H') (e : H' d = H d) : Lev P w K H' d L ns := by
  obtain ⟨kvs, h1, h2⟩ := h
  exact ⟨kvs, h1.tk t e, h2⟩
theorem CauD.tk {H H' : Hp} {d : Addr} {C : Cau} {ns : List NestedKey} (h : CauD P w K H d C ns) (t : Tk H H') (e : H' d = H d) : CauD P w K H' d C ns := by
  obtain ⟨kvs, h1, h2, h3, h4, h5⟩ := h
  exact ⟨kvs, h1.tk t e, h2, h3, h4, fun k a hk => by
    obtain ⟨p, q1, q2⟩ := h5 k a hk
    exact ⟨p, q1, Nk.tk t _ _ q2⟩⟩
def LastV (K : PySem.W.Frag) (H : Hp) (l : Option Ato) (v : V) : Prop := match l with
  | none => v = .non
  | some b => ∃ p, v = .ref p ∧ Nk K H b.key (.ref p)
theorem LastV.tk {H H' : Hp} {l : Option Ato} {v : V} (h : LastV K H l v) (t : Tk H H') : LastV K H' l v := by
  cases l with
  | none => exact h
  | some b =>
    obtain ⟨p, h1, h2⟩ := h
    exact ⟨p, h1, Nk.tk t _ _ h2⟩
abbrev sTig : Stmt := top 7
theorem scTig : FnScope ["atoms", "levels", "causes", "last", "atom", "left", "right", "bound"] ["atoms", "levels", "causes"] (defScope sTig) := ⟨rfl, rfl, rfl, by decide +kernel, rfl, by decide +kernel, by decide +kernel⟩
def spTig (P : Program) (w : World) (K : PySem.W.Frag) : Sp := fun vs H Q _ => ∃ a dl dc as L C ns, vs = [.ref a, .ref dl, .ref dc] ∧ Sx K H (as.map Ato.key) a ∧ dl ≠ dc ∧ Lev P w K H dl L ns ∧ CauD P w K H dc C ns ∧ (∀ b ∈ as, AtoOk b ∧ b.u ∈ ns ∧ b.v ∈ ns) ∧ ns.length ≤ 4000000 ∧
  ∀ H' r, But2 dl dc H H' → Tk H H' → Lev P w K H' dl (pass as L C).L ns → CauD P w K H' dc (pass as L C).C ns → LastV K H' (pass as L C).last r → Q r H'
theorem ok_tig {f : Addr} {fd : FuncData} (D : Df K mg "tighten" sTig ["atoms", "levels", "causes"] f fd) : FnOk P w K mg base CX0 1 f fd ["atoms", "levels", "causes"] (spTig P w K) := by
  refine D.fn.ok scTig (fun vs H Q E h => ?_) (fun cdv A outer s H vs Q E hr h => ?_)
  · obtain ⟨a, dl, dc, as, L, C, ns, rfl, _⟩ := h
    rfl
  obtain ⟨a, dl, dc, as, L, C, ns, rfl, ⟨xs, hS, hN⟩, hne, hL, hC, ok, hlen, q⟩ := h
  refine ⟨_, pss_cons (ps_set (i := 3) scTig.nd rfl (.inl rfl) pe_non)
    (pss_cons (ps_for PassesOwn.never rfl (pi_sq (pv 0)) (pg_name (i := 4) scTig.nd rfl (.inl rfl))
      (pss_cons (ps_asg (pv 4) (pg_tup rfl (pgs_cons (pg_name (i := 5) scTig.nd rfl (.inl rfl)) (pgs_cons (pg_name (i := 6) scTig.nd rfl (.inl rfl)) (pgs_cons (pg_name (i := 7) scTig.nd rfl (.inl rfl)) pgs_nil)))))
      (pss_one (ps_if (pt_cmpR op_gt (pe_ndget hr.units (pv 1) (pv 5)) (pe_op op_add (pe_ndget hr.units (pv 1) (pv 6)) (pv 7)) (nomark _))
        (pss_cons (ps_ndput hr.units (pv 1) (pv 5) (pe_op op_add (pe_ndget hr.units (pv 1) (pv 6)) (pv 7)))
        (pss_cons (ps_ndput hr.units (pv 2) (pv 5) (pv 4))
        (pss_one (ps_set (i := 3) scTig.nd rfl (.inl rfl) (pv 4))))) pss_nil))))
    (pss_one (ps_ret (pv 3)))), ?_⟩
  obtain ⟨J, Gs, W⟩ := sq_walkY hS
  have two := nk_two Ato.key hN
  have hl : xs.length = as.length := two.length
  obtain ⟨kL0, dL0, _⟩ := id hL
  obtain ⟨kC0, dC0, _⟩ := id hC
  refine ⟨_, rfl, a, xs, J, rfl, W.sq (fun _ _ e _ => e), W.arm (fun _ _ e _ => e), fun _ => ?_⟩
  refine for_it W.walk (fun i σ H' => ∃ r y4 y5 y6 y7, σ = [some (.ref a), some (.ref dl), some (.ref dc), some r, y4, y5, y6, y7] ∧ But2 dl dc H H' ∧ Sty H H' ∧ Lev P w K H' dl ((as.take i).foldl relax ⟨L, C, none⟩).L ns ∧ CauD P w K H' dc ((as.take i).foldl relax ⟨L, C, none⟩).C ns ∧ LastV K H' ((as.take i).foldl relax ⟨L, C, none⟩).last r)
    ⟨.non, none, none, none, none, rfl, But2.refl H, fun _ _ e _ => e, hL, hC, rfl⟩ (fun i σ H' _ h => by obtain ⟨_, _, _, _, _, _, _, h, _⟩ := h; exact W.g h) ?_ ?_
  · rintro i x σ H2 H2' hi ⟨r, y4, y5, y6, y7, rfl, b2, sy, lv, cd, lr⟩ ⟨rfl, hx⟩
    obtain ⟨b, hb, hbx⟩ := two.get hx
    have hbm : b ∈ as := List.mem_of_getElem? hb
    obtain ⟨okb, hu, hv⟩ := ok b hbm
    obtain ⟨t, bu, bv, rfl, ht, hnu, hnv⟩ := ato_parts (Nk.tk sy.tk _ _ hbx) okb
    have hd8 := okb.u.depth
    have hd9 := okb.v.depth
    rw [take_next hb, List.foldl_append]
    generalize (as.take i).foldl relax ⟨L, C, none⟩ = st at lv cd lr ⊢
    obtain ⟨kL, dL, eL, vL⟩ := lv
    obtain ⟨kC, dC, ndC, inC, nC, vC⟩ := cd
    show _ 
    refine ⟨_, rfl, t, _, rfl, ht, rfl, _, _, rfl, _, _, rfl, _, _, rfl, rfl, ?_⟩
    refine ⟨_, rfl, _, rfl, dl, bu, kL, b.u, _, rfl, rfl, dL, hnu, by omega, vL _ hu, ?_⟩
    refine ⟨_, rfl, _, rfl, dl, bv, kL, b.v, _, rfl, rfl, dL, hnv, by omega, vL _ hv, ?_⟩
    refine ⟨_, rfl, _, _, rfl, rfl, _, _, rfl, rfl, _, rfl, ?_⟩
    refine ite2 (fun c => ?_) (fun c => ?_)
    · have c' : st.L b.u > st.L b.v + b.k := of_decide_eq_true c
      have lenL : kL.length = ns.length := by rw [← eL, List.length_map]
      refine ⟨_, rfl, _, rfl, dl, bv, kL, b.v, _, rfl, rfl, dL, hnv, by omega, vL _ hv, _, rfl, _, _, rfl, rfl, ?_⟩
      refine ⟨_, rfl, _, rfl, dl, bu, kL, b.u, rfl, rfl, dL, hnu, by omega, small6 (by omega), fun H3 d3 at3 tk3 => ?_⟩
      have dC3 : DictN P w K H3 dc kC := dC.tk tk3 (at3 dc hne.symm)
      have lenC : kC.length ≤ ns.length := by
        have := nodup_sub _ ns ndC inC
        rwa [List.length_map] at this
      refine ⟨_, rfl, _, rfl, _, rfl, dc, bu, kC, b.u, rfl, rfl, dC3, Nk.tk tk3 _ _ hnu, by omega, small6 (by omega), fun H4 d4 at4 tk4 => ?_⟩
      refine ⟨_, rfl, ?_⟩
      have b4 : But2 dl dc H H4 := (b2.at1 (.inl rfl) at3).at1 (.inr rfl) at4
      have er : relax st b = ⟨setL st.L b.u (st.L b.v + b.k), setC st.C b, some b⟩ := by unfold relax; rw [if_pos c']
      have nkb : Nk K H4 b.key (.ref t) := Nk.tk tk4 _ _ (Nk.tk tk3 _ _ (Nk.tk sy.tk _ _ hbx))
      refine ⟨_, _, _, _, _, rfl, b4, b4.sty dL0 dC0, ?_⟩
      rw [List.foldl_cons, List.foldl_nil, er]
      refine ⟨⟨_, d3.tk tk4 (at4 dl hne), ?_, fun k hk => ?_⟩, ⟨_, d4, keys_nodup ndC, fun k hk => ?_, fun k hk => ?_, fun k a' hk => ?_⟩, ⟨t, rfl, nkb⟩⟩
      · rw [keys_putK, if_pos (by rw [eL]; exact hu)]; exact eL
      · rw [valV_putK]
        show _ = some (V.int (setL st.L b.u (st.L b.v + b.k) k))
        unfold setL
        split
        · rfl
        · exact vL k hk
      · rcases keys_mem.mp hk with hk | hk
        · exact inC k hk
        · rw [hk]; exact hu
      · rw [valV_putK]
        have hk' : setC st.C b k = none := hk
        unfold setC at hk'
        split at hk'
        · cases hk'
        · rename_i e
          rw [if_neg e]
          exact nC k hk'
      · rw [valV_putK]
        have hk' : setC st.C b k = some a' := hk
        unfold setC at hk'
        split at hk'
        · rename_i e
          cases hk'
          rw [if_pos e]
          exact ⟨t, rfl, nkb⟩
        · rename_i e
          rw [if_neg e]
          obtain ⟨p, p1, p2⟩ := vC k a' hk'
          exact ⟨p, p1, Nk.tk tk4 _ _ (Nk.tk tk3 _ _ p2)⟩
    · have c' : ¬ st.L b.u > st.L b.v + b.k := of_decide_eq_false (Bool.eq_false_iff.mpr c)
      have er : relax st b = st := by unfold relax; rw [if_neg c']
      refine ⟨_, _, _, _, _, rfl, b2, sy, ?_⟩
      rw [List.foldl_cons, List.foldl_nil, er]
      exact ⟨⟨kL, dL, eL, vL⟩, ⟨kC, dC, ndC, inC, nC, vC⟩, lr⟩
  · rintro σ H2 ⟨r, y4, y5, y6, y7, rfl, b2, sy, lv, cd, lr⟩
    rw [hl, List.take_length] at lv cd lr
    exact ⟨_, rfl, q H2 r b2 sy.tk lv cd lr⟩
end
end OW
end
section
set_option linter.all false
set_option maxRecDepth 100000
set_option maxHeartbeats 4000000
set_option autoImplicit false
/- P4: ring_behind. -/
namespace OW
open PySem L2
section
variable {P : Program} {w : World} {K : PySem.W.Frag} {mg : Str → Option Value} {base : Heap}
abbrev sRbh : Stmt := top 8
theorem scRbh : FnScope ["causes", "atom", "turn", "ring"] ["causes", "atom"] (defScope sRbh) := ⟨rfl, rfl, rfl, by decide +kernel, rfl, by decide +kernel, by decide +kernel⟩
def spRbh (P : Program) (w : World) (K : PySem.W.Frag) : Sp := fun vs H Q _ => ∃ dc p C ns b, vs = [.ref dc, .ref p] ∧ CauD P w K H dc C ns ∧ ns.length ≤ 4000000 ∧ (∀ u a, C u = some a → a.u = u ∧ AtoOk a) ∧ C b.u = some b ∧ Nk K H b.key (.ref p) ∧ Alive C b.u ∧
  ∀ t H' x a0 tl, Same H H' → Path C x (a0 :: tl) x → (∀ a ∈ tl, a.u ≠ x) → Nk K H' (.tup ((a0 :: tl).map Ato.key)) (.ref t) → Q (.ref t) H'
theorem valV_mem {kvs : List (NestedKey × V)} {k : NestedKey} {v : V} (h : valV kvs k = some v) : k ∈ kvs.map (·.1) := by
  induction kvs with
  | nil => cases h
  | cons p r ih =>
    by_cases e : p.1 = k
    · rw [← e]; exact List.mem_cons_self
    · rw [valV_neg e] at h
      exact List.mem_cons_of_mem _ (ih h)
theorem nk_last {H : Hp} {k : NestedKey} : ∀ {ks : List NestedKey} {vs : List V}, NkAll K H (ks ++ [k]) vs → ∃ vs0 v, vs = vs0 ++ [v] ∧ NkAll K H ks vs0 ∧ Nk K H k v
  | [], _, h => by
    cases h with
    | cons h1 h2 =>
      cases h2
      exact ⟨[], _, rfl, .nil, h1⟩
  | l :: ks, _, h => by
    cases h with
    | cons h1 h2 =>
      obtain ⟨vs0, v, rfl, n1, n2⟩ := nk_last h2
      exact ⟨_ :: vs0, v, rfl, .cons h1 n1, n2⟩
theorem path_in {C : Cau} : ∀ {u w : NestedKey} {l : List Ato}, Path C u l w → ∀ d ∈ l, C d.u = some d
  | _, _, _, .nil _, d, h => nomatch h
  | _, _, _, .cons h1 h2 h3, d, h => by
    rcases List.mem_cons.mp h with e | h
    · rw [e, h2]; exact h1
    · exact path_in h3 d h
theorem ok_rbh {f : Addr} {fd : FuncData} (B : Bl K mg) (D : Df K mg "ring_behind" sRbh ["causes", "atom"] f fd) : FnOk P w K mg base CX0 1 f fd ["causes", "atom"] (spRbh P w K) := by
  refine D.fn.ok scRbh (fun vs H Q E h => ?_) (fun cdv A outer s H vs Q E hr h => ?_)
  · obtain ⟨dc, p, C, ns, b, rfl, _⟩ := h
    rfl
  obtain ⟨dc, p, C, ns, b, rfl, ⟨kvs, hd, nd, inn, nC, vC⟩, hlen, cok, hCb, hp, al, q⟩ := h
  refine ⟨_, pss_cons (ps_for PassesOwn.never rfl (pi_range1 (by rfl) B.range (pa_cons (pe_callB cr_nlen (by rfl) B.len PySem.boot_len (pa_cons (pv 0) pa_nil)) pa_nil)) (pg_name (i := 2) scRbh.nd rfl (.inl rfl))
      (pss_one (ps_set (i := 1) scRbh.nd rfl (.inl rfl) (pe_ndget hr.units (pv 0) (pe_ix ix_tup (pv 1) pe_int (fun _ _ => rfl))))))
    (pss_cons (ps_set (i := 3) scRbh.nd rfl (.inl rfl) (pe_lst (pa_cons (pv 1) pa_nil)))
    (pss_cons (ps_while PassesOwn.never (pt_cmpR (op_neN hr.units) (pe_ix ix_tup (pe_ix ix_list (pv 3) (pe_un un_neg pe_int) (fun _ _ => rfl)) pe_int (fun _ _ => rfl)) (pe_ix ix_tup (pv 1) pe_int (fun _ _ => rfl)) (nomark _))
      (pss_one (ps_expr (pe_bm PySem.F.plainAttrs_list PySem.F.slot_list_append PySem.F.type_list_append mt_append (pv 3) (pa_cons (pe_ndget hr.units (pv 0) (pe_ix ix_tup (pe_ix ix_list (pv 3) (pe_un un_neg pe_int) (fun _ _ => rfl)) pe_int (fun _ _ => rfl))) pa_nil)))))
    (pss_one (ps_ret (pe_callTy call_tuple_of (by rfl) B.tup PyProof.Rows.boot_tuple (pa_cons (pv 3) pa_nil)))))), ?_⟩
  have lenC : kvs.length ≤ ns.length := by
    have := nodup_sub _ ns nd inn
    rwa [List.length_map] at this
  refine ⟨_, rfl, dc, kvs, rfl, hd, _, rfl, by omega, by omega, ?_⟩
  -- where one stands
  have part : ∀ {H' : Hp} {c : Ato} {r : Addr}, AtoOk c → Nk K H' c.key (.ref r) → ∃ bu bv, SqT K H' r [.ref bu, .ref bv, .int c.k] ∧ Nk K H' c.u (.ref bu) ∧ Nk K H' c.v (.ref bv) := by
    intro H' c r okc hc
    obtain ⟨r', bu, bv, e, h1, h2, h3⟩ := ato_parts hc okc
    cases e
    exact ⟨bu, bv, h1, h2, h3⟩
  refine for_range (lo := 0) (fun i σ H' => ∃ r y2 l c, σ = [some (.ref dc), some (.ref r), y2, none] ∧ H = H' ∧ Path C b.u l c.u ∧ l.length = i ∧ C c.u = some c ∧ Nk K H c.key (.ref r))
    ⟨p, none, [], b, rfl, rfl, .nil _, rfl, hCb, hp⟩ ?_ ?_
  · rintro i σ H' hi ⟨r, y2, l, c, rfl, rfl, pl, hl, hc, hn⟩
    obtain ⟨bu, bv, ht, hu, hv⟩ := part (cok _ _ hc).2 hn
    obtain ⟨c2, e1, e2, al2⟩ := (Alive.fwd pl al).next
    rw [hc] at e1
    obtain rfl : c = c2 := Option.some.inj e1
    obtain ⟨d, hd1, hd2, _⟩ := al2.next
    obtain ⟨r2, v2, n2⟩ := vC _ _ hd1
    refine ⟨_, rfl, _, rfl, r, _, 1, _, rfl, rfl, ht, atI_nat (j := 1) rfl, dc, bv, kvs, c.v, _, rfl, rfl, hd, hv, by have := (cok _ _ hc).2.v.depth; omega, v2, ?_⟩
    refine ⟨r2, _, l ++ [c], d, rfl, rfl, ?_, by simp [hl], by rw [hd2]; exact hd1, n2⟩
    refine pl.app (.cons hc rfl ?_)
    rw [hd2]
    exact .nil _
  · rintro σ H' ⟨r, y2, l, c, rfl, rfl, pl, hl, hc, hn⟩
    obtain ⟨rg, rgne, rgk, prg⟩ := on_ring (keys := kvs.map (·.1)) (fun x a hx => by
      obtain ⟨p', h1, _⟩ := vC x a hx
      exact valV_mem h1) al pl (by rw [hl, List.length_map]; rfl)
    have hz1 : ([.ref r] : List V).length ≤ sizeLine := by show 1 ≤ sizeLine; decide
    refine ⟨_, rfl, hz1, fun t ht => ?_⟩
    have alw : Alive C c.u := Alive.fwd pl al
    have rpos := List.length_pos_iff.mpr rgne
    -- the ring grows
    have rgle : rg.length ≤ rg.length := Nat.le_refl _
    refine ⟨fun m σ H' => ∃ acc a tl y, σ = [some (.ref dc), some (.ref r), y2, some (.ref t)] ∧ Same H H' ∧ H' t = some (.lst acc) ∧ NkAll K H' ((c :: tl).map Ato.key) acc ∧ Path C c.u (c :: tl) y ∧ (∀ d ∈ tl, d.u ≠ c.u) ∧ (c :: tl).length + m = rg.length ∧
        (∃ l0, c :: tl = l0 ++ [a]) ∧ a.v = y,
      ⟨rg.length - 1, [.ref r], c, [], c.v, rfl, same_upd ht, upd_same, .cons (Nk.same hn (same_upd ht)) .nil, .cons hc rfl (.nil _), (fun _ h => (nomatch h)), by simp; omega, ⟨[], rfl⟩, rfl⟩, ?_⟩
    rintro m σ H2 ⟨acc, a, tl, y, rfl, sm, hacc, nacc, pth, fst, hm, ⟨l0, e0⟩, hy⟩
    have hin : ∀ d ∈ c :: tl, AtoOk d := fun d hd => (cok _ _ (path_in pth d hd)).2
    have ham : a ∈ c :: tl := by rw [e0]; simp
    have nacc' := nacc
    rw [e0, List.map_append] at nacc'
    obtain ⟨acc0, va, rfl, _, na⟩ := nk_last nacc'
    obtain ⟨ra, bu, bv, rfl, hta, hua, hva⟩ := ato_parts na (hin a ham)
    obtain ⟨cu, cv, htc, huc, _⟩ := part (cok _ _ hc).2 (Nk.same hn sm)
    have da := (hin a ham).v.depth
    have dc' := (cok _ _ hc).2.u.depth
    have aly : Alive C y := Alive.fwd pth alw
    refine ⟨_, rfl, _, rfl, t, _, -1, .ref ra, rfl, rfl, .inl (.inl hacc), atI_last _ _, ra, _, 1, .ref bv, rfl, rfl, hta, atI_nat (j := 1) rfl, ?_⟩
    refine ⟨_, rfl, r, _, 0, .ref cu, rfl, rfl, htc, atI_nat (j := 0) rfl, a.v, c.u, hva, huc, by omega, by omega, _, rfl, ?_⟩
    refine ite2 (fun e => ?_) (fun e => ?_)
    rotate_left
    · have e : a.v = c.u := by simpa using e
      -- the ring is closed
      refine ⟨_, rfl, t, _, rfl, .inl ⟨.inl (.inl hacc), fun l hl => ?_⟩⟩
      refine q l _ c.u c tl (sm.trans (same_upd hl)) (by rw [← hy, e] at pth; exact pth) fst (.tup (.inl (.inl upd_same)) (NkAll.same nacc (same_upd hl)))
    · have e : ¬ a.v = c.u := by simpa using e
      obtain ⟨d, hd1, hd2, _⟩ := aly.next
      obtain ⟨r2, v2, n2⟩ := vC _ _ hd1
      obtain ⟨r', er, pr⟩ := pth.det prg (by omega)
      have hr' : r' ≠ [] := fun z => by
        subst z
        cases pr
        exact e (hy)
      have rl := List.length_pos_iff.mpr hr'
      have el := congrArg List.length er
      rw [List.length_append] at el
      have hd' : DictN P w K H2 dc kvs := by
        obtain ⟨l, h1, _⟩ := hd.ex
        exact hd.tk (Tk.same sm) (by rw [sm _ _ h1, h1])
      refine ⟨fun σ' H' => ∃ m', m' < m ∧ _, fun σ' H' h => h, ?_⟩
      refine ⟨_, rfl, .inl ⟨rfl, _, .inl (.inl hacc)⟩, _, rfl, _, rfl, _, rfl, t, _, -1, .ref ra, rfl, rfl, .inl (.inl hacc), atI_last _ _, ra, _, 1, .ref bv, rfl, rfl, hta, atI_nat (j := 1) rfl, ?_⟩
      refine ⟨dc, bv, kvs, a.v, _, rfl, rfl, hd', hva, by omega, by rw [hy]; exact v2, ?_⟩
      have hlen2 : (acc0 ++ [V.ref ra]).length < sizeLine := by
        have h1 := nacc.length
        rw [List.length_map] at h1
        have h2 : (c :: tl).length ≤ rg.length := by omega
        rw [List.length_map] at rgk
        rw [h1]
        exact small6 (by omega)
      refine ⟨t, _, _, rfl, rfl, hacc, hlen2, ?_⟩
      refine ⟨m - 1, by omega, _, d, tl ++ [d], d.v, rfl, ?_, upd_same, ?_, ?_, ?_, ?_, ⟨c :: tl, rfl⟩, rfl⟩
      · exact same_wr ht sm
      · rw [← List.cons_append, List.map_append]
        exact (NkAll.tk (upd_lst_tk hacc) _ _ nacc).app (.cons (Nk.tk (upd_lst_tk hacc) _ _ (Nk.same n2 sm)) .nil)
      · rw [← List.cons_append]
        exact pth.app (.cons hd1 hd2 (.nil _))
      · intro x hx
        rcases List.mem_append.mp hx with hx | hx
        · exact fst x hx
        · obtain rfl : x = d := by simpa using hx
          rw [hd2, ← hy]; exact e
      · simp only [List.length_cons, List.length_append, List.length_nil] at hm el ⊢
        omega
end
end OW
end
section
set_option linter.all false
set_option maxRecDepth 100000
set_option maxHeartbeats 4000000
set_option autoImplicit false
/- P5: solve. -/
namespace OW
open PySem L2
section
variable {P : Program} {w : World} {K : PySem.W.Frag} {mg : Str → Option Value} {base : Heap}
/-- d[k] within a comprehension's block -/
theorem pe_ndgetC {X : Cx} {P : Program} {w : World} {K : PySem.W.Frag} {o i : Expr} {pos : Pos} {td ty : TE} (hP : X.prog = P) (hw : X.w = w) (hK : X.K = K) (hu : X.A.units + 64 < cLine) (ho : PE X o td) (hi : PE X i ty) (hs : NoSl i := by exact fun _ _ => rfl) : PE X (.Subscript o i pos) (tNGet P w K td ty) := by
  subst hP hw hK
  exact pe_ndget hu ho hi hs
/-- {k: 0 for k in l}, l a list of different names -/
theorem dc_zeros {a : Addr} {xs : List V} {ks : List NestedKey} {i : Nat} {vs : List Nat} {σ : St} {H : Hp} {D : Addr} {Qd : Hp → Prop} (hS : SqL K H a xs) (hn : NkAll K H ks xs) (nd : ks.Nodup) (hk : ∀ k ∈ ks, isTp k = true ∧ k.depth ≤ 8) (hz : ks.length ≤ 4000000) (hD : H D = none)
    (hget : ∀ x, ((wipe σ vs).set i (some x))[i]? = some (some x)) (hw : ∀ x, wipe ((wipe σ vs).set i (some x)) vs = wipe σ vs) (d0 : DictN P w K (upd H D (DNo P w D [])) D [])
    (fin : ∀ H' kvs, Same H H' → DictN P w K H' D kvs → kvs.map (·.1) = ks → (∀ k ∈ ks, valV kvs k = some (.int 0)) → Qd H') :
    ∃ W : Nat → Nat → Hp → Prop, (∃ m, W 0 m (upd H D (DNo P w D []))) ∧ ∀ i' m H, W i' m H →
      ((Itl K a).stop i' H ∧ Qd H) ∨ ((Itl K a).go i' H ∧ ∃ Nx : Hp → Prop, (∀ H', Nx H' → ∃ m', m' < m ∧ W (i' + 1) m' H') ∧ ∀ x H', (Itl K a).yld i' H x H' → gName i x (wipe σ vs) H' fun σ2 H2 => wipe σ2 vs = wipe σ vs ∧ tYes σ2 H2 fun b H3 =>
        if b = true then tVar i σ2 H3 fun y H4 => tC (.int 0) σ2 H4 fun z H5 => ∃ b kvs k, y = .ref b ∧ DictN P w K H5 D kvs ∧ Nk K H5 k (.ref b) ∧ k.depth ≤ 8 ∧ kvs.length < sizeLine ∧ ∀ H6, DictN P w K H6 D (putK kvs k z) → At1 D H5 H6 → Tk H5 H6 → Nx H6 else Nx H3) := by
  have two := nk_two (fun k : NestedKey => k) (as := ks) (by rw [List.map_id']; exact hn)
  have hl : xs.length = ks.length := two.length
  refine dc_listN (P := P) (w := w) (fun j H' => Same H H' ∧ ∃ kvs, DictN P w K H' D kvs ∧ kvs.map (·.1) = ks.take j ∧ ∀ k ∈ ks.take j, valV kvs k = some (.int 0)) ⟨same_upd hD, [], d0, rfl, fun k h => by simp at h⟩ (fun j H' _ h => h.1.seq hS) ?_ ?_
  · rintro j x H' hx ⟨sm, kvs, d, ek, vk⟩
    obtain ⟨k, hj, hkx⟩ := two.get hx
    have hkm : k ∈ ks := List.mem_of_getElem? hj
    obtain ⟨tp, d8⟩ := hk k hkm
    have nn : k ∉ ks.take j := fun hm => by
      obtain ⟨m, hm1, hm2⟩ := List.getElem_of_mem hm
      have hj2 := (List.getElem?_eq_some_iff.mp hj)
      obtain ⟨hjl, hje⟩ := hj2
      rw [List.length_take] at hm1
      rw [List.getElem_take] at hm2
      exact List.pairwise_iff_getElem.mp nd m j (by omega) hjl (by omega) (hm2.trans hje.symm)
    have hkx' := Nk.same hkx sm
    cases k with
    | tup cs =>
      obtain ⟨b, bs, rfl, _, _⟩ := Nk.ref hkx'
      refine ⟨hw _, _, hget _, b, kvs, .tup cs, rfl, d, hkx', d8, ?_, fun H6 d6 at6 tk6 => ⟨?_, _, d6, ?_, ?_⟩⟩
      · have e := congrArg List.length ek
        rw [List.length_map, List.length_take] at e
        exact small6 (by omega)
      · intro c o e
        rw [at6 c (ne_of_none e hD)]
        exact sm c o e
      · rw [keys_putK, if_neg (by rw [ek]; exact nn), ek, take_next hj]
      · intro k' hk'
        rw [valV_putK]
        split
        · rfl
        · rename_i ne
          refine vk k' ?_
          rw [take_next hj] at hk'
          rcases List.mem_append.mp hk' with h | h
          · exact h
          · exact absurd (by simpa using h) ne
    | _ => exact absurd tp (by simp [isTp])
  · rintro H' ⟨sm, kvs, d, ek, vk⟩
    rw [hl, List.take_length] at ek vk
    exact fin H' kvs sm d ek vk
theorem unk_tp {k : NestedKey} (h : Unk k) : isTp k = true ∧ k.depth ≤ 8 := by
  refine ⟨?_, by have := h.depth; omega⟩
  rcases h with rfl | ⟨r, ns, c, rfl⟩ <;> rfl
theorem _root_.L2.DictN.same {H H' : Hp} {d : Addr} {kvs : List (NestedKey × V)} (h : DictN P w K H d kvs) (s : Same H H') : DictN P w K H' d kvs := by
  obtain ⟨l, h1, _⟩ := id h.ex
  exact h.tk (Tk.same s) (by rw [s _ _ h1, h1])
theorem _root_.L2.DictN.some {H : Hp} {d : Addr} {kvs : List (NestedKey × V)} (h : DictN P w K H d kvs) : ∃ o, H d = some o := by
  obtain ⟨l, h1, _⟩ := h.ex
  exact ⟨_, h1⟩
theorem Lev.same {H H' : Hp} {d : Addr} {L : NestedKey → Int} {ns : List NestedKey} (h : Lev P w K H d L ns) (s : Same H H') : Lev P w K H' d L ns := by
  obtain ⟨kvs, h1, h2⟩ := h
  exact ⟨kvs, h1.same s, h2⟩
theorem CauD.same {H H' : Hp} {d : Addr} {C : Cau} {ns : List NestedKey} (h : CauD P w K H d C ns) (s : Same H H') : CauD P w K H' d C ns := by
  obtain ⟨kvs, h1, _⟩ := id h
  obtain ⟨o, e⟩ := h1.some
  exact h.tk (Tk.same s) (by rw [s _ _ e, e])
/-- the made pairs, as a list of addresses -/
theorem two_pairs {H : Hp} {f : NestedKey → Int} : ∀ {ns : List NestedKey} {ys : List V}, (∀ k ∈ ns, k.depth ≤ 8) → Two (fun k y => ∃ t b, y = V.ref t ∧ SqT K H t [.ref b, .int (f k)] ∧ Nk K H k (.ref b)) ns ys → ∃ ts : List Addr, ys = ts.map V.ref ∧ PairsN K H ts (ns.map fun k => (k, V.int (f k)))
  | _, _, _, .nil => ⟨[], rfl, .nil⟩
  | k :: ns, _, hd, .cons r t => by
    obtain ⟨ts, e, p⟩ := two_pairs (fun j hj => hd j (List.mem_cons_of_mem _ hj)) t
    obtain ⟨t0, b, e0, h1, h2⟩ := r
    exact ⟨t0 :: ts, by rw [List.map_cons, ← e, e0], .cons ⟨b, h1, h2, hd k List.mem_cons_self⟩ p⟩
theorem filter_true {α : Type} (l : List α) : l.filter (fun _ => true) = l := List.filter_eq_self.mpr fun _ _ => rfl
abbrev sSol : Stmt := top 9
theorem scSol : FnScope ["atoms", "unknowns", "levels", "causes", "last", "turn", "unknown"] ["atoms"] (defScope sSol) := ⟨rfl, rfl, rfl, by decide +kernel, rfl, by decide +kernel, by decide +kernel⟩
/-- a tuple of the pairs (name, value) -/
def SolT (K : PySem.W.Frag) (H : Hp) (p : Addr) (ns : List NestedKey) (f : NestedKey → Int) : Prop := ∃ ts : List Addr, PlT H p (ts.map V.ref) ∧ PairsN K H ts (ns.map fun k => (k, V.int (f k)))
def SolR (K : PySem.W.Frag) (H : Hp) (as : List Ato) (t : Addr) : Prop :=
  (∃ p f, SqT K H t [.str "solution", .ref p] ∧ SolT K H p (names as) f ∧ Sat f as ∧ f ZK = 0) ∨ (∃ p r, SqT K H t [.str "ring", .ref p] ∧ Nk K H (.tup (r.map Ato.key)) (.ref p) ∧ RingOk as r)
def spSol (K : PySem.W.Frag) : Sp := fun vs H Q _ => ∃ a as, vs = [.ref a] ∧ Sx K H (as.map Ato.key) a ∧ (∀ b ∈ as, AtoOk b) ∧ as.length ≤ 1000000 ∧ ∀ t H', Same H H' → SolR K H' as t → Q (.ref t) H'
theorem ok_sol {f fu ft fr : Addr} {fd du dt dr : FuncData} (B : Bl K mg) (D : Df K mg "solve" sSol ["atoms"] f fd) (DU : Df K mg "unknowns_in" sUnk ["atoms"] fu du) (GU : FnOk P w K mg base CX0 1 fu du ["atoms"] (spUnk K))
    (DT : Df K mg "tighten" sTig ["atoms", "levels", "causes"] ft dt) (GT : FnOk P w K mg base CX0 1 ft dt ["atoms", "levels", "causes"] (spTig P w K)) (DR : Df K mg "ring_behind" sRbh ["causes", "atom"] fr dr) (GR : FnOk P w K mg base CX0 1 fr dr ["causes", "atom"] (spRbh P w K)) :
    FnOk P w K mg base CX0 2 f fd ["atoms"] (spSol K) := by
  refine D.fn.ok scSol (fun vs H Q E h => ?_) (fun cdv A outer s H vs Q E hr h => ?_)
  · obtain ⟨a, as, rfl, _⟩ := h
    rfl
  obtain ⟨a, as, rfl, hS, ok, hlen, q⟩ := h
  obtain ⟨z, mz, hz⟩ := zero_is B
  refine ⟨_, pss_cons (ps_set (i := 1) scSol.nd rfl (.inl rfl) (pe_call GU hr rfl DU.m DU.kp DU.b .nil pass0 (pa_cons (pv 0) pa_nil)))
    (pss_cons (ps_set (i := 2) scSol.nd rfl (.inr rfl) (pe_dcN (own := [("unknown", 6)]) (g := gName 6) hr.units rfl scSol.nd (pi_list (pe_lst (pa_cons (pe_glob (v := .ref z) (by rfl) mz rfl) (StX.pa_star (pv 1) pa_nil)))) (blkOk_by (N := ["atoms", "unknowns", "levels", "causes", "last", "turn", "unknown"]) (sc := defScope sSol) (by decide +kernel))
        (fun _ _ _ _ _ => pg_name (i := 6) scSol.nd rfl (Or.inl rfl)) (fun _ _ _ _ _ => pts_nil) (fun _ _ _ _ _ => pv 6) (fun _ _ _ _ _ => pe_int)))
    (pss_cons (ps_par rfl scSol.nd (i := 3) (j := 4) rfl rfl (by decide) rfl rfl (pa_cons pe_ndnew (pa_cons pe_non pa_nil)) (by rfl))
    (pss_cons (ps_for PassesOwn.never rfl (pi_range1 (by rfl) B.range (pa_cons (pe_callB cr_nlen (by rfl) B.len PySem.boot_len (pa_cons (pv 2) pa_nil)) pa_nil)) (pg_name (i := 5) scSol.nd rfl (.inl rfl))
      (pss_cons (ps_set (i := 4) scSol.nd rfl (.inl rfl) (pe_call GT hr rfl DT.m DT.kp DT.b .nil pass0 (pa_cons (pv 0) (pa_cons (pv 2) (pa_cons (pv 3) pa_nil)))))
      (pss_one (ps_if (pt_cmpR op_isN (pv 4) pe_non (nomark _))
        (pss_one (ps_ret (pe_tup (pa_cons pe_str (pa_cons (pe_callTy call_tuple_pl (by rfl) B.tup PyProof.Rows.boot_tuple (pa_cons
          (pe_lc (own := [("unknown", 6)]) (g := gName 6) rfl scSol.nd (pi_sq (pv 1)) (blkOk_by (N := ["atoms", "unknowns", "levels", "causes", "last", "turn", "unknown"]) (sc := defScope sSol) (by decide +kernel)) (fun _ _ _ _ _ => pg_name (i := 6) scSol.nd rfl (Or.inl rfl)) (fun _ _ _ _ _ => pts_nil)
            (fun _ _ _ _ _ => pe_tup (pa_cons (pv 6) (pa_cons (pe_op op_sub (pe_ndgetC (P := P) (w := w) (K := K) rfl rfl rfl (by exact hr.units) (pv 2) (pv 6)) (pe_ndgetC (P := P) (w := w) (K := K) rfl rfl rfl (by exact hr.units) (pv 2) (pe_glob (v := .ref z) (by rfl) mz rfl))) pa_nil)))) pa_nil)) pa_nil))))) pss_nil))))
    (pss_one (ps_ret (pe_tup (pa_cons pe_str (pa_cons (pe_call GR hr rfl DR.m DR.kp DR.b .nil pass0 (pa_cons (pv 3) (pa_cons (pv 4) pa_nil))) pa_nil)))))))), ?_⟩
  refine ⟨_, rfl, a, as, rfl, hS, ok, hlen, fun u H1 s1 hu hLu => ?_⟩
  obtain ⟨us, hus, nus⟩ := hLu
  have nk1 := names_unk ok
  have nlen := names_len (as := as)
  have usl := nus.length
  refine ⟨_, rfl, u, us, rfl, .inr (.inl (.inl hus)), ?_, fun l hl => ⟨l, rfl, ⟨_, .inl (.inl upd_same)⟩, fun dl hdl => ?_⟩⟩
  · rw [List.length_cons, List.length_append, List.length_nil]
    exact Nat.le_of_lt (small6 (by omega))
  have sl := same_upd (o := .lst (V.ref z :: (us ++ []))) hl
  have nsnd : (ZK :: names as).Nodup := List.nodup_cons.mpr ⟨fun h => (mem_names.mp h).1 rfl, names_nodup as⟩
  refine dc_zeros (P := P) (w := w) (ks := ZK :: names as) (.inl (.inl upd_same)) (.cons (hz _) (NkAll.same (by rw [List.append_nil]; exact nus) sl)) nsnd (fun k hk => unk_tp ((List.mem_cons.mp hk).elim (fun e => .inl e) fun e => .inr (nk1 k e))) (by rw [List.length_cons]; omega) hdl (fun _ => rfl) (fun _ => rfl) ⟨[], upd_same, rfl, fun p hp => (nomatch hp)⟩ (fun H2 kvL s2 dL eL vL => ?_)
  refine fun dc H3 hdc dC at3 s3 => ⟨_, _, rfl, ?_⟩
  have hne : dl ≠ dc := by
    obtain ⟨o, e⟩ := dL.some
    exact ne_of_none e hdc
  have nmem : ∀ b ∈ as, b.u ∈ ZK :: names as ∧ b.v ∈ ZK :: names as := fun b hb => by
    have one : ∀ k, (k = b.u ∨ k = b.v) → k ∈ ZK :: names as := fun k e => by
      by_cases c : k = ZK
      · rw [c]; exact List.mem_cons_self
      · exact List.mem_cons_of_mem _ (mem_names.mpr ⟨c, b, hb, e⟩)
    exact ⟨one _ (.inl rfl), one _ (.inr rfl)⟩
  have lenL : kvL.length = (ZK :: names as).length := by rw [← eL, List.length_map]
  have sH3 : Same H H3 := s1.trans (sl.trans (s2.trans s3))
  refine ⟨_, rfl, dl, kvL, rfl, dL.same s3, _, rfl, by omega, by rw [lenL, List.length_cons]; omega, ?_⟩
  rw [Int.toNat_natCast, lenL]
  refine for_range (lo := 0) (fun i σ H' => ∃ lv y5 y6 L C T, σ = [some (.ref a), some (.ref u), some (.ref dl), some (.ref dc), some lv, y5, y6] ∧ Same H H' ∧ Lx K H' (names as) u ∧ Lev P w K H' dl L (ZK :: names as) ∧ CauD P w K H' dc C (ZK :: names as) ∧ Good as (i + 1) L C T ∧
      (0 < i → ∃ b p, lv = .ref p ∧ Nk K H' b.key (.ref p) ∧ b ∈ as ∧ C b.u = some b ∧ T b.u = i))
    ⟨.non, none, none, _, _, _, rfl, sH3, ⟨us, s3 _ _ (s2 _ _ (sl _ _ hus)), NkAll.same nus (sl.trans (s2.trans s3))⟩, ⟨kvL, dL.same s3, eL, vL⟩, ⟨[], dC, List.nodup_nil, fun k hk => (nomatch hk), fun k _ => rfl, fun k a h => by cases h⟩, Good.start, fun h => absurd h (by omega)⟩ ?_ ?_
  · rintro i σ H4 hi ⟨lv, y5, y6, L, C, T, rfl, sm, hLx, hLev, hCau, good, _⟩
    refine ⟨_, rfl, _, rfl, _, rfl, a, dl, dc, as, L, C, _, rfl, hS.same sm, hne, hLev, hCau, fun b hb => ⟨ok b hb, nmem b hb⟩, by rw [List.length_cons]; omega, fun H5 r b2 tk5 lev5 cau5 last5 => ?_⟩
    obtain ⟨T', good', la⟩ := pass_good (by omega) good
    have s5 : Same H H5 := fun c o e => by
      have hdl0 : H dl = none := by
        cases q0 : H dl with
        | none => rfl
        | some o0 =>
          rw [sl _ _ (s1 _ _ q0)] at hdl
          cases hdl
      have hdc0 : H dc = none := by
        cases q0 : H dc with
        | none => rfl
        | some o0 =>
          rw [s2 _ _ (sl _ _ (s1 _ _ q0))] at hdc
          cases hdc
      exact b2 c o (ne_of_none e hdl0) (ne_of_none e hdc0) (sm c o e)
    obtain ⟨us4, hus4, nus4⟩ := hLx
    have nu : ∀ {d : Addr} {kvs : List (NestedKey × V)}, DictN P w K H4 d kvs → u ≠ d := fun {d kvs} dd e => by
      obtain ⟨l0, h0, _⟩ := dd.ex
      rw [← e, hus4] at h0
      cases h0
    have hus5 : H5 u = some (.lst us4) := by
      obtain ⟨k1, d1, _⟩ := id hLev
      obtain ⟨k2, d2, _⟩ := id hCau
      exact b2 u _ (nu d1) (nu d2) hus4
    have nus5 := NkAll.tk tk5 _ _ nus4
    refine ⟨_, rfl, rfl, _, rfl, ?_⟩
    cases hlast : (pass as L C).last with
    | none =>
      rw [hlast] at last5
      obtain rfl : r = .non := last5
      refine iteT ?_
      have none5 := pass_none hlast
      obtain ⟨kv5, d5, e5, v5⟩ := lev5
      obtain ⟨J, Gs, W⟩ := sq_walk (K := K) (H := H5) (a := u) (xs := us4) (.inl (.inl (.inl hus5)))
      have two := nk_two (fun k : NestedKey => k) (as := names as) (by rw [List.map_id']; exact nus5)
      refine ⟨_, rfl, u, us4, J, rfl, W.sq (fun _ _ e => e), W.arm (fun _ _ e => e), fun hz4 D2 hD2 => ?_⟩
      refine lc_gen (names as) (fun k y H' => ∃ t b, y = V.ref t ∧ SqT K H' t [.ref b, .int ((pass as L C).L k - (pass as L C).L ZK)] ∧ Nk K H' k (.ref b)) (fun _ => true) W.walk (fun _ s => W.g s) two.length.symm (by rw [← two.length]; exact hz4) hD2
        (fun k y H6 H7 t7 h => ?_) (fun j k x H6 hk hx s6 c cn yes no => ?_) (fun ys H6 s6 hy two6 => ?_)
      · obtain ⟨t, b, h1, h2, h3⟩ := h
        exact ⟨t, b, h1, t7.sqT h2, Nk.tk t7 _ _ h3⟩
      · obtain ⟨k', hk', hkx⟩ := two.get hx
        rw [hk] at hk'
        obtain rfl : k = k' := Option.some.inj hk'
        have hkm : k ∈ names as := List.mem_of_getElem? hk
        obtain ⟨rr, nn, cc, rfl⟩ := nk1 k hkm
        obtain ⟨b, bs, rfl, _, _⟩ := Nk.ref hkx
        have hkx6 := Nk.same hkx s6
        refine ⟨rfl, _, rfl, _, rfl, _, rfl, dl, b, kv5, _, _, rfl, rfl, d5.same s6, hkx6, (unk_tp (.inr ⟨rr, nn, cc, rfl⟩)).2, v5 _ (List.mem_cons_of_mem _ hkm), ?_⟩
        refine ⟨_, rfl, dl, z, kv5, ZK, _, rfl, rfl, d5.same s6, hz _, by decide, v5 _ List.mem_cons_self, _, _, rfl, rfl, by show 2 ≤ sizeLine; decide, fun t ht => ?_⟩
        exact yes rfl _ _ (same_upd ht) ⟨t, b, rfl, .inl (.inl upd_same), Nk.same hkx6 (same_upd ht)⟩
      · rw [filter_true] at two6
        refine ⟨D2, ys, rfl, .inl (.inl hy), fun p H7 hp pl at7 s7 => ⟨by show 2 ≤ sizeLine; decide, fun t ht => ?_⟩⟩
        obtain ⟨ts, ets, pts⟩ := two_pairs (fun k hk => (unk_tp (.inr (nk1 k hk))).2) two6
        have s8 := same_upd (o := .tup [.str "solution", .ref p]) ht
        refine q t _ (s5.trans (s6.trans (s7.trans s8))) (.inl ⟨p, fun k => (pass as L C).L k - (pass as L C).L ZK, .inl (.inl upd_same), ⟨ts, ?_, PairsN.tk (Tk.same (s7.trans s8)) pts⟩, fun b hb => ?_, by show _ - _ = (0 : Int); omega⟩)
        · rw [← ets]; exact pl.tk (Tk.same s8)
        · have := none5 b hb
          show ((pass as L C).L b.u - (pass as L C).L ZK) - ((pass as L C).L b.v - (pass as L C).L ZK) ≤ b.k
          omega
    | some b =>
      rw [hlast] at last5
      obtain ⟨p, rfl, hp⟩ := last5
      refine iteF ?_
      obtain ⟨hb1, hb2, hb3⟩ := la b hlast
      exact ⟨_, _, _, _, _, T', rfl, s5, ⟨us4, hus5, nus5⟩, lev5, cau5, good', fun _ => ⟨b, p, rfl, hp, hb1, hb2, hb3⟩⟩
  · rintro σ H4 ⟨lv, y5, y6, L, C, T, rfl, sm, hLx, hLev, hCau, good, lst⟩
    obtain ⟨b, p, rfl, hp, hb1, hb2, hb3⟩ := lst (by rw [List.length_cons]; omega)
    have al := last_alive good nmem (Nat.le_refl _) hb1 hb3
    refine ⟨_, rfl, _, rfl, dc, p, C, _, b, rfl, hCau, by rw [List.length_cons]; omega, fun x c hx => ⟨(good.src x c hx).1, ok c (good.src x c hx).2.1⟩, hb2, hp, al, fun t H5 x a0 tl s5 pth fst nk5 => ?_⟩
    refine ⟨by show 2 ≤ sizeLine; decide, fun t2 ht2 => ?_⟩
    exact q t2 _ (sm.trans (s5.trans (same_upd ht2))) (.inr ⟨t, a0 :: tl, .inl (.inl upd_same), Nk.same nk5 (same_upd ht2), ring_made good (fun c hc => (ok c hc).ne) pth fst⟩)
end
end OW
end
section
set_option linter.all false
set_option maxRecDepth 100000
set_option maxHeartbeats 4000000
set_option autoImplicit false
/- P6: does_hold, is_pair. -/
namespace OW
open PySem L2
theorem two_bl {α : Type} {g : α → Bool} : ∀ {as : List α} {ys : List V}, Two (fun a y => y = V.bl (g a)) as ys → ys = (as.map g).map V.bl
  | _, _, .nil => rfl
  | _, _, .cons r t => by rw [List.map_cons, List.map_cons, r, two_bl t]
theorem two_int {α : Type} {g : α → Int} : ∀ {as : List α} {ys : List V}, Two (fun a y => y = V.int (g a)) as ys → ys = (as.map g).map V.int
  | _, _, .nil => rfl
  | _, _, .cons r t => by rw [List.map_cons, List.map_cons, r, two_int t]
def satB (f : NestedKey → Int) (as : List Ato) : Bool := as.all fun a => decide (f a.u - f a.v ≤ a.k)
theorem satB_iff {f : NestedKey → Int} {as : List Ato} : satB f as = true ↔ Sat f as := by
  unfold satB Sat
  rw [List.all_eq_true]
  exact ⟨fun h a ha => of_decide_eq_true (h a ha), fun h a ha => decide_eq_true (h a ha)⟩
section
variable {P : Program} {w : World} {K : PySem.W.Frag} {mg : Str → Option Value} {base : Heap}
/-- a dict's values for the names of these atoms -/
def ValD (P : Program) (w : World) (K : PySem.W.Frag) (H : Hp) (d : Addr) (f : NestedKey → Int) (ns : List NestedKey) : Prop := ∃ kvs, DictN P w K H d kvs ∧ ∀ k ∈ ns, valV kvs k = some (.int (f k))
theorem ValD.same {H H' : Hp} {d : Addr} {f : NestedKey → Int} {ns : List NestedKey} (h : ValD P w K H d f ns) (s : Same H H') : ValD P w K H' d f ns := by
  obtain ⟨kvs, h1, h2⟩ := h
  exact ⟨kvs, h1.same s, h2⟩
theorem ValD.mono {H : Hp} {d : Addr} {f : NestedKey → Int} {ns ms : List NestedKey} (h : ValD P w K H d f ns) (s : ∀ k ∈ ms, k ∈ ns) : ValD P w K H d f ms := by
  obtain ⟨kvs, h1, h2⟩ := h
  exact ⟨kvs, h1, fun k hk => h2 k (s k hk)⟩
abbrev sDoe : Stmt := top 10
theorem scDoe : FnScope ["alternative", "values", "left", "right", "bound"] ["alternative", "values"] (defScope sDoe) := ⟨rfl, rfl, rfl, by decide +kernel, rfl, by decide +kernel, by decide +kernel⟩
def spDoe (P : Program) (w : World) (K : PySem.W.Frag) : Sp := fun vs H Q _ => ∃ v d as f, vs = [v, .ref d] ∧ Nk K H (altK as) v ∧ (∀ b ∈ as, AtoOk b) ∧ ValD P w K H d f (sides as) ∧ ∀ H', Same H H' → Q (.bl (satB f as)) H'
theorem ok_doe {f : Addr} {fd : FuncData} (B : Bl K mg) (D : Df K mg "does_hold" sDoe ["alternative", "values"] f fd) : FnOk P w K mg base CX0 1 f fd ["alternative", "values"] (spDoe P w K) := by
  refine D.fn.ok scDoe (fun vs H Q E h => ?_) (fun cdv A outer s H vs Q E hr h => ?_)
  · obtain ⟨v, d, as, f, rfl, _⟩ := h
    rfl
  obtain ⟨v, d, as, f, rfl, hk, ok, ⟨kvs, hd, hv⟩, q⟩ := h
  obtain ⟨t, xs, rfl, ht, hN⟩ := Nk.ref hk
  refine ⟨_, pss_one (ps_ret (pe_callB (cr_all rfl) (by rfl) B.all PyProof.Rows.boot_all (pa_cons
      (pe_lc (own := [("left", 2), ("right", 3), ("bound", 4)]) (g := gTup K 3 (gCons (gName 2) (gCons (gName 3) (gCons (gName 4) gNil)))) rfl scDoe.nd (pi_sq (pv 0)) (blkOk_by (N := ["alternative", "values", "left", "right", "bound"]) (sc := defScope sDoe) (by decide +kernel))
        (fun _ _ _ _ _ => pg_tup rfl (pgs_cons (pg_name (i := 2) scDoe.nd rfl (.inl rfl)) (pgs_cons (pg_name (i := 3) scDoe.nd rfl (.inl rfl)) (pgs_cons (pg_name (i := 4) scDoe.nd rfl (.inl rfl)) pgs_nil)))) (fun _ _ _ _ _ => pts_nil)
        (fun _ _ _ _ _ => pe_cmpR op_le (pe_op op_sub (pe_ndgetC (P := P) (w := w) (K := K) rfl rfl rfl (by exact hr.units) (pv 1) (pv 2)) (pe_ndgetC (P := P) (w := w) (K := K) rfl rfl rfl (by exact hr.units) (pv 1) (pv 3))) (pv 4) (nomark _))) pa_nil))), ?_⟩
  obtain ⟨J, Gs, W⟩ := sq_walk (K := K) (H := H) (a := t) (xs := xs) (.inr ht)
  have two := nk_two Ato.key hN
  refine ⟨_, rfl, t, xs, J, rfl, W.sq (fun _ _ e => e), W.arm (fun _ _ e => e), fun hz D' hD => ?_⟩
  refine lc_gen as (fun a y _ => y = V.bl (decide (f a.u - f a.v ≤ a.k))) (fun _ => true) W.walk (fun _ s => W.g s) two.length.symm (by rw [← two.length]; exact hz) hD (fun _ _ _ _ _ e => e) (fun i b x H' hb hx sm c cn yes no => ?_) (fun ys H' sm hy two2 => ?_)
  · obtain ⟨b', hb', hbx⟩ := two.get hx
    rw [hb] at hb'
    obtain rfl : b = b' := Option.some.inj hb'
    have hbm : b ∈ as := List.mem_of_getElem? hb
    have okb := ok b hbm
    obtain ⟨r, bu, bv, rfl, hr', hu, hv'⟩ := ato_parts (Nk.same hbx sm) okb
    have d1 := okb.u.depth
    have d2 := okb.v.depth
    refine ⟨r, _, rfl, hr', rfl, _, _, rfl, _, _, rfl, _, _, rfl, rfl, rfl, ?_⟩
    refine ⟨_, rfl, _, rfl, d, bu, kvs, b.u, _, rfl, rfl, hd.same sm, hu, by omega, hv _ (mem_sides.mpr ⟨b, hbm, .inl rfl⟩), ?_⟩
    refine ⟨_, rfl, _, rfl, d, bv, kvs, b.v, _, rfl, rfl, hd.same sm, hv', by omega, hv _ (mem_sides.mpr ⟨b, hbm, .inr rfl⟩), _, _, rfl, rfl, ?_⟩
    exact ⟨_, rfl, _, _, rfl, rfl, yes rfl _ _ (fun _ _ e => e) rfl⟩
  · rw [filter_true] at two2
    refine ⟨D', _, rfl, .inl (.inl (by rw [← two_bl two2]; exact hy)), ?_⟩
    have e : (as.map fun a => decide (f a.u - f a.v ≤ a.k)).all id = satB f as := by unfold satB; rw [List.all_map]; rfl
    rw [e]
    exact q H' sm
/-! ### is_pair -/
abbrev sIsp : Stmt := top 11
theorem scIsp : FnScope ["value"] ["value"] (defScope sIsp) := ⟨rfl, rfl, rfl, by decide +kernel, rfl, by decide +kernel, by decide +kernel⟩
def spIsp (K : PySem.W.Frag) : Sp := fun vs H Q _ => ∃ t b i k, vs = [.ref t] ∧ SqT K H t [.ref b, .int i] ∧ Nk K H k (.ref b) ∧ k.depth ≤ 8 ∧ ∀ H', Same H H' → Q (.bl true) H'
theorem ok_isp {f fh : Addr} {fd dh : FuncData} (B : Bl K mg) (D : Df K mg "is_pair" sIsp ["value"] f fd) (DH : Df K mg "has_bools" sHas ["value"] fh dh) (GH : FnOk P w K mg base CX0 60 fh dh ["value"] (spHas K 60)) : FnOk P w K mg base CX0 61 f fd ["value"] (spIsp K) := by
  refine D.fn.ok scIsp (fun vs H Q E h => ?_) (fun cdv A outer s H vs Q E hr h => ?_)
  · obtain ⟨t, b, i, k, rfl, _⟩ := h
    rfl
  obtain ⟨t, b, i, k, rfl, ht, hk, hd, q⟩ := h
  obtain ⟨tp, mp⟩ := B.pair
  refine ⟨_, pss_cons (ps_if (PW.pt (pw_or (pt_not (pt_val (pe_callB cr_isi (by rfl) B.isi PyProof.Rows.boot_isinstance (pa_cons (pv 0) (pa_cons (pe_ty (by rfl) B.tup PyProof.Rows.boot_tuple) pa_nil)))))
      (pw_or1 (pt_cmpR op_ne (pe_callB call_len_seq (by rfl) B.len PySem.boot_len (pa_cons (pv 0) pa_nil)) (pe_glob (v := .int 2) (by rfl) mp ⟨_, rfl⟩) (nomark _)))))
      (pss_one (ps_ret pe_bl)) pss_nil)
    (pss_one (ps_ret (pe_and (pe_not (pe_call GH hr rfl DH.m DH.kp DH.b .nil pass0 (pa_cons (pv 0) pa_nil))) (pe_one (pe_callB cr_isi (by rfl) B.isi PyProof.Rows.boot_isinstance (pa_cons (pe_ix ix_tup (pv 0) pe_int (fun _ _ => rfl)) (pa_cons (pe_ty (by rfl) B.int PyProof.Rows.boot_int) pa_nil))))))), ?_⟩
  refine ⟨_, rfl, _, _, "tuple", true, rfl, sqT_tyx ht, by decide +kernel, _, rfl, ?_⟩
  refine iteF ⟨_, rfl, t, _, rfl, .inr ht, rfl, _, rfl, iteF ?_⟩
  have nk : Nk K H (.tup [k, .num i]) (.ref t) := .tup ht (.cons hk (.cons (.num i) .nil))
  refine ⟨_, rfl, _, _, rfl, nk, ?_, fun H1 s1 => ⟨_, rfl, _, rfl, iteT ?_⟩⟩
  · have := depth_tup (ks := [k, .num i]) (d := 8) (by
      intro k' hk'
      simp only [List.mem_cons, List.not_mem_nil, or_false] at hk'
      rcases hk' with rfl | rfl
      · exact hd
      · simp [NestedKey.depth])
    omega
  · exact ⟨_, rfl, t, _, 1, .int i, rfl, rfl, (Tk.same s1).sqT ht, atI_nat (j := 1) rfl, _, _, "int", true, rfl, .base (.int i), by decide +kernel, q H1 s1⟩
end
end OW
end
section
set_option linter.all false
set_option maxRecDepth 100000
set_option maxHeartbeats 4000000
set_option autoImplicit false
/- P7: solution_holds. -/
namespace OW
open PySem L2
def compScope : Expr → Scope
  | .ListComp _ _ sc _ => sc
  | .DictComp _ _ _ sc _ => sc
  | _ => { kind := .function, names := [], isGenerator := false, isCoroutine := false }
def callArg : Expr → Expr
  | .Call _ (a :: _) _ _ => a
  | e => e
def retOf : Stmt → Expr
  | .Return (some e) _ => e
  | _ => .Name "x" ⟨0, 0, 0, 0⟩
section
variable {X : Cx} {K : PySem.W.Frag}
theorem pi_sqC {tg l : Expr} {tl : TE} (hK : X.K = K) (hl : PE X l tl) : PI X tg l (iSq K tl) := by subst hK; exact pi_sq hl
theorem cr_anyC (hK : X.K = K) (hc : X.calm = true) : CallR X (.builtin "any") (rAny K) := by subst hK; exact cr_any hc
theorem cr_allC (hK : X.K = K) (hc : X.calm = true) : CallR X (.builtin "all") (rAll K) := by subst hK; exact cr_all hc
theorem ix_tupC (hK : X.K = K) : IxR X (rIxT K) := by subst hK; exact ix_tup
end
def relabS (scope outer : Scope) : Scope :=
  { scope with names := scope.names.map fun (n, k) => if (k == NameKind.free && outer.kind == ScopeKind.function && outer.names.lookup n == some NameKind.cell) then (n, NameKind.cell) else (n, k) }
theorem valV_merge {g : NestedKey → V} (j : NestedKey) : ∀ (ns : List NestedKey) (kvs : List (NestedKey × V)), valV (mergeN kvs (ns.map fun k => (k, g k))) j = if j ∈ ns then some (g j) else valV kvs j
  | [], kvs => by simp [mergeN]
  | n :: ns, kvs => by
    show valV (mergeN (putK kvs n (g n)) (ns.map fun k => (k, g k))) j = _
    rw [valV_merge j ns (putK kvs n (g n)), valV_putK]
    by_cases h : j ∈ ns
    · rw [if_pos h, if_pos (List.mem_cons_of_mem _ h)]
    · rw [if_neg h]
      by_cases e : j = n
      · rw [if_pos e, if_pos (by rw [e]; exact List.mem_cons_self), e]
      · rw [if_neg e, if_neg (fun z => (List.mem_cons.mp z).elim e h)]
section
variable {P : Program} {w : World} {K : PySem.W.Frag} {mg : Str → Option Value} {base : Heap}
theorem pairs_two {H : Hp} {f : NestedKey → Int} : ∀ {ns : List NestedKey} {ts : List Addr}, PairsN K H ts (ns.map fun k => (k, V.int (f k))) → Two (fun k v => ∃ t b, v = V.ref t ∧ SqT K H t [.ref b, .int (f k)] ∧ Nk K H k (.ref b) ∧ k.depth ≤ 8) ns (ts.map V.ref)
  | [], _, h => by cases h; exact .nil
  | k :: ns, _, h => by
    cases h with
    | cons r t =>
      obtain ⟨b, h1, h2, h3⟩ := r
      exact .cons ⟨_, b, rfl, h1, h2, h3⟩ (pairs_two t)
theorem SolT.same {H H' : Hp} {p : Addr} {ns : List NestedKey} {f : NestedKey → Int} (h : SolT K H p ns f) (s : Same H H') : SolT K H' p ns f := by
  obtain ⟨ts, h1, h2⟩ := h
  exact ⟨ts, h1.tk (Tk.same s), PairsN.tk (Tk.same s) h2⟩
abbrev sSoh : Stmt := top 12
theorem scSoh : FnScope ["clauses", "thing", "values", "pair", "clause", "alternative"] ["clauses", "thing"] (defScope sSoh) := ⟨rfl, rfl, rfl, by decide +kernel, rfl, by decide +kernel, by decide +kernel⟩
def spSoh (P : Program) (w : World) (K : PySem.W.Frag) : Sp := fun vs H Q _ => ∃ c p cs f, vs = [.ref c, .ref p] ∧ Sx K H (cs.map claK) c ∧ (∀ cl ∈ cs, ClaOk cl) ∧ (allA cs).length ≤ 1000000 ∧ SolT K H p (names (allA cs)) f ∧ f ZK = 0 ∧ Met f cs ∧ ∀ H', Same H H' → Q (.bl true) H'
theorem mem_allA {cs : List Cla} {b : Ato} : b ∈ allA cs ↔ ∃ c ∈ cs, ∃ a ∈ c, b ∈ a := by
  unfold allA
  rw [List.mem_flatten]
  constructor
  · rintro ⟨a, ha, hb⟩
    obtain ⟨c, hc, hac⟩ := List.mem_flatten.mp ha
    exact ⟨c, hc, a, hac, hb⟩
  · rintro ⟨c, hc, a, ha, hb⟩
    exact ⟨a, List.mem_flatten.mpr ⟨c, hc, ha⟩, hb⟩
theorem allA_ok {cs : List Cla} (h : ∀ c ∈ cs, ClaOk c) : ∀ b ∈ allA cs, AtoOk b := fun b hb => by
  obtain ⟨c, hc, a, ha, hba⟩ := mem_allA.mp hb
  exact ((h c hc).2 a ha).2 b hba
theorem met_any {f : NestedKey → Int} {cs : List Cla} : (cs.map fun c => (c.map fun a => satB f a).any id).all id = true ↔ Met f cs := by
  rw [List.all_map, List.all_eq_true]
  constructor
  · intro h c hc
    have := h c hc
    simp only [Function.comp_apply, id_eq, List.any_map, List.any_eq_true] at this
    obtain ⟨a, ha, e⟩ := this
    exact ⟨a, ha, satB_iff.mp e⟩
  · intro h c hc
    obtain ⟨a, ha, e⟩ := h c hc
    simp only [Function.comp_apply, id_eq, List.any_map, List.any_eq_true]
    exact ⟨a, ha, satB_iff.mpr e⟩
theorem ok_soh {f fi fu fa fh : Addr} {fd di du da dh : FuncData} (B : Bl K mg) (D : Df K mg "solution_holds" sSoh ["clauses", "thing"] f fd) (DI : Df K mg "is_pair" sIsp ["value"] fi di) (GI : FnOk P w K mg base CX0 61 fi di ["value"] (spIsp K))
    (DU : Df K mg "unknowns_in" sUnk ["atoms"] fu du) (GU : FnOk P w K mg base CX0 1 fu du ["atoms"] (spUnk K)) (DA : Df K mg "atoms_in" sAin ["clauses"] fa da) (GA : FnOk P w K mg base CX0 1 fa da ["clauses"] (spAin K)) (DD : Df K mg "does_hold" sDoe ["alternative", "values"] fh dh) (GD : FnOk P w K mg base CX0 1 fh dh ["alternative", "values"] (spDoe P w K)) :
    FnOk P w K mg base CX0 62 f fd ["clauses", "thing"] (spSoh P w K) := by
  refine D.fn.ok scSoh (fun vs H Q E h => ?_) (fun cdv A outer s H vs Q E hr h => ?_)
  · obtain ⟨c, p, cs, f, rfl, _⟩ := h
    rfl
  obtain ⟨c, p, cs, ff, rfl, hS, ok, hlen, hsol, hf0, hmet, q⟩ := h
  obtain ⟨z, mz, hz⟩ := zero_is B
  have hr1 := hr.mono (j := 1) (by decide)
  refine ⟨_, pss_cons (ps_if (PW.pt (pw_or (pt_not (pt_val (pe_callB cr_isi (by rfl) B.isi PyProof.Rows.boot_isinstance (pa_cons (pv 1) (pa_cons (pe_ty (by rfl) B.tup PyProof.Rows.boot_tuple) pa_nil)))))
      (pw_or1 (pt_not (pt_val (pe_callB (cr_all rfl) (by rfl) B.all PyProof.Rows.boot_all (pa_cons
        (pe_lc (own := [("pair", 3)]) (g := gName 3) rfl scSoh.nd (pi_sq (pv 1)) (blkOk_by (N := ["clauses", "thing", "values", "pair", "clause", "alternative"]) (sc := defScope sSoh) (by decide +kernel)) (fun _ _ _ _ _ => pg_name (i := 3) scSoh.nd rfl (Or.inl rfl)) (fun _ _ _ _ _ => pts_nil)
          (fun _ _ _ _ _ => pe_call GI hr rfl DI.m DI.kp DI.b .nil pass0 (pa_cons (pv 3) pa_nil))) pa_nil))))))) (pss_one (ps_ret pe_bl)) pss_nil)
    (pss_cons (ps_if (pt_cmpR (op_neNL hr.units) (pe_lc (own := [("pair", 3)]) (g := gName 3) rfl scSoh.nd (pi_sq (pv 1)) (blkOk_by (N := ["clauses", "thing", "values", "pair", "clause", "alternative"]) (sc := defScope sSoh) (by decide +kernel)) (fun _ _ _ _ _ => pg_name (i := 3) scSoh.nd rfl (Or.inl rfl)) (fun _ _ _ _ _ => pts_nil)
          (fun _ _ _ _ _ => pe_ix (ix_tupC (K := K) rfl) (pv 3) pe_int (fun _ _ => rfl)))
        (pe_call GU hr1 rfl DU.m DU.kp DU.b .nil pass0 (pa_cons (pe_call GA hr1 rfl DA.m DA.kp DA.b .nil pass0 (pa_cons (pv 0) pa_nil)) pa_nil)) (nomark _)) (pss_one (ps_ret pe_bl)) pss_nil)
    (pss_cons (ps_set (i := 2) scSoh.nd rfl (.inr rfl) (pe_callTy (cr_ndictT rfl hr.units) (by rfl) B.dict PyProof.Rows.boot_dict (pa_cons (pv 1) pa_nil)))
    (pss_cons (ps_ndput hr.units (pv 2) (pe_glob (v := .ref z) (by rfl) mz rfl) pe_int)
    (pss_one (ps_ret (pe_callB (cr_all rfl) (by rfl) B.all PyProof.Rows.boot_all (pa_cons
      (pe_lc (own := [("clause", 4)]) (g := gName 4) rfl scSoh.nd (pi_sq (pv 0)) (blkOk_by (N := ["clauses", "thing", "values", "pair", "clause", "alternative"]) (sc := defScope sSoh) (by decide +kernel)) (fun _ _ _ _ _ => pg_name (i := 4) scSoh.nd rfl (Or.inl rfl)) (fun _ _ _ _ _ => pts_nil)
        (fun _ _ _ _ _ => pe_callB (cr_anyC (K := K) rfl rfl) (by rfl) B.any PyProof.Rows.boot_any (pa_cons
          (pe_lc (own := [("alternative", 5)]) (g := gName 5) rfl scSoh.nd (pi_sqC (K := K) rfl (pv 4)) (blkOk_by (N := ["clauses", "thing", "values", "pair", "clause", "alternative"]) (sc := relabS (compScope (callArg (retOf ((defBody sSoh).getD 4 (.Pass ⟨0, 0, 0, 0⟩))))) (defScope sSoh)) (by decide +kernel)) (fun _ _ _ _ _ => pg_name (i := 5) scSoh.nd rfl (Or.inl rfl)) (fun _ _ _ _ _ => pts_nil)
            (fun _ _ _ _ _ => pe_call GD hr1 rfl DD.m DD.kp DD.b .nil pass0 (pa_cons (pv 5) (pa_cons (pv 2) pa_nil)))) pa_nil))) pa_nil))))))), ?_⟩
  have okA := allA_ok ok
  have nk1 := names_unk okA
  have nlen := names_len (as := allA cs)
  obtain ⟨ts, hpl, hpr⟩ := hsol
  have two0 := pairs_two hpr
  have hpT : SqT K H p (ts.map V.ref) := hpl.sq
  refine ⟨_, rfl, _, _, "tuple", true, rfl, sqT_tyx hpT, by decide +kernel, _, rfl, ?_⟩
  refine iteF ?_
  obtain ⟨J, Gs, W⟩ := sq_walk (K := K) (H := H) (a := p) (xs := ts.map V.ref) (.inr hpT)
  refine ⟨_, rfl, p, _, J, rfl, W.sq (fun _ _ e => e), W.arm (fun _ _ e => e), fun hz1 D1 hD1 => ?_⟩
  refine lc_gen (names (allA cs)) (fun a y _ => y = V.bl true) (fun _ => true) W.walk (fun _ s => W.g s) two0.length.symm (by rw [← two0.length]; exact hz1) hD1 (fun _ _ _ _ _ e => e) (fun i k x H' hk hx sm kk cn yes no => ?_) (fun ys H1 s1 hy two1 => ?_)
  · obtain ⟨k', hk', t, b, rfl, ht, hb, hd⟩ := two0.get hx
    rw [hk] at hk'
    obtain rfl : k = k' := Option.some.inj hk'
    exact ⟨rfl, _, rfl, t, b, _, k, rfl, (Tk.same sm).sqT ht, Nk.same hb sm, hd, fun H4 s4 => yes rfl _ H4 s4 rfl⟩
  rw [filter_true] at two1
  have e1 : ((names (allA cs)).map fun _ => true).all id = true := by rw [List.all_map]; exact List.all_eq_true.mpr fun _ _ => rfl
  refine ⟨D1, _, rfl, .inl (.inl (by rw [← two_bl two1]; exact hy)), _, rfl, ?_⟩
  rw [e1]
  refine iteF ?_
  -- the names
  obtain ⟨J2, Gs2, W2⟩ := sq_walk (K := K) (H := H1) (a := p) (xs := ts.map V.ref) (.inr ((Tk.same s1).sqT hpT))
  refine ⟨_, rfl, p, _, J2, rfl, W2.sq (fun _ _ e => e), W2.arm (fun _ _ e => e), fun hz2 D2 hD2 => ?_⟩
  refine lc_gen (names (allA cs)) (fun k y H' => Nk K H' k y) (fun _ => true) W2.walk (fun _ s => W2.g s) two0.length.symm (by rw [← two0.length]; exact hz2) hD2 (fun _ _ _ _ t h => Nk.tk t _ _ h) (fun i k x H' hk hx sm kk cn yes no => ?_) (fun ys2 H2 s2 hy2 two2 => ?_)
  · obtain ⟨k', hk', t, b, rfl, ht, hb, hd⟩ := two0.get hx
    rw [hk] at hk'
    obtain rfl : k = k' := Option.some.inj hk'
    exact ⟨rfl, _, rfl, t, _, 0, .ref b, rfl, rfl, (Tk.same (s1.trans sm)).sqT ht, atI_nat (j := 0) rfl, yes rfl _ _ (fun _ _ e => e) (Nk.same hb (s1.trans sm))⟩
  rw [filter_true] at two2
  have nk2 : NkAll K H2 (names (allA cs)) ys2 := by
    have := two_nk (fun k : NestedKey => k) two2
    rwa [List.map_id'] at this
  refine ⟨_, rfl, c, cs, rfl, hS.same (s1.trans s2), hlen, fun pa H3 s3 hpa hLa => ?_⟩
  refine ⟨pa, allA cs, rfl, hLa.sx, okA, hlen, fun pu H4 s4 hpu hLu => ?_⟩
  obtain ⟨us, hus, nus⟩ := hLu
  have dn : NestedKey.depthAll (names (allA cs)) ≤ 60 := depthAll_le fun k hk => by have := (Unk.depth (.inr (nk1 k hk))); omega
  refine ⟨D2, pu, ys2, us, _, _, rfl, rfl, .inl (.inl (s4 _ _ (s3 _ _ hy2))), NkAll.same nk2 (s3.trans s4), .inl (.inl hus), nus, dn, dn, _, rfl, ?_⟩
  refine ite2 (fun e => absurd e (by simp)) (fun _ => ?_)
  -- values
  have s04 : Same H H4 := s1.trans (s2.trans (s3.trans s4))
  refine ⟨_, rfl, p, ts, _, rfl, hpl.tk (Tk.same s04), PairsN.tk (Tk.same s04) hpr, fun d H5 hd dD at5 s5 => ?_⟩
  refine ⟨_, rfl, d, z, _, ZK, rfl, rfl, dD, hz _, by decide, ?_, fun H6 d6 at6 tk6 => ?_⟩
  · have := length_mergeN ((names (allA cs)).map fun k => (k, V.int (ff k))) []
    rw [List.length_map, List.length_nil] at this
    exact small6 (by omega)
  have s6 : Same H H6 := fun b o e => by
    have e4 := s04 _ _ e
    rw [at6 b (ne_of_none e4 hd)]
    exact s5 _ _ e4
  have hv : ValD P w K H6 d ff (sides (allA cs)) := ⟨_, d6, fun k hk => by
    rw [valV_putK]
    by_cases c : k = ZK
    · rw [if_pos c, c, hf0]
    · rw [if_neg c, valV_merge k, if_pos (mem_names.mpr ⟨c, mem_sides.mp hk⟩)]⟩
  obtain ⟨xs, hSq, hN⟩ := hS.same s6
  have two := nk_two claK hN
  obtain ⟨J3, Gs3, W3⟩ := sq_walk hSq
  refine ⟨_, rfl, c, xs, J3, rfl, W3.sq (fun _ _ e => e), W3.arm (fun _ _ e => e), fun hz3 D3 hD3 => ?_⟩
  refine lc_gen cs (fun cl y _ => y = V.bl ((cl.map fun a => satB ff a).any id)) (fun _ => true) W3.walk (fun _ s => W3.g s) two.length.symm (by rw [← two.length]; exact hz3) hD3 (fun _ _ _ _ _ e => e) (fun i cl x H' hcl hx sm kk cn yes no => ?_) (fun ys3 H7 s7 hy3 two3 => ?_)
  · obtain ⟨cl', hcl', hclx⟩ := two.get hx
    rw [hcl] at hcl'
    obtain rfl : cl = cl' := Option.some.inj hcl'
    have hclm : cl ∈ cs := List.mem_of_getElem? hcl
    obtain ⟨t, as, rfl, ht, hNa⟩ := Nk.ref (Nk.same hclx sm)
    have twoa := nk_two altK hNa
    obtain ⟨J4, Gs4, W4⟩ := sq_walk (K := K) (H := H') (a := t) (xs := as) (.inr ht)
    refine ⟨rfl, _, rfl, t, as, J4, rfl, W4.sq (fun _ _ e => e), W4.arm (fun _ _ e => e), fun hz4 D4 hD4 => ?_⟩
    refine lc_gen cl (fun a y _ => y = V.bl (satB ff a)) (fun _ => true) W4.walk (fun _ s => W4.g s) twoa.length.symm (by rw [← twoa.length]; exact hz4) hD4 (fun _ _ _ _ _ e => e) (fun j a x2 H8 ha hx2 sm8 kk2 cn2 yes2 no2 => ?_) (fun ys4 H9 s9 hy4 two4 => ?_)
    · obtain ⟨a', ha', hax⟩ := twoa.get hx2
      rw [ha] at ha'
      obtain rfl : a = a' := Option.some.inj ha'
      have ham : a ∈ cl := List.mem_of_getElem? ha
      refine ⟨rfl, _, rfl, _, rfl, x2, d, a, ff, rfl, Nk.same hax sm8, ((ok cl hclm).2 a ham).2, (hv.same (sm.trans sm8)).mono fun k hk => ?_, fun H10 s10 => yes2 rfl _ H10 s10 rfl⟩
      obtain ⟨b, hb, e⟩ := mem_sides.mp hk
      exact mem_sides.mpr ⟨b, mem_allA.mpr ⟨cl, hclm, a, ham, hb⟩, e⟩
    · rw [filter_true] at two4
      exact ⟨D4, _, rfl, .inl (.inl (by rw [← two_bl two4]; exact hy4)), yes rfl _ H9 s9 rfl⟩
  · rw [filter_true] at two3
    refine ⟨D3, _, rfl, .inl (.inl (by rw [← two_bl two3]; exact hy3)), ?_⟩
    rw [met_any.mpr hmet]
    exact q H7 (s6.trans s7)
end
end OW
end
section
set_option linter.all false
set_option maxRecDepth 100000
set_option maxHeartbeats 4000000
set_option autoImplicit false
/- P8: ring_holds. -/
namespace OW
open PySem L2
section
variable {X : Cx} {K : PySem.W.Frag}
theorem op_inNC (hK : X.K = K) (hu : X.A.units + 64 < cLine) : OpR X (compareOp .In) (rInN K false) := by subst hK; exact op_inN hu
theorem op_notInNC (hK : X.K = K) (hu : X.A.units + 64 < cLine) : OpR X (compareOp .NotIn) (rInN K true) := by subst hK; exact op_notInN hu
end
theorem cut_drop1 (xs : List V) (h : 1 ≤ xs.length) : cutV xs (some 1) none = xs.drop 1 := by
  unfold cutV
  rw [show HT.sIx xs.length 0 (some 1) = min 1 xs.length from HT.sIx_nat xs.length 0 1, HT.sIx_none, show min 1 xs.length = 1 by omega]
  exact List.take_of_length_le (by rw [List.length_drop]; omega)
theorem cut_take1 (xs : List V) (h : 1 ≤ xs.length) : cutV xs none (some 1) = xs.take 1 := by
  unfold cutV
  rw [show HT.sIx xs.length xs.length (some 1) = min 1 xs.length from HT.sIx_nat xs.length xs.length 1, HT.sIx_none, show min 1 xs.length = 1 by omega]
  rfl
theorem sumK_sum : ∀ r : List Ato, (r.map (·.k)).sum = sumK r
  | [] => rfl
  | a :: r => by rw [List.map_cons, List.sum_cons, sumK_sum r]; rfl
section
variable {P : Program} {w : World} {K : PySem.W.Frag} {mg : Str → Option Value} {base : Heap}
abbrev sRho : Stmt := top 13
theorem scRho : FnScope ["atoms", "thing", "atom"] ["atoms", "thing"] (defScope sRho) := ⟨rfl, rfl, rfl, by decide +kernel, rfl, by decide +kernel, by decide +kernel⟩
def spRho (K : PySem.W.Frag) : Sp := fun vs H Q _ => ∃ a p as r, vs = [.ref a, .ref p] ∧ Sx K H (as.map Ato.key) a ∧ (∀ b ∈ as, AtoOk b) ∧ as.length ≤ 1000 ∧ Nk K H (.tup (r.map Ato.key)) (.ref p) ∧ RingOk as r ∧ ∀ H', Same H H' → Q (.bl true) H'
theorem ok_rho {f fh : Addr} {fd dh : FuncData} (B : Bl K mg) (D : Df K mg "ring_holds" sRho ["atoms", "thing"] f fd) (DH : Df K mg "has_bools" sHas ["value"] fh dh) (GH : FnOk P w K mg base CX0 60 fh dh ["value"] (spHas K 60)) : FnOk P w K mg base CX0 61 f fd ["atoms", "thing"] (spRho K) := by
  refine D.fn.ok scRho (fun vs H Q E h => ?_) (fun cdv A outer s H vs Q E hr h => ?_)
  · obtain ⟨a, p, as, r, rfl, _⟩ := h
    rfl
  obtain ⟨a, p, as, r, rfl, hS, ok, hlen, hp, R, q⟩ := h
  obtain ⟨tl, ml⟩ := B.lring
  refine ⟨_, pss_cons (ps_if (PW.pt (pw_or (pt_not (pt_val (pe_callB cr_isi (by rfl) B.isi PyProof.Rows.boot_isinstance (pa_cons (pv 1) (pa_cons (pe_ty (by rfl) B.tup PyProof.Rows.boot_tuple) pa_nil)))))
      (pw_or (pt_cmpR op_lt (pe_callB call_len_seq (by rfl) B.len PySem.boot_len (pa_cons (pv 1) pa_nil)) (pe_glob (v := .int 2) (by rfl) ml ⟨_, rfl⟩) (nomark _))
      (pw_or1 (pt_val (pe_call GH hr rfl DH.m DH.kp DH.b .nil pass0 (pa_cons (pv 1) pa_nil))))))) (pss_one (ps_ret pe_bl)) pss_nil)
    (pss_cons (ps_if (PW.pt (pw_or (pt_not (pt_val (pe_callB (cr_all rfl) (by rfl) B.all PyProof.Rows.boot_all (pa_cons
        (pe_lc (own := [("atom", 2)]) (g := gName 2) rfl scRho.nd (pi_sq (pv 1)) (blkOk_by (N := ["atoms", "thing", "atom"]) (sc := defScope sRho) (by decide +kernel)) (fun _ _ _ _ _ => pg_name (i := 2) scRho.nd rfl (Or.inl rfl)) (fun _ _ _ _ _ => pts_nil)
          (fun _ _ _ _ _ => pe_cmpR (op_inNC (K := K) rfl (by exact hr.units)) (pv 2) (pv 0) (by rfl))) pa_nil))))
      (pw_or1 (pt_cmpR op_lt (pe_callB cr_setLen (by rfl) B.len PySem.boot_len (pa_cons (pe_callTy (cr_setN rfl hr.units) (by rfl) B.set PyProof.Rows.boot_set (pa_cons (pv 1) pa_nil)) pa_nil)) (pe_callB call_len_seq (by rfl) B.len PySem.boot_len (pa_cons (pv 1) pa_nil)) (nomark _))))) (pss_one (ps_ret pe_bl)) pss_nil)
    (pss_cons (ps_if (pt_cmpR (op_neNL hr.units)
        (pe_lc (own := [("atom", 2)]) (g := gName 2) rfl scRho.nd (pi_sq (pv 1)) (blkOk_by (N := ["atoms", "thing", "atom"]) (sc := defScope sRho) (by decide +kernel)) (fun _ _ _ _ _ => pg_name (i := 2) scRho.nd rfl (Or.inl rfl)) (fun _ _ _ _ _ => pts_nil)
          (fun _ _ _ _ _ => pe_ix (ix_tupC (K := K) rfl) (pv 2) pe_int (fun _ _ => rfl)))
        (pe_lc (own := [("atom", 2)]) (g := gName 2) rfl scRho.nd (pi_sq (pe_op op_catA (pe_slice sl_tupA (pv 1) (po_some pe_int) po_none) (pe_slice sl_tupA (pv 1) po_none (po_some pe_int)))) (blkOk_by (N := ["atoms", "thing", "atom"]) (sc := defScope sRho) (by decide +kernel)) (fun _ _ _ _ _ => pg_name (i := 2) scRho.nd rfl (Or.inl rfl)) (fun _ _ _ _ _ => pts_nil)
          (fun _ _ _ _ _ => pe_ix (ix_tupC (K := K) rfl) (pv 2) pe_int (fun _ _ => rfl))) (nomark _)) (pss_one (ps_ret pe_bl)) pss_nil)
    (pss_one (ps_ret (pe_cmpR op_lt (pe_callB (cr_sum rfl) (by rfl) B.sum PyProof.Rows.boot_sum (pa_cons
        (pe_lc (own := [("atom", 2)]) (g := gName 2) rfl scRho.nd (pi_sq (pv 1)) (blkOk_by (N := ["atoms", "thing", "atom"]) (sc := defScope sRho) (by decide +kernel)) (fun _ _ _ _ _ => pg_name (i := 2) scRho.nd rfl (Or.inl rfl)) (fun _ _ _ _ _ => pts_nil)
          (fun _ _ _ _ _ => pe_ix (ix_tupC (K := K) rfl) (pv 2) pe_int (fun _ _ => rfl))) pa_nil)) pe_int (nomark _)))))), ?_⟩
  obtain ⟨p', xs, e0, hT, hN⟩ := Nk.ref hp
  cases e0
  have okr : ∀ b ∈ r, AtoOk b := fun b hb => ok b (R.sub b hb)
  have two := nk_two Ato.key hN
  have hl : xs.length = r.length := two.length
  have h2 := R.two
  have hrl : r.length ≤ 1000 := Nat.le_trans (nodup_sub r as R.nd R.sub) hlen
  have hsl : r.length ≤ sizeLine := Nat.le_of_lt (small6 (by omega))
  have dr : (NestedKey.tup (r.map Ato.key)).depth ≤ 4 := depth_map fun b hb => (okr b hb).depth
  have hge : ¬ ((xs.length : Int) < 2) := by omega
  refine ⟨_, rfl, _, _, "tuple", true, rfl, sqT_tyx hT, by decide +kernel, _, rfl, iteF ?_⟩
  refine ⟨_, rfl, p, xs, rfl, .inr hT, _, _, rfl, rfl, _, rfl, ?_⟩
  rw [decide_eq_false hge]
  refine iteF ⟨_, rfl, _, _, rfl, hp, by omega, fun H1 s1 => ⟨_, rfl, iteF ?_⟩⟩
  -- all atoms are there
  have hT1 := (Tk.same s1).sqT hT
  obtain ⟨J, Gs, W⟩ := sq_walk (K := K) (H := H1) (a := p) (xs := xs) (.inr hT1)
  refine ⟨_, rfl, p, xs, J, rfl, W.sq (fun _ _ e => e), W.arm (fun _ _ e => e), fun hz1 D1 hD1 => ?_⟩
  refine lc_gen r (fun b y _ => y = V.bl true) (fun _ => true) W.walk (fun _ s => W.g s) hl.symm hsl hD1 (fun _ _ _ _ _ e => e) (fun i b x H' hb hx sm kk cn yes no => ?_) (fun ys H2 s2 hy two2 => ?_)
  · obtain ⟨b', hb', hbx⟩ := two.get hx
    rw [hb] at hb'
    obtain rfl : b = b' := Option.some.inj hb'
    have hbm : b ∈ r := List.mem_of_getElem? hb
    obtain ⟨zs, hSq, hNz⟩ := hS.same (s1.trans sm)
    refine ⟨rfl, _, rfl, _, rfl, b.key, _, a, zs, Nk.same hbx (s1.trans sm), rfl, hSq, hNz, by have := (okr b hbm).depth; omega, ?_⟩
    have e : decide (b.key ∈ as.map Ato.key) = true := decide_eq_true (mem_key.mpr (R.sub b hbm))
    show kk (V.bl (decide (b.key ∈ as.map Ato.key))) H'
    rw [e]
    exact yes rfl _ _ (fun _ _ e => e) rfl
  rw [filter_true] at two2
  have e1 : (r.map fun _ => true).all id = true := by rw [List.all_map]; exact List.all_eq_true.mpr fun _ _ => rfl
  refine ⟨D1, _, rfl, .inl (.inl (by rw [← two_bl two2]; exact hy)), _, rfl, ?_⟩
  rw [e1]
  refine iteF ?_
  -- each once
  have s12 := s1.trans s2
  refine ⟨_, rfl, p, r.map Ato.key, xs, rfl, .inr ((Tk.same s12).sqT hT), NkAll.same hN s12, fun k hk => ?_, by rw [List.length_map]; exact hrl, fun t H3 S ht hSt ndS mem at3 s3 => ?_⟩
  · obtain ⟨b, hb, rfl⟩ := List.mem_map.mp hk
    exact ⟨rfl, by have := (okr b hb).depth; omega⟩
  have s13 := s12.trans s3
  have hSl : S.length = r.length := by
    have ndr : (r.map Ato.key).Nodup := by
      refine List.pairwise_map.mpr (List.Pairwise.imp (fun {b c} hne e => hne (Ato.inj e)) R.nd)
    have h1 := nodup_sub S (r.map Ato.key) ndS fun k hk => (mem k).mp hk
    have h3 := nodup_sub (r.map Ato.key) S ndr fun k hk => (mem k).mpr hk
    rw [List.length_map] at h1 h3
    omega
  refine ⟨t, S, rfl, hSt, _, rfl, p, xs, rfl, .inr ((Tk.same s13).sqT hT), _, _, rfl, rfl, _, rfl, ?_⟩
  rw [decide_eq_false (by omega)]
  refine iteF ?_
  -- each leads to the next
  have hT3 := (Tk.same s13).sqT hT
  have two3 := nk_two Ato.key (NkAll.same hN s13)
  obtain ⟨J3, Gs3, W3⟩ := sq_walk (K := K) (H := H3) (a := p) (xs := xs) (.inr hT3)
  refine ⟨_, rfl, p, xs, J3, rfl, W3.sq (fun _ _ e => e), W3.arm (fun _ _ e => e), fun _ D3 hD3 => ?_⟩
  refine lc_gen r (fun b y H' => Nk K H' b.v y) (fun _ => true) W3.walk (fun _ s => W3.g s) hl.symm hsl hD3 (fun _ _ _ _ t h => Nk.tk t _ _ h) (fun i b x H' hb hx sm kk cn yes no => ?_) (fun ysv H4 s4 hyv two4 => ?_)
  · obtain ⟨b', hb', hbx⟩ := two3.get hx
    rw [hb] at hb'
    obtain rfl : b = b' := Option.some.inj hb'
    obtain ⟨rb, bu, bv, rfl, htb, hu, hv⟩ := ato_parts (Nk.same hbx sm) (okr b (List.mem_of_getElem? hb))
    exact ⟨rfl, _, rfl, rb, _, 1, .ref bv, rfl, rfl, htb, atI_nat (j := 1) rfl, yes rfl _ _ (fun _ _ e => e) hv⟩
  rw [filter_true] at two4
  have s14 := s13.trans s4
  have hT4 := (Tk.same s14).sqT hT
  refine ⟨_, rfl, 1, rfl, p, xs, rfl, hT4, fun ⟨e, _⟩ => absurd e ?_, fun _ p1 hp1 => ?_⟩
  · rw [show HT.sIx xs.length 0 (some 1) = min 1 xs.length from HT.sIx_nat xs.length 0 1]; omega
  rw [cut_drop1 xs (by omega)]
  have s5 := same_upd (o := .tup (xs.drop 1)) hp1
  refine ⟨_, rfl, 1, rfl, p, xs, rfl, (Tk.same s5).sqT hT4, fun ⟨_, e⟩ => absurd e ?_, fun _ p2 hp2 => ?_⟩
  · rw [show HT.sIx xs.length xs.length (some 1) = min 1 xs.length from HT.sIx_nat xs.length xs.length 1]; omega
  rw [cut_take1 xs (by omega)]
  have s6 := same_upd (o := .tup (xs.take 1)) hp2
  refine ⟨p1, p2, xs.drop 1, xs.take 1, rfl, rfl, (Tk.same s6).sqT (.inl (.inl upd_same)), .inl (.inl upd_same), ?_, fun e => absurd (congrArg List.length e) ?_, fun _ e => absurd (congrArg List.length e) ?_, fun _ _ p3 hp3 => ?_⟩
  · rw [List.length_drop, List.length_take]
    exact Nat.le_of_lt (small6 (by omega))
  · rw [List.length_drop, List.length_nil]; omega
  · rw [List.length_take, List.length_nil]; omega
  have s7 := same_upd (o := .tup (xs.drop 1 ++ xs.take 1)) hp3
  have s17 := s14.trans (s5.trans (s6.trans s7))
  have hN7 : NkAll K (upd (upd (upd H4 p1 (.tup (xs.drop 1))) p2 (.tup (xs.take 1))) p3 (.tup (xs.drop 1 ++ xs.take 1))) ((r.drop 1 ++ r.take 1).map Ato.key) (xs.drop 1 ++ xs.take 1) := by
    rw [List.map_append, List.map_drop, List.map_take]
    exact ((NkAll.same hN s17).drop 1).app ((NkAll.same hN s17).take 1)
  have two7 := nk_two Ato.key hN7
  have okr2 : ∀ b ∈ r.drop 1 ++ r.take 1, AtoOk b := fun b hb => okr b ((List.mem_append.mp hb).elim List.mem_of_mem_drop List.mem_of_mem_take)
  obtain ⟨J7, Gs7, W7⟩ := sq_walk (K := K) (H := (upd (upd (upd H4 p1 (.tup (xs.drop 1))) p2 (.tup (xs.take 1))) p3 (.tup (xs.drop 1 ++ xs.take 1)))) (a := p3) (xs := xs.drop 1 ++ xs.take 1) (.inr (.inl (.inl upd_same)))
  refine ⟨p3, _, J7, rfl, W7.sq (fun _ _ e => e), W7.arm (fun _ _ e => e), fun hz7 D7 hD7 => ?_⟩
  refine lc_gen (r.drop 1 ++ r.take 1) (fun b y H' => Nk K H' b.u y) (fun _ => true) W7.walk (fun _ s => W7.g s) two7.length.symm (by rw [← two7.length]; exact hz7) hD7 (fun _ _ _ _ t h => Nk.tk t _ _ h) (fun i b x H' hb hx sm kk cn yes no => ?_) (fun ysu H8 s8 hyu two8 => ?_)
  · obtain ⟨b', hb', hbx⟩ := two7.get hx
    rw [hb] at hb'
    obtain rfl : b = b' := Option.some.inj hb'
    obtain ⟨rb, bu, bv, rfl, htb, hu, hv⟩ := ato_parts (Nk.same hbx sm) (okr2 b (List.mem_of_getElem? hb))
    exact ⟨rfl, _, rfl, rb, _, 0, .ref bu, rfl, rfl, htb, atI_nat (j := 0) rfl, yes rfl _ _ (fun _ _ e => e) hu⟩
  rw [filter_true] at two8
  have s48 := s5.trans (s6.trans (s7.trans s8))
  have nv : NkAll K H8 (r.map (·.v)) ysv := NkAll.same (two_nk (fun b : Ato => b.v) two4) s48
  have nu : NkAll K H8 ((r.drop 1 ++ r.take 1).map (·.u)) ysu := two_nk (fun b : Ato => b.u) two8
  refine ⟨D3, D7, ysv, ysu, _, _, rfl, rfl, .inl (.inl (s48 _ _ hyv)), nv, .inl (.inl hyu), nu, ?_, ?_, _, rfl, ?_⟩
  · refine depthAll_le fun k hk => ?_
    obtain ⟨b, hb, rfl⟩ := List.mem_map.mp hk
    have := (okr b hb).v.depth
    show b.v.depth ≤ 60
    omega
  · refine depthAll_le fun k hk => ?_
    obtain ⟨b, hb, rfl⟩ := List.mem_map.mp hk
    have := (okr2 b hb).u.depth
    show b.u.depth ≤ 60
    omega
  refine ite2 (fun e => absurd e (by simp [R.round])) (fun _ => ?_)
  -- below zero
  have s18 := s17.trans s8
  have two9 := nk_two Ato.key (NkAll.same hN s18)
  obtain ⟨J9, Gs9, W9⟩ := sq_walk (K := K) (H := H8) (a := p) (xs := xs) (.inr ((Tk.same s18).sqT hT))
  refine ⟨_, rfl, p, xs, J9, rfl, W9.sq (fun _ _ e => e), W9.arm (fun _ _ e => e), fun _ D9 hD9 => ?_⟩
  refine lc_gen r (fun b y H' => y = V.int b.k) (fun _ => true) W9.walk (fun _ s => W9.g s) hl.symm hsl hD9 (fun _ _ _ _ t h => h) (fun i b x H' hb hx sm kk cn yes no => ?_) (fun ysk H10 s10 hyk two10 => ?_)
  · obtain ⟨b', hb', hbx⟩ := two9.get hx
    rw [hb] at hb'
    obtain rfl : b = b' := Option.some.inj hb'
    obtain ⟨rb, bu, bv, rfl, htb, hu, hv⟩ := ato_parts (Nk.same hbx sm) (okr b (List.mem_of_getElem? hb))
    exact ⟨rfl, _, rfl, rb, _, 2, .int b.k, rfl, rfl, htb, atI_nat (j := 2) rfl, yes rfl _ _ (fun _ _ e => e) rfl⟩
  rw [filter_true] at two10
  refine ⟨D9, r.map (·.k), rfl, .inl (.inl (by rw [← two_int two10]; exact hyk)), _, _, rfl, rfl, ?_⟩
  have neg := R.neg
  rw [sumK_sum]
  show Q (V.bl (decide (sumK r < 0))) H10
  rw [decide_eq_true neg]
  exact q H10 (s18.trans s10)
end
end OW
end
section
set_option linter.all false
set_option maxRecDepth 100000
set_option maxHeartbeats 4000000
set_option autoImplicit false
/- P9: sure_atoms, values_for, broken_clause. -/
namespace OW
open PySem L2
def sureA (cs : List Cla) : List Ato := allA (cs.filter fun c => decide (c.length = 1))
theorem merge_keys : ∀ (l : List Ato) (kvs : List (NestedKey × V)) (S : List Ato), kvs.map (·.1) = S.map Ato.key → ∃ S' : List Ato, (mergeN kvs (l.map fun a => (a.key, V.bl true))).map (·.1) = S'.map Ato.key ∧ (S.Nodup → S'.Nodup) ∧ ∀ b, b ∈ S' ↔ b ∈ S ∨ b ∈ l
  | [], kvs, S, h => ⟨S, h, id, fun b => by simp⟩
  | a :: l, kvs, S, h => by
    show ∃ S' : List Ato, (mergeN (putK kvs a.key (V.bl true)) (l.map fun a => (a.key, V.bl true))).map (·.1) = S'.map Ato.key ∧ _
    by_cases c : a ∈ S
    · have h1 : (putK kvs a.key (V.bl true)).map (·.1) = S.map Ato.key := by rw [keys_putK, if_pos (by rw [h]; exact mem_key.mpr c), h]
      obtain ⟨S', e1, e2, e3⟩ := merge_keys l _ S h1
      refine ⟨S', e1, e2, fun b => (e3 b).trans ⟨fun z => z.elim .inl fun z => .inr (List.mem_cons_of_mem _ z), fun z => z.elim .inl fun z => (List.mem_cons.mp z).elim (fun e => .inl (by rw [e]; exact c)) .inr⟩⟩
    · have h1 : (putK kvs a.key (V.bl true)).map (·.1) = (S ++ [a]).map Ato.key := by rw [keys_putK, if_neg (by rw [h]; exact fun z => c (mem_key.mp z)), h, List.map_append] <;> rfl
      obtain ⟨S', e1, e2, e3⟩ := merge_keys l _ (S ++ [a]) h1
      refine ⟨S', e1, fun nd => e2 (List.nodup_append.mpr ⟨nd, by simp, fun x hx y hy e => c (by
        have e4 : y = a := by simpa using hy
        rw [← e4, ← e]; exact hx)⟩), fun b => (e3 b).trans ?_⟩
      rw [List.mem_append, List.mem_singleton, List.mem_cons, or_assoc]
section
variable {P : Program} {w : World} {K : PySem.W.Frag} {mg : Str → Option Value} {base : Heap}
/-- the pairs (atom, True) -/
theorem two_marks {H : Hp} : ∀ {l : List Ato} {ys : List V}, (∀ b ∈ l, AtoOk b) → Two (fun (a : Ato) y => ∃ t b, y = V.ref t ∧ SqT K H t [.ref b, .bl true] ∧ Nk K H a.key (.ref b)) l ys → ∃ ts : List Addr, ys = ts.map V.ref ∧ PairsN K H ts (l.map fun a => (a.key, V.bl true))
  | _, _, _, .nil => ⟨[], rfl, .nil⟩
  | a :: l, _, ok, .cons r t => by
    obtain ⟨ts, e, p⟩ := two_marks (fun j hj => ok j (List.mem_cons_of_mem _ hj)) t
    obtain ⟨t0, b, e0, h1, h2⟩ := r
    exact ⟨t0 :: ts, by rw [List.map_cons, ← e, e0], .cons ⟨b, h1, h2, by have := (ok a List.mem_cons_self).depth; show a.key.depth ≤ 8; omega⟩ p⟩
abbrev sSur : Stmt := top 21
theorem scSur : FnScope ["clauses", "found", "clause", "atom"] ["clauses"] (defScope sSur) := ⟨rfl, rfl, rfl, by decide +kernel, rfl, by decide +kernel, by decide +kernel⟩
def spSur (K : PySem.W.Frag) : Sp := fun vs H Q _ => ∃ c cs, vs = [.ref c] ∧ Sx K H (cs.map claK) c ∧ (∀ cl ∈ cs, ClaOk cl) ∧ (allA cs).length ≤ 1000000 ∧
  ∀ p H' (S : List Ato), Same H H' → H p = none → Lx K H' (S.map Ato.key) p → S.Nodup → (∀ b, b ∈ S ↔ b ∈ sureA cs) → Q (.ref p) H'
theorem allA_take (cs : List Cla) (i : Nat) : (allA (cs.take i)).length ≤ (allA cs).length := by
  have e : cs = cs.take i ++ cs.drop i := (List.take_append_drop i cs).symm
  unfold allA
  conv => rhs; rw [e]
  rw [List.flatten_append, List.flatten_append, List.length_append]
  omega
theorem allA_app (cs ds : List Cla) : allA (cs ++ ds) = allA cs ++ allA ds := by unfold allA; rw [List.flatten_append, List.flatten_append]
theorem ok_sur {f : Addr} {fd : FuncData} (B : Bl K mg) (D : Df K mg "sure_atoms" sSur ["clauses"] f fd) : FnOk P w K mg base CX0 1 f fd ["clauses"] (spSur K) := by
  refine D.fn.ok scSur (fun vs H Q E h => ?_) (fun cdv A outer s H vs Q E hr h => ?_)
  · obtain ⟨c, cs, rfl, _⟩ := h
    rfl
  obtain ⟨c, cs, rfl, ⟨xs, hS, hN⟩, ok, hlen, q⟩ := h
  refine ⟨_, pss_cons (ps_set (i := 1) scSur.nd rfl (.inl rfl) pe_ndnew)
    (pss_cons (ps_for PassesOwn.never rfl (pi_sq (pv 0)) (pg_name (i := 2) scSur.nd rfl (.inl rfl))
      (pss_one (ps_if (pt_cmpR op_eq (pe_callB call_len_seq (by rfl) B.len PySem.boot_len (pa_cons (pv 2) pa_nil)) pe_int (nomark _))
        (pss_one (ps_expr (pe_mG tyN_ok PySem.F.plainAttrs_dict PySem.F.slot_dict_update PySem.F.type_dict_update (mt_nupdL rfl hr.units) (pv 1) (pa_cons
          (pe_lc (own := [("atom", 3)]) (g := gName 3) rfl scSur.nd (pi_sq (pe_ix ix_tup (pv 2) pe_int (fun _ _ => rfl))) (blkOk_by (N := ["clauses", "found", "clause", "atom"]) (sc := defScope sSur) (by decide +kernel)) (fun _ _ _ _ _ => pg_name (i := 3) scSur.nd rfl (Or.inl rfl)) (fun _ _ _ _ _ => pts_nil)
            (fun _ _ _ _ _ => pe_tup (pa_cons (pv 3) (pa_cons pe_bl pa_nil)))) pa_nil)))) pss_nil)))
    (pss_one (ps_ret (pe_callTy (cr_nlistD rfl) (by rfl) B.list PyProof.Rows.boot_list (pa_cons (pv 1) pa_nil))))), ?_⟩
  refine fun d H1 hd d1 at1 s1 => ?_
  obtain ⟨J, Gs, W⟩ := sq_walk hS
  have two := nk_two claK hN
  have hl : xs.length = cs.length := two.length
  refine ⟨_, rfl, c, xs, J, rfl, W.sq s1, W.arm s1, fun _ => ?_⟩
  refine for_it W.walk (fun i σ H' => ∃ y2 y3 kvs S, σ = [some (.ref c), some (.ref d), y2, y3] ∧ Same H H' ∧ DictN P w K H' d kvs ∧ kvs.map (·.1) = S.map Ato.key ∧ S.Nodup ∧ kvs.length ≤ (allA (cs.take i)).length ∧ ∀ b, b ∈ S ↔ b ∈ sureA (cs.take i))
    ⟨none, none, [], [], rfl, s1, d1, rfl, List.nodup_nil, Nat.zero_le _, fun b => Iff.rfl⟩ (fun i σ H' _ h => by obtain ⟨_, _, _, _, _, h, _⟩ := h; exact W.g h) ?_ ?_
  · rintro i x σ H2 H2' hi ⟨y2, y3, kvs, S, rfl, sm, d2, ek, nd, hle, mem⟩ ⟨rfl, hx⟩
    obtain ⟨cl, hc, hcx⟩ := two.get hx
    have hcm : cl ∈ cs := List.mem_of_getElem? hc
    obtain ⟨t, ts, rfl, ht, hNt⟩ := Nk.ref (Nk.same hcx sm)
    have hlt : ts.length = cl.length := (nk_two altK hNt).length
    have nxt : cs.take (i + 1) = cs.take i ++ [cl] := take_next hc
    refine ⟨_, rfl, t, ts, rfl, .inr ht, rfl, _, rfl, ?_⟩
    refine ite2 (fun e => ?_) (fun e => ?_)
    · have e1 : cl.length = 1 := by
        have := of_decide_eq_true e
        injection this with this
        omega
      obtain ⟨a, rfl⟩ : ∃ a, cl = [a] := by
        match cl, e1 with
        | [a], _ => exact ⟨a, rfl⟩
      cases hNt with
      | cons ha hnil =>
        cases hnil
        obtain ⟨ta, as, rfl, hta, hNa⟩ := Nk.ref ha
        have oka := ((ok _ hcm).2 a (by simp)).2
        have twoa := nk_two Ato.key hNa
        obtain ⟨J2, G2, W2⟩ := sq_walk (K := K) (H := H2') (a := ta) (xs := as) (.inr hta)
        refine ⟨_, rfl, ⟨d, kvs, rfl, d2⟩, _, rfl, t, _, 0, .ref ta, rfl, rfl, ht, atI_nat (j := 0) rfl, ta, as, J2, rfl, W2.sq (fun _ _ e => e), W2.arm (fun _ _ e => e), fun hz2 D2 hD2 => ?_⟩
        refine lc_gen a (fun (b : Ato) y H' => ∃ t b', y = V.ref t ∧ SqT K H' t [.ref b', .bl true] ∧ Nk K H' b.key (.ref b')) (fun _ => true) W2.walk (fun _ s => W2.g s) twoa.length.symm (by rw [← twoa.length]; exact hz2) hD2
          (fun b y H6 H7 t7 h => ?_) (fun j b x H' hb hx2 sm3 kk cn yes no => ?_) (fun ys H3 s3 hy two3 => ?_)
        · obtain ⟨t, b', h1, h2, h3⟩ := h
          exact ⟨t, b', h1, t7.sqT h2, Nk.tk t7 _ _ h3⟩
        · obtain ⟨b2, hb2, hbx⟩ := twoa.get hx2
          rw [hb] at hb2
          obtain rfl : b = b2 := Option.some.inj hb2
          obtain ⟨rb, bu, bv, rfl, htb, _, _⟩ := ato_parts (Nk.same hbx sm3) (oka b (List.mem_of_getElem? hb))
          exact ⟨rfl, _, rfl, by show 2 ≤ sizeLine; decide, fun t ht => yes rfl _ _ (same_upd ht) ⟨t, rb, rfl, .inl (.inl upd_same), Nk.same (Nk.same hbx sm3) (same_upd ht)⟩⟩
        · rw [filter_true] at two3
          obtain ⟨tts, ets, hpr⟩ := two_marks oka two3
          have bnd : kvs.length + a.length ≤ (allA (cs.take (i + 1))).length := by
            rw [nxt, allA_app, List.length_append]
            have : (allA [[a]]).length = a.length := by simp [allA]
            omega
          have bnd2 := allA_take cs (i + 1)
          refine ⟨d, D2, tts, kvs, _, rfl, rfl, d2.same s3, .inl (.inl (by rw [← ets]; exact hy)), hpr, by rw [List.length_map]; exact Nat.le_of_lt (small6 (by omega)), ?_⟩
          obtain ⟨S', m1, m2, m3⟩ := merge_keys a kvs S ek
          intro H4 d4 at4 tk4
          refine ⟨_, _, _, S', rfl, fun b o e => ?_, d4, m1, m2 nd, ?_, fun b => ?_⟩
          · have e3 := s3 _ _ (sm _ _ e)
            rw [at4 b (ne_of_none e hd)]
            exact e3
          · have := length_mergeN (a.map fun a => (a.key, V.bl true)) kvs
            rw [List.length_map] at this
            omega
          · rw [m3 b, mem b, nxt]
            unfold sureA
            rw [List.filter_append, allA_app, List.mem_append]
            have : allA (List.filter (fun c => decide (c.length = 1)) [[a]]) = a := by simp [allA]
            rw [this]
    · have e1 : cl.length ≠ 1 := fun z => e (decide_eq_true (by rw [hlt, z]; rfl))
      refine ⟨_, _, kvs, S, rfl, sm, d2, ek, nd, ?_, fun b => ?_⟩
      · rw [nxt, allA_app, List.length_append]; omega
      · rw [mem b, nxt]
        unfold sureA
        rw [List.filter_append, List.filter_cons_of_neg (by simpa using e1), List.filter_nil, List.append_nil]
  · rintro σ H2 ⟨y2, y3, kvs, S, rfl, sm, d2, ek, nd, hle, mem⟩
    rw [hl, List.take_length] at mem
    refine ⟨_, rfl, d, kvs, rfl, d2, fun p H3 vs hp hvs hn at3 s3 => ?_⟩
    exact q p H3 S (sm.trans s3) (sm.free hp) ⟨vs, hvs, by rw [← ek]; exact hn⟩ nd mem
end
end OW
end
section
set_option linter.all false
set_option maxRecDepth 100000
set_option maxHeartbeats 4000000
set_option autoImplicit false
/- P10: values_for, broken_clause. -/
namespace OW
open PySem L2
/-- a dict merged into another: what it says goes ahead -/
theorem valV_merge2 (j : NestedKey) : ∀ (more kvs : List (NestedKey × V)), (more.map (·.1)).Nodup → valV (mergeN kvs more) j = match valV more j with | some v => some v | none => valV kvs j
  | [], kvs, _ => rfl
  | (n, v) :: more, kvs, nd => by
    have h := List.nodup_cons.mp (show (n :: more.map (·.1)).Nodup from nd)
    show valV (mergeN (putK kvs n v) more) j = _
    rw [valV_merge2 j more _ h.2, valV_putK]
    by_cases e : j = n
    · subst e
      have nv : valV more j = none := by
        cases q : valV more j with
        | none => rfl
        | some x => exact absurd (valV_mem q) h.1
      rw [nv, valV_pos (p := (j, v)) rfl]
      simp
    · rw [valV_neg (p := (n, v)) (fun z => e z.symm)]
      simp [e]
theorem merge_nodup : ∀ (more kvs : List (NestedKey × V)), (kvs.map (·.1)).Nodup → ((mergeN kvs more).map (·.1)).Nodup
  | [], _, h => h
  | (n, v) :: more, kvs, h => merge_nodup more (putK kvs n v) (keys_nodup h)
section
variable {P : Program} {w : World} {K : PySem.W.Frag} {mg : Str → Option Value} {base : Heap}
abbrev sVal : Stmt := top 22
theorem scVal : FnScope ["unknowns", "pairs", "values", "unknown"] ["unknowns", "pairs"] (defScope sVal) := ⟨rfl, rfl, rfl, by decide +kernel, rfl, by decide +kernel, by decide +kernel⟩
def spVal (P : Program) (w : World) (K : PySem.W.Frag) : Sp := fun vs H Q _ => ∃ u p ns ms f, vs = [.ref u, .ref p] ∧ Lx K H ns u ∧ (∀ k ∈ ns, Unk1 k) ∧ ns.Nodup ∧ ns.length ≤ 1000000 ∧ SolT K H p ms f ∧ ms.length ≤ 1000000 ∧ ZK ∉ ms ∧
  ∀ d H', Same H H' → H d = none → ValD P w K H' d (fun k => if k ∈ ms then f k else 0) (ZK :: ns) → Q (.ref d) H'
theorem ok_val {f : Addr} {fd : FuncData} (B : Bl K mg) (D : Df K mg "values_for" sVal ["unknowns", "pairs"] f fd) : FnOk P w K mg base CX0 1 f fd ["unknowns", "pairs"] (spVal P w K) := by
  refine D.fn.ok scVal (fun vs H Q E h => ?_) (fun cdv A outer s H vs Q E hr h => ?_)
  · obtain ⟨u, p, ns, ms, f, rfl, _⟩ := h
    rfl
  obtain ⟨u, p, ns, ms, ff, rfl, ⟨us, hus, nus⟩, nk1, nd, nlen, ⟨ts, hpl, hpr⟩, mlen, zm, q⟩ := h
  obtain ⟨z, mz, hz⟩ := zero_is B
  refine ⟨_, pss_cons (ps_setDcN (i := 2) (own := [("unknown", 3)]) (g := gName 3) hr.units rfl scVal.nd rfl rfl (sw_trueD rfl rfl rfl (by decide +kernel)) (pi_list (pe_lst (pa_cons (pe_glob (v := .ref z) (by rfl) mz rfl) (StX.pa_star (pv 0) pa_nil)))) (blkOk_by (N := ["unknowns", "pairs", "values", "unknown"]) (sc := defScope sVal) (by decide +kernel))
        (fun _ _ _ _ _ => pg_name (i := 3) scVal.nd rfl (Or.inl rfl)) (fun _ _ _ _ _ => pts_nil) (fun _ _ _ _ _ => pv 3) (fun _ _ _ _ _ => pe_int))
    (pss_cons (ps_expr (pe_mG tyN_ok PySem.F.plainAttrs_dict PySem.F.slot_dict_update PySem.F.type_dict_update (mt_nupdD hr.units) (pv 2) (pa_cons (pe_callTy (cr_ndictT rfl hr.units) (by rfl) B.dict PyProof.Rows.boot_dict (pa_cons (pv 1) pa_nil)) pa_nil)))
    (pss_one (ps_ret (pv 2)))), ?_⟩
  have usl := nus.length
  refine ⟨_, rfl, u, us, rfl, .inr (.inl (.inl hus)), ?_, fun l hl => ⟨l, rfl, ⟨_, .inl (.inl upd_same)⟩, fun dl hdl => ?_⟩⟩
  · rw [List.length_cons, List.length_append, List.length_nil]
    exact Nat.le_of_lt (small6 (by omega))
  have sl := same_upd (o := .lst (V.ref z :: (us ++ []))) hl
  have nz : ZK ∉ ns := fun h => by
    obtain ⟨r, n, c, e⟩ := nk1 _ h
    cases e
  have nsnd : (ZK :: ns).Nodup := List.nodup_cons.mpr ⟨nz, nd⟩
  refine dc_zeros (P := P) (w := w) (ks := ZK :: ns) (.inl (.inl upd_same)) (.cons (hz _) (NkAll.same (by rw [List.append_nil]; exact nus) sl)) nsnd (fun k hk => unk_tp ((List.mem_cons.mp hk).elim (fun e => .inl e) fun e => .inr (nk1 k e))) (by rw [List.length_cons]; omega) hdl (fun _ => rfl) (fun _ => rfl) ⟨[], upd_same, rfl, fun p hp => (nomatch hp)⟩ (fun H2 kvL s2 dL eL vL => ?_)
  have s02 := sl.trans s2
  refine ⟨_, rfl, ⟨dl, kvL, rfl, dL⟩, _, rfl, p, ts, _, rfl, hpl.tk (Tk.same s02), PairsN.tk (Tk.same s02) hpr, fun d2 H3 hd2 dD at3 s3 => ?_⟩
  have hne : dl ≠ d2 := by
    obtain ⟨o, e⟩ := dL.some
    exact ne_of_none e hd2
  have lenL : kvL.length = ns.length + 1 := by rw [← List.length_map (f := (·.1)), eL, List.length_cons]
  have lenM := length_mergeN (ms.map fun k => (k, V.int (ff k))) []
  rw [List.length_map, List.length_nil] at lenM
  refine ⟨dl, d2, kvL, _, rfl, rfl, hne, dL.same s3, dD, fun e => by rw [e] at lenL; simp at lenL, Nat.le_of_lt (small6 (by omega)), fun H4 d4 at4 tk4 => ⟨_, rfl, ?_⟩⟩
  have h0 : H dl = none := by
    cases q0 : H dl with
    | none => rfl
    | some o =>
      rw [sl _ _ q0] at hdl
      cases hdl
  refine q dl H4 (fun b o e => ?_) h0 ⟨_, d4, fun k hk => ?_⟩
  · rw [at4 b (ne_of_none e h0)]
    exact s3 _ _ (s02 _ _ e)
  · rw [valV_merge2 k _ _ (merge_nodup _ [] List.nodup_nil), valV_merge (g := fun k => V.int (ff k)) k]
    by_cases c : k ∈ ms
    · rw [if_pos c]
      show some (V.int (ff k)) = some (V.int (if k ∈ ms then ff k else 0))
      rw [if_pos c]
    · rw [if_neg c]
      show valV kvL k = some (V.int (if k ∈ ms then ff k else 0))
      rw [if_neg c]
      exact vL k hk
/-! ### broken_clause -/
abbrev sBro : Stmt := top 23
theorem scBro : FnScope ["clauses", "values", "found", "clause", "alternative"] ["clauses", "values"] (defScope sBro) := ⟨rfl, rfl, rfl, by decide +kernel, rfl, by decide +kernel, by decide +kernel⟩
def spBro (P : Program) (w : World) (K : PySem.W.Frag) : Sp := fun vs H Q _ => ∃ l d cs f, vs = [.ref l, .ref d] ∧ Sx K H (cs.map claK) l ∧ (∀ cl ∈ cs, ClaOk cl) ∧ ValD P w K H d f (sides (allA cs)) ∧
  ∀ H' r, Same H H' → ((Met f cs ∧ r = .non) ∨ ∃ c ∈ cs, ∃ t, r = .ref t ∧ Nk K H' (claK c) (.ref t)) → Q r H'
theorem ok_bro {f fh : Addr} {fd dh : FuncData} (B : Bl K mg) (D : Df K mg "broken_clause" sBro ["clauses", "values"] f fd) (DD : Df K mg "does_hold" sDoe ["alternative", "values"] fh dh) (GD : FnOk P w K mg base CX0 1 fh dh ["alternative", "values"] (spDoe P w K)) : FnOk P w K mg base CX0 2 f fd ["clauses", "values"] (spBro P w K) := by
  refine D.fn.ok scBro (fun vs H Q E h => ?_) (fun cdv A outer s H vs Q E hr h => ?_)
  · obtain ⟨l, d, cs, f, rfl, _⟩ := h
    rfl
  obtain ⟨l, d, cs, ff, rfl, ⟨xs, hS, hN⟩, ok, hv, q⟩ := h
  refine ⟨_, pss_cons (ps_set (i := 2) scBro.nd rfl (.inl rfl) pe_non)
    (pss_cons (ps_for PassesOwn.never rfl (pi_sq (pv 0)) (pg_name (i := 3) scBro.nd rfl (.inl rfl))
      (pss_one (ps_if (pt_not (pt_val (pe_callB (cr_any rfl) (by rfl) B.any PyProof.Rows.boot_any (pa_cons
          (pe_lc (own := [("alternative", 4)]) (g := gName 4) rfl scBro.nd (pi_sq (pv 3)) (blkOk_by (N := ["clauses", "values", "found", "clause", "alternative"]) (sc := defScope sBro) (by decide +kernel)) (fun _ _ _ _ _ => pg_name (i := 4) scBro.nd rfl (Or.inl rfl)) (fun _ _ _ _ _ => pts_nil)
            (fun _ _ _ _ _ => pe_call GD hr rfl DD.m DD.kp DD.b .nil pass0 (pa_cons (pv 4) (pa_cons (pv 1) pa_nil)))) pa_nil))))
        (pss_one (ps_if (PW.pt (pw_or (pt_cmpR op_isN (pv 2) pe_non (nomark _)) (pw_or1 (pt_cmpR op_lt (pe_callB call_len_seq (by rfl) B.len PySem.boot_len (pa_cons (pv 3) pa_nil)) (pe_callB call_len_seq (by rfl) B.len PySem.boot_len (pa_cons (pv 2) pa_nil)) (nomark _)))))
          (pss_one (ps_set (i := 2) scBro.nd rfl (.inl rfl) (pv 3))) pss_nil)) pss_nil)))
    (pss_one (ps_ret (pv 2)))), ?_⟩
  obtain ⟨J, Gs, W⟩ := sq_walk hS
  have two := nk_two claK hN
  have hl : xs.length = cs.length := two.length
  refine ⟨_, rfl, l, xs, J, rfl, W.sq (fun _ _ e => e), W.arm (fun _ _ e => e), fun _ => ?_⟩
  refine for_it W.walk (fun i σ H' => ∃ r y3 y4, σ = [some (.ref l), some (.ref d), some r, y3, y4] ∧ Same H H' ∧ ((Met ff (cs.take i) ∧ r = .non) ∨ ∃ c ∈ cs, ∃ t, r = .ref t ∧ Nk K H' (claK c) (.ref t)))
    ⟨.non, none, none, rfl, fun _ _ e => e, .inl ⟨fun c h => by simp at h, rfl⟩⟩ (fun i σ H' _ h => by obtain ⟨_, _, _, _, h, _⟩ := h; exact W.g h) ?_ ?_
  · rintro i x σ H2 H2' hi ⟨r, y3, y4, rfl, sm, st⟩ ⟨rfl, hx⟩
    obtain ⟨cl, hc, hcx⟩ := two.get hx
    have hcm : cl ∈ cs := List.mem_of_getElem? hc
    have nxt : cs.take (i + 1) = cs.take i ++ [cl] := take_next hc
    obtain ⟨t, ts, rfl, ht, hNt⟩ := Nk.ref (Nk.same hcx sm)
    have twoa := nk_two altK hNt
    obtain ⟨J2, G2, W2⟩ := sq_walk (K := K) (H := H2') (a := t) (xs := ts) (.inr ht)
    refine ⟨_, rfl, t, ts, J2, rfl, W2.sq (fun _ _ e => e), W2.arm (fun _ _ e => e), fun hz2 D2 hD2 => ?_⟩
    refine lc_gen cl (fun a y _ => y = V.bl (satB ff a)) (fun _ => true) W2.walk (fun _ s => W2.g s) twoa.length.symm (by rw [← twoa.length]; exact hz2) hD2 (fun _ _ _ _ _ e => e) (fun j a x2 H3 ha hx2 sm3 kk cn yes no => ?_) (fun ys H4 s4 hy two4 => ?_)
    · obtain ⟨a', ha', hax⟩ := twoa.get hx2
      rw [ha] at ha'
      obtain rfl : a = a' := Option.some.inj ha'
      have ham : a ∈ cl := List.mem_of_getElem? ha
      refine ⟨rfl, _, rfl, _, rfl, x2, d, a, ff, rfl, Nk.same hax sm3, ((ok cl hcm).2 a ham).2, (hv.same (sm.trans sm3)).mono fun k hk => ?_, fun H5 s5 => yes rfl _ H5 s5 rfl⟩
      obtain ⟨b, hb, e⟩ := mem_sides.mp hk
      exact mem_sides.mpr ⟨b, mem_allA.mpr ⟨cl, hcm, a, ham, hb⟩, e⟩
    · rw [filter_true] at two4
      have sm4 := sm.trans s4
      refine ⟨D2, _, rfl, .inl (.inl (by rw [← two_bl two4]; exact hy)), _, rfl, ?_⟩
      cases hany : (cl.map fun a => satB ff a).any id with
      | true =>
        refine iteF ⟨r, _, _, rfl, sm4, ?_⟩
        rcases st with ⟨m, e⟩ | ⟨c, h1, t0, h2, h3⟩
        · refine .inl ⟨fun c hc' => ?_, e⟩
          rw [nxt] at hc'
          rcases List.mem_append.mp hc' with h | h
          · exact m c h
          · obtain rfl : c = cl := by simpa using h
            rw [List.any_map, List.any_eq_true] at hany
            obtain ⟨a, ha, e⟩ := hany
            exact ⟨a, ha, satB_iff.mp e⟩
        · exact .inr ⟨c, h1, t0, h2, Nk.same h3 s4⟩
      | false =>
        refine iteT ?_
        have nk4 : Nk K H4 (claK cl) (.ref t) := Nk.same (Nk.same hcx sm) s4
        have done : ∃ r' y3' y4', [some (V.ref l), some (.ref d), some (.ref t), some (.ref t), y4] = [some (V.ref l), some (.ref d), some r', y3', y4'] ∧ Same H H4 ∧ ((Met ff (cs.take (i + 1)) ∧ r' = .non) ∨ ∃ c ∈ cs, ∃ t, r' = .ref t ∧ Nk K H4 (claK c) (.ref t)) := ⟨_, _, _, rfl, sm4, .inr ⟨cl, hcm, t, rfl, nk4⟩⟩
        refine ⟨_, rfl, rfl, _, rfl, ?_⟩
        rcases st with ⟨m, rfl⟩ | ⟨c, h1, t0, rfl, h3⟩
        · refine iteT (iteT ⟨_, rfl, ?_⟩)
          exact done
        · refine iteF ?_
          obtain ⟨t0', cs0, e0, h5, _⟩ := Nk.ref (Nk.same h3 s4)
          cases e0
          refine ⟨_, rfl, t, ts, rfl, .inr ((Tk.same s4).sqT ht), _, rfl, t0, cs0, rfl, .inr h5, _, _, rfl, rfl, _, rfl, ?_⟩
          refine ite2 (fun _ => ⟨_, rfl, ?_⟩) (fun _ => ?_)
          · exact done
          · exact ⟨_, _, _, rfl, sm4, .inr ⟨c, h1, t0, rfl, Nk.same h3 s4⟩⟩
  · rintro σ H2 ⟨r, y3, y4, rfl, sm, st⟩
    rw [hl, List.take_length] at st
    exact ⟨_, rfl, q H2 r sm st⟩
end
end OW
end
section
set_option linter.all false
set_option maxRecDepth 100000
set_option maxHeartbeats 4000000
set_option autoImplicit false
/- P11: settle_rest, given split_at. -/
namespace OW
open PySem L2
section
variable {X : Cx} {K : PySem.W.Frag}
theorem op_neNC (hK : X.K = K) (hu : X.A.units + 64 < cLine) : OpR X (compareOp .NotEq) (rEqN K true) := by subst hK; exact op_neN hu
end
section
variable {P : Program} {w : World} {K : PySem.W.Frag} {mg : Str → Option Value} {base : Heap}
abbrev tSol : Str := "solution"
abbrev tTree : Str := "tree"
/-- what settle_rest and split_at answer -/
def SetR (K : PySem.W.Frag) (H0 H : Hp) (ns : List NestedKey) (held : List Ato) (left : List Cla) (t : Addr) : Prop := ∃ (wd : Str) (th : V) (na : Addr) (N : List Ato) (zs : List V), SqT K H t [.str wd, th, .ref na] ∧ H0 na = none ∧ H na = some (.lst zs) ∧ NkAll K H (N.map Ato.key) zs ∧
  ((wd = tSol ∧ (∃ p f, th = .ref p ∧ SolT K H p ns f ∧ Sat f held ∧ Met f left ∧ f ZK = 0) ∧ N = []) ∨ (wd = tTree ∧ ∃ tr, Nk K H tr th ∧ Acc N left tr ∧ N.Nodup ∧ ∀ a ∈ N, a ∈ held))
theorem SetR.back {K : PySem.W.Frag} {H0 H1 H : Hp} {ns : List NestedKey} {held : List Ato} {left : List Cla} {t : Addr} (R : SetR K H1 H ns held left t) (s : Same H0 H1) : SetR K H0 H ns held left t := by
  obtain ⟨wd, th, na, N, zs, h1, h2, r⟩ := R
  exact ⟨wd, th, na, N, zs, h1, s.free h2, r⟩
/-- what they are called with -/
structure SetC (K : PySem.W.Frag) (H : Hp) (u h l : Addr) (ns : List NestedKey) (held : List Ato) (left : List Cla) : Prop where
  hu : Lx K H ns u
  hh : Lx K H (held.map Ato.key) h
  hl : Lx K H (left.map claK) l
  nk : ∀ k ∈ ns, Unk1 k
  nd : ns.Nodup
  nl : ns.length ≤ 1000000
  ho : ∀ a ∈ held, AtoOk a
  lo : ∀ c ∈ left, ClaOk c
  hs : ∀ k ∈ sides held, k ∈ ZK :: ns
  ls : ∀ k ∈ sides (allA left), k ∈ ZK :: ns
  sz : held.length + (allA left).length ≤ 1000
def spSet (K : PySem.W.Frag) (n : Nat) : Sp := fun vs H Q _ => ∃ u h l ns held left, vs = [.ref u, .ref h, .ref l] ∧ SetC K H u h l ns held left ∧ left.length < n ∧ ∀ t H', Same H H' → SetR K H H' ns held left t → Q (.ref t) H'
def spSpl (K : PySem.W.Frag) (n : Nat) : Sp := fun vs H Q _ => ∃ u h l t ns held left c, vs = [.ref u, .ref h, .ref l, .ref t] ∧ SetC K H u h l ns held left ∧ Nk K H (claK c) (.ref t) ∧ c ∈ left ∧ left.length ≤ n ∧ ∀ t H', Same H H' → SetR K H H' ns held left t → Q (.ref t) H'
abbrev sSet : Stmt := top 24
theorem scSet : FnScope ["unknowns", "held", "left", "word", "thing", "values", "clause", "unknown"] ["unknowns", "held", "left"] (defScope sSet) := ⟨rfl, rfl, rfl, by decide +kernel, rfl, by decide +kernel, by decide +kernel⟩
theorem SetC.same {H H' : Hp} {u h l : Addr} {ns : List NestedKey} {held : List Ato} {left : List Cla} (c : SetC K H u h l ns held left) (s : Same H H') : SetC K H' u h l ns held left :=
  ⟨c.hu.same s, c.hh.same s, c.hl.same s, c.nk, c.nd, c.nl, c.ho, c.lo, c.hs, c.ls, c.sz⟩
theorem ok_set {m : Nat} {f fs fv fb fp : Addr} {fd ds dv db dp : FuncData} (B : Bl K mg) (D : Df K mg "settle_rest" sSet ["unknowns", "held", "left"] f fd) (DS : Df K mg "solve" sSol ["atoms"] fs ds) (GS : FnOk P w K mg base CX0 2 fs ds ["atoms"] (spSol K))
    (DV : Df K mg "values_for" sVal ["unknowns", "pairs"] fv dv) (GV : FnOk P w K mg base CX0 1 fv dv ["unknowns", "pairs"] (spVal P w K)) (DB : Df K mg "broken_clause" sBro ["clauses", "values"] fb db) (GB : FnOk P w K mg base CX0 2 fb db ["clauses", "values"] (spBro P w K))
    {st : Stmt} (DP : Df K mg "split_at" st ["unknowns", "held", "left", "clause"] fp dp) (GP : FnOk P w K mg base CX0 (2 * m + 3) fp dp ["unknowns", "held", "left", "clause"] (spSpl K m)) :
    FnOk P w K mg base CX0 (2 * m + 4) f fd ["unknowns", "held", "left"] (spSet K (m + 1)) := by
  refine D.fn.ok scSet (fun vs H Q E h => ?_) (fun cdv A outer s H vs Q E hr h => ?_)
  · obtain ⟨u, h, l, ns, held, left, rfl, _⟩ := h
    rfl
  obtain ⟨u, h, l, ns, held, left, rfl, C, hm, q⟩ := h
  have hr1 := hr.mono (j := 1) (by omega)
  have hr2 := hr.mono (j := 2) (by omega)
  obtain ⟨t1, m1⟩ := B.ring
  obtain ⟨t2, m2⟩ := B.tree
  obtain ⟨t3, m3⟩ := B.sol
  refine ⟨_, pss_cons (ps_asg (pe_call GS hr2 rfl DS.m DS.kp DS.b .nil pass0 (pa_cons (pv 1) pa_nil)) (pg_tup rfl (pgs_cons (pg_name (i := 3) scSet.nd rfl (.inl rfl)) (pgs_cons (pg_name (i := 4) scSet.nd rfl (.inl rfl)) pgs_nil))))
    (pss_cons (ps_if (pt_cmpR op_eq (pv 3) (pe_glob (v := .str "ring") (by rfl) m1 ⟨_, rfl⟩) (nomark _))
      (pss_one (ps_ret (pe_tup (pa_cons (pe_glob (v := .str "tree") (by rfl) m2 ⟨_, rfl⟩) (pa_cons (pe_tup (pa_cons (pe_glob (v := .str "ring") (by rfl) m1 ⟨_, rfl⟩) (pa_cons (pv 4) pa_nil))) (pa_cons (pe_callTy call_list_of (by rfl) B.list PyProof.Rows.boot_list (pa_cons (pv 4) pa_nil)) pa_nil)))))) pss_nil)
    (pss_cons (ps_set (i := 5) scSet.nd rfl (.inr rfl) (pe_call GV hr1 rfl DV.m DV.kp DV.b .nil pass0 (pa_cons (pv 0) (pa_cons (pv 4) pa_nil))))
    (pss_cons (ps_set (i := 6) scSet.nd rfl (.inl rfl) (pe_call GB hr2 rfl DB.m DB.kp DB.b .nil pass0 (pa_cons (pv 2) (pa_cons (pv 5) pa_nil))))
    (pss_cons (ps_if (pt_cmpR op_isN (pv 6) pe_non (nomark _))
      (pss_one (ps_ret (pe_tup (pa_cons (pe_glob (v := .str "solution") (by rfl) m3 ⟨_, rfl⟩) (pa_cons (pe_callTy call_tuple_pl (by rfl) B.tup PyProof.Rows.boot_tuple (pa_cons
        (pe_lc (own := [("unknown", 7)]) (g := gName 7) rfl scSet.nd (pi_sq (pv 0)) (blkOk_by (N := ["unknowns", "held", "left", "word", "thing", "values", "clause", "unknown"]) (sc := defScope sSet) (by decide +kernel)) (fun _ _ _ _ _ => pg_name (i := 7) scSet.nd rfl (Or.inl rfl)) (fun _ _ _ _ _ => pts_nil)
          (fun _ _ _ _ _ => pe_tup (pa_cons (pv 7) (pa_cons (pe_ndgetC (P := P) (w := w) (K := K) rfl rfl rfl (by exact hr1.units) (pv 5) (pv 7)) pa_nil)))) pa_nil)) (pa_cons (pe_lst pa_nil) pa_nil)))))) pss_nil)
    (pss_one (ps_ret (pe_call GP hr rfl DP.m DP.kp DP.b .nil pass0 (pa_cons (pv 0) (pa_cons (pv 1) (pa_cons (pv 2) (pa_cons (pv 6) pa_nil))))))))))), ?_⟩
  have szh : held.length ≤ 1000 := by have := C.sz; omega
  refine ⟨_, rfl, h, held, rfl, C.hh.sx, C.ho, by omega, fun t H1 s1 R1 => ?_⟩
  rcases R1 with ⟨p, f, hT, hsol, hsat, hf0⟩ | ⟨p, r, hT, hN, R⟩
  · -- a solution of the atoms that are held
    refine ⟨t, _, rfl, hT, rfl, _, _, rfl, _, _, rfl, rfl, ?_⟩
    refine ⟨_, rfl, rfl, _, rfl, ?_⟩
    refine ite2 (fun c => absurd (of_decide_eq_true c) (by decide +kernel)) (fun _ => ?_)
    have zm : ZK ∉ names held := fun z => (mem_names.mp z).1 rfl
    have nh := names_len (as := held)
    refine ⟨_, rfl, _, rfl, u, p, ns, names held, f, rfl, C.hu.same s1, C.nk, C.nd, C.nl, hsol, by omega, zm, fun d H2 s2 hd hv => ?_⟩
    have s12 := s1.trans s2
    refine ⟨_, rfl, _, rfl, l, d, left, _, rfl, (C.hl.same s12).sx, C.lo, hv.mono C.ls, fun H3 r s3 ans => ?_⟩
    have s13 := s12.trans s3
    refine ⟨_, rfl, rfl, _, rfl, ?_⟩
    rcases ans with ⟨hmet, rfl⟩ | ⟨c, hc, tc, rfl, hcn⟩
    · refine iteT ?_
      obtain ⟨us, hus, nus⟩ := C.hu.same s13
      obtain ⟨kvs, hd3, hv3⟩ := hv.same s3
      have two := nk_two (fun k : NestedKey => k) (as := ns) (by rw [List.map_id']; exact nus)
      obtain ⟨J, Gs, W⟩ := sq_walk (K := K) (H := H3) (a := u) (xs := us) (.inl (.inl (.inl hus)))
      refine ⟨_, rfl, u, us, J, rfl, W.sq (fun _ _ e => e), W.arm (fun _ _ e => e), fun hz4 D2 hD2 => ?_⟩
      refine lc_gen ns (fun k y H' => ∃ t b, y = V.ref t ∧ SqT K H' t [.ref b, .int (if k ∈ names held then f k else 0)] ∧ Nk K H' k (.ref b)) (fun _ => true) W.walk (fun _ s => W.g s) two.length.symm (by rw [← two.length]; exact hz4) hD2
        (fun k y H6 H7 t7 hh => ?_) (fun j k x H6 hk hx s6 cc cn yes no => ?_) (fun ys H6 s6 hy two6 => ?_)
      · obtain ⟨t, b, h1, h2, h3⟩ := hh
        exact ⟨t, b, h1, t7.sqT h2, Nk.tk t7 _ _ h3⟩
      · obtain ⟨k', hk', hkx⟩ := two.get hx
        rw [hk] at hk'
        obtain rfl : k = k' := Option.some.inj hk'
        have hkm : k ∈ ns := List.mem_of_getElem? hk
        obtain ⟨rr, nn, c0, rfl⟩ := C.nk k hkm
        obtain ⟨b, bs, rfl, _, _⟩ := Nk.ref hkx
        have hkx6 := Nk.same hkx s6
        refine ⟨rfl, _, rfl, _, rfl, _, rfl, d, b, kvs, _, _, rfl, rfl, hd3.same s6, hkx6, (unk_tp (.inr ⟨rr, nn, c0, rfl⟩)).2, hv3 _ (List.mem_cons_of_mem _ hkm), by show 2 ≤ sizeLine; decide, fun t ht => ?_⟩
        exact yes rfl _ _ (same_upd ht) ⟨t, b, rfl, .inl (.inl upd_same), Nk.same hkx6 (same_upd ht)⟩
      · rw [filter_true] at two6
        refine ⟨D2, ys, rfl, .inl (.inl hy), fun p2 H7 hp2 pl at7 s7 => ⟨Nat.zero_le _, fun na hna => ⟨by show 3 ≤ sizeLine; decide, fun t2 ht2 => ?_⟩⟩⟩
        obtain ⟨ts, ets, pts⟩ := two_pairs (f := fun k => if k ∈ names held then f k else 0) (fun k hk => (unk_tp (.inr (C.nk k hk))).2) two6
        have s8 := same_upd (o := .lst []) hna
        have s9 := same_upd (o := .tup [.str tSol, .ref p2, .ref na]) ht2
        have agree : ∀ k ∈ sides held, (if k ∈ names held then f k else 0) = f k := fun k hk => by
          by_cases c : k ∈ names held
          · rw [if_pos c]
          · rw [if_neg c]
            by_cases z : k = ZK
            · rw [z, hf0]
            · exact absurd (mem_names.mpr ⟨z, mem_sides.mp hk⟩) c
        refine q t2 _ (s13.trans (s6.trans (s7.trans (s8.trans s9)))) ⟨tSol, .ref p2, na, [], [], .inl (.inl upd_same), (s13.trans (s6.trans s7)).free hna, s9 _ _ upd_same, .nil, .inl ⟨rfl, ⟨p2, fun k => if k ∈ names held then f k else 0, rfl, ⟨ts, by rw [← ets]; exact pl.tk (Tk.same (s8.trans s9)), PairsN.tk (Tk.same (s7.trans (s8.trans s9))) pts⟩, fun a ha => ?_, hmet, by show (if ZK ∈ names held then f ZK else 0) = 0; rw [if_neg zm]⟩, rfl⟩⟩
        show (if a.u ∈ names held then f a.u else 0) - (if a.v ∈ names held then f a.v else 0) ≤ a.k
        rw [agree _ (mem_sides.mpr ⟨a, ha, .inl rfl⟩), agree _ (mem_sides.mpr ⟨a, ha, .inr rfl⟩)]
        exact hsat a ha
    · refine iteF ?_
      refine ⟨_, rfl, _, rfl, _, rfl, _, rfl, u, h, l, tc, ns, held, left, c, rfl, C.same s13, hcn, hc, by omega, fun t2 H4 s4 R4 => q t2 H4 (s13.trans s4) (R4.back s13)⟩
  · -- a ring
    refine ⟨t, _, rfl, hT, rfl, _, _, rfl, _, _, rfl, rfl, ?_⟩
    refine ⟨_, rfl, rfl, _, rfl, ?_⟩
    refine ite2 (fun _ => ?_) (fun c => absurd (decide_eq_true rfl) c)
    obtain ⟨p', xs, e0, hxs, nxs⟩ := Nk.ref hN
    cases e0
    refine ⟨_, rfl, by show 2 ≤ sizeLine; decide, fun p1 hp1 => ?_⟩
    have s2 := same_upd (o := .tup [.str "ring", .ref p]) hp1
    refine ⟨_, rfl, p, xs, rfl, .inr ((Tk.same s2).sqT hxs), fun na hna => ⟨by show 3 ≤ sizeLine; decide, fun t2 ht2 => ?_⟩⟩
    have s3 := same_upd (o := .lst xs) hna
    have s4 := same_upd (o := .tup [.str tTree, .ref p1, .ref na]) ht2
    refine q t2 _ (s1.trans (s2.trans (s3.trans s4))) ⟨tTree, .ref p1, na, r, xs, .inl (.inl upd_same), (s1.trans s2).free hna, s4 _ _ upd_same, NkAll.same nxs (s2.trans (s3.trans s4)), .inr ⟨rfl, .tup [.text tRing, .tup (r.map Ato.key)], ?_, .ring ⟨R.two, R.nd, fun a ha => ha, R.round, R.neg⟩, R.nd, R.sub⟩⟩
    exact .tup (.inl (.inl (s4 _ _ (s3 _ _ upd_same)))) (.cons (.text _ (by decide +kernel)) (.cons (Nk.same hN (s2.trans (s3.trans s4))) .nil))
end
end OW
end
section
set_option linter.all false
set_option maxRecDepth 100000
set_option maxHeartbeats 4000000
set_option autoImplicit false
/- P12: split_at, given settle_rest; both. -/
namespace OW
open PySem L2
section
variable {P : Program} {w : World} {K : PySem.W.Frag} {mg : Str → Option Value} {base : Heap}
abbrev sSpl : Stmt := top 25
abbrev nSpl : List Str := ["unknowns", "held", "left", "clause", "rest", "trees", "needed", "alternative", "fresh", "word", "thing", "atoms", "other", "atom"]
theorem scSpl : FnScope nSpl ["unknowns", "held", "left", "clause"] (defScope sSpl) := ⟨rfl, rfl, rfl, by decide +kernel, rfl, by decide +kernel, by decide +kernel⟩
theorem allA_less {c : Cla} : ∀ {left : List Cla}, c ∈ left → (allA (left.filter fun d => decide (d ≠ c))).length + c.flatten.length ≤ (allA left).length
  | d :: left, h => by
    have ed : allA (d :: left) = d.flatten ++ allA left := by unfold allA; rw [List.flatten_cons, List.flatten_append]
    have le : (allA (left.filter fun d => decide (d ≠ c))).length ≤ (allA left).length := by
      have : ∀ l : List Cla, (allA (l.filter fun d => decide (d ≠ c))).length ≤ (allA l).length := by
        intro l
        induction l with
        | nil => exact Nat.le_refl _
        | cons x l ih =>
          have ex : allA (x :: l) = x.flatten ++ allA l := by unfold allA; rw [List.flatten_cons, List.flatten_append]
          by_cases e : x = c
          · rw [List.filter_cons_of_neg (by simp [e]), ex, List.length_append]; omega
          · rw [List.filter_cons_of_pos (by simp [e]), ex]
            have e2 : allA (x :: l.filter fun d => decide (d ≠ c)) = x.flatten ++ allA (l.filter fun d => decide (d ≠ c)) := by unfold allA; rw [List.flatten_cons, List.flatten_append]
            rw [e2, List.length_append, List.length_append]; omega
      exact this left
    by_cases e : d = c
    · subst e
      rw [List.filter_cons_of_neg (by simp), ed, List.length_append]
      omega
    · have hm : c ∈ left := (List.mem_cons.mp h).resolve_left fun z => e z.symm
      have ih := allA_less hm
      have e2 : allA (d :: left.filter fun d => decide (d ≠ c)) = d.flatten ++ allA (left.filter fun d => decide (d ≠ c)) := by unfold allA; rw [List.flatten_cons, List.flatten_append]
      rw [List.filter_cons_of_pos (by simp [e]), e2, ed, List.length_append, List.length_append]
      omega
theorem alt_len {c : Cla} {a : Alt} (h : a ∈ c) : a.length ≤ c.flatten.length := by
  obtain ⟨s, t, rfl⟩ := List.append_of_mem h
  rw [List.flatten_append, List.flatten_cons, List.length_append, List.length_append]
  omega
theorem two_marksF {H : Hp} {keep : Ato → Bool} {l : List Ato} {ys : List V} (ok : ∀ b ∈ l, AtoOk b) (h : Two (fun (a : Ato) y => ∃ t b, y = V.ref t ∧ SqT K H t [.ref b, .bl true] ∧ Nk K H a.key (.ref b)) (l.filter keep) ys) : ∃ ts : List Addr, ys = ts.map V.ref ∧ PairsN K H ts ((l.filter keep).map fun a => (a.key, V.bl true)) :=
  two_marks (fun b hb => ok b (List.mem_filter.mp hb).1) h
theorem ok_spl {m : Nat} {f fs : Addr} {fd ds : FuncData} (B : Bl K mg) (D : Df K mg "split_at" sSpl ["unknowns", "held", "left", "clause"] f fd) (DS : Df K mg "settle_rest" sSet ["unknowns", "held", "left"] fs ds) (GS : FnOk P w K mg base CX0 (2 * m + 2) fs ds ["unknowns", "held", "left"] (spSet K m)) :
    FnOk P w K mg base CX0 (2 * m + 3) f fd ["unknowns", "held", "left", "clause"] (spSpl K m) := by
  refine D.fn.ok scSpl (fun vs H Q E h => ?_) (fun cdv A outer s H vs Q E hr h => ?_)
  · obtain ⟨u, h, l, t, ns, held, left, c, rfl, _⟩ := h
    rfl
  obtain ⟨u, h, l, t, ns, held, left, c, rfl, C, hcn, hc, hm, q⟩ := h
  obtain ⟨t2, m2⟩ := B.tree
  obtain ⟨t3, m3⟩ := B.sol
  obtain ⟨t4, m4⟩ := B.split
  refine ⟨_, pss_cons (ps_setLc (i := 4) (own := [("other", 12)]) (g := gName 12) rfl scSpl.nd rfl rfl (sw_true rfl rfl rfl (by decide +kernel)) (pi_sq (pv 2)) (blkOk_by (N := nSpl) (sc := defScope sSpl) (by decide +kernel)) (fun _ _ _ _ _ => pg_name (i := 12) scSpl.nd rfl (Or.inl rfl))
        (fun _ _ _ _ _ => pts_one (pt_cmpR (op_neNC (K := K) rfl (by exact hr.units)) (pv 12) (pv 3) (nomark _))) (fun _ _ _ _ _ => pv 12))
    (pss_cons (ps_set (i := 5) scSpl.nd rfl (.inl rfl) (pe_lst pa_nil))
    (pss_cons (ps_set (i := 6) scSpl.nd rfl (.inl rfl) pe_ndnew)
    (pss_cons (ps_for PassesOwn.never rfl (pi_sq (pv 3)) (pg_name (i := 7) scSpl.nd rfl (.inl rfl))
      (pss_cons (ps_set (i := 8) scSpl.nd rfl (.inr rfl) (pe_lc (own := [("atom", 13)]) (g := gName 13) rfl scSpl.nd (pi_sq (pv 7)) (blkOk_by (N := nSpl) (sc := defScope sSpl) (by decide +kernel)) (fun _ _ _ _ _ => pg_name (i := 13) scSpl.nd rfl (Or.inl rfl))
        (fun _ _ _ _ _ => pts_one (pt_cmpR (op_notInNC (K := K) rfl (by exact hr.units)) (pv 13) (pv 1) (by rfl))) (fun _ _ _ _ _ => pv 13)))
      (pss_cons (ps_asg (pe_call GS hr rfl DS.m DS.kp DS.b .nil pass0 (pa_cons (pv 0) (pa_cons (pe_op op_cat (pv 1) (pv 8)) (pa_cons (pv 4) pa_nil)))) (pg_tup rfl (pgs_cons (pg_name (i := 9) scSpl.nd rfl (.inl rfl)) (pgs_cons (pg_name (i := 10) scSpl.nd rfl (.inl rfl)) (pgs_cons (pg_name (i := 11) scSpl.nd rfl (.inl rfl)) pgs_nil)))))
      (pss_cons (ps_if (PW.pt (pw_or (pt_cmpR op_eq (pv 9) (pe_glob (v := .str "solution") (by rfl) m3 ⟨_, rfl⟩) (nomark _)) (pw_or1 (pt_not (pt_val (pe_callB (cr_any rfl) (by rfl) B.any PyProof.Rows.boot_any (pa_cons
          (pe_lc (own := [("atom", 13)]) (g := gName 13) rfl scSpl.nd (pi_sq (pv 11)) (blkOk_by (N := nSpl) (sc := defScope sSpl) (by decide +kernel)) (fun _ _ _ _ _ => pg_name (i := 13) scSpl.nd rfl (Or.inl rfl)) (fun _ _ _ _ _ => pts_nil)
            (fun _ _ _ _ _ => pe_cmpR (op_inNC (K := K) rfl (by exact hr.units)) (pv 13) (pv 8) (by rfl))) pa_nil)))))))
        (pss_one (ps_ret (pe_tup (pa_cons (pv 9) (pa_cons (pv 10) (pa_cons (pv 11) pa_nil)))))) pss_nil)
      (pss_cons (ps_expr (pe_bm PySem.F.plainAttrs_list PySem.F.slot_list_append PySem.F.type_list_append mt_append (pv 5) (pa_cons (pv 10) pa_nil)))
      (pss_one (ps_expr (pe_mG tyN_ok PySem.F.plainAttrs_dict PySem.F.slot_dict_update PySem.F.type_dict_update (mt_nupdL rfl hr.units) (pv 6) (pa_cons
          (pe_lc (own := [("atom", 13)]) (g := gName 13) rfl scSpl.nd (pi_sq (pv 11)) (blkOk_by (N := nSpl) (sc := defScope sSpl) (by decide +kernel)) (fun _ _ _ _ _ => pg_name (i := 13) scSpl.nd rfl (Or.inl rfl))
            (fun _ _ _ _ _ => pts_one (pt_cmpR (op_notInNC (K := K) rfl (by exact hr.units)) (pv 13) (pv 8) (by rfl))) (fun _ _ _ _ _ => pe_tup (pa_cons (pv 13) (pa_cons pe_bl pa_nil)))) pa_nil)))))))))
    (pss_one (ps_ret (pe_tup (pa_cons (pe_glob (v := .str "tree") (by rfl) m2 ⟨_, rfl⟩) (pa_cons (pe_tup (pa_cons (pe_glob (v := .str "split") (by rfl) m4 ⟨_, rfl⟩) (pa_cons (pv 3) (pa_cons (pe_callTy call_tuple_of (by rfl) B.tup PyProof.Rows.boot_tuple (pa_cons (pv 5) pa_nil)) pa_nil))))
        (pa_cons (pe_callTy (cr_nlistD rfl) (by rfl) B.list PyProof.Rows.boot_list (pa_cons (pv 6) pa_nil)) pa_nil))))))))), ?_⟩
  obtain ⟨xl, hxl, nxl⟩ := C.hl
  have twol := nk_two claK nxl
  have dc := (C.lo c hc).depth
  obtain ⟨J, Gs, W⟩ := sq_walk (K := K) (H := H) (a := l) (xs := xl) (.inl (.inl (.inl hxl)))
  refine ⟨_, rfl, l, xl, J, rfl, W.sq (fun _ _ e => e), W.arm (fun _ _ e => e), fun hz1 D1 hD1 => ?_⟩
  refine lc_gen left (fun d y H' => Nk K H' (claK d) y) (fun d => decide (d ≠ c)) W.walk (fun _ s => W.g s) twol.length.symm (by rw [← twol.length]; exact hz1) hD1 (fun _ _ _ _ t h => Nk.tk t _ _ h) (fun i d x H' hd hx sm kk cn yes no => ?_) (fun ys H1 s1 hy two1 => ?_)
  · obtain ⟨d', hd', hdx⟩ := twol.get hx
    rw [hd] at hd'
    obtain rfl : d = d' := Option.some.inj hd'
    have hdm : d ∈ left := List.mem_of_getElem? hd
    refine ⟨rfl, _, rfl, _, rfl, claK d, claK c, Nk.same hdx sm, Nk.same hcn sm, by have := (C.lo d hdm).depth; omega, by omega, _, rfl, ?_⟩
    refine ite2 (fun z => ?_) (fun z => ?_)
    · have e : ¬ d = c := fun e => by simp [e] at z
      exact ⟨_, rfl, yes (by simp [e]) _ _ (fun _ _ e => e) (Nk.same hdx sm)⟩
    · have e : d = c := claK_inj (by simpa using z)
      exact no (by simp [e]) _ fun _ _ e => e
  have nrest : NkAll K H1 ((left.filter fun d => decide (d ≠ c)).map claK) ys := two_nk claK two1
  generalize hrest : left.filter (fun d => decide (d ≠ c)) = rest at nrest
  have rsub : ∀ d, d ∈ rest ↔ d ∈ left ∧ d ≠ c := fun d => by rw [← hrest, List.mem_filter, decide_eq_true_eq]
  have rlt : rest.length < left.length := by
    rw [← hrest]
    refine Nat.lt_of_le_of_ne (List.length_filter_le _ _) fun e => ?_
    have := (List.length_filter_eq_length_iff.mp e) c hc
    simp at this
  have rsz : (allA rest).length + c.flatten.length ≤ (allA left).length := by rw [← hrest]; exact allA_less hc
  refine ⟨Nat.zero_le _, fun tr htr => ?_⟩
  have hne1 : D1 ≠ tr := ne_of_none hy htr
  have s2 := same_upd (o := .lst []) htr
  refine fun nd H3 hnd dN at3 s3 => ?_
  have s13 := s1.trans (s2.trans s3)
  have hne2 : D1 ≠ nd := ne_of_none (s2 _ _ hy) hnd
  have hne3 : tr ≠ nd := ne_of_none upd_same hnd
  have hHtr : H tr = none := s1.free htr
  have hHnd : H nd = none := (s1.trans s2).free hnd
  obtain ⟨_, cs, e0, hcs, ncs⟩ := Nk.ref hcn
  cases e0
  have twoc := nk_two altK ncs
  have hlc : cs.length = c.length := twoc.length
  obtain ⟨J2, G2, W2⟩ := sq_walk (K := K) (H := H) (a := t) (xs := cs) (.inr hcs)
  refine ⟨_, rfl, t, cs, J2, rfl, W2.sq s13, W2.arm s13, fun _ => ?_⟩
  refine for_it W2.walk (fun i σ H' => ∃ y7 y8 y9 y10 y11 y12 y13 zs trs kvs S, σ = [some (.ref u), some (.ref h), some (.ref l), some (.ref t), some (.ref D1), some (.ref tr), some (.ref nd), y7, y8, y9, y10, y11, y12, y13] ∧ Same H H' ∧ Lx K H' (rest.map claK) D1 ∧ H' tr = some (.lst zs) ∧ NkAll K H' trs zs ∧
      DictN P w K H' nd kvs ∧ kvs.map (·.1) = S.map Ato.key ∧ S.Nodup ∧ (∀ a ∈ S, a ∈ held) ∧ trs.length = i ∧ ∀ (j : Nat) (a : Alt) (k : NestedKey), c[j]? = some a → trs[j]? = some k → Acc (S ++ a) rest k)
    ⟨none, none, none, none, none, none, none, [], [], [], [], rfl, s13, ⟨ys, s3 _ _ (s2 _ _ hy), NkAll.same nrest (s2.trans s3)⟩, s3 _ _ upd_same, .nil, dN, rfl, List.nodup_nil, fun a ha => (nomatch ha), rfl, fun j a k _ hk => by simp at hk⟩ (fun i σ H' _ hh => by obtain ⟨_, _, _, _, _, _, _, _, _, _, _, _, hh, _⟩ := hh; exact W2.g hh) ?_ ?_
  · rintro i x σ H4 H4' hi ⟨y7, y8, y9, y10, y11, y12, y13, zs, trs, kvs, S, rfl, sm, hLr, hzs, nzs, dN4, ek, ndS, subS, hti, acc⟩ ⟨rfl, hx⟩
    obtain ⟨a, ha, hax⟩ := twoc.get hx
    have ham : a ∈ c := List.mem_of_getElem? ha
    have oka := ((C.lo c hc).2 a ham).2
    have alen := alt_len ham
    obtain ⟨ta, as, rfl, hta, nas⟩ := Nk.ref (Nk.same hax sm)
    have twoa := nk_two Ato.key nas
    obtain ⟨zh, hzh, nzh⟩ := C.hh.same sm
    obtain ⟨J3, G3, W3⟩ := sq_walk (K := K) (H := H4') (a := ta) (xs := as) (.inr hta)
    refine ⟨_, rfl, ta, as, J3, rfl, W3.sq (fun _ _ e => e), W3.arm (fun _ _ e => e), fun hz3 D8 hD8 => ?_⟩
    refine lc_gen a (fun (b : Ato) y H' => Nk K H' b.key y) (fun b => decide (b ∉ held)) W3.walk (fun _ s => W3.g s) twoa.length.symm (by rw [← twoa.length]; exact hz3) hD8 (fun _ _ _ _ t h => Nk.tk t _ _ h) (fun j b x2 H5 hb hx2 sm5 kk cn yes no => ?_) (fun ys5 H5 s5 hy5 two5 => ?_)
    · obtain ⟨b', hb', hbx⟩ := twoa.get hx2
      rw [hb] at hb'
      obtain rfl : b = b' := Option.some.inj hb'
      have hbm : b ∈ a := List.mem_of_getElem? hb
      refine ⟨rfl, _, rfl, _, rfl, b.key, held.map Ato.key, h, zh, Nk.same hbx sm5, rfl, .inl (.inl (.inl (sm5 _ _ hzh))), NkAll.same nzh sm5, by have := (oka b hbm).depth; omega, _, rfl, ?_⟩
      refine ite2 (fun z => ?_) (fun z => ?_)
      · have e : ¬ b ∈ held := fun e => by
          have e2 := decide_eq_true (mem_key.mpr e)
          rw [if_pos rfl, e2] at z
          cases z
        exact ⟨_, rfl, yes (decide_eq_true e) _ _ (fun _ _ e => e) (Nk.same hbx sm5)⟩
      · have e : b ∈ held := Classical.byContradiction fun e => z (by
          have e2 := decide_eq_false fun z => e (mem_key.mp z)
          rw [if_pos rfl, e2]; rfl)
        exact no (decide_eq_false fun z => z e) _ fun _ _ e => e
    have nfr : NkAll K H5 ((a.filter fun b => decide (b ∉ held)).map Ato.key) ys5 := two_nk Ato.key two5
    have frl : (a.filter fun b => decide (b ∉ held)).length ≤ a.length := List.length_filter_le _ _
    generalize hfr : a.filter (fun b => decide (b ∉ held)) = fresh at nfr frl
    have fsub : ∀ b, b ∈ fresh ↔ b ∈ a ∧ b ∉ held := fun b => by rw [← hfr, List.mem_filter, decide_eq_true_eq]
    have s45 := sm.trans s5
    have zl := nzh.length
    have yl := nfr.length
    rw [List.length_map] at zl yl
    have Csz := C.sz
    refine ⟨_, rfl, _, rfl, _, rfl, h, D8, zh, ys5, rfl, rfl, s5 _ _ hzh, hy5, Nat.le_of_lt (small6 (by omega)), fun hp hhp => ?_⟩
    have s6 := same_upd (o := .lst (zh ++ ys5)) hhp
    have C6 : SetC K (upd H5 hp (.lst (zh ++ ys5))) u hp D1 ns (held ++ fresh) rest := by
      refine ⟨(C.hu.same s45).same s6, ⟨_, upd_same, ?_⟩, (hLr.same s5).same s6, C.nk, C.nd, C.nl, fun b hb => ?_, fun d hd => C.lo d ((rsub d).mp hd).1, fun k hk => ?_, fun k hk => ?_, ?_⟩
      · rw [List.map_append]
        exact (NkAll.same nzh (s5.trans s6)).app (NkAll.same nfr s6)
      · exact (List.mem_append.mp hb).elim (C.ho b) fun hb => oka b ((fsub b).mp hb).1
      · obtain ⟨b, hb, e⟩ := mem_sides.mp hk
        rcases List.mem_append.mp hb with hb | hb
        · exact C.hs k (mem_sides.mpr ⟨b, hb, e⟩)
        · exact C.ls k (mem_sides.mpr ⟨b, mem_allA.mpr ⟨c, hc, a, ham, ((fsub b).mp hb).1⟩, e⟩)
      · obtain ⟨b, hb, e⟩ := mem_sides.mp hk
        obtain ⟨d, hd, a2, ha2, hba⟩ := mem_allA.mp hb
        exact C.ls k (mem_sides.mpr ⟨b, mem_allA.mpr ⟨d, ((rsub d).mp hd).1, a2, ha2, hba⟩, e⟩)
      · rw [List.length_append]; omega
    refine ⟨_, rfl, u, hp, D1, ns, held ++ fresh, rest, rfl, C6, by omega, fun tt H7 s7 R7 => ?_⟩
    obtain ⟨wd, th, na, N, zn, hT, hna0, hna, nzn, ans⟩ := R7
    refine ⟨tt, _, rfl, hT, rfl, _, _, rfl, _, _, rfl, _, _, rfl, rfl, ?_⟩
    have s47 := s45.trans (s6.trans s7)
    have s57 := s6.trans s7
    rcases ans with ⟨rfl, ⟨p, f, rfl, hsol, hsat, hmet, hf0⟩, rfl⟩ | ⟨rfl, tr7, ntr, accN, ndN, subN⟩
    · -- a solution
      refine ⟨_, rfl, rfl, _, rfl, ?_⟩
      refine ite2 (fun _ => ?_) (fun e => absurd (decide_eq_true rfl) e)
      refine iteT ⟨_, rfl, _, rfl, _, rfl, by show 3 ≤ sizeLine; decide, fun t2 ht2 => ?_⟩
      have s8 := same_upd (o := .tup [.str tSol, .ref p, .ref na]) ht2
      refine q t2 _ (s47.trans s8) ⟨tSol, .ref p, na, [], zn, .inl (.inl upd_same), (s45.trans s6).free hna0, s8 _ _ hna, NkAll.same nzn s8, .inl ⟨rfl, ⟨p, f, rfl, SolT.same hsol s8, fun b hb => hsat b (List.mem_append_left _ hb), fun d hd => ?_, hf0⟩, rfl⟩⟩
      by_cases e : d = c
      · subst e
        refine ⟨a, ham, fun b hb => hsat b ?_⟩
        by_cases hbh : b ∈ held
        · exact List.mem_append_left _ hbh
        · exact List.mem_append_right _ ((fsub b).mpr ⟨hb, hbh⟩)
      · exact hmet d ((rsub d).mpr ⟨hd, e⟩)
    · -- a tree
      have okN : ∀ b ∈ N, AtoOk b := fun b hb => C6.ho b (subN b hb)
      have twoN := nk_two Ato.key nzn
      refine ⟨_, rfl, rfl, _, rfl, ?_⟩
      refine ite2 (fun e => absurd (of_decide_eq_true e) (by decide +kernel)) (fun _ => ?_)
      obtain ⟨J7, G7, W7⟩ := sq_walk (K := K) (H := H7) (a := na) (xs := zn) (.inl (.inl (.inl hna)))
      refine ⟨_, rfl, na, zn, J7, rfl, W7.sq (fun _ _ e => e), W7.arm (fun _ _ e => e), fun hz7 D7 hD7 => ?_⟩
      refine lc_gen N (fun b y _ => y = V.bl (decide (b ∈ fresh))) (fun _ => true) W7.walk (fun _ s => W7.g s) twoN.length.symm (by rw [← twoN.length]; exact hz7) hD7 (fun _ _ _ _ _ h => h) (fun j b x2 H8 hb hx2 sm8 kk cn yes no => ?_) (fun ys8 H8 s8 hy8 two8 => ?_)
      · obtain ⟨b', hb', hbx⟩ := twoN.get hx2
        rw [hb] at hb'
        obtain rfl : b = b' := Option.some.inj hb'
        have hbm : b ∈ N := List.mem_of_getElem? hb
        refine ⟨rfl, _, rfl, _, rfl, b.key, fresh.map Ato.key, D8, ys5, Nk.same hbx sm8, rfl, .inl (.inl (.inl (sm8 _ _ (s57 _ _ hy5)))), NkAll.same nfr (s57.trans sm8), by have := (okN b hbm).depth; omega, ?_⟩
        have e : decide (b.key ∈ fresh.map Ato.key) = decide (b ∈ fresh) := decide_eq_decide.mpr mem_key
        show kk (V.bl (decide (b.key ∈ fresh.map Ato.key))) H8
        rw [e]
        exact yes rfl _ _ (fun _ _ e => e) rfl
      rw [filter_true] at two8
      have s48 := s47.trans s8
      have s78 := s8
      refine ⟨D7, _, rfl, .inl (.inl (by rw [← two_bl two8]; exact hy8)), _, rfl, ?_⟩
      cases hany : (N.map fun b => decide (b ∈ fresh)).any id with
      | false =>
        have none : ∀ b ∈ N, b ∉ fresh := fun b hb hf => by
          have : (N.map fun b => decide (b ∈ fresh)).any id = true := by
            rw [List.any_map, List.any_eq_true]
            exact ⟨b, hb, decide_eq_true hf⟩
          rw [hany] at this
          cases this
        refine iteT ⟨_, rfl, _, rfl, _, rfl, by show 3 ≤ sizeLine; decide, fun t2 ht2 => ?_⟩
        have s9 := same_upd (o := .tup [.str tTree, th, .ref na]) ht2
        refine q t2 _ (s48.trans s9) ⟨tTree, th, na, N, zn, .inl (.inl upd_same), (s45.trans s6).free hna0, s9 _ _ (s8 _ _ hna), NkAll.same nzn (s8.trans s9), .inr ⟨rfl, tr7, Nk.same ntr (s8.trans s9), accN.mono (fun _ h => h) (fun d hd => ((rsub d).mp hd).1), ndN, fun b hb => ?_⟩⟩
        exact (List.mem_append.mp (subN b hb)).resolve_right (none b hb)
      | true =>
        refine iteF ?_
        have hzs8 : H8 tr = some (.lst zs) := s8 _ _ (s7 _ _ (s6 _ _ (s5 _ _ hzs)))
        have s58 := s5.trans (s57.trans s8)
        have nzl := nzs.length
        have lci : c.length ≤ 1000000 := by
          have h1 : ∀ l : Cla, (∀ a ∈ l, AltOk a) → l.length ≤ l.flatten.length := by
            intro l
            induction l with
            | nil => intro _; exact Nat.le_refl _
            | cons a0 l ih =>
              intro ho
              have h2 := ih fun a' h' => ho a' (List.mem_cons_of_mem _ h')
              have h3 := List.length_pos_iff.mpr (ho a0 List.mem_cons_self).1
              rw [List.flatten_cons, List.length_append, List.length_cons]
              omega
          have := h1 c (C.lo c hc).2
          omega
        refine ⟨_, rfl, .inl ⟨rfl, _, .inl (.inl hzs8)⟩, _, rfl, tr, zs, th, rfl, rfl, hzs8, small6 (by omega), ?_⟩
        generalize hH9 : upd H8 tr (.lst (zs ++ [th])) = H9
        have t9 : Tk H8 H9 := by rw [← hH9]; exact upd_lst_tk hzs8
        have n9 : ∀ b, b ≠ tr → H9 b = H8 b := fun b hb => by rw [← hH9]; exact upd_ne hb
        have hz9 : H9 tr = some (.lst (zs ++ [th])) := by rw [← hH9]; exact upd_same
        have s49 : Same H H9 := fun b o e => by rw [n9 b (ne_of_none e hHtr)]; exact s48 _ _ e
        have hnaN : H8 na = some (.lst zn) := s8 _ _ hna
        have dN8 : DictN P w K H8 nd kvs := dN4.same s58
        have dN9 : DictN P w K H9 nd kvs := dN8.tk t9 (n9 nd hne3.symm)
        have hnt : na ≠ tr := fun e => by
          have h1 := s6 _ _ (s5 _ _ hzs)
          rw [← e, hna0] at h1
          cases h1
        have hna9 : H9 na = some (.lst zn) := by rw [n9 na hnt]; exact hnaN
        have nzn9 := NkAll.tk t9 _ _ (NkAll.same nzn s8)
        have twoN9 := nk_two Ato.key nzn9
        have hD8t : D8 ≠ tr := fun e => by
          rw [e, hzs] at hD8
          cases hD8
        have hy9 : H9 D8 = some (.lst ys5) := by rw [n9 D8 hD8t]; exact s8 _ _ (s57 _ _ hy5)
        have nfr9 := NkAll.tk t9 _ _ (NkAll.same nfr (s57.trans s8))
        obtain ⟨J9, G9, W9⟩ := sq_walk (K := K) (H := H9) (a := na) (xs := zn) (.inl (.inl (.inl hna9)))
        refine ⟨_, rfl, ⟨nd, kvs, rfl, dN9⟩, _, rfl, na, zn, J9, rfl, W9.sq (fun _ _ e => e), W9.arm (fun _ _ e => e), fun hz9' D9 hD9 => ?_⟩
        refine lc_gen N (fun (b : Ato) y H' => ∃ t b', y = V.ref t ∧ SqT K H' t [.ref b', .bl true] ∧ Nk K H' b.key (.ref b')) (fun b => decide (b ∉ fresh)) W9.walk (fun _ s => W9.g s) twoN9.length.symm (by rw [← twoN9.length]; exact hz9') hD9
          (fun b y H6 H7 t7 hh => ?_) (fun j b x2 H10 hb hx2 sm10 kk cn yes no => ?_) (fun ys10 H10 s10 hy10 two10 => ?_)
        · obtain ⟨t, b', h1, h2, h3⟩ := hh
          exact ⟨t, b', h1, t7.sqT h2, Nk.tk t7 _ _ h3⟩
        · obtain ⟨b', hb', hbx⟩ := twoN9.get hx2
          rw [hb] at hb'
          obtain rfl : b = b' := Option.some.inj hb'
          have hbm : b ∈ N := List.mem_of_getElem? hb
          refine ⟨rfl, _, rfl, _, rfl, b.key, fresh.map Ato.key, D8, ys5, Nk.same hbx sm10, rfl, .inl (.inl (.inl (sm10 _ _ hy9))), NkAll.same nfr9 sm10, by have := (okN b hbm).depth; omega, _, rfl, ?_⟩
          refine ite2 (fun z => ?_) (fun z => ?_)
          · have e : ¬ b ∈ fresh := fun e => by
              have e2 := decide_eq_true (mem_key.mpr e)
              rw [if_pos rfl, e2] at z
              cases z
            obtain ⟨rb, bu, bv, rfl, _, _, _⟩ := ato_parts (Nk.same hbx sm10) (okN b hbm)
            exact ⟨_, rfl, by show 2 ≤ sizeLine; decide, fun t ht => yes (decide_eq_true e) _ _ (same_upd ht) ⟨t, rb, rfl, .inl (.inl upd_same), Nk.same (Nk.same hbx sm10) (same_upd ht)⟩⟩
          · have e : b ∈ fresh := Classical.byContradiction fun e => z (by
              have e2 := decide_eq_false fun z => e (mem_key.mp z)
              rw [if_pos rfl, e2]; rfl)
            exact no (decide_eq_false fun z => z e) _ fun _ _ e => e
        obtain ⟨tts, ets, hpr⟩ := two_marksF okN two10
        have lenS : kvs.length = S.length := by
          have := congrArg List.length ek
          rwa [List.length_map, List.length_map] at this
        have Sle : S.length ≤ held.length := nodup_sub S held ndS subS
        have Nle : N.length ≤ (held ++ fresh).length := nodup_sub N _ ndN subN
        have Fle : (N.filter fun b => decide (b ∉ fresh)).length ≤ N.length := List.length_filter_le _ _
        rw [List.length_append] at Nle
        refine ⟨nd, D9, tts, kvs, _, rfl, rfl, dN9.same s10, .inl (.inl (by rw [← ets]; exact hy10)), hpr, by rw [List.length_map]; exact Nat.le_of_lt (small6 (by omega)), ?_⟩
        obtain ⟨S', e1, e2, e3⟩ := merge_keys (N.filter fun b => decide (b ∉ fresh)) kvs S ek
        intro H11 d11 at11 tk11
        have tail : ∀ b o, b ≠ nd → b ≠ tr → H4' b = some o → H11 b = some o := fun b o h1 h2 e => by
          rw [at11 b h1]
          refine s10 _ _ ?_
          rw [n9 b h2]
          exact s58 _ _ e
        have tkAll : Tk H4' H11 := ((Tk.same s58).trans t9).trans ((Tk.same s10).trans tk11)
        refine ⟨_, _, _, _, _, _, _, zs ++ [th], trs ++ [tr7], _, S', rfl, fun b o e => ?_, ?_, ?_, ?_, d11, e1, e2 ndS, fun b hb => ?_, by rw [List.length_append, List.length_singleton, hti], fun j a2 k hj hk => ?_⟩
        · exact tail b o (ne_of_none e hHnd) (ne_of_none e hHtr) (sm _ _ e)
        · obtain ⟨zr, hzr, nzr⟩ := hLr
          exact ⟨zr, tail D1 _ hne2 hne1 hzr, NkAll.tk tkAll _ _ nzr⟩
        · rw [at11 tr hne3]
          exact s10 _ _ hz9
        · exact (NkAll.tk tkAll _ _ nzs).app (.cons (Nk.tk tk11 _ _ (Nk.same (Nk.tk t9 _ _ (Nk.same ntr s8)) s10)) .nil)
        · rcases (e3 b).mp hb with hb | hb
          · exact subS b hb
          · obtain ⟨h1, h2⟩ := List.mem_filter.mp hb
            exact (List.mem_append.mp (subN b h1)).resolve_right (of_decide_eq_true h2)
        · by_cases hji : j < trs.length
          · rw [List.getElem?_append_left hji] at hk
            refine (acc j a2 k hj hk).mono (fun b hb => ?_) fun d hd => hd
            exact (List.mem_append.mp hb).elim (fun hb => List.mem_append_left _ ((e3 b).mpr (.inl hb))) fun hb => List.mem_append_right _ hb
          · have hj2 : j = trs.length := by
              have := (List.getElem?_eq_some_iff.mp hk).1
              rw [List.length_append, List.length_singleton] at this
              omega
            subst hj2
            rw [List.getElem?_append_right (Nat.le_refl _), Nat.sub_self] at hk
            obtain rfl : tr7 = k := by simpa using hk
            rw [hti, ha] at hj
            obtain rfl : a = a2 := Option.some.inj hj
            refine accN.mono (fun b hb => ?_) fun d hd => hd
            by_cases hf : b ∈ fresh
            · exact List.mem_append_right _ ((fsub b).mp hf).1
            · exact List.mem_append_left _ ((e3 b).mpr (.inr (List.mem_filter.mpr ⟨hb, decide_eq_true hf⟩)))
  · rintro σ H4 ⟨y7, y8, y9, y10, y11, y12, y13, zs, trs, kvs, S, rfl, sm, hLr, hzs, nzs, dN4, ek, ndS, subS, hti, acc⟩
    rw [hlc] at hti
    refine ⟨_, rfl, _, rfl, tr, zs, rfl, .inl ⟨.inl (.inl hzs), fun tt htt => ⟨by show 3 ≤ sizeLine; decide, fun t5 ht5 => ?_⟩⟩⟩
    have s5 := same_upd (o := .tup zs) htt
    have s6 := same_upd (o := .tup [.str "split", .ref t, .ref tt]) ht5
    have s56 := s5.trans s6
    refine ⟨_, rfl, nd, kvs, rfl, dN4.same s56, fun na H7 vs hna hvs nvs at7 s7 => ⟨by show 3 ≤ sizeLine; decide, fun t8 ht8 => ?_⟩⟩
    have s8 := same_upd (o := .tup [.str tTree, .ref t5, .ref na]) ht8
    rw [ek] at nvs
    refine q t8 _ (sm.trans (s56.trans (s7.trans s8))) ⟨tTree, .ref t5, na, S, vs, .inl (.inl upd_same), (sm.trans s56).free hna, s8 _ _ hvs, NkAll.same nvs s8, .inr ⟨rfl, .tup [.text tSplit, claK c, .tup trs], ?_, .split hc hti fun j a k hj hk => ?_, ndS, subS⟩⟩
    · refine .tup (.inl (.inl (s8 _ _ (s7 _ _ upd_same)))) (.cons (.text _ (by decide +kernel)) (.cons (Nk.same hcn (sm.trans (s56.trans (s7.trans s8)))) (.cons ?_ .nil)))
      exact .tup (.inl (.inl (s8 _ _ (s7 _ _ (s6 _ _ upd_same))))) (NkAll.same nzs (s56.trans (s7.trans s8)))
    · rw [hrest]
      exact acc j a k hj hk
end
end OW
end
section
set_option linter.all false
set_option maxRecDepth 100000
set_option maxHeartbeats 4000000
set_option autoImplicit false
/- P13: settle_rest at every depth; settle. -/
namespace OW
open PySem L2
section
variable {X : Cx} {K : PySem.W.Frag}
theorem call_len_seqC (hK : X.K = K) : CallR X (.builtin "len") (fun xs H Q => ∃ p ys, xs = [.ref p] ∧ (SqL K H p ys ∨ SqT K H p ys) ∧ Q (.int ys.length) H) := by subst hK; exact call_len_seq
end
section
variable {P : Program} {w : World} {K : PySem.W.Frag} {mg : Str → Option Value} {base : Heap}
theorem all_set {f fs fv fb fp : Addr} {fd ds dv db dp : FuncData} (B : Bl K mg) (D : Df K mg "settle_rest" sSet ["unknowns", "held", "left"] f fd) (DS : Df K mg "solve" sSol ["atoms"] fs ds) (GS : FnOk P w K mg base CX0 2 fs ds ["atoms"] (spSol K))
    (DV : Df K mg "values_for" sVal ["unknowns", "pairs"] fv dv) (GV : FnOk P w K mg base CX0 1 fv dv ["unknowns", "pairs"] (spVal P w K)) (DB : Df K mg "broken_clause" sBro ["clauses", "values"] fb db) (GB : FnOk P w K mg base CX0 2 fb db ["clauses", "values"] (spBro P w K))
    (DP : Df K mg "split_at" sSpl ["unknowns", "held", "left", "clause"] fp dp) : ∀ n : Nat, FnOk P w K mg base CX0 (2 * n + 2) f fd ["unknowns", "held", "left"] (spSet K n)
  | 0 => by
    have no : ∀ vs H Q E, ¬ spSet K 0 vs H Q E := fun vs H Q E h => by
      obtain ⟨u, h, l, ns, held, left, _, _, h1, _⟩ := h
      omega
    exact ⟨fun vs H Q E h => absurd h (no vs H Q E), fun A outer s H args us vs Q E _ _ _ _ h => absurd h (no vs H Q E)⟩
  | n + 1 => ok_set B D DS GS DV GV DB GB DP (ok_spl B DP D (all_set B D DS GS DV GV DB GB DP n))
def leftOf (cs : List Cla) : List Cla := cs.filter fun c => decide (c.length ≠ 1)
def StlR (K : PySem.W.Frag) (H : Hp) (cs : List Cla) (t : Addr) : Prop := ∃ (wd : Str) (th : V), SqT K H t [.str wd, th] ∧
  ((wd = tSol ∧ ∃ p f, th = .ref p ∧ SolT K H p (names (allA cs)) f ∧ Met f cs ∧ f ZK = 0) ∨ (wd = tTree ∧ ∃ tr, Nk K H tr th ∧ Acc (sureA cs) (leftOf cs) tr))
def spStl (K : PySem.W.Frag) : Sp := fun vs H Q _ => ∃ c cs, vs = [.ref c] ∧ Sx K H (cs.map claK) c ∧ (∀ cl ∈ cs, ClaOk cl) ∧ (allA cs).length ≤ 500 ∧ (leftOf cs).length < 20 ∧ ∀ t H', Same H H' → StlR K H' cs t → Q (.ref t) H'
abbrev sStl : Stmt := top 26
theorem scStl : FnScope ["clauses", "left", "word", "thing", "needed", "clause"] ["clauses"] (defScope sStl) := ⟨rfl, rfl, rfl, by decide +kernel, rfl, by decide +kernel, by decide +kernel⟩
theorem mem_sureA {cs : List Cla} {b : Ato} : b ∈ sureA cs ↔ ∃ a, [a] ∈ cs ∧ b ∈ a := by
  unfold sureA
  rw [mem_allA]
  constructor
  · rintro ⟨c, hc, a, ha, hb⟩
    obtain ⟨h1, h2⟩ := List.mem_filter.mp hc
    have h2 := of_decide_eq_true h2
    match c, h2 with
    | [a'], _ =>
      obtain rfl : a = a' := by simpa using ha
      exact ⟨a, h1, hb⟩
  · rintro ⟨a, h1, hb⟩
    exact ⟨[a], List.mem_filter.mpr ⟨h1, rfl⟩, a, by simp, hb⟩
theorem sz_both : ∀ cs : List Cla, (sureA cs).length + (allA (leftOf cs)).length = (allA cs).length
  | [] => rfl
  | c :: cs => by
    have ih := sz_both cs
    have ed : ∀ (d : Cla) (l : List Cla), (allA (d :: l)).length = d.flatten.length + (allA l).length := fun d l => by unfold allA; rw [List.flatten_cons, List.flatten_append, List.length_append]
    unfold sureA leftOf at *
    by_cases e : c.length = 1
    · rw [List.filter_cons_of_pos (by simpa using e), List.filter_cons_of_neg (by simpa using e), ed, ed]; omega
    · rw [List.filter_cons_of_neg (by simpa using e), List.filter_cons_of_pos (by simpa using e), ed, ed]; omega
theorem nodup_sub' (S : List Ato) (cs : List Cla) (nd : S.Nodup) (m : ∀ b, b ∈ S ↔ b ∈ sureA cs) : S.length + (allA (leftOf cs)).length ≤ (allA cs).length := by
  have h1 := nodup_sub S (sureA cs) nd fun b hb => (m b).mp hb
  have h2 := sz_both cs
  omega
theorem met_all {cs : List Cla} {f : NestedKey → Int} (h1 : Sat f (sureA cs)) (h2 : Met f (leftOf cs)) : Met f cs := fun c hc => by
  by_cases e : c.length = 1
  · match c, e with
    | [a], _ => exact ⟨a, by simp, fun b hb => h1 b (mem_sureA.mpr ⟨a, hc, hb⟩)⟩
  · exact h2 c (List.mem_filter.mpr ⟨hc, decide_eq_true e⟩)
theorem ok_stl {f fr fu fa fq : Addr} {fd dr du da dq : FuncData} (B : Bl K mg) (D : Df K mg "settle" sStl ["clauses"] f fd) (DR : Df K mg "settle_rest" sSet ["unknowns", "held", "left"] fr dr) (GR : FnOk P w K mg base CX0 42 fr dr ["unknowns", "held", "left"] (spSet K 20))
    (DU : Df K mg "unknowns_in" sUnk ["atoms"] fu du) (GU : FnOk P w K mg base CX0 1 fu du ["atoms"] (spUnk K)) (DA : Df K mg "atoms_in" sAin ["clauses"] fa da) (GA : FnOk P w K mg base CX0 1 fa da ["clauses"] (spAin K)) (DQ : Df K mg "sure_atoms" sSur ["clauses"] fq dq) (GQ : FnOk P w K mg base CX0 1 fq dq ["clauses"] (spSur K)) :
    FnOk P w K mg base CX0 43 f fd ["clauses"] (spStl K) := by
  refine D.fn.ok scStl (fun vs H Q E h => ?_) (fun cdv A outer s H vs Q E hr h => ?_)
  · obtain ⟨c, cs, rfl, _⟩ := h
    rfl
  obtain ⟨c, cs, rfl, hS, ok, hlen, hleft, q⟩ := h
  have hr1 := hr.mono (j := 1) (by decide)
  refine ⟨_, pss_cons (ps_setLc (i := 1) (own := [("clause", 5)]) (g := gName 5) rfl scStl.nd rfl rfl (sw_true rfl rfl rfl (by decide +kernel)) (pi_sq (pv 0)) (blkOk_by (N := ["clauses", "left", "word", "thing", "needed", "clause"]) (sc := defScope sStl) (by decide +kernel)) (fun _ _ _ _ _ => pg_name (i := 5) scStl.nd rfl (Or.inl rfl))
        (fun _ _ _ _ _ => pts_one (pt_cmpR op_ne (pe_callB (call_len_seqC (K := K) rfl) (by rfl) B.len PySem.boot_len (pa_cons (pv 5) pa_nil)) pe_int (nomark _))) (fun _ _ _ _ _ => pv 5))
    (pss_cons (ps_asg (pe_call GR hr rfl DR.m DR.kp DR.b .nil pass0 (pa_cons (pe_call GU hr1 rfl DU.m DU.kp DU.b .nil pass0 (pa_cons (pe_call GA hr1 rfl DA.m DA.kp DA.b .nil pass0 (pa_cons (pv 0) pa_nil)) pa_nil)) (pa_cons (pe_call GQ hr1 rfl DQ.m DQ.kp DQ.b .nil pass0 (pa_cons (pv 0) pa_nil)) (pa_cons (pv 1) pa_nil))))
        (pg_tup rfl (pgs_cons (pg_name (i := 2) scStl.nd rfl (.inl rfl)) (pgs_cons (pg_name (i := 3) scStl.nd rfl (.inl rfl)) (pgs_cons (pg_name (i := 4) scStl.nd rfl (.inl rfl)) pgs_nil)))))
    (pss_one (ps_ret (pe_tup (pa_cons (pv 2) (pa_cons (pv 3) pa_nil)))))), ?_⟩
  obtain ⟨xs, hSq, hN⟩ := id hS
  have two := nk_two claK hN
  have okA := allA_ok ok
  obtain ⟨J, Gs, W⟩ := sq_walk hSq
  refine ⟨_, rfl, c, xs, J, rfl, W.sq (fun _ _ e => e), W.arm (fun _ _ e => e), fun hz1 D1 hD1 => ?_⟩
  refine lc_gen cs (fun d y H' => Nk K H' (claK d) y) (fun d => decide (d.length ≠ 1)) W.walk (fun _ s => W.g s) two.length.symm (by rw [← two.length]; exact hz1) hD1 (fun _ _ _ _ t h => Nk.tk t _ _ h) (fun i d x H' hd hx sm kk cn yes no => ?_) (fun ys H1 s1 hy two1 => ?_)
  · obtain ⟨d', hd', hdx⟩ := two.get hx
    rw [hd] at hd'
    obtain rfl : d = d' := Option.some.inj hd'
    obtain ⟨t, ts, rfl, ht, nt⟩ := Nk.ref (Nk.same hdx sm)
    have hl : ts.length = d.length := (nk_two altK nt).length
    refine ⟨rfl, _, rfl, t, ts, rfl, .inr ht, rfl, _, rfl, ?_⟩
    refine ite2 (fun z => ?_) (fun z => ?_)
    · have e : d.length ≠ 1 := fun e => by rw [hl, e] at z; simp at z
      exact ⟨_, rfl, yes (decide_eq_true e) _ _ (fun _ _ e => e) (Nk.same hdx sm)⟩
    · have e : d.length = 1 := Classical.byContradiction fun e => z (by
        have e2 : ¬ V.int ((ts.length : Nat) : Int) = V.int 1 := fun h => by
          injection h with h
          omega
        rw [decide_eq_false e2]; rfl)
      exact no (decide_eq_false fun z => z e) _ fun _ _ e => e
  have nleft : NkAll K H1 ((leftOf cs).map claK) ys := two_nk claK two1
  refine ⟨_, rfl, c, cs, rfl, hS.same s1, by omega, fun pa H2 s2 hpa hLa => ?_⟩
  refine ⟨pa, allA cs, rfl, hLa.sx, okA, by omega, fun pu H3 s3 hpu hLu => ?_⟩
  refine ⟨_, rfl, c, cs, rfl, hS.same (s1.trans (s2.trans s3)), ok, by omega, fun pq H4 S s4 hpq hLq ndS memS => ?_⟩
  have Sin : ∀ b ∈ S, b ∈ allA cs := fun b hb => by
    obtain ⟨a, ha, hba⟩ := mem_sureA.mp ((memS b).mp hb)
    exact mem_allA.mpr ⟨[a], ha, a, by simp, hba⟩
  have lin : ∀ d ∈ leftOf cs, d ∈ cs := fun d hd => (List.mem_filter.mp hd).1
  have nmem : ∀ b ∈ allA cs, ∀ k, (k = b.u ∨ k = b.v) → k ∈ ZK :: names (allA cs) := fun b hb k e => by
    by_cases z : k = ZK
    · rw [z]; exact List.mem_cons_self
    · exact List.mem_cons_of_mem _ (mem_names.mpr ⟨z, b, hb, e⟩)
  have C : SetC K H4 pu pq D1 (names (allA cs)) S (leftOf cs) := by
    refine ⟨hLu.same s4, hLq, ⟨ys, s4 _ _ (s3 _ _ (s2 _ _ hy)), NkAll.same nleft (s2.trans (s3.trans s4))⟩, names_unk okA, names_nodup _, ?_, fun b hb => okA b (Sin b hb), fun d hd => ok d (lin d hd), fun k hk => ?_, fun k hk => ?_, ?_⟩
    · have := names_len (as := allA cs); omega
    · obtain ⟨b, hb, e⟩ := mem_sides.mp hk
      exact nmem b (Sin b hb) k e
    · obtain ⟨b, hb, e⟩ := mem_sides.mp hk
      obtain ⟨d, hd, a, ha, hba⟩ := mem_allA.mp hb
      exact nmem b (mem_allA.mpr ⟨d, lin d hd, a, ha, hba⟩) k e
    · have h1 := nodup_sub' S cs ndS memS
      omega
  refine ⟨_, rfl, pu, pq, D1, _, S, leftOf cs, rfl, C, hleft, fun t H5 s5 R5 => ?_⟩
  obtain ⟨wd, th, na, N, zs, hT, _, hna, nzs, ans⟩ := R5
  refine ⟨t, _, rfl, hT, rfl, _, _, rfl, _, _, rfl, _, _, rfl, rfl, ?_⟩
  refine ⟨_, rfl, _, rfl, by show 2 ≤ sizeLine; decide, fun t2 ht2 => ?_⟩
  have s6 := same_upd (o := .tup [.str wd, th]) ht2
  refine q t2 _ (s1.trans (s2.trans (s3.trans (s4.trans (s5.trans s6))))) ⟨wd, th, .inl (.inl upd_same), ?_⟩
  rcases ans with ⟨e, ⟨p, f, e2, hsol, hsat, hmet, hf0⟩, _⟩ | ⟨e, tr, ntr, accN, _, subN⟩
  · exact .inl ⟨e, p, f, e2, SolT.same hsol s6, met_all (fun b hb => hsat b ((memS b).mpr hb)) hmet, hf0⟩
  · exact .inr ⟨e, tr, Nk.same ntr s6, accN.mono (fun b hb => (memS b).mp (subN b hb)) fun _ h => h⟩
end
end OW
end
section
set_option linter.all false
set_option maxRecDepth 100000
set_option maxHeartbeats 4000000
set_option autoImplicit false
/- P14: zip in comprehensions; holds_below, tree_holds. -/
namespace OW
open PySem L2
theorem pa_starC {X : Cx} {K : PySem.W.Frag} {e : Expr} {es : List Expr} {te : TE} {t : TA} {p : Pos} (hK : X.K = K) (he : PE X e te) (hr : PA X es t) (hs : starEach (.Starred e p :: es) X.env = (true, eval e X.env) :: starEach es X.env := by rfl) : PA X (.Starred e p :: es) (StX.tStar K te t) := by
  subst hK
  exact StX.pa_star he hr hs
section
variable {K : PySem.W.Frag} {a b : Addr} {xs ys : List V}
theorem walk_zipT {n : Nat} (hn : n = min xs.length ys.length) : Walk (RZ.ItzT K a b) n (fun H => SqT K H a xs ∧ SqT K H b ys) (YPair (fun i => xs[i]?) (fun i => ys[i]?)) := by
  subst hn
  refine ⟨fun i _ hi q => ?_, fun _ q => ⟨xs, ys, q.1, q.2, by omega⟩, fun i H v H' _ q y => ?_⟩
  · have h1 : i < xs.length := by omega
    have h2 : i < ys.length := by omega
    exact ⟨xs, ys, xs[i], ys[i], q.1, q.2, by simp [h1], by simp [h2]⟩
  · obtain ⟨T, x, z, h1, h2, h3, h4, h5⟩ := y
    exact ⟨T, x, z, h1, h2, h3, h4 xs q.1, h5 ys q.2⟩
end
/-- over pairs, made anew at each turn -/
theorem lc_genP {α : Type} {J : It} {G : Hp → Prop} {xs ys : Nat → Option V} {n : Nat} {g : TG} {tt : TT} {te : TE} {vs : List Nat} {σ : St} {H : Hp} {Qd : Hp → Prop} {D : Addr} (as : List α) (Rr : α → V → Hp → Prop) (keep : α → Bool)
    (hJ : Walk J n G (YPair xs ys)) (hG : ∀ H', Same H H' → G H') (hl : as.length = n) (hz : as.length ≤ sizeLine) (hD : H D = none)
    (mono : ∀ a y H1 H2, Tk H1 H2 → Rr a y H1 → Rr a y H2)
    (step : ∀ (i : Nat) (a : α) (x y : V) (T : Addr) (H' : Hp), as[i]? = some a → xs i = some x → ys i = some y → Same H H' → H' T = none → ∀ (k : VK) (kn : Hp → Prop), (keep a = true → ∀ y' H4, Same (upd H' T (.tup [x, y])) H4 → Rr a y' H4 → k y' H4) → (keep a = false → ∀ H3, Same (upd H' T (.tup [x, y])) H3 → kn H3) →
      g (.ref T) (wipe σ vs) (upd H' T (.tup [x, y])) fun σ2 H2 => wipe σ2 vs = wipe σ vs ∧ tt σ2 H2 fun b H3 => if b = true then te σ2 H3 k else kn H3)
    (fin : ∀ (ys : List V) (H' : Hp), Same H H' → H' D = some (.lst ys) → Two (fun a y => Rr a y H') (as.filter keep) ys → Qd H') :
    ∃ W : Nat → Nat → Hp → Prop, (∃ m, W 0 m (upd H D (.lst []))) ∧ ∀ i m H, W i m H →
      (J.stop i H ∧ Qd H) ∨ (J.go i H ∧ ∃ Nx : Hp → Prop, (∀ H', Nx H' → ∃ m', m' < m ∧ W (i + 1) m' H') ∧ ∀ x H', J.yld i H x H' → g x (wipe σ vs) H' fun σ2 H2 => wipe σ2 vs = wipe σ vs ∧ tt σ2 H2 fun b H3 =>
        if b = true then te σ2 H3 fun y H4 => ∃ acc, H4 D = some (.lst acc) ∧ acc.length < sizeLine ∧ Nx (upd H4 D (.lst (acc ++ [y]))) else Nx H3) := by
  have fl : ∀ l : List α, (l.filter keep).length ≤ l.length := fun l => List.length_filter_le _ _
  refine lc_it hJ (fun i H' => Same H H' ∧ ∃ ys, H' D = some (.lst ys) ∧ Two (fun a y => Rr a y H') ((as.take i).filter keep) ys) ⟨same_upd hD, [], upd_same, .nil⟩ (fun i H' _ p => hG H' p.1) ?_ ?_
  · rintro i v H0 H0' hi ⟨sm, zs, hy, two⟩ ⟨T, x, y, rfl, hT, rfl, hx, hyy⟩
    have hia : i < as.length := by omega
    have ha : as[i]? = some as[i] := List.getElem?_eq_getElem hia
    have tkn : ∀ b, (as.take (i + 1)).filter b = (as.take i).filter b ++ [as[i]].filter b := fun b => by rw [take_succ' ha, List.filter_append]
    have hlen : zs.length < sizeLine := by
      rw [two.length]
      have := fl (as.take i)
      rw [List.length_take] at this
      omega
    have sT := same_upd (o := .tup [x, y]) hT
    refine step i as[i] x y T H0 ha hx hyy sm hT _ _ (fun hk y' H4 s4 ry => ?_) (fun hk H3 s3 => ?_)
    · have s04 := sT.trans s4
      have hy4 := s04 _ _ hy
      refine ⟨zs, hy4, hlen, ?_, zs ++ [y'], upd_same, ?_⟩
      · intro b o e
        have e4 := s04 _ _ (sm _ _ e)
        rw [upd_ne (ne_of_none e hD)]
        exact e4
      · rw [tkn, List.filter_cons_of_pos hk]
        exact Two.snoc (R := fun a y'' => Rr a y'' (upd H4 D (.lst (zs ++ [y'])))) (mono _ _ _ _ (upd_lst_tk hy4) ry) (two.mono fun a y'' r => mono _ _ _ _ ((Tk.same s04).trans (upd_lst_tk hy4)) r)
    · have s03 := sT.trans s3
      refine ⟨fun b o e => s03 _ _ (sm _ _ e), zs, s03 _ _ hy, ?_⟩
      have hk' : ¬ keep as[i] = true := by rw [hk]; exact Bool.false_ne_true
      rw [tkn, List.filter_cons_of_neg hk', List.filter_nil, List.append_nil]
      exact two.mono fun a y'' r => mono _ _ _ _ (Tk.same s03) r
  · rintro H' ⟨sm, zs, hy, two⟩
    rw [List.take_of_length_le (by omega)] at two
    exact fin zs H' sm hy two
section
variable {P : Program} {w : World} {K : PySem.W.Frag} {mg : Str → Option Value} {base : Heap}
abbrev sHbe : Stmt := top 27
abbrev nHbe : List Str := ["clauses", "held", "split", "thing", "word", "clause", "trees", "below", "one", "tree"]
theorem scHbe : FnScope nHbe ["clauses", "held", "split", "thing"] (defScope sHbe) := ⟨rfl, rfl, rfl, by decide +kernel, rfl, by decide +kernel, by decide +kernel⟩
def spHbe (K : PySem.W.Frag) (n : Nat) : Sp := fun vs H Q _ => ∃ (c h s : Addr) (th : V) (cs : List Cla) (held : List Ato) (left spl : List Cla) (tr : NestedKey), vs = [.ref c, .ref h, .ref s, th] ∧ Sx K H (cs.map claK) c ∧ Lx K H (held.map Ato.key) h ∧ Lx K H (spl.map claK) s ∧ Nk K H tr th ∧ Acc held left tr ∧ (∀ d ∈ left, d ∈ cs ∧ d ∉ spl) ∧ (∀ d ∈ cs, ClaOk d) ∧ (∀ b ∈ held, AtoOk b) ∧
  held.length + (allA left).length ≤ 1000 ∧ left.length < n ∧ tr.depth ≤ 50 ∧ (∀ d ∈ spl, ClaOk d) ∧ spl.length + left.length ≤ 1000 ∧ ∀ H', Same H H' → Q (.bl true) H'
theorem ok_hbe {m : Nat} {f fh fr : Addr} {fd dh dr : FuncData} (B : Bl K mg) (D : Df K mg "holds_below" sHbe ["clauses", "held", "split", "thing"] f fd) (G : FnOk P w K mg base CX0 (m + 61) f fd ["clauses", "held", "split", "thing"] (spHbe K m))
    (DH : Df K mg "has_bools" sHas ["value"] fh dh) (GH : FnOk P w K mg base CX0 60 fh dh ["value"] (spHas K 60)) (DR : Df K mg "ring_holds" sRho ["atoms", "thing"] fr dr) (GR : FnOk P w K mg base CX0 61 fr dr ["atoms", "thing"] (spRho K)) :
    FnOk P w K mg base CX0 (m + 62) f fd ["clauses", "held", "split", "thing"] (spHbe K (m + 1)) := by
  refine D.fn.ok scHbe (fun vs H Q E h => ?_) (fun cdv A outer s H vs Q E hr h => ?_)
  · obtain ⟨c, h, s, th, cs, held, left, spl, tr, rfl, _⟩ := h
    rfl
  obtain ⟨c, h, sa, th, cs, held, left, spl, tr, rfl, hS, hh, hs, ht, acc, lsub, ok, ho, hsz, hm, hdep, so, ssz, q⟩ := h
  have hr60 := hr.mono (j := 60) (by omega)
  have hr61 := hr.mono (j := 61) (by omega)
  obtain ⟨t1, m1⟩ := B.ring
  obtain ⟨t2, m2⟩ := B.split
  obtain ⟨t3, m3⟩ := B.rparts
  obtain ⟨t4, m4⟩ := B.sparts
  refine ⟨_, pss_cons (ps_if (PW.pt (pw_or (pt_not (pt_val (pe_callB cr_isi (by rfl) B.isi PyProof.Rows.boot_isinstance (pa_cons (pv 3) (pa_cons (pe_ty (by rfl) B.tup PyProof.Rows.boot_tuple) pa_nil)))))
      (pw_or (pt_cmpR (op_eqN hr.units) (pv 3) (pe_tup pa_nil) (nomark _))
      (pw_or1 (pt_not (pt_val (pe_callB cr_isi (by rfl) B.isi PyProof.Rows.boot_isinstance (pa_cons (pe_ix ix_tup (pv 3) pe_int (fun _ _ => rfl)) (pa_cons (pe_ty (by rfl) B.str PyProof.Rows.boot_str) pa_nil)))))))))
      (pss_one (ps_ret pe_bl)) pss_nil)
    (pss_cons (ps_if (PW.pt (pw_and (pt_cmpR op_eq (pe_ix ix_tup (pv 3) pe_int (fun _ _ => rfl)) (pe_glob (v := .str "ring") (by rfl) m1 ⟨_, rfl⟩) (nomark _)) (pw_and1 (pt_cmpR op_eq (pe_callB call_len_seq (by rfl) B.len PySem.boot_len (pa_cons (pv 3) pa_nil)) (pe_glob (v := .int 2) (by rfl) m3 ⟨_, rfl⟩) (nomark _)))))
      (pss_one (ps_ret (pe_call GR hr61 rfl DR.m DR.kp DR.b .nil pass0 (pa_cons (pv 1) (pa_cons (pe_ix ix_tup (pv 3) pe_int (fun _ _ => rfl)) pa_nil))))) pss_nil)
    (pss_cons (ps_if (PW.pt (pw_or (pt_cmpR op_ne (pe_ix ix_tup (pv 3) pe_int (fun _ _ => rfl)) (pe_glob (v := .str "split") (by rfl) m2 ⟨_, rfl⟩) (nomark _)) (pw_or1 (pt_cmpR op_ne (pe_callB call_len_seq (by rfl) B.len PySem.boot_len (pa_cons (pv 3) pa_nil)) (pe_glob (v := .int 3) (by rfl) m4 ⟨_, rfl⟩) (nomark _)))))
      (pss_one (ps_ret pe_bl)) pss_nil)
    (pss_cons (ps_asg (pv 3) (pg_tup rfl (pgs_cons (pg_name (i := 4) scHbe.nd rfl (.inl rfl)) (pgs_cons (pg_name (i := 5) scHbe.nd rfl (.inl rfl)) (pgs_cons (pg_name (i := 6) scHbe.nd rfl (.inl rfl)) pgs_nil)))))
    (pss_cons (ps_if (PW.pt (pw_or (pt_val (pe_call GH hr60 rfl DH.m DH.kp DH.b .nil pass0 (pa_cons (pv 5) pa_nil)))
      (pw_or (pt_cmpR (op_notInN hr.units) (pv 5) (pv 0) (by rfl)) (pw_or1 (pt_cmpR (op_inN hr.units) (pv 5) (pv 2) (by rfl))))))
      (pss_one (ps_ret pe_bl)) pss_nil)
    (pss_cons (ps_if (PW.pt (pw_or (pt_not (pt_val (pe_callB cr_isi (by rfl) B.isi PyProof.Rows.boot_isinstance (pa_cons (pv 6) (pa_cons (pe_ty (by rfl) B.tup PyProof.Rows.boot_tuple) pa_nil)))))
      (pw_or1 (pt_cmpR op_ne (pe_callB call_len_seq (by rfl) B.len PySem.boot_len (pa_cons (pv 6) pa_nil)) (pe_callB call_len_seq (by rfl) B.len PySem.boot_len (pa_cons (pv 5) pa_nil)) (nomark _)))))
      (pss_one (ps_ret pe_bl)) pss_nil)
    (pss_cons (ps_set (i := 7) scHbe.nd rfl (.inr rfl) (pe_lst (StX.pa_star (pv 2) (pa_cons (pv 5) pa_nil))))
    (pss_one (ps_ret (pe_callB (cr_all rfl) (by rfl) B.all PyProof.Rows.boot_all (pa_cons
      (pe_lc (own := [("one", 8), ("tree", 9)]) (g := gTup K 2 (gCons (gName 8) (gCons (gName 9) gNil))) rfl scHbe.nd (RZ.pi_zipA (by rfl) B.zip (pa_cons (pv 5) (pa_cons (pv 6) pa_nil))) (blkOk_by (N := nHbe) (sc := defScope sHbe) (by decide +kernel))
        (fun _ _ _ _ _ => pg_tup rfl (pgs_cons (pg_name (i := 8) scHbe.nd rfl (.inl rfl)) (pgs_cons (pg_name (i := 9) scHbe.nd rfl (.inl rfl)) pgs_nil))) (fun _ _ _ _ _ => pts_nil)
        (fun _ _ _ _ _ => pe_call G hr rfl D.m D.kp D.b .nil pass0 (pa_cons (pv 0) (pa_cons (pe_lst (pa_starC (K := K) rfl (pv 1) (pa_starC (K := K) rfl (pv 8) pa_nil))) (pa_cons (pv 7) (pa_cons (pv 9) pa_nil)))))) pa_nil)))))))))), ?_⟩
  -- the ring
  cases acc with
  | @ring _ _ r R =>
    obtain ⟨p, xs, rfl, hT, hN⟩ := Nk.ref ht
    cases hN with
    | cons n0 hN =>
      cases hN with
      | cons n1 hN =>
        cases hN
        cases n0
        obtain ⟨pr, xr, rfl, hTr, nr⟩ := Nk.ref n1
        refine ⟨_, rfl, _, _, "tuple", true, rfl, sqT_tyx hT, by decide +kernel, _, rfl, iteF ?_⟩
        refine ⟨_, rfl, Nat.zero_le _, fun e he => ?_⟩
        have s1 := same_upd (o := .tup []) he
        have hT1 := (Tk.same s1).sqT hT
        refine ⟨_, .tup [], Nk.same ht s1, .tup (.inl (.inl upd_same)) .nil, by omega, by decide, _, rfl, ?_⟩
        refine ite2 (fun z => absurd z (by simp)) (fun _ => ?_)
        refine ⟨_, rfl, p, _, 0, .str tRing, rfl, rfl, hT1, atI_nat (j := 0) rfl, _, _, "str", true, rfl, .base (.str _), by decide +kernel, _, rfl, iteF ?_⟩
        refine ⟨_, rfl, p, _, 0, .str tRing, rfl, rfl, hT1, atI_nat (j := 0) rfl, rfl, _, rfl, ?_⟩
        refine ite2 (fun _ => ?_) (fun z => absurd (decide_eq_true rfl) z)
        refine ⟨_, rfl, p, _, rfl, .inr hT1, rfl, _, rfl, ?_⟩
        refine iteT ?_
        refine ⟨_, rfl, _, rfl, p, _, 1, .ref pr, rfl, rfl, hT1, atI_nat (j := 1) rfl, h, pr, held, r, rfl, (hh.same s1).sx, ho, by omega, Nk.same n1 s1, R, fun H2 s2 => q H2 (s1.trans s2)⟩
  | @split _ _ cl ts hcl htl hsub =>
    obtain ⟨p, xs, rfl, hT, hN⟩ := Nk.ref ht
    cases hN with
    | cons n0 hN =>
      cases hN with
      | cons n1 hN =>
        cases hN with
        | cons n2 hN =>
          cases hN
          cases n0
          obtain ⟨pc, xc, rfl, hTc, nc⟩ := Nk.ref n1
          obtain ⟨pt, xt, rfl, hTt, nt⟩ := Nk.ref n2
          have hcs := (lsub cl hcl).1
          have hspl := (lsub cl hcl).2
          have okc := ok cl hcs
          have dcl := okc.depth
          have lxc : xc.length = cl.length := (nk_two altK nc).length
          have lxt : xt.length = ts.length := nt.length
          refine ⟨_, rfl, _, _, "tuple", true, rfl, sqT_tyx hT, by decide +kernel, _, rfl, iteF ?_⟩
          refine ⟨_, rfl, Nat.zero_le _, fun e he => ?_⟩
          have s1 := same_upd (o := .tup []) he
          have hT1 := (Tk.same s1).sqT hT
          refine ⟨_, .tup [], Nk.same ht s1, .tup (.inl (.inl upd_same)) .nil, by omega, by decide, _, rfl, ?_⟩
          refine ite2 (fun z => absurd z (by simp)) (fun _ => ?_)
          refine ⟨_, rfl, p, _, 0, .str tSplit, rfl, rfl, hT1, atI_nat (j := 0) rfl, _, _, "str", true, rfl, .base (.str _), by decide +kernel, _, rfl, iteF ?_⟩
          refine ⟨_, rfl, p, _, 0, .str tSplit, rfl, rfl, hT1, atI_nat (j := 0) rfl, rfl, _, rfl, ?_⟩
          refine ite2 (fun z => absurd (of_decide_eq_true z) (by decide +kernel)) (fun _ => iteF ?_)
          refine ⟨_, rfl, p, _, 0, .str tSplit, rfl, rfl, hT1, atI_nat (j := 0) rfl, rfl, _, rfl, ?_⟩
          refine ite2 (fun z => absurd z (by simp)) (fun _ => ?_)
          refine ⟨_, rfl, p, _, rfl, .inr hT1, rfl, _, rfl, iteF ?_⟩
          refine ⟨_, rfl, p, _, rfl, hT1, rfl, _, _, rfl, _, _, rfl, _, _, rfl, rfl, ?_⟩
          refine ⟨_, rfl, _, claK cl, rfl, Nk.same n1 s1, by omega, fun H2 s2 => ⟨_, rfl, iteF ?_⟩⟩
          have s12 := s1.trans s2
          obtain ⟨xcs, hSq, nSq⟩ := hS.same s12
          obtain ⟨xsp, hsp, nsp⟩ := hs.same s12
          refine ⟨_, rfl, _, rfl, claK cl, cs.map claK, c, xcs, Nk.same n1 s12, rfl, hSq, nSq, by omega, _, rfl, ?_⟩
          have in1 := decide_eq_true (mem_claK.mpr hcs)
          refine ite2 (fun z => ?_) (fun _ => ?_)
          · rw [if_pos rfl, in1] at z
            cases z
          refine ⟨_, rfl, _, rfl, claK cl, spl.map claK, sa, xsp, Nk.same n1 s12, rfl, .inl (.inl (.inl hsp)), nsp, by omega, _, rfl, ?_⟩
          have in2 := decide_eq_false fun z => hspl (mem_claK.mp z)
          refine ite2 (fun z => ?_) (fun _ => ?_)
          · have z' : decide (claK cl ∈ spl.map claK) = true := z
            rw [in2] at z'
            cases z'
          have hTt2 := (Tk.same s12).sqT hTt
          have hTc2 := (Tk.same s12).sqT hTc
          refine ⟨_, rfl, _, _, "tuple", true, rfl, sqT_tyx hTt2, by decide +kernel, _, rfl, iteF ?_⟩
          refine ⟨_, rfl, pt, xt, rfl, .inr hTt2, _, rfl, pc, xc, rfl, .inr hTc2, rfl, _, rfl, ?_⟩
          refine ite2 (fun z => absurd z (by rw [lxc, lxt, htl]; simp)) (fun _ => ?_)
          have nspl := nsp.length
          rw [List.length_map] at nspl
          refine ⟨_, rfl, sa, xsp, rfl, .inr (.inl (.inl hsp)), _, rfl, ?_, fun hb hhb => ?_⟩
          · rw [List.length_append, List.length_singleton]
            exact Nat.le_of_lt (small6 (by omega))
          have s3 := same_upd (o := .lst (xsp ++ [.ref pc])) hhb
          have s13 := s12.trans s3
          have lb : Lx K (upd H2 hb (.lst (xsp ++ [.ref pc]))) ((spl ++ [cl]).map claK) hb := ⟨_, upd_same, by
            rw [List.map_append]
            exact (NkAll.same nsp s3).app (.cons (Nk.same n1 s13) .nil)⟩
          have two := nk_two altK (NkAll.same nc s13)
          have W := walk_zipT (K := K) (a := pc) (b := pt) (xs := xc) (ys := xt) (n := cl.length) (by omega)
          have hTc3 := (Tk.same s13).sqT hTc
          have hTt3 := (Tk.same s13).sqT hTt
          have nt3 := NkAll.same nt s13
          have clz : cl.length ≤ 1000 := by
            have h1 : ∀ l : Cla, (∀ a ∈ l, AltOk a) → l.length ≤ l.flatten.length := by
              intro l
              induction l with
              | nil => intro _; exact Nat.le_refl _
              | cons a0 l ih =>
                intro ho
                have h2 := ih fun a' h' => ho a' (List.mem_cons_of_mem _ h')
                have h3 := List.length_pos_iff.mpr (ho a0 List.mem_cons_self).1
                rw [List.flatten_cons, List.length_append, List.length_cons]
                omega
            have h2 := h1 cl okc.2
            have h3 := allA_less hcl
            omega
          refine ⟨_, rfl, _, rfl, pc, pt, xc, xt, rfl, .inr ⟨hTc3, hTt3, fun D9 hD9 => ?_⟩⟩
          refine lc_genP cl (fun _ y _ => y = V.bl true) (fun _ => true) W (fun H' s => ⟨(Tk.same s).sqT hTc3, (Tk.same s).sqT hTt3⟩) rfl (Nat.le_of_lt (small6 (by omega))) hD9 (fun _ _ _ _ _ e => e) (fun i a x y T H' ha hx hy sm hT' kk cn yes no => ?_) (fun ys H4 s4 hy two4 => ?_)
          · obtain ⟨a', ha', hax⟩ := two.get hx
            rw [ha] at ha'
            obtain rfl : a = a' := Option.some.inj ha'
            have ham : a ∈ cl := List.mem_of_getElem? ha
            obtain ⟨k, hk, hky⟩ := nt3.got hy
            have sT := same_upd (o := .tup [x, y]) hT'
            have smT := sm.trans sT
            have s1T := s13.trans smT
            obtain ⟨pa, as, rfl, hTa, na⟩ := Nk.ref (Nk.same hax smT)
            obtain ⟨zh, hzh, nzh⟩ := hh.same s1T
            have zl := nzh.length
            have al := na.length
            rw [List.length_map] at zl al
            have ale := alt_len ham
            have aless := allA_less hcl
            refine ⟨T, _, rfl, .inl (.inl upd_same), rfl, _, _, rfl, _, _, rfl, rfl, rfl, _, rfl, _, rfl, h, zh, rfl, .inr (.inl (.inl hzh)), _, rfl, pa, as, rfl, .inl hTa, ?_, fun hn hhn => ⟨_, rfl, _, rfl, ?_⟩⟩
            · rw [List.append_nil, List.length_append]
              exact Nat.le_of_lt (small6 (by omega))
            have s5 := same_upd (o := .lst (zh ++ (as ++ []))) hhn
            have s15 := s1T.trans s5
            have hdk : k.depth ≤ 50 := by
              have h1 := depth_mem (List.mem_of_getElem? hk)
              simp only [NestedKey.depth, NestedKey.depthAll] at hdep
              omega
            refine ⟨c, hn, hb, y, cs, held ++ a, left.filter fun d => decide (d ≠ cl), spl ++ [cl], k, rfl, hS.same s15, ⟨_, upd_same, ?_⟩, lb.same (smT.trans s5), Nk.same hky (smT.trans s5), hsub i a k ha hk, fun d hd => ?_, ok, fun b hb => ?_, ?_, ?_, ?_, fun d hd => ?_, ?_, fun H6 s6 => yes rfl _ H6 (s5.trans s6) rfl⟩
            · rw [List.map_append]
              exact (NkAll.same nzh s5).app (NkAll.same (by rw [List.append_nil]; exact na) s5)
            · obtain ⟨h1, h2⟩ := List.mem_filter.mp hd
              have h2 := of_decide_eq_true h2
              refine ⟨(lsub d h1).1, fun z => ?_⟩
              rcases List.mem_append.mp z with z | z
              · exact (lsub d h1).2 z
              · exact h2 (by simpa using z)
            · exact (List.mem_append.mp hb).elim (ho b) ((okc.2 a ham).2 b)
            · rw [List.length_append]; omega
            · refine Nat.lt_of_lt_of_le (m := left.length) (Nat.lt_of_le_of_ne (List.length_filter_le _ _) fun e => ?_) (by omega)
              have := (List.length_filter_eq_length_iff.mp e) cl hcl
              simp at this
            · exact hdk
            · rcases List.mem_append.mp hd with hd | hd
              · exact so d hd
              · obtain rfl : d = cl := by simpa using hd
                exact okc
            · have : (left.filter fun d => decide (d ≠ cl)).length < left.length := by
                refine Nat.lt_of_le_of_ne (List.length_filter_le _ _) fun e => ?_
                have := (List.length_filter_eq_length_iff.mp e) cl hcl
                simp at this
              rw [List.length_append, List.length_singleton]
              omega
          · rw [filter_true] at two4
            have e1 : (cl.map fun _ => true).all id = true := by rw [List.all_map]; exact List.all_eq_true.mpr fun _ _ => rfl
            refine ⟨D9, _, rfl, .inl (.inl (by rw [← two_bl two4]; exact hy)), ?_⟩
            rw [e1]
            exact q H4 (s13.trans s4)
end
end OW
end
section
set_option linter.all false
set_option maxRecDepth 100000
set_option maxHeartbeats 4000000
set_option autoImplicit false
/- P15: tree_holds; the deck. -/
namespace OW
open PySem L2
section
variable {P : Program} {w : World} {K : PySem.W.Frag} {mg : Str → Option Value} {base : Heap}
theorem all_hbe {f fh fr : Addr} {fd dh dr : FuncData} (B : Bl K mg) (D : Df K mg "holds_below" sHbe ["clauses", "held", "split", "thing"] f fd)
    (DH : Df K mg "has_bools" sHas ["value"] fh dh) (GH : FnOk P w K mg base CX0 60 fh dh ["value"] (spHas K 60)) (DR : Df K mg "ring_holds" sRho ["atoms", "thing"] fr dr) (GR : FnOk P w K mg base CX0 61 fr dr ["atoms", "thing"] (spRho K)) :
    ∀ n : Nat, FnOk P w K mg base CX0 (n + 61) f fd ["clauses", "held", "split", "thing"] (spHbe K n)
  | 0 => by
    have no : ∀ vs H Q E, ¬ spHbe K 0 vs H Q E := fun vs H Q E h => by
      obtain ⟨_, _, _, _, _, _, _, _, _, _, _, _, _, _, _, _, _, _, _, h1, _⟩ := h
      omega
    exact ⟨fun vs H Q E h => absurd h (no vs H Q E), fun A outer s H args us vs Q E _ _ _ _ h => absurd h (no vs H Q E)⟩
  | n + 1 => by
    have e : n + 1 + 61 = n + 62 := by omega
    rw [e]
    exact ok_hbe B D (all_hbe B D DH GH DR GR n) DH GH DR GR
theorem all_has {f : Addr} {fd : FuncData} (B : Bl K mg) (D : Df K mg "has_bools" sHas ["value"] f fd) : ∀ n : Nat, FnOk P w K mg base CX0 n f fd ["value"] (spHas K n)
  | 0 => by
    have no : ∀ vs H Q E, ¬ spHas K 0 vs H Q E := fun vs H Q E h => by
      obtain ⟨_, _, _, _, h1, _⟩ := h
      omega
    exact ⟨fun vs H Q E h => absurd h (no vs H Q E), fun A outer s H args us vs Q E _ _ _ _ h => absurd h (no vs H Q E)⟩
  | n + 1 => ok_has B D (all_has B D n)
abbrev sTho : Stmt := top 28
theorem scTho : FnScope ["clauses", "thing"] ["clauses", "thing"] (defScope sTho) := ⟨rfl, rfl, rfl, by decide +kernel, rfl, by decide +kernel, by decide +kernel⟩
def spTho (K : PySem.W.Frag) : Sp := fun vs H Q _ => ∃ (c : Addr) (th : V) (cs : List Cla) (tr : NestedKey), vs = [.ref c, th] ∧ Sx K H (cs.map claK) c ∧ (∀ d ∈ cs, ClaOk d) ∧ (allA cs).length ≤ 500 ∧ (leftOf cs).length < 20 ∧ Nk K H tr th ∧ Acc (sureA cs) (leftOf cs) tr ∧ ∀ H', Same H H' → Q (.bl true) H'
theorem ok_tho {f fb fq : Addr} {fd db dq : FuncData} (D : Df K mg "tree_holds" sTho ["clauses", "thing"] f fd) (DB : Df K mg "holds_below" sHbe ["clauses", "held", "split", "thing"] fb db) (GB : FnOk P w K mg base CX0 81 fb db ["clauses", "held", "split", "thing"] (spHbe K 20))
    (DQ : Df K mg "sure_atoms" sSur ["clauses"] fq dq) (GQ : FnOk P w K mg base CX0 1 fq dq ["clauses"] (spSur K)) : FnOk P w K mg base CX0 82 f fd ["clauses", "thing"] (spTho K) := by
  refine D.fn.ok scTho (fun vs H Q E h => ?_) (fun cdv A outer s H vs Q E hr h => ?_)
  · obtain ⟨c, th, cs, tr, rfl, _⟩ := h
    rfl
  obtain ⟨c, th, cs, tr, rfl, hS, ok, hlen, hleft, ht, acc, q⟩ := h
  have hr1 := hr.mono (j := 1) (by decide)
  refine ⟨_, pss_one (ps_ret (pe_call GB hr rfl DB.m DB.kp DB.b .nil pass0 (pa_cons (pv 0) (pa_cons (pe_call GQ hr1 rfl DQ.m DQ.kp DQ.b .nil pass0 (pa_cons (pv 0) pa_nil)) (pa_cons (pe_lst pa_nil) (pa_cons (pv 1) pa_nil)))))), ?_⟩
  have sok : ∀ b ∈ sureA cs, AtoOk b := fun b hb => by
    obtain ⟨a, ha, hba⟩ := mem_sureA.mp hb
    exact ((ok _ ha).2 a (by simp)).2 b hba
  have lok : ∀ d ∈ leftOf cs, ClaOk d := fun d hd => ok d (List.mem_filter.mp hd).1
  refine ⟨_, rfl, _, rfl, c, cs, rfl, hS, ok, by omega, fun p H1 S s1 hp hL ndS mem => ⟨Nat.zero_le _, fun e he => ⟨_, rfl, ?_⟩⟩⟩
  have s2 := same_upd (o := .lst []) he
  have s12 := s1.trans s2
  have h1 := nodup_sub' S cs ndS mem
  have accS := acc.mono (held' := S) (left' := leftOf cs) (fun b hb => (mem b).mpr hb) fun _ h => h
  have dep := acc.depth 20 (by omega) sok lok
  refine ⟨c, p, e, th, cs, S, leftOf cs, [], tr, rfl, hS.same s12, hL.same s2, ⟨[], upd_same, .nil⟩, Nk.same ht s12, accS, fun d hd => ⟨(List.mem_filter.mp hd).1, by simp⟩, ok, fun b hb => sok b ((mem b).mp hb), by omega, hleft, by omega, (fun d hd => (nomatch hd)), by rw [List.length_nil]; omega, fun H3 s3 => q H3 (s12.trans s3)⟩
end
/-! ### the deck -/
abbrev kCe : Str := "cells"
abbrev kMi : Str := "mixed"
abbrev kDr : Str := "drawn"
theorem ne_cm : ¬ kCe = kMi := by decide +kernel
theorem ne_cd : ¬ kCe = kDr := by decide +kernel
theorem ne_md : ¬ kMi = kDr := by decide +kernel
theorem ne_mc : ¬ kMi = kCe := by decide +kernel
theorem ne_dc : ¬ kDr = kCe := by decide +kernel
theorem ne_dm : ¬ kDr = kMi := by decide +kernel
def dk (c : Addr) (m n : Int) : List (Key × V) := [(Sum.inr kCe, .ref c), (Sum.inr kMi, .int m), (Sum.inr kDr, .int n)]
theorem inr_ne {x y : Str} (h : ¬ x = y) : ¬ (Sum.inr x : Key) = Sum.inr y := fun e => h (Sum.inr.inj e)
theorem dk_cells (c : Addr) (m n : Int) : valV (dk c m n) (Sum.inr kCe) = some (.ref c) := valV_pos rfl
theorem dk_mixed (c : Addr) (m n : Int) : valV (dk c m n) (Sum.inr kMi) = some (.int m) := by
  unfold dk
  rw [valV_neg (inr_ne ne_cm), valV_pos rfl]
theorem dk_drawn (c : Addr) (m n : Int) : valV (dk c m n) (Sum.inr kDr) = some (.int n) := by
  unfold dk
  rw [valV_neg (inr_ne ne_cd), valV_neg (inr_ne ne_md), valV_pos rfl]
theorem dk_put (c : Addr) (m n k : Int) : putK (dk c m n) (Sum.inr kDr) (.int k) = dk c m k := by
  unfold putK
  rw [valV_any, dk_drawn, if_pos (show (some (V.int n)).isSome = true from rfl)]
  unfold dk
  rw [List.map_cons, List.map_cons, List.map_cons, List.map_nil, if_neg (inr_ne ne_cd), if_neg (inr_ne ne_md), if_pos rfl]
structure Deck (H : Hp) (d c : Addr) (n : Nat) : Prop where
  ex : ∃ (m : Int) (xs : List Int) (k : Nat), H d = some (.dK (dk c m k)) ∧ H c = some (.lst (xs.map V.int)) ∧ 0 ≤ m ∧ m < 2147483587 ∧ k ≤ n ∧ xs.length ≤ 63
theorem Deck.ne {H : Hp} {d c : Addr} {n : Nat} (D : Deck H d c n) : d ≠ c := by
  obtain ⟨m, xs, k, h1, h2, _⟩ := D.ex
  exact ne_of h1 h2 (by intro q; cases q)
theorem Deck.le {H : Hp} {d c : Addr} {n m : Nat} (D : Deck H d c n) (h : n ≤ m) : Deck H d c m := by
  obtain ⟨a, xs, k, h1, h2, h3, h4, h5, h6⟩ := D.ex
  exact ⟨a, xs, k, h1, h2, h3, h4, Nat.le_trans h5 h, h6⟩
theorem Deck.same {H H' : Hp} {d c : Addr} {n : Nat} (D : Deck H d c n) (s : Same H H') : Deck H' d c n := by
  obtain ⟨a, xs, k, h1, h2, r⟩ := D.ex
  exact ⟨a, xs, k, s _ _ h1, s _ _ h2, r⟩
/-- all stays but the deck at d, c -/
abbrev Fr (d c : Addr) (H H' : Hp) : Prop := But2 d c H H'
theorem Fr.trans {d c : Addr} {H H1 H2 : Hp} (a : Fr d c H H1) (b : Fr d c H1 H2) : Fr d c H H2 := fun x o h1 h2 e => b x o h1 h2 (a x o h1 h2 e)
theorem Fr.of {d c : Addr} {H H1 : Hp} (s : Same H H1) : Fr d c H H1 := fun x o _ _ e => s x o e
theorem Fr.tk {H H' : Hp} {d c : Addr} {n : Nat} (f : Fr d c H H') (D : Deck H d c n) : Tk H H' := by
  obtain ⟨m, xs, k, h1, h2, _⟩ := D.ex
  have ne : ∀ b o, H b = some o → (∀ kvs, o ≠ .dK kvs) → (∀ xs, o ≠ .lst xs) → H' b = some o := fun b o e n1 n2 => f b o (fun z => by
    rw [z, h1] at e
    exact n1 _ (Option.some.inj e).symm) (fun z => by
    rw [z, h2] at e
    exact n2 _ (Option.some.inj e).symm) e
  exact ⟨fun b xs e => ne b _ e (fun _ q => by cases q) (fun _ q => by cases q), fun b o u e => ne b _ e (fun _ q => by cases q) (fun _ q => by cases q)⟩
theorem Fr.lx {K : PySem.W.Frag} {H H' : Hp} {d c : Addr} {n : Nat} (f : Fr d c H H') (D : Deck H d c n) {ks : List NestedKey} {a : Addr} (h : Lx K H ks a) (hc : a ≠ c) : Lx K H' ks a := by
  obtain ⟨xs, h1, h2⟩ := h
  obtain ⟨m, ys, k, g1, _⟩ := D.ex
  refine ⟨xs, f a _ (fun z => by rw [z, g1] at h1; cases h1) hc h1, NkAll.tk (f.tk D) _ _ h2⟩
end OW
end
section
set_option linter.all false
set_option maxRecDepth 100000
set_option maxHeartbeats 4000000
set_option autoImplicit false
/- P16: _law_deck, _law_draw, _law_pick. -/
namespace OW
open PySem L2
section
variable {P : Program} {w : World} {K : PySem.W.Frag} {mg : Str → Option Value} {base : Heap}
abbrev sDk : Stmt := top 30
abbrev nDk : List Str := ["_law_script", "_law_cells", "_law_mixed_here", "_law_cell"]
theorem scDk : FnScope nDk ["_law_script"] (defScope sDk) := ⟨rfl, rfl, rfl, by decide +kernel, rfl, by decide +kernel, by decide +kernel⟩
def spDk (K : PySem.W.Frag) : Sp := fun vs H Q _ => ∃ (a : Addr) (ns : List Int), vs = [.ref a] ∧ SqL K H a (ns.map V.int) ∧ ns.length ≤ 63 ∧ ∀ d c H', Same H H' → H d = none → H c = none → Deck H' d c 0 → Q (.ref d) H'
theorem cut_all (xs : List V) (h : xs.length ≤ 63) : cutV xs none (some 63) = xs := by
  unfold cutV
  rw [show HT.sIx xs.length xs.length (some 63) = min 63 xs.length from HT.sIx_nat xs.length xs.length 63, HT.sIx_none, show min 63 xs.length = xs.length by omega, List.drop_zero, Nat.sub_zero, List.take_length]
theorem ok_dk {f : Addr} {fd : FuncData} (B : Bl K mg) (D : Df K mg "_law_deck" sDk ["_law_script"] f fd) : FnOk P w K mg base CX0 1 f fd ["_law_script"] (spDk K) := by
  refine D.fn.ok scDk (fun vs H Q E h => ?_) (fun cdv A outer s H vs Q E hr h => ?_)
  · obtain ⟨a, ns, rfl, _⟩ := h
    rfl
  obtain ⟨a, ns, rfl, hS, hlen, q⟩ := h
  refine ⟨_, pss_cons (ps_par rfl scDk.nd (i := 1) (j := 2) rfl rfl (by decide) rfl rfl (pa_cons (pe_callTy call_list_of (by rfl) B.list PyProof.Rows.boot_list (pa_cons (pe_slice sl_list (pv 0) po_none (po_some pe_int)) pa_nil)) (pa_cons pe_int pa_nil)) (by rfl))
    (pss_cons (ps_for PassesOwn.never rfl (pi_list (pv 1)) (pg_name (i := 3) scDk.nd rfl (.inl rfl))
      (pss_one (ps_set (i := 2) scDk.nd rfl (.inl rfl) (pe_op op_mod (pe_op op_add (pe_op op_add (pe_op op_mul (pv 2) pe_int) (pe_op op_mod (pv 3) pe_int)) pe_int) pe_int))))
    (pss_one (ps_ret (pe_disp (pps_cons pe_str (pe_revL (pv 1)) (pps_cons pe_str (pv 2) (pps_cons pe_str pe_int pps_nil))) (by rfl) (by rfl) (fun z => by cases z) (by decide))))), ?_⟩
  refine ⟨_, rfl, 63, rfl, a, _, rfl, hS, fun p hp => ?_⟩
  rw [cut_all _ (by rw [List.length_map]; exact hlen)]
  have s1 := same_upd (o := .lst (ns.map V.int)) hp
  refine ⟨p, _, rfl, .inl (.inl (.inl upd_same)), fun l hl => ⟨_, _, rfl, ?_⟩⟩
  have s2 := same_upd (o := .lst (ns.map V.int)) hl
  refine ⟨_, rfl, l, rfl, ⟨_, .inl (.inl upd_same)⟩, ?_⟩
  refine for_list (K := K) (xs := ns.map V.int) (fun i σ H' => ∃ m y3, σ = [some (.ref a), some (.ref l), some (.int m), y3] ∧ H' = upd (upd H p (.lst (ns.map V.int))) l (.lst (ns.map V.int)) ∧ 0 ≤ m ∧ m < 2147483587)
    ⟨52027, none, rfl, rfl, by decide, by decide⟩ (fun i σ H' _ h => by obtain ⟨_, _, _, rfl, _⟩ := h; exact .inl (.inl upd_same)) ?_ ?_
  · rintro i x σ H' hx ⟨m, y3, rfl, rfl, h0, h1⟩
    obtain ⟨n, hn, rfl⟩ : ∃ n, ns[i]? = some n ∧ x = V.int n := by
      rw [List.getElem?_map] at hx
      cases q0 : ns[i]? with
      | none => rw [q0] at hx; cases hx
      | some n => rw [q0] at hx; exact ⟨n, rfl, (Option.some.inj hx).symm⟩
    refine ⟨_, rfl, _, _, rfl, rfl, .inr ⟨by decide, by decide⟩, _, rfl, _, _, rfl, rfl, (by show (0 : Int) < 2147483629; decide), _, _, rfl, rfl, _, _, rfl, rfl, _, _, rfl, rfl, (by show (0 : Int) < 2147483587; decide), ?_⟩
    exact ⟨_, _, rfl, rfl, Int.emod_nonneg _ (by decide), Int.emod_lt_of_pos _ (by decide)⟩
  · rintro σ H' ⟨m, y3, rfl, rfl, h0, h1⟩
    intro d hd
    have s3 := same_upd (o := .dK []) hd
    refine ⟨_, rfl, l, _, rfl, .inl (.inl (s3 _ _ upd_same)), fun c hc => ⟨_, rfl, ?_⟩⟩
    have hdc : d ≠ c := ne_of_none upd_same hc
    refine ⟨Eq.trans (upd_ne hdc) upd_same, [(Sum.inr kCe, .ref c), (Sum.inr kMi, .int m), (Sum.inr kDr, .int 0)], rfl, by show 3 ≤ 15; omega, ?_⟩
    have e : mergeK [] [((Sum.inr kCe : Key), V.ref c), (Sum.inr kMi, .int m), (Sum.inr kDr, .int 0)] = dk c m 0 := by
      show putK (putK (putK ([] : List (Key × V)) (Sum.inr kCe) (.ref c)) (Sum.inr kMi) (.int m)) (Sum.inr kDr) (.int 0) = _
      have e1 : putK ([] : List (Key × V)) (Sum.inr kCe) (.ref c) = [(Sum.inr kCe, .ref c)] := rfl
      have e2 : putK [((Sum.inr kCe : Key), V.ref c)] (Sum.inr kMi) (.int m) = [(Sum.inr kCe, .ref c), (Sum.inr kMi, .int m)] := by
        unfold putK
        rw [valV_any, valV_neg (inr_ne ne_cm)]
        rfl
      have e3 : putK [((Sum.inr kCe : Key), V.ref c), (Sum.inr kMi, .int m)] (Sum.inr kDr) (.int 0) = dk c m 0 := by
        unfold putK
        rw [valV_any, valV_neg (inr_ne ne_cd), valV_neg (inr_ne ne_md)]
        rfl
      rw [e1, e2, e3]
    rw [e]
    have hd0 : H d = none := (s1.trans s2).free hd
    have hc0 : H c = none := (s1.trans (s2.trans s3)).free hc
    refine q d c _ (fun b o e => ?_) hd0 hc0 ⟨m, ns.reverse, 0, upd_same, ?_, h0, h1, Nat.le_refl _, by rw [List.length_reverse]; exact hlen⟩
    · rw [upd_ne (ne_of_none e hd0), upd_ne (ne_of_none e hc0)]
      exact s3 _ _ (s2 _ _ (s1 _ _ e))
    · rw [upd_ne hdc.symm, upd_same, List.map_reverse]
/-! ### _law_draw -/
theorem dg_cells {H : Hp} {d c : Addr} {m n : Int} (h : H d = some (.dK (dk c m n))) : DGet H d (.str kCe) (some (.ref c)) := .inl ⟨_, Sum.inr kCe, .inl h, rfl, (dk_cells c m n).symm⟩
theorem dg_mixed {H : Hp} {d c : Addr} {m n : Int} (h : H d = some (.dK (dk c m n))) : DGet H d (.str kMi) (some (.int m)) := .inl ⟨_, Sum.inr kMi, .inl h, rfl, (dk_mixed c m n).symm⟩
theorem dg_drawn {H : Hp} {d c : Addr} {m n : Int} (h : H d = some (.dK (dk c m n))) : DGet H d (.str kDr) (some (.int n)) := .inl ⟨_, Sum.inr kDr, .inl h, rfl, (dk_drawn c m n).symm⟩
abbrev sDr : Stmt := top 31
abbrev nDr : List Str := ["_law_deck_here", "_law_ways", "_law_turn", "_law_cell", "_law_mixed_here"]
theorem scDr : FnScope nDr ["_law_deck_here", "_law_ways"] (defScope sDr) := ⟨rfl, rfl, rfl, by decide +kernel, rfl, by decide +kernel, by decide +kernel⟩
def spDr : Sp := fun vs H Q _ => ∃ (d c : Addr) (n : Nat) (wy : Int), vs = [.ref d, .int wy] ∧ Deck H d c n ∧ n ≤ 1000000 ∧ 0 < wy ∧ wy < 1073741824 ∧ ∀ H' r, 0 ≤ r → r < wy → Deck H' d c (n + 1) → Fr d c H H' → Q (.int r) H'
theorem nks_ints {H : Hp} : ∀ xs : List Int, NkAll K H (xs.map NestedKey.num) (xs.map V.int)
  | [] => .nil
  | x :: xs => .cons (.num x) (nks_ints xs)
theorem ok_dr {f : Addr} {fd : FuncData} (D : Df K mg "_law_draw" sDr ["_law_deck_here", "_law_ways"] f fd) : FnOk P w K mg base CX0 1 f fd ["_law_deck_here", "_law_ways"] spDr := by
  refine D.fn.ok scDr (fun vs H Q E h => ?_) (fun cdv A outer s H vs Q E hr h => ?_)
  · obtain ⟨d, c, n, wy, rfl, _⟩ := h
    rfl
  obtain ⟨d, c, n, wy, rfl, DK, hn, hw, hw2, q⟩ := h
  have hu := hu_of hr
  refine ⟨_, pss_cons (ps_dput hu (pv 0) pe_str (pe_op op_add (pe_dget hu (pv 0) pe_str (fun _ _ => rfl)) pe_int) rfl)
    (pss_cons (ps_par rfl scDr.nd (i := 2) (j := 3) rfl rfl (by decide) rfl rfl (pa_cons (pe_dget hu (pv 0) pe_str (fun _ _ => rfl)) (pa_cons (pe_dget hu (pv 0) pe_str (fun _ _ => rfl)) pa_nil)) (by rfl))
    (pss_cons (ps_if (pt_cmpR (op_neNL hr.units) (pe_dget hu (pv 0) pe_str (fun _ _ => rfl)) (pe_lst pa_nil) (nomark _))
      (pss_cons (ps_set (i := 3) scDr.nd rfl (.inl rfl) (pe_bm0 PySem.F.plainAttrs_list PySem.F.slot_list_pop PySem.F.type_list_pop mt_pop (pe_dget hu (pv 0) pe_str (fun _ _ => rfl))))
      (pss_cons (ps_if (pt_cmpR op_ge (pv 3) (pe_op op_pow pe_int pe_int) (nomark _))
        (pss_cons (ps_expr (pe_bm PySem.F.plainAttrs_list PySem.F.slot_list_append PySem.F.type_list_append mt_append (pe_dget hu (pv 0) pe_str (fun _ _ => rfl)) (pa_cons (pe_op op_fdiv (pv 3) (pv 1)) pa_nil)))
        (pss_one (ps_ret (pe_op op_mod (pv 3) (pv 1))))) pss_nil)
      (pss_one (ps_set (i := 3) scDr.nd rfl (.inl rfl) (pe_op op_add (pv 3) (pe_dget hu (pv 0) pe_str (fun _ _ => rfl))))))) pss_nil)
    (pss_cons (ps_set (i := 4) scDr.nd rfl (.inl rfl) (pe_op op_mod (pe_op op_mul (pe_op op_add (pe_op op_add (pe_op op_mod (pv 3) pe_int) (pe_op op_mul (pe_op op_mul pe_int (pv 2)) (pv 2))) pe_int) pe_int) pe_int))
    (pss_cons (ps_set (i := 4) scDr.nd rfl (.inl rfl) (pe_op op_mod (pe_op op_add (pe_op op_add (pe_op op_mul (pv 4) (pv 4)) (pe_op op_mul pe_int (pv 2))) pe_int) pe_int))
    (pss_one (ps_ret (pe_op op_mod (pe_op op_fdiv (pe_op op_mod (pe_op op_mul (pv 4) pe_int) pe_int) pe_int) (pv 1)))))))), ?_⟩
  have hdc := DK.ne
  obtain ⟨m, xs, k, hd, hc, h0, h1, hk, hx⟩ := DK.ex
  refine ⟨_, rfl, d, .int k, rfl, dg_drawn hd, _, _, rfl, rfl, _, rfl, d, _, rfl, DPut.k (k := Sum.inr kDr) hd (by show 3 < sizeLine; decide), ?_⟩
  rw [dk_put]
  have hd1 : (upd H d (.dK (dk c m ((k : Int) + 1)))) d = some (.dK (dk c m ((k + 1 : Nat) : Int))) := upd_same
  have hc1 : (upd H d (.dK (dk c m ((k : Int) + 1)))) c = some (.lst (xs.map V.int)) := by rw [upd_ne hdc.symm]; exact hc
  have fr1 : Fr d c H (upd H d (.dK (dk c m ((k : Int) + 1)))) := fun b o h1 h2 e => by rw [upd_ne h1]; exact e
  generalize upd H d (.dK (dk c m ((k : Int) + 1))) = H1 at hd1 hc1 fr1
  refine ⟨_, rfl, d, _, rfl, dg_drawn hd1, _, rfl, d, _, rfl, dg_mixed hd1, _, _, rfl, ?_⟩
  refine ⟨_, rfl, d, _, rfl, dg_cells hd1, Nat.zero_le _, fun e he => ?_⟩
  have s2 := same_upd (o := .lst []) he
  have hd2 := s2 _ _ hd1
  have hc2 := s2 _ _ hc1
  have fr2 : Fr d c H (upd H1 e (.lst [])) := fr1.trans (Fr.of s2)
  refine ⟨c, e, _, [], xs.map NestedKey.num, [], rfl, rfl, .inl (.inl hc2), nks_ints xs, .inl (.inl upd_same), .nil, ?_, by decide, _, rfl, ?_⟩
  · exact depthAll_le fun k hk => by
      obtain ⟨i, _, rfl⟩ := List.mem_map.mp hk
      simp [NestedKey.depth]
  generalize upd H1 e (.lst []) = H2 at hd2 hc2 fr2
  refine ite2 (fun z => ?_) (fun z => ?_)
  · -- a cell of the script's
    have hne : xs ≠ [] := fun e => by rw [e] at z; simp at z
    obtain ⟨ys, x, rfl⟩ : ∃ ys x, xs = ys ++ [x] := by
      rcases List.eq_nil_or_concat xs with e | ⟨ys, x, e⟩
      · exact absurd e hne
      · exact ⟨ys, x, by rw [e]; simp⟩
    have hlast : ((ys ++ [x]).map V.int)[((ys ++ [x]).map V.int).length - 1]? = some (V.int x) := by simp
    have hdrop : ((ys ++ [x]).map V.int).dropLast = ys.map V.int := by simp
    have hyl : ys.length < 63 := by simp at hx; omega
    refine ⟨_, rfl, d, _, rfl, dg_cells hd2, .inl ⟨rfl, _, .inl (.inl hc2)⟩, c, _, .int x, rfl, rfl, hc2, hlast, ?_⟩
    rw [hdrop]
    have hd3 : (upd H2 c (.lst (ys.map V.int))) d = some (.dK (dk c m ((k + 1 : Nat) : Int))) := by rw [upd_ne hdc]; exact hd2
    have hc3 : (upd H2 c (.lst (ys.map V.int))) c = some (.lst (ys.map V.int)) := upd_same
    have fr3 : Fr d c H (upd H2 c (.lst (ys.map V.int))) := fun b o h1 h2 e => by rw [upd_ne h2]; exact fr2 b o h1 h2 e
    generalize upd H2 c (.lst (ys.map V.int)) = H3 at hd3 hc3 fr3
    refine ⟨_, rfl, _, _, rfl, rfl, ⟨by decide, by decide, by decide⟩, _, _, rfl, rfl, _, rfl, ?_⟩
    refine ite2 (fun _ => ?_) (fun _ => ?_)
    · refine ⟨_, rfl, d, _, rfl, dg_cells hd3, .inl ⟨rfl, _, .inl (.inl hc3)⟩, _, rfl, _, rfl, _, _, rfl, rfl, ⟨hw, hw2⟩, c, _, _, rfl, rfl, hc3, by rw [List.length_map]; exact small6 (by omega), ?_⟩
      refine ⟨_, rfl, _, rfl, _, _, rfl, rfl, hw, ?_⟩
      refine q _ _ (Int.emod_nonneg _ (by omega)) (Int.emod_lt_of_pos _ hw) ⟨m, ys ++ [x / wy], k + 1, ?_, ?_, h0, h1, by omega, by rw [List.length_append, List.length_singleton]; omega⟩ fun b o h1 h2 e => ?_
      · rw [upd_ne hdc]; exact hd3
      · rw [upd_same, List.map_append]; rfl
      · rw [upd_ne h2]; exact fr3 b o h1 h2 e
    · refine ⟨_, rfl, _, rfl, d, _, rfl, dg_mixed hd3, _, _, rfl, rfl, ?_⟩
      refine ⟨_, rfl, _, _, rfl, rfl, (by show (0 : Int) < 2147483629; decide), _, rfl, _, _, rfl, rfl, .inl ⟨by decide, by decide⟩, _, rfl, _, _, rfl, rfl, .inr ⟨by omega, by omega⟩, _, _, rfl, rfl, _, _, rfl, rfl, _, _, rfl, rfl, .inr ⟨by decide, by decide⟩, _, _, rfl, rfl, (by show (0 : Int) < 2147483647; decide), ?_⟩
      refine ⟨_, rfl, _, rfl, _, _, rfl, rfl, .inl ⟨Int.lt_of_lt_of_le (by decide) (Int.emod_nonneg _ (by decide)), Int.lt_trans (Int.emod_lt_of_pos _ (by decide)) (by decide)⟩, _, rfl, _, _, rfl, rfl, .inl ⟨by decide, by decide⟩, _, _, rfl, rfl, _, _, rfl, rfl, _, _, rfl, rfl, (by show (0 : Int) < 2147483587; decide), ?_⟩
      refine ⟨_, rfl, _, _, rfl, rfl, .inr ⟨by decide, by decide⟩, _, _, rfl, rfl, (by show (0 : Int) < 2147483563; decide), _, _, rfl, rfl, ⟨by decide, by decide⟩, _, rfl, _, _, rfl, rfl, hw, ?_⟩
      exact q _ _ (Int.emod_nonneg _ (by omega)) (Int.emod_lt_of_pos _ hw) ⟨m, ys, k + 1, hd3, hc3, h0, h1, by omega, by omega⟩ fr3
  · refine ⟨_, rfl, _, _, rfl, rfl, (by show (0 : Int) < 2147483629; decide), _, rfl, _, _, rfl, rfl, .inl ⟨by decide, by decide⟩, _, rfl, _, _, rfl, rfl, .inr ⟨by omega, by omega⟩, _, _, rfl, rfl, _, _, rfl, rfl, _, _, rfl, rfl, .inr ⟨by decide, by decide⟩, _, _, rfl, rfl, (by show (0 : Int) < 2147483647; decide), ?_⟩
    refine ⟨_, rfl, _, rfl, _, _, rfl, rfl, .inl ⟨Int.lt_of_lt_of_le (by decide) (Int.emod_nonneg _ (by decide)), Int.lt_trans (Int.emod_lt_of_pos _ (by decide)) (by decide)⟩, _, rfl, _, _, rfl, rfl, .inl ⟨by decide, by decide⟩, _, _, rfl, rfl, _, _, rfl, rfl, _, _, rfl, rfl, (by show (0 : Int) < 2147483587; decide), ?_⟩
    refine ⟨_, rfl, _, _, rfl, rfl, .inr ⟨by decide, by decide⟩, _, _, rfl, rfl, (by show (0 : Int) < 2147483563; decide), _, _, rfl, rfl, ⟨by decide, by decide⟩, _, rfl, _, _, rfl, rfl, hw, ?_⟩
    exact q _ _ (Int.emod_nonneg _ (by omega)) (Int.emod_lt_of_pos _ hw) ⟨m, xs, k + 1, hd2, hc2, h0, h1, by omega, hx⟩ fr2
end
end OW
end
section
set_option linter.all false
set_option maxRecDepth 100000
set_option maxHeartbeats 4000000
set_option autoImplicit false
/- P17: _law_pick, _law_hidden. -/
namespace OW
open PySem L2
theorem pe_bmC {X : Cx} {K : PySem.W.Frag} {o e : Expr} {es : List Expr} {to : TE} {t : TA} {name : Str} {apos cpos : Pos} {T id : String} {r : V → List V → Hp → VK → Prop} (hK : X.K = K) (pa : PlainAttrs T) (slot : Slot T name id) (hty : typeOf (.builtin id) = pure (.type "method_descriptor")) (hm : MtR X id r) (ho : PE X o to) (ha : PA X (e :: es) t)
    (hbase : attributeBase o name X.env (eval o X.env) = eval o X.env := by rfl)
    (hfew : ((backTo cpos (starEach (e :: es) X.env)).all (fun x => !x.1) && (backToKw cpos (keywordEach [] X.env)).all (fun x => x.1.isSome)
      && decide ((e :: es).length + ([] : List Keyword).length + (if ([] : List Keyword).isEmpty then 0 else 1) < 30)) = true := by rfl)
    (hline : (apos.endLine == cpos.line) = true := by rfl) (hs : starEach (e :: es) X.env = (false, eval e X.env) :: starEach es X.env := by rfl) (hplain : (backTo cpos (starEach es X.env)).any (·.1) = false := by rfl) :
    PE X (.Call (.Attribute o name apos) (e :: es) [] cpos) (tBM K T r to t) := by
  subst hK
  exact pe_bm pa slot hty hm ho ha hbase hfew hline hs hplain
theorem ix_listC {X : Cx} {K : PySem.W.Frag} (hK : X.K = K) : IxR X (rIxL K) := by subst hK; exact ix_list
/-! ### lists: a place taken out -/
theorem perm_erase {α : Type} : ∀ {l : List α} {i : Nat} {x : α}, l[i]? = some x → l.Perm (x :: l.eraseIdx i)
  | [], _, _, h => by simp at h
  | y :: l, 0, x, h => by
    simp at h
    subst h
    exact .refl _
  | y :: l, i + 1, x, h => by
    have ih := perm_erase (l := l) (i := i) (x := x) (by simpa using h)
    exact (ih.cons y).trans (.swap _ _ _)
theorem nkall_erase {K : PySem.W.Frag} {H : Hp} : ∀ {ks : List NestedKey} {vs : List V} (i : Nat), NkAll K H ks vs → NkAll K H (ks.eraseIdx i) (vs.eraseIdx i)
  | _, _, _, .nil => .nil
  | _, _, 0, .cons _ t => t
  | _, _, i + 1, .cons h t => .cons h (nkall_erase i t)
theorem map_erase {α β : Type} (f : α → β) : ∀ (l : List α) (i : Nat), (l.eraseIdx i).map f = (l.map f).eraseIdx i
  | [], _ => rfl
  | _ :: _, 0 => rfl
  | x :: l, i + 1 => by
    show f x :: (l.eraseIdx i).map f = f x :: (l.map f).eraseIdx i
    rw [map_erase f l i]
theorem seq_at {n : Nat} {r : Int} (h0 : 0 ≤ r) (h1 : r < n) : seqIndex? r n = some r.toNat := by
  have e : ixN n r = some r.toNat := by
    unfold ixN
    rw [if_pos h0, if_pos h1]
  exact (ixN_seq e).1
theorem atI_at {α : Type} {xs : List α} {r : Int} {x : α} (h0 : 0 ≤ r) (h : xs[r.toNat]? = some x) : atI xs r = some x := by
  have e : r = ((r.toNat : Nat) : Int) := by omega
  rw [e]
  exact atI_nat h
/-! ### the hidden values -/
def hk (p : NestedKey × Int) : NestedKey := .tup [p.1, .num p.2]
structure HidOk (hs : List (NestedKey × Int)) (m : Nat) : Prop where
  len : hs.length = m
  nd : (hs.map (·.1)).Nodup
  unk : ∀ p ∈ hs, Unk p.1
  zero : (ZK, 0) ∈ hs
theorem HidOk.perm {hs gs : List (NestedKey × Int)} {m : Nat} (h : HidOk hs m) (p : gs.Perm hs) : HidOk gs m :=
  ⟨p.length_eq.trans h.len, (p.map _).nodup_iff.mpr h.nd, fun q hq => h.unk q (p.mem_iff.mp hq), p.mem_iff.mpr h.zero⟩
def roleN (i : Nat) : Str := match i % 4 with | 0 => "written" | 1 => "other" | 2 => "first" | _ => "second"
def colN (i : Nat) : Str := match i / 4 % 4 with | 0 => "#" | 1 => "a" | 2 => "bb" | _ => "c"
def rowN (i : Nat) : List Int := match i % 3 with | 0 => [(i : Int)] | 1 => [(i : Int), 0] | _ => [0, 1, (i : Int)]
def unkN (i : Nat) : NestedKey := .tup [.text (roleN i), .tup ((rowN i).map .num), .text (colN i)]
theorem rowN_inj {i j : Nat} (h : rowN i = rowN j) : i = j := by
  unfold rowN at h
  split at h <;> split at h <;> simp at h <;> omega
theorem num_inj {l m : List Int} (h : l.map NestedKey.num = m.map NestedKey.num) : l = m := map_inj (fun _ _ e => NestedKey.num.inj e) h
theorem unkN_inj {i j : Nat} (h : unkN i = unkN j) : i = j := by
  unfold unkN at h
  injection h with h
  injection h with _ h
  injection h with h _
  injection h with h
  exact rowN_inj (num_inj h)
theorem unkN_unk (i : Nat) : Unk1 (unkN i) := ⟨_, _, _, rfl⟩
section
variable {P : Program} {w : World} {K : PySem.W.Frag} {mg : Str → Option Value} {base : Heap}
abbrev sPk : Stmt := top 32
abbrev nPk : List Str := ["_law_deck_here", "_law_some"]
theorem scPk : FnScope nPk nPk (defScope sPk) := ⟨rfl, rfl, rfl, by decide +kernel, rfl, by decide +kernel, by decide +kernel⟩
def spPk (K : PySem.W.Frag) : Sp := fun vs H Q _ => ∃ (d c a : Addr) (n : Nat) (xs : List V), vs = [.ref d, .ref a] ∧ Deck H d c n ∧ n ≤ 1000000 ∧ H a = some (.lst xs) ∧ a ≠ c ∧ 0 < xs.length ∧ xs.length < 1000 ∧ ∀ H' x, x ∈ xs → Deck H' d c (n + 1) → Fr d c H H' → Q x H'
theorem ok_pk {f fr : Addr} {fd dr : FuncData} (B : Bl K mg) (D : Df K mg "_law_pick" sPk ["_law_deck_here", "_law_some"] f fd) (DR : Df K mg "_law_draw" sDr ["_law_deck_here", "_law_ways"] fr dr) (GR : FnOk P w K mg base CX0 1 fr dr ["_law_deck_here", "_law_ways"] spDr) : FnOk P w K mg base CX0 2 f fd ["_law_deck_here", "_law_some"] (spPk K) := by
  refine D.fn.ok scPk (fun vs H Q E h => ?_) (fun cdv A outer s H vs Q E hr h => ?_)
  · obtain ⟨d, c, a, n, xs, rfl, _⟩ := h
    rfl
  obtain ⟨d, c, a, n, xs, rfl, DK, hn, ha, hac, h0, h1, q⟩ := h
  refine ⟨_, pss_one (ps_ret (pe_ix ix_list (pv 1) (pe_call GR hr rfl DR.m DR.kp DR.b .nil pass0 (pa_cons (pv 0) (pa_cons (pe_callB call_len_seq (by rfl) B.len PySem.boot_len (pa_cons (pv 1) pa_nil)) pa_nil))) (fun _ _ => rfl))), ?_⟩
  have had : a ≠ d := fun e => by
    obtain ⟨m, ys, k, g1, _⟩ := DK.ex
    rw [e, g1] at ha
    cases ha
  refine ⟨_, rfl, _, rfl, _, rfl, a, xs, rfl, .inl (.inl (.inl ha)), d, c, n, _, rfl, DK, hn, by omega, by omega, fun H1 r r0 r1 dk1 fr1 => ?_⟩
  have hr : r.toNat < xs.length := by omega
  have ha1 := fr1 a _ had hac ha
  exact ⟨a, xs, r, xs[r.toNat], rfl, rfl, .inl (.inl ha1), atI_at r0 (List.getElem?_eq_getElem hr), q H1 _ (List.getElem_mem hr) dk1 fr1⟩
end
end OW
end
section
set_option linter.all false
set_option maxRecDepth 100000
set_option maxHeartbeats 4000000
set_option autoImplicit false
/- P18: all taken out by draws; _law_mixed, _law_hidden. -/
namespace OW
open PySem L2
abbrev rLen (K : PySem.W.Frag) : List V → Hp → VK → Prop := fun xs H Q => ∃ p ys, xs = [.ref p] ∧ (SqL K H p ys ∨ SqT K H p ys) ∧ Q (.int ys.length) H
section
variable {P : Program} {w : World} {K : PySem.W.Frag} {mg : Str → Option Value} {base : Heap}
theorem Deck.upd {H : Hp} {d c a : Addr} {n : Nat} {o : HO} (D : Deck H d c n) (h1 : a ≠ d) (h2 : a ≠ c) : Deck (upd H a o) d c n := by
  obtain ⟨m, xs, k, g1, g2, r⟩ := D.ex
  exact ⟨m, xs, k, by rw [upd_ne h1.symm]; exact g1, by rw [upd_ne h2.symm]; exact g2, r⟩
/-- [l.pop(draw(deck, len(l))) for .. in range(len(l))] -/
theorem lc_pops {iF iO : Nat} {vs : List Nat} {σ : St} {H : Hp} {D F d c : Addr} {n : Nat} {ks : List NestedKey} {xs : List V} {Qd : Hp → Prop} {E : XK} (hget : ∀ x, ((wipe σ vs).set iO (some x))[iF]? = some (some (.ref F))) (hgd : ∀ x, ((wipe σ vs).set iO (some x))[0]? = some (some (.ref d))) (hw : ∀ x, wipe ((wipe σ vs).set iO (some x)) vs = wipe σ vs)
    (DK : Deck H d c n) (hF : H F = some (.lst xs)) (hFc : F ≠ c) (hN : NkAll K H ks xs) (hD : H D = none) (hn : n + ks.length ≤ 1000000) (hk : ks.length ≤ 1000)
    (fin : ∀ H' gs ys, Deck H' d c (n + ks.length) → (∀ b o, b ≠ d → b ≠ c → b ≠ F → H b = some o → H' b = some o) → H' D = some (.lst ys) → NkAll K H' gs ys → gs.Perm ks → Tk H H' → Qd H') :
    ∃ W : Nat → Nat → Hp → Prop, (∃ m, W 0 m (upd H D (.lst []))) ∧ ∀ i m H, W i m H →
      ((Itr 0 ks.length).stop i H ∧ Qd H) ∨ ((Itr 0 ks.length).go i H ∧ ∃ Nx : Hp → Prop, (∀ H', Nx H' → ∃ m', m' < m ∧ W (i + 1) m' H') ∧ ∀ x H', (Itr 0 ks.length).yld i H x H' → gName iO x (wipe σ vs) H' fun σ2 H2 => wipe σ2 vs = wipe σ vs ∧ tYes σ2 H2 fun b H3 =>
        if b = true then tBM K "list" rPopAt (tVar iF) (tCons (tCall spDr [] E (tCons (tVar 0) (tCons (tCB (rLen K) (tCons (tVar iF) tNil)) tNil))) tNil) σ2 H3 fun y H4 => ∃ acc, H4 D = some (.lst acc) ∧ acc.length < sizeLine ∧ Nx (upd H4 D (.lst (acc ++ [y]))) else Nx H3) := by
  obtain ⟨m0, xs0, k0, gd, gc, _⟩ := DK.ex
  have hFd : F ≠ d := fun e => by
    rw [e, gd] at hF
    cases hF
  have hDd : D ≠ d := (ne_of_none gd hD).symm
  have hDc : D ≠ c := (ne_of_none gc hD).symm
  have hDF : D ≠ F := (ne_of_none hF hD).symm
  refine lc_range (lo := 0) (fun i H' => ∃ gs ys rs zs, Deck H' d c (n + i) ∧ (∀ b o, b ≠ d → b ≠ c → b ≠ F → H b = some o → H' b = some o) ∧ H' D = some (.lst ys) ∧ NkAll K H' gs ys ∧ H' F = some (.lst zs) ∧ NkAll K H' rs zs ∧ (gs ++ rs).Perm ks ∧ gs.length = i ∧ Tk H H')
    ⟨[], [], ks, xs, DK.upd hDd hDc, fun b o _ _ _ e => by rw [upd_ne (ne_of_none e hD)]; exact e, upd_same, .nil, by rw [upd_ne hDF.symm]; exact hF, NkAll.tk (Tk.new hD) _ _ hN, .refl _, rfl, Tk.new hD⟩ ?_ ?_
  · rintro i H' hi ⟨gs, ys, rs, zs, dk', fr, hy, ny, hz, nz, pm, gl, tk⟩
    have hlen := pm.length_eq
    rw [List.length_append, gl] at hlen
    have zl := nz.length
    have yl := ny.length
    refine ⟨hw _, _, hget _, .inl ⟨rfl, _, .inl (.inl hz)⟩, _, hgd _, _, hget _, F, zs, rfl, .inl (.inl (.inl hz)), d, c, n + i, _, rfl, dk', by omega, by omega, by omega, fun H4 r r0 r1 dk4 fr4 => ?_⟩
    have hrl : r.toNat < zs.length := by omega
    have hz4 := fr4 F _ hFd hFc hz
    have hy4 := fr4 D _ hDd hDc hy
    have tk4 := fr4.tk dk'
    have hkr : r.toNat < rs.length := by omega
    refine ⟨F, zs, r, r.toNat, zs[r.toNat], rfl, rfl, hz4, by omega, by omega, seq_at r0 r1, List.getElem?_eq_getElem hrl, ?_⟩
    have t5 : Tk H4 (upd H4 F (.lst (zs.eraseIdx r.toNat))) := upd_lst_tk hz4
    refine ⟨ys, by rw [upd_ne hDF]; exact hy4, small6 (by omega), gs ++ [rs[r.toNat]], ys ++ [zs[r.toNat]], rs.eraseIdx r.toNat, zs.eraseIdx r.toNat, (dk4.upd hFd hFc).upd hDd hDc, fun b o h1 h2 h3 e => ?_, upd_same, ?_, ?_, ?_, ?_, by rw [List.length_append, List.length_singleton, gl], ?_⟩
    · rw [upd_ne (ne_of_none e hD), upd_ne h3]
      exact fr4 b o h1 h2 (fr b o h1 h2 h3 e)
    · have hy5 : (upd H4 F (.lst (zs.eraseIdx r.toNat))) D = some (.lst ys) := by rw [upd_ne hDF]; exact hy4
      have t6 := t5.trans (upd_lst_tk (ys := ys ++ [zs[r.toNat]]) hy5)
      refine (NkAll.tk (tk4.trans t6) _ _ ny).app (.cons ?_ .nil)
      obtain ⟨v, hv, nv⟩ := nz.get (i := r.toNat) (k := rs[r.toNat]) (List.getElem?_eq_getElem hkr)
      rw [List.getElem?_eq_getElem hrl] at hv
      have nv' : Nk K H' rs[r.toNat] zs[r.toNat] := by rw [Option.some.inj hv]; exact nv
      exact Nk.tk (tk4.trans t6) _ _ nv'
    · rw [upd_ne hDF.symm, upd_same]
    · have hy5 : (upd H4 F (.lst (zs.eraseIdx r.toNat))) D = some (.lst ys) := by rw [upd_ne hDF]; exact hy4
      exact NkAll.tk (tk4.trans (t5.trans (upd_lst_tk hy5))) _ _ (nkall_erase _ nz)
    · refine List.Perm.trans ?_ pm
      rw [List.append_assoc]
      exact List.Perm.append_left gs (perm_erase (List.getElem?_eq_getElem hkr)).symm
    · have hy5 : (upd H4 F (.lst (zs.eraseIdx r.toNat))) D = some (.lst ys) := by rw [upd_ne hDF]; exact hy4
      exact tk.trans (tk4.trans (t5.trans (upd_lst_tk hy5)))
  · rintro H' ⟨gs, ys, rs, zs, dk', fr, hy, ny, hz, nz, pm, gl, tk⟩
    have hlen := pm.length_eq
    rw [List.length_append, gl] at hlen
    have e : rs = [] := List.eq_nil_of_length_eq_zero (by omega)
    subst e
    rw [List.append_nil] at pm
    exact fin H' gs ys dk' fr hy ny pm tk
/-! ### _law_mixed -/
abbrev sMx : Stmt := top 37
abbrev nMx : List Str := ["_law_deck_here", "_law_some", "_law_left", "_law_k"]
theorem scMx : FnScope nMx ["_law_deck_here", "_law_some"] (defScope sMx) := ⟨rfl, rfl, rfl, by decide +kernel, rfl, by decide +kernel, by decide +kernel⟩
def spMx (K : PySem.W.Frag) : Sp := fun vs H Q _ => ∃ (d c a : Addr) (n : Nat) (ks : List NestedKey), vs = [.ref d, .ref a] ∧ Deck H d c n ∧ n ≤ 900000 ∧ Lx K H ks a ∧ ks.length ≤ 1000 ∧
  ∀ H' t gs, Deck H' d c (n + 1000) → Fr d c H H' → gs.Perm ks → Nk K H' (.tup gs) (.ref t) → Q (.ref t) H'
theorem ok_mx {f fr : Addr} {fd dr : FuncData} (B : Bl K mg) (D : Df K mg "_law_mixed" sMx ["_law_deck_here", "_law_some"] f fd) (DR : Df K mg "_law_draw" sDr ["_law_deck_here", "_law_ways"] fr dr) (GR : FnOk P w K mg base CX0 1 fr dr ["_law_deck_here", "_law_ways"] spDr) : FnOk P w K mg base CX0 2 f fd ["_law_deck_here", "_law_some"] (spMx K) := by
  refine D.fn.ok scMx (fun vs H Q E h => ?_) (fun cdv A outer s H vs Q E hr h => ?_)
  · obtain ⟨d, c, a, n, ks, rfl, _⟩ := h
    rfl
  obtain ⟨d, c, a, n, ks, rfl, DK, hn, ⟨xs, ha, hN⟩, hks, q⟩ := h
  refine ⟨_, pss_cons (ps_set (i := 2) scMx.nd rfl (.inr rfl) (pe_callTy call_list_of (by rfl) B.list PyProof.Rows.boot_list (pa_cons (pv 1) pa_nil)))
    (pss_one (ps_ret (pe_callTy call_tuple_of (by rfl) B.tup PyProof.Rows.boot_tuple (pa_cons
      (pe_lc (own := [("_law_k", 3)]) (g := gName 3) rfl scMx.nd (pi_range1 (by rfl) B.range (pa_cons (pe_callB call_len_seq (by rfl) B.len PySem.boot_len (pa_cons (pv 2) pa_nil)) pa_nil)) (blkOk_by (N := nMx) (sc := defScope sMx) (by decide +kernel)) (fun _ _ _ _ _ => pg_name (i := 3) scMx.nd rfl (Or.inl rfl)) (fun _ _ _ _ _ => pts_nil)
        (fun _ _ _ _ _ => pe_bmC (K := K) rfl PySem.F.plainAttrs_list PySem.F.slot_list_pop PySem.F.type_list_pop mt_popAt (pv 2) (pa_cons (pe_call GR hr rfl DR.m DR.kp DR.b .nil pass0 (pa_cons (pv 0) (pa_cons (pe_callB (call_len_seqC (K := K) rfl) (by rfl) B.len PySem.boot_len (pa_cons (pv 2) pa_nil)) pa_nil))) pa_nil))) pa_nil)))), ?_⟩
  refine ⟨_, rfl, a, xs, rfl, .inl (.inl (.inl ha)), fun F hF => ?_⟩
  obtain ⟨m0, xs0, k0, gd, gc, _⟩ := id DK.ex
  have s1 := same_upd (o := .lst xs) hF
  have xl := hN.length
  refine ⟨_, rfl, F, xs, rfl, .inl (.inl (.inl upd_same)), _, rfl, by omega, by omega, fun D9 hD9 => ?_⟩
  rw [Int.toNat_natCast, xl]
  refine lc_pops (K := K) (d := d) (c := c) (F := F) (n := n) (fun _ => rfl) (fun _ => rfl) (fun _ => rfl) (DK.same s1) upd_same (ne_of_none gc hF).symm (NkAll.same hN s1) hD9 (by omega) hks (fun H' gs ys dk' fr hy ny pm tk => ?_)
  refine ⟨D9, ys, rfl, .inl ⟨.inl (.inl hy), fun t ht => ?_⟩⟩
  have s5 := same_upd (o := .tup ys) ht
  refine q _ t gs ((dk'.same s5).le (by omega)) (fun b o h1 h2 e => s5 _ _ (fr b o h1 h2 (ne_of_none e hF) (s1 _ _ e))) pm (.tup (.inl (.inl upd_same)) (NkAll.same ny s5))
end
end OW
end
section
set_option linter.all false
set_option maxRecDepth 100000
set_option maxHeartbeats 4000000
set_option autoImplicit false
/- P19: _law_hidden. -/
namespace OW
open PySem L2
/-- an arrangement of images is the images of an arrangement -/
theorem perm_back {α β : Type} {f : α → β} {as : List α} {l : List β} (h : l.Perm (as.map f)) : ∃ bs : List α, bs.Perm as ∧ l = bs.map f := by
  have key : ∀ {l m : List β}, l.Perm m → ∀ as : List α, m = as.map f → ∃ bs : List α, bs.Perm as ∧ l = bs.map f := by
    intro l m h
    induction h with
    | nil => intro L e; exact ⟨L, .refl _, e⟩
    | @cons x l1 l2 _ ih =>
      intro L e
      cases L with
      | nil => cases e
      | cons p L =>
        rw [List.map_cons] at e
        injection e with e1 e2
        obtain ⟨L1, h1, h2⟩ := ih L e2
        exact ⟨p :: L1, h1.cons p, by rw [List.map_cons, ← h2, e1]⟩
    | @swap x y l =>
      intro L e
      cases L with
      | nil => cases e
      | cons p L =>
        cases L with
        | nil => simp at e
        | cons q L =>
          rw [List.map_cons, List.map_cons] at e
          injection e with e1 e2
          injection e2 with e2 e3
          exact ⟨q :: p :: L, .swap _ _ _, by rw [List.map_cons, List.map_cons, e1, e2, e3]⟩
    | @trans l1 l2 l3 _ _ ih1 ih2 =>
      intro L e
      obtain ⟨L1, h1, h2⟩ := ih2 L e
      obtain ⟨L2, h3, h4⟩ := ih1 L1 h2
      exact ⟨L2, h3.trans h1, h4⟩
  exact key h as rfl
def rolesV : List V := [.str "written", .str "other", .str "first", .str "second"]
def colsV : List V := [.str "#", .str "a", .str "bb", .str "c"]
theorem roles_at (i : Nat) : rolesV[i % 4]? = some (.str (roleN i)) := by
  unfold roleN
  have : i % 4 < 4 := Nat.mod_lt _ (by decide)
  rcases h : i % 4 with _ | _ | _ | _ | m
  all_goals first | rfl | omega
theorem cols_at (i : Nat) : colsV[i / 4 % 4]? = some (.str (colN i)) := by
  unfold colN
  have : i / 4 % 4 < 4 := Nat.mod_lt _ (by decide)
  rcases h : i / 4 % 4 with _ | _ | _ | _ | m
  all_goals first | rfl | omega
theorem role_ok (i : Nat) : PyData.strOk (roleN i) = true := by
  unfold roleN
  split <;> decide +kernel
theorem col_ok (i : Nat) : PyData.strOk (colN i) = true := by
  unfold colN
  split <;> decide +kernel
section
variable {P : Program} {w : World} {K : PySem.W.Frag} {mg : Str → Option Value} {base : Heap}
abbrev sHi : Stmt := top 34
abbrev nHi : List Str := ["_law_deck_here", "_law_many", "_law_roles", "_law_columns", "_law_found", "_law_far", "_law_k", "_law_row"]
theorem scHi : FnScope nHi ["_law_deck_here", "_law_many"] (defScope sHi) := ⟨rfl, rfl, rfl, by decide +kernel, rfl, by decide +kernel, by decide +kernel⟩
def spHi (K : PySem.W.Frag) : Sp := fun vs H Q _ => ∃ (d c : Addr) (n m : Nat), vs = [.ref d, .int m] ∧ Deck H d c n ∧ n ≤ 900000 ∧ m ≤ 100 ∧
  ∀ H' h hs, Deck H' d c (n + 1000) → Fr d c H H' → H h = none → Lx K H' (hs.map hk) h → HidOk hs (m + 1) → Q (.ref h) H'
theorem ok_hi {f fr fp : Addr} {fd dr dp : FuncData} (B : Bl K mg) (D : Df K mg "_law_hidden" sHi ["_law_deck_here", "_law_many"] f fd) (DR : Df K mg "_law_draw" sDr ["_law_deck_here", "_law_ways"] fr dr) (GR : FnOk P w K mg base CX0 1 fr dr ["_law_deck_here", "_law_ways"] spDr)
    (DP : Df K mg "_law_pick" sPk ["_law_deck_here", "_law_some"] fp dp) (GP : FnOk P w K mg base CX0 2 fp dp ["_law_deck_here", "_law_some"] (spPk K)) : FnOk P w K mg base CX0 3 f fd ["_law_deck_here", "_law_many"] (spHi K) := by
  refine D.fn.ok scHi (fun vs H Q E h => ?_) (fun cdv A outer s H vs Q E hr h => ?_)
  · obtain ⟨d, c, n, m, rfl, _⟩ := h
    rfl
  obtain ⟨d, c, n, m, rfl, DK, hn, hm, q⟩ := h
  have hr1 := hr.mono (j := 1) (by decide)
  refine ⟨_, pss_cons (ps_asg (pe_tup (pa_cons (pe_lst (pa_cons pe_str (pa_cons pe_str (pa_cons pe_str (pa_cons pe_str pa_nil))))) (pa_cons (pe_lst (pa_cons pe_str (pa_cons pe_str (pa_cons pe_str (pa_cons pe_str pa_nil))))) (pa_cons (pe_lst pa_nil) pa_nil))))
      (pg_tup rfl (pgs_cons (pg_name (i := 2) scHi.nd rfl (.inl rfl)) (pgs_cons (pg_name (i := 3) scHi.nd rfl (.inl rfl)) (pgs_cons (pg_name (i := 4) scHi.nd rfl (.inr rfl)) pgs_nil)))))
    (pss_cons (ps_set (i := 5) scHi.nd rfl (.inl rfl) (pe_call GP hr rfl DP.m DP.kp DP.b .nil pass0 (pa_cons (pv 0) (pa_cons (pe_lst (pa_cons pe_int (pa_cons pe_int (pa_cons (pe_op op_mul pe_int (pe_op op_pow pe_int pe_int)) pa_nil)))) pa_nil))))
    (pss_cons (ps_for PassesOwn.never rfl (pi_range1 (by rfl) B.range (pa_cons (pv 1) pa_nil)) (pg_name (i := 6) scHi.nd rfl (.inl rfl))
      (pss_cons (ps_set (i := 7) scHi.nd rfl (.inl rfl) (pe_ix ix_list (pe_lst (pa_cons (pe_tup (pa_cons (pv 6) pa_nil)) (pa_cons (pe_tup (pa_cons (pv 6) (pa_cons pe_int pa_nil))) (pa_cons (pe_tup (pa_cons pe_int (pa_cons pe_int (pa_cons (pv 6) pa_nil)))) pa_nil)))) (pe_op op_mod (pv 6) pe_int) (fun _ _ => rfl)))
      (pss_one (ps_expr (pe_bm PySem.F.plainAttrs_list PySem.F.slot_list_append PySem.F.type_list_append mt_append (pv 4) (pa_cons
        (pe_tup (pa_cons (pe_tup (pa_cons (pe_ix ix_list (pv 2) (pe_op op_mod (pv 6) pe_int) (fun _ _ => rfl)) (pa_cons (pv 7) (pa_cons (pe_ix ix_list (pv 3) (pe_op op_mod (pe_op op_fdiv (pv 6) pe_int) pe_int) (fun _ _ => rfl)) pa_nil))))
          (pa_cons (pe_op op_sub (pe_call GR hr1 rfl DR.m DR.kp DR.b .nil pass0 (pa_cons (pv 0) (pa_cons (pe_op op_add (pe_op op_mul pe_int (pv 5)) pe_int) pa_nil))) (pv 5)) pa_nil))) pa_nil))))))
    (pss_cons (ps_expr (pe_bm PySem.F.plainAttrs_list PySem.F.slot_list_append PySem.F.type_list_append mt_append (pv 4) (pa_cons (pe_tup (pa_cons (pe_tup pa_nil) (pa_cons pe_int pa_nil))) pa_nil)))
    (pss_one (ps_ret
      (pe_lc (own := [("_law_k", 6)]) (g := gName 6) rfl scHi.nd (pi_range1 (by rfl) B.range (pa_cons (pe_op op_add (pv 1) pe_int) pa_nil)) (blkOk_by (N := nHi) (sc := defScope sHi) (by decide +kernel)) (fun _ _ _ _ _ => pg_name (i := 6) scHi.nd rfl (Or.inl rfl)) (fun _ _ _ _ _ => pts_nil)
        (fun _ _ _ _ _ => pe_bmC (K := K) rfl PySem.F.plainAttrs_list PySem.F.slot_list_pop PySem.F.type_list_pop mt_popAt (pv 4) (pa_cons (pe_call GR hr1 rfl DR.m DR.kp DR.b .nil pass0 (pa_cons (pv 0) (pa_cons (pe_callB (call_len_seqC (K := K) rfl) (by rfl) B.len PySem.boot_len (pa_cons (pv 4) pa_nil)) pa_nil))) pa_nil)))))))), ?_⟩
  obtain ⟨m0, xs0, k0, gd, gc, _⟩ := id DK.ex
  refine ⟨by show 4 ≤ sizeLine; decide, fun rl hrl => ⟨by show 4 ≤ sizeLine; decide, fun cl hcl => ⟨Nat.zero_le _, fun F hF => ⟨by show 3 ≤ sizeLine; decide, fun tp htp => ?_⟩⟩⟩⟩
  have s1 := same_upd (o := .lst [.str "written", .str "other", .str "first", .str "second"]) hrl
  have s2 := same_upd (o := .lst [.str "#", .str "a", .str "bb", .str "c"]) hcl
  have s3 := same_upd (o := .lst []) hF
  have s4 := same_upd (o := .tup [.ref rl, .ref cl, .ref F]) htp
  have s14 := s1.trans (s2.trans (s3.trans s4))
  refine ⟨tp, _, rfl, .inl (.inl upd_same), rfl, _, _, rfl, _, _, rfl, _, _, rfl, rfl, ?_⟩
  have h4r : (upd (upd (upd (upd H rl (.lst [.str "written", .str "other", .str "first", .str "second"])) cl (.lst [.str "#", .str "a", .str "bb", .str "c"])) F (.lst [])) tp (.tup [.ref rl, .ref cl, .ref F])) rl = some (.lst rolesV) := s4 _ _ (s3 _ _ (s2 _ _ upd_same))
  have h4c : (upd (upd (upd (upd H rl (.lst [.str "written", .str "other", .str "first", .str "second"])) cl (.lst [.str "#", .str "a", .str "bb", .str "c"])) F (.lst [])) tp (.tup [.ref rl, .ref cl, .ref F])) cl = some (.lst colsV) := s4 _ _ (s3 _ _ upd_same)
  have h4F : (upd (upd (upd (upd H rl (.lst [.str "written", .str "other", .str "first", .str "second"])) cl (.lst [.str "#", .str "a", .str "bb", .str "c"])) F (.lst [])) tp (.tup [.ref rl, .ref cl, .ref F])) F = some (.lst []) := s4 _ _ upd_same
  have hF0 : H F = none := (s1.trans s2).free hF
  have hrF : rl ≠ F := ne_of_none (s2 _ _ upd_same) hF
  have hcF : cl ≠ F := ne_of_none upd_same hF
  have hrc : rl ≠ c := (ne_of_none gc hrl).symm
  have hrd : rl ≠ d := (ne_of_none gd hrl).symm
  have hcc : cl ≠ c := (ne_of_none gc (s1.free hcl)).symm
  have hcd : cl ≠ d := (ne_of_none gd (s1.free hcl)).symm
  have hFc : F ≠ c := (ne_of_none gc hF0).symm
  have hFd : F ≠ d := (ne_of_none gd hF0).symm
  generalize (upd (upd (upd (upd H rl (.lst [.str "written", .str "other", .str "first", .str "second"])) cl (.lst [.str "#", .str "a", .str "bb", .str "c"])) F (.lst [])) tp (.tup [.ref rl, .ref cl, .ref F])) = H4 at h4r h4c h4F s14
  refine ⟨_, rfl, _, _, rfl, rfl, ⟨by decide, by decide, by decide⟩, _, _, rfl, rfl, .inl ⟨by decide, by decide⟩, by show 3 ≤ sizeLine; decide, fun lp hlp => ?_⟩
  have s5 := same_upd (o := .lst [.int 3, .int 1000, .int (4 * 10 ^ (8 : Int).toNat)]) hlp
  have hlpc : lp ≠ c := (ne_of_none (s14 _ _ gc) hlp).symm
  refine ⟨d, c, lp, n, _, rfl, (DK.same s14).same s5, by omega, upd_same, hlpc, by show 0 < 3; decide, by show 3 < 1000; decide, fun H5 x hx dk5 fr5 => ?_⟩
  obtain ⟨far, rfl, hfar⟩ : ∃ far : Int, x = .int far ∧ (far = 3 ∨ far = 1000 ∨ far = 400000000) := by
    simp only [List.mem_cons, List.not_mem_nil, or_false] at hx
    rcases hx with e | e | e
    · exact ⟨_, e, .inl rfl⟩
    · exact ⟨_, e, .inr (.inl rfl)⟩
    · exact ⟨_, e, .inr (.inr (by decide))⟩
  refine ⟨_, rfl, _, rfl, by omega, by omega, ?_⟩
  rw [Int.toNat_natCast]
  refine for_range (lo := 0) (fun i σ H' => ∃ y6 y7 zs hs, σ = [some (.ref d), some (.int m), some (.ref rl), some (.ref cl), some (.ref F), some (.int far), y6, y7] ∧ Deck H' d c (n + 1 + i) ∧ Fr d c H H' ∧ H' rl = some (.lst rolesV) ∧ H' cl = some (.lst colsV) ∧ H' F = some (.lst zs) ∧ NkAll K H' (hs.map hk) zs ∧ hs.map (·.1) = (List.range i).map unkN)
    ⟨none, none, [], [], rfl, dk5, (Fr.of s14).trans ((Fr.of s5).trans fr5), fr5 _ _ hrd hrc (s5 _ _ h4r), fr5 _ _ hcd hcc (s5 _ _ h4c), fr5 _ _ hFd hFc (s5 _ _ h4F), .nil, rfl⟩ ?_ ?_
  · rintro i σ H6 hi ⟨y6, y7, zs, hs, rfl, dk6, fr6, e6r, e6c, e6F, nz, eh⟩
    have hlen := congrArg List.length eh
    rw [List.length_map, List.length_map, List.length_range] at hlen
    have zl := nz.length
    rw [List.length_map] at zl
    -- the row
    refine ⟨_, rfl, by show 1 ≤ sizeLine; decide, fun t1 ht1 => ⟨_, rfl, by show 2 ≤ sizeLine; decide, fun t2 ht2 => ⟨_, rfl, by show 3 ≤ sizeLine; decide, fun t3 ht3 => ⟨by show 3 ≤ sizeLine; decide, fun lr hlr => ?_⟩⟩⟩⟩
    have a1 := same_upd (o := .tup [.int (0 + (i : Nat))]) ht1
    have a2 := same_upd (o := .tup [.int (0 + (i : Nat)), .int 0]) ht2
    have a3 := same_upd (o := .tup [.int 0, .int 1, .int (0 + (i : Nat))]) ht3
    have a4 := same_upd (o := .lst [.ref t1, .ref t2, .ref t3]) hlr
    have a14 := a1.trans (a2.trans (a3.trans a4))
    have w1 := a4 _ _ (a3 _ _ (a2 _ _ (upd_same (H := H6) (a := t1) (o := .tup [.int (0 + (i : Nat))]))))
    have w2 := a4 _ _ (a3 _ _ (upd_same (a := t2) (o := .tup [.int (0 + (i : Nat)), .int 0])))
    have w3 := a4 _ _ (upd_same (a := t3) (o := .tup [.int 0, .int 1, .int (0 + (i : Nat))]))
    have w4 : (upd (upd (upd (upd H6 t1 (.tup [.int (0 + (i : Nat))])) t2 (.tup [.int (0 + (i : Nat)), .int 0])) t3 (.tup [.int 0, .int 1, .int (0 + (i : Nat))])) lr (.lst [.ref t1, .ref t2, .ref t3])) lr = some (.lst [.ref t1, .ref t2, .ref t3]) := upd_same
    generalize (upd (upd (upd (upd H6 t1 (.tup [.int (0 + (i : Nat))])) t2 (.tup [.int (0 + (i : Nat)), .int 0])) t3 (.tup [.int 0, .int 1, .int (0 + (i : Nat))])) lr (.lst [.ref t1, .ref t2, .ref t3])) = H7 at a14 w1 w2 w3 w4
    obtain ⟨tr, htr, nrow⟩ : ∃ tr, ([V.ref t1, .ref t2, .ref t3])[i % 3]? = some (V.ref tr) ∧ Nk K H7 (.tup ((rowN i).map .num)) (.ref tr) := by
      have hi0 : (0 : Int) + (i : Nat) = (i : Nat) := by omega
      rw [hi0] at w1 w2 w3
      have : i % 3 < 3 := Nat.mod_lt _ (by decide)
      unfold rowN
      rcases h : i % 3 with _ | _ | _ | k
      · exact ⟨t1, rfl, .tup (.inl (.inl w1)) (nks_ints [(i : Int)])⟩
      · exact ⟨t2, rfl, .tup (.inl (.inl w2)) (nks_ints [(i : Int), 0])⟩
      · exact ⟨t3, rfl, .tup (.inl (.inl w3)) (nks_ints [0, 1, (i : Int)])⟩
      · omega
    have hmod3 : atI [V.ref t1, .ref t2, .ref t3] ((0 + (i : Nat) : Int) % 3) = some (.ref tr) := by
      have e : ((0 + (i : Nat) : Int) % 3) = ((i % 3 : Nat) : Int) := by omega
      rw [e]
      exact atI_nat htr
    refine ⟨_, rfl, _, _, rfl, rfl, (by show (0 : Int) < 3; decide), lr, _, _, .ref tr, rfl, rfl, .inl (.inl w4), hmod3, ?_⟩
    -- the name
    have e7r := a14 _ _ e6r
    have e7c := a14 _ _ e6c
    have e7F := a14 _ _ e6F
    have hmodr : atI rolesV ((0 + (i : Nat) : Int) % 4) = some (.str (roleN i)) := by
      have e : ((0 + (i : Nat) : Int) % 4) = ((i % 4 : Nat) : Int) := by omega
      rw [e]
      exact atI_nat (roles_at i)
    have hmodc : atI colsV ((0 + (i : Nat) : Int) / 4 % 4) = some (.str (colN i)) := by
      have e : ((0 + (i : Nat) : Int) / 4 % 4) = ((i / 4 % 4 : Nat) : Int) := by omega
      rw [e]
      exact atI_nat (cols_at i)
    refine ⟨_, rfl, .inl ⟨rfl, _, .inl (.inl e7F)⟩, _, rfl, _, rfl, _, _, rfl, rfl, (by show (0 : Int) < 4; decide), rl, _, _, _, rfl, rfl, .inl (.inl e7r), hmodr, _, rfl, _, rfl, _, rfl, _, _, rfl, rfl, ⟨by decide, by decide⟩, _, _, rfl, rfl, (by show (0 : Int) < 4; decide), cl, _, _, _, rfl, rfl, .inl (.inl e7c), hmodc, by show 3 ≤ sizeLine; decide, fun tu htu => ?_⟩
    have a5 := same_upd (o := .tup [.str (roleN i), .ref tr, .str (colN i)]) htu
    have nunk : Nk K (upd H7 tu (.tup [.str (roleN i), .ref tr, .str (colN i)])) (unkN i) (.ref tu) := .tup (.inl (.inl upd_same)) (.cons (.text _ (role_ok i)) (.cons (Nk.same nrow a5) (.cons (.text _ (col_ok i)) .nil)))
    -- the value
    refine ⟨_, rfl, _, rfl, _, _, rfl, rfl, .inl ⟨by decide, by decide⟩, _, _, rfl, rfl, d, c, n + 1 + i, _, rfl, (dk6.same a14).same a5, by omega, by omega, by omega, fun H8 r r0 r1 dk8 fr8 => ?_⟩
    have t58 := fr8.tk ((dk6.same a14).same a5)
    refine ⟨_, rfl, _, _, rfl, rfl, by show 2 ≤ sizeLine; decide, fun tp2 htp2 => ?_⟩
    have a6 := same_upd (o := .tup [.ref tu, .int (r - far)]) htp2
    have e8F := a6 _ _ (fr8 F _ hFd hFc (a5 _ _ e7F))
    have dk9 := dk8.same a6
    refine ⟨F, zs, .ref tp2, rfl, rfl, e8F, small6 (by omega), ?_⟩
    have t9 := upd_lst_tk (ys := zs ++ [V.ref tp2]) e8F
    have n9 : ∀ b o, b ≠ F → b ≠ d → b ≠ c → H6 b = some o → (upd (upd H8 tp2 (.tup [.ref tu, .int (r - far)])) F (.lst (zs ++ [.ref tp2]))) b = some o := fun b o h1 h2 h3 e => by
      rw [upd_ne h1]
      exact a6 _ _ (fr8 b o h2 h3 (a5 _ _ (a14 _ _ e)))
    refine ⟨_, _, zs ++ [.ref tp2], hs ++ [(unkN i, r - far)], rfl, ?_, fun b o h1 h2 e => ?_, n9 _ _ hrF hrd hrc e6r, n9 _ _ hcF hcd hcc e6c, upd_same, ?_, ?_⟩
    · exact dk9.upd hFd hFc
    · rw [upd_ne (ne_of_none e hF0)]
      exact a6 _ _ (fr8 b o h1 h2 (a5 _ _ (a14 _ _ (fr6 b o h1 h2 e))))
    · rw [List.map_append]
      have tall : Tk H6 (upd (upd H8 tp2 (.tup [.ref tu, .int (r - far)])) F (.lst (zs ++ [.ref tp2]))) := (Tk.same (a14.trans a5)).trans (t58.trans ((Tk.same a6).trans t9))
      refine (NkAll.tk tall _ _ nz).app (.cons ?_ .nil)
      refine Nk.tk t9 _ _ (.tup (.inl (.inl upd_same)) (.cons (Nk.same (Nk.tk t58 _ _ nunk) a6) (.cons (.num _) .nil)))
    · rw [List.map_append, eh, List.range_succ, List.map_append]
      rfl
  · rintro σ H6 ⟨y6, y7, zs, hs, rfl, dk6, fr6, e6r, e6c, e6F, nz, eh⟩
    have hlen := congrArg List.length eh
    rw [List.length_map, List.length_map, List.length_range] at hlen
    have zl := nz.length
    rw [List.length_map] at zl
    refine ⟨_, rfl, .inl ⟨rfl, _, .inl (.inl e6F)⟩, Nat.zero_le _, fun tz htz => ⟨by show 2 ≤ sizeLine; decide, fun tp2 htp2 => ?_⟩⟩
    have a1 := same_upd (o := .tup []) htz
    have a2 := same_upd (o := .tup [.ref tz, .int 0]) htp2
    have a12 := a1.trans a2
    have e7F := a12 _ _ e6F
    refine ⟨F, zs, .ref tp2, rfl, rfl, e7F, small6 (by omega), ?_⟩
    have t9 := upd_lst_tk (ys := zs ++ [V.ref tp2]) e7F
    have nall : NkAll K (upd (upd (upd H6 tz (.tup [])) tp2 (.tup [.ref tz, .int 0])) F (.lst (zs ++ [.ref tp2]))) ((hs ++ [(ZK, 0)]).map hk) (zs ++ [.ref tp2]) := by
      rw [List.map_append]
      refine (NkAll.tk ((Tk.same a12).trans t9) _ _ nz).app (.cons ?_ .nil)
      exact Nk.tk t9 _ _ (.tup (.inl (.inl upd_same)) (.cons (Nk.same (.tup (.inl (.inl upd_same)) .nil) a2) (.cons (.num _) .nil)))
    have dk8 : Deck (upd (upd (upd H6 tz (.tup [])) tp2 (.tup [.ref tz, .int 0])) F (.lst (zs ++ [.ref tp2]))) d c (n + 1 + m) := (dk6.same a12).upd hFd hFc
    have fr8 : Fr d c H (upd (upd (upd H6 tz (.tup [])) tp2 (.tup [.ref tz, .int 0])) F (.lst (zs ++ [.ref tp2]))) := fun b o h1 h2 e => by
      rw [upd_ne (ne_of_none e hF0)]
      exact a12 _ _ (fr6 b o h1 h2 e)
    have e8F : (upd (upd (upd H6 tz (.tup [])) tp2 (.tup [.ref tz, .int 0])) F (.lst (zs ++ [.ref tp2]))) F = some (.lst (zs ++ [.ref tp2])) := upd_same
    generalize (upd (upd (upd H6 tz (.tup [])) tp2 (.tup [.ref tz, .int 0])) F (.lst (zs ++ [.ref tp2]))) = H8 at nall dk8 fr8 e8F
    have hok : HidOk (hs ++ [(ZK, 0)]) (m + 1) := by
      have em : (hs ++ [(ZK, (0 : Int))]).map (·.1) = (List.range m).map unkN ++ [ZK] := by rw [List.map_append, eh]; rfl
      refine ⟨by rw [List.length_append, List.length_singleton, hlen], ?_, fun p hp => ?_, List.mem_append_right _ (by simp)⟩
      · rw [em]
        refine List.nodup_append.mpr ⟨List.pairwise_map.mpr (List.Pairwise.imp (fun hne e => hne (unkN_inj e)) List.nodup_range), by simp, fun a ha b hb e => ?_⟩
        obtain ⟨j, _, rfl⟩ := List.mem_map.mp ha
        have hb' : b = ZK := by simpa using hb
        rw [hb'] at e
        cases e
      · rcases List.mem_append.mp hp with hp | hp
        · have : p.1 ∈ hs.map (·.1) := List.mem_map.mpr ⟨p, hp, rfl⟩
          rw [eh] at this
          obtain ⟨j, _, e⟩ := List.mem_map.mp this
          rw [← e]
          exact .inr (unkN_unk j)
        · obtain rfl : p = (ZK, 0) := by simpa using hp
          exact .inl rfl
    refine ⟨_, rfl, _, _, rfl, rfl, _, rfl, by omega, by omega, fun D9 hD9 => ?_⟩
    have ekl : ((m : Int) + 1).toNat = ((hs ++ [(ZK, (0 : Int))]).map hk).length := by
      rw [List.length_map, List.length_append, List.length_singleton, hlen]
      omega
    rw [ekl]
    have hkl : ((hs ++ [(ZK, (0 : Int))]).map hk).length ≤ 101 := by rw [List.length_map, List.length_append, List.length_singleton, hlen]; omega
    refine lc_pops (K := K) (d := d) (c := c) (F := F) (n := n + 1 + m) (fun _ => rfl) (fun _ => rfl) (fun _ => rfl) dk8 e8F hFc nall hD9 (by omega) (by omega) (fun H' gs ys dk' fr hy ny pm tk => ?_)
    obtain ⟨hs2, pm2, rfl⟩ := perm_back pm
    refine q H' D9 hs2 (dk'.le (by omega)) (fun b o h1 h2 e => fr b o h1 h2 (ne_of_none e hF0) (fr8 b o h1 h2 e)) ?_ ⟨ys, hy, ny⟩ (hok.perm pm2)
    cases q0 : H D9 with
    | none => rfl
    | some o =>
      by_cases c1 : D9 = d
      · obtain ⟨m1, xs1, k1, g1, _⟩ := dk8.ex
        rw [c1, g1] at hD9
        cases hD9
      · by_cases c2 : D9 = c
        · obtain ⟨m1, xs1, k1, _, g2, _⟩ := dk8.ex
          rw [c2, g2] at hD9
          cases hD9
        · rw [fr8 D9 o c1 c2 q0] at hD9
          cases hD9
end
end OW
end
section
set_option linter.all false
set_option maxRecDepth 100000
set_option maxHeartbeats 4000000
set_option autoImplicit false
/- P20: _law_met, _law_other_atom, _law_around. -/
namespace OW
open PySem L2
abbrev Hid := List (NestedKey × Int)
def MetA (hs : Hid) (a : Ato) : Prop := ∃ p q, p ∈ hs ∧ q ∈ hs ∧ a.u = p.1 ∧ a.v = q.1 ∧ p.1 ≠ q.1 ∧ p.2 - q.2 ≤ a.k
def BadA (hs : Hid) (a : Ato) : Prop := ∃ p q, p ∈ hs ∧ q ∈ hs ∧ a.u = p.1 ∧ a.v = q.1 ∧ p.1 ≠ q.1 ∧ a.k < p.2 - q.2
theorem MetA.ok {hs : Hid} {a : Ato} {m : Nat} (h : MetA hs a) (k : HidOk hs m) : AtoOk a := by
  obtain ⟨p, q, hp, hq, e1, e2, ne, _⟩ := h
  exact ⟨by rw [e1]; exact k.unk p hp, by rw [e2]; exact k.unk q hq, by rw [e1, e2]; exact ne⟩
theorem BadA.ok {hs : Hid} {a : Ato} {m : Nat} (h : BadA hs a) (k : HidOk hs m) : AtoOk a := by
  obtain ⟨p, q, hp, hq, e1, e2, ne, _⟩ := h
  exact ⟨by rw [e1]; exact k.unk p hp, by rw [e2]; exact k.unk q hq, by rw [e1, e2]; exact ne⟩
/-- the hidden value of a name -/
def hval (hs : Hid) (k : NestedKey) : Int := ((hs.find? fun p => decide (p.1 = k)).map (·.2)).getD 0
theorem hval_at : ∀ {hs : Hid}, (hs.map (·.1)).Nodup → ∀ p ∈ hs, hval hs p.1 = p.2
  | q :: hs, nd, p, hp => by
    rw [List.map_cons] at nd
    obtain ⟨h1, h2⟩ := List.nodup_cons.mp nd
    unfold hval
    by_cases e : q.1 = p.1
    · rw [List.find?_cons_of_pos (by simpa using e)]
      rcases List.mem_cons.mp hp with z | z
      · rw [z]; rfl
      · exact absurd (List.mem_map.mpr ⟨p, z, e.symm⟩) h1
    · rw [List.find?_cons_of_neg (by simpa using e)]
      rcases List.mem_cons.mp hp with z | z
      · exact absurd (by rw [z]) e
      · exact hval_at h2 p z
theorem MetA.sat {hs : Hid} {a : Ato} {m : Nat} (h : MetA hs a) (k : HidOk hs m) : hval hs a.u - hval hs a.v ≤ a.k := by
  obtain ⟨p, q, hp, hq, e1, e2, ne, le⟩ := h
  rw [e1, e2, hval_at k.nd p hp, hval_at k.nd q hq]
  exact le
theorem hid_parts {K : PySem.W.Frag} {H : Hp} {p : NestedKey × Int} {v : V} (h : Nk K H (hk p) v) (ok : Unk p.1) : ∃ t b, v = .ref t ∧ SqT K H t [.ref b, .int p.2] ∧ Nk K H p.1 (.ref b) := by
  unfold hk at h
  cases h with
  | tup h1 h2 =>
    cases h2 with
    | cons q1 h2 =>
      cases h2 with
      | cons q2 h2 =>
        cases h2
        cases q2
        rcases ok with e | ⟨r, ns, c, e⟩
        · rw [e] at q1 ⊢
          obtain ⟨b, _, rfl, _⟩ := Nk.ref q1
          exact ⟨_, b, rfl, h1, q1⟩
        · rw [e] at q1 ⊢
          obtain ⟨b, _, rfl, _⟩ := Nk.ref q1
          exact ⟨_, b, rfl, h1, q1⟩
section
variable {P : Program} {w : World} {K : PySem.W.Frag} {mg : Str → Option Value} {base : Heap}
abbrev sMe : Stmt := top 35
abbrev nMe : List Str := ["_law_deck_here", "_law_hidden_here", "_law_room", "_law_at", "_law_u", "_law_here", "_law_v", "_law_there"]
theorem scMe : FnScope nMe ["_law_deck_here", "_law_hidden_here", "_law_room"] (defScope sMe) := ⟨rfl, rfl, rfl, by decide +kernel, rfl, by decide +kernel, by decide +kernel⟩
def spMe (K : PySem.W.Frag) : Sp := fun vs H Q _ => ∃ (d c h : Addr) (n : Nat) (hs : Hid) (m : Nat) (room : Int), vs = [.ref d, .ref h, .int room] ∧ Deck H d c n ∧ n ≤ 990000 ∧ Lx K H (hs.map hk) h ∧ h ≠ c ∧ HidOk hs m ∧ 2 ≤ m ∧ m ≤ 101 ∧ 0 < room ∧ room < 1000 ∧
  ∀ H' t a, Deck H' d c (n + 3) → Fr d c H H' → Nk K H' a.key (.ref t) → MetA hs a → Q (.ref t) H'
theorem ok_me {f fr : Addr} {fd dr : FuncData} (B : Bl K mg) (D : Df K mg "_law_met" sMe ["_law_deck_here", "_law_hidden_here", "_law_room"] f fd) (DR : Df K mg "_law_draw" sDr ["_law_deck_here", "_law_ways"] fr dr) (GR : FnOk P w K mg base CX0 1 fr dr ["_law_deck_here", "_law_ways"] spDr) : FnOk P w K mg base CX0 2 f fd ["_law_deck_here", "_law_hidden_here", "_law_room"] (spMe K) := by
  refine D.fn.ok scMe (fun vs H Q E h => ?_) (fun cdv A outer s H vs Q E hr h => ?_)
  · obtain ⟨d, c, h, n, hs, m, room, rfl, _⟩ := h
    rfl
  obtain ⟨d, c, h, n, hs, m, room, rfl, DK, hn, ⟨xs, hx, hN⟩, hhc, hok, hm2, hm, hr0, hr1, q⟩ := h
  refine ⟨_, pss_cons (ps_set (i := 3) scMe.nd rfl (.inl rfl) (pe_call GR hr rfl DR.m DR.kp DR.b .nil pass0 (pa_cons (pv 0) (pa_cons (pe_callB call_len_seq (by rfl) B.len PySem.boot_len (pa_cons (pv 1) pa_nil)) pa_nil))))
    (pss_cons (ps_asg (pe_ix ix_list (pv 1) (pv 3) (fun _ _ => rfl)) (pg_tup rfl (pgs_cons (pg_name (i := 4) scMe.nd rfl (.inl rfl)) (pgs_cons (pg_name (i := 5) scMe.nd rfl (.inl rfl)) pgs_nil))))
    (pss_cons (ps_asg (pe_ix ix_list (pv 1) (pe_op op_mod (pe_op op_add (pe_op op_add (pv 3) pe_int) (pe_call GR hr rfl DR.m DR.kp DR.b .nil pass0 (pa_cons (pv 0) (pa_cons (pe_op op_sub (pe_callB call_len_seq (by rfl) B.len PySem.boot_len (pa_cons (pv 1) pa_nil)) pe_int) pa_nil)))) (pe_callB call_len_seq (by rfl) B.len PySem.boot_len (pa_cons (pv 1) pa_nil))) (fun _ _ => rfl)) (pg_tup rfl (pgs_cons (pg_name (i := 6) scMe.nd rfl (.inl rfl)) (pgs_cons (pg_name (i := 7) scMe.nd rfl (.inl rfl)) pgs_nil))))
    (pss_one (ps_ret (pe_tup (pa_cons (pv 4) (pa_cons (pv 6) (pa_cons (pe_op op_add (pe_op op_sub (pv 5) (pv 7)) (pe_call GR hr rfl DR.m DR.kp DR.b .nil pass0 (pa_cons (pv 0) (pa_cons (pv 2) pa_nil)))) pa_nil)))))))), ?_⟩
  have hhd : h ≠ d := fun e => by
    obtain ⟨m0, ys, k, g1, _⟩ := DK.ex
    rw [e, g1] at hx
    cases hx
  have two := nk_two hk hN
  have xl : xs.length = m := by rw [two.length, hok.len]
  refine ⟨_, rfl, _, rfl, h, xs, rfl, .inl (.inl (.inl hx)), d, c, n, _, rfl, DK, by omega, by omega, by omega, fun H1 r r0 r1 dk1 fr1 => ?_⟩
  have hx1 := fr1 h _ hhd hhc hx
  have t1 := fr1.tk DK
  have hrl : r.toNat < hs.length := by rw [hok.len]; omega
  obtain ⟨v1, hv1, nv1⟩ := two.got (List.getElem?_eq_getElem hrl)
  have hp := List.getElem_mem hrl
  obtain ⟨tp, bp, rfl, hTp, nbp⟩ := hid_parts (Nk.tk t1 _ _ nv1) (hok.unk _ hp)
  refine ⟨_, rfl, _, rfl, h, xs, r, .ref tp, rfl, rfl, .inl (.inl hx1), atI_at r0 hv1, tp, _, rfl, hTp, rfl, _, _, rfl, _, _, rfl, rfl, ?_⟩
  refine ⟨_, rfl, _, rfl, _, _, rfl, rfl, _, rfl, _, rfl, h, xs, rfl, .inl (.inl (.inl hx1)), _, _, rfl, rfl, d, c, n + 1, _, rfl, dk1, by omega, by omega, by omega, fun H2 r2 r20 r21 dk2 fr2 => ?_⟩
  have hx2 := fr2 h _ hhd hhc hx1
  have t2 := fr2.tk dk1
  refine ⟨_, _, rfl, rfl, _, rfl, h, xs, rfl, .inl (.inl (.inl hx2)), _, _, rfl, rfl, (by show (0 : Int) < ((xs.length : Nat) : Int); omega), ?_⟩
  have hj0 : 0 ≤ (r + 1 + r2) % ((xs.length : Nat) : Int) := Int.emod_nonneg _ (by omega)
  have hj1 : (r + 1 + r2) % ((xs.length : Nat) : Int) < ((xs.length : Nat) : Int) := Int.emod_lt_of_pos _ (by omega)
  have hjl : ((r + 1 + r2) % ((xs.length : Nat) : Int)).toNat < hs.length := by rw [hok.len]; omega
  have hji : ((r + 1 + r2) % ((xs.length : Nat) : Int)).toNat ≠ r.toNat := by
    intro e
    have e2 : (r + 1 + r2) % ((xs.length : Nat) : Int) = r := by omega
    by_cases big : r + 1 + r2 < (xs.length : Int)
    · rw [Int.emod_eq_of_lt (by omega) big] at e2; omega
    · have e3 : (r + 1 + r2) % ((xs.length : Nat) : Int) = (r + 1 + r2 - xs.length) % ((xs.length : Nat) : Int) := (Int.sub_emod_right _ _).symm
      rw [e3, Int.emod_eq_of_lt (by omega) (by omega)] at e2
      omega
  obtain ⟨j, ej⟩ : ∃ j, j = (r + 1 + r2) % ((xs.length : Nat) : Int) := ⟨_, rfl⟩
  rw [← ej] at hj0 hj1 hjl hji
  obtain ⟨v2, hv2, nv2⟩ := two.got (List.getElem?_eq_getElem hjl)
  have hq := List.getElem_mem hjl
  obtain ⟨tq, bq, rfl, hTq, nbq⟩ := hid_parts (Nk.tk t2 _ _ (Nk.tk t1 _ _ nv2)) (hok.unk _ hq)
  refine ⟨h, xs, j, .ref tq, rfl, (by rw [ej]), .inl (.inl hx2), atI_at hj0 hv2, tq, _, rfl, hTq, rfl, _, _, rfl, _, _, rfl, rfl, ?_⟩
  refine ⟨_, rfl, _, rfl, _, rfl, _, rfl, _, _, rfl, rfl, _, rfl, _, rfl, d, c, n + 1 + 1, room, rfl, dk2, by omega, hr0, by omega, fun H3 r3 r30 r31 dk3 fr3 => ?_⟩
  have t3 := fr3.tk dk2
  refine ⟨_, _, rfl, rfl, by show 3 ≤ sizeLine; decide, fun t ht => ?_⟩
  have s4 := same_upd (o := .tup [.ref bp, .ref bq, .int (hs[r.toNat].2 - hs[j.toNat].2 + r3)]) ht
  refine q _ t ⟨hs[r.toNat].1, hs[j.toNat].1, hs[r.toNat].2 - hs[j.toNat].2 + r3⟩ ((dk3.same s4).le (by omega)) (fr1.trans (fr2.trans (fr3.trans (Fr.of s4)))) ?_ ⟨_, _, hp, hq, rfl, rfl, ?_, by show _ ≤ _ - _ + r3; omega⟩
  · exact .tup (.inl (.inl upd_same)) (.cons (Nk.same (Nk.tk t3 _ _ (Nk.tk t2 _ _ nbp)) s4) (.cons (Nk.same (Nk.tk t3 _ _ nbq) s4) (.cons (.num _) .nil)))
  · intro e
    have h1 : r.toNat < (hs.map (·.1)).length := by rw [List.length_map]; exact hrl
    have h2 : j.toNat < (hs.map (·.1)).length := by rw [List.length_map]; exact hjl
    have e' : (hs.map (·.1))[r.toNat] = (hs.map (·.1))[j.toNat] := by rw [List.getElem_map, List.getElem_map]; exact e
    rcases Nat.lt_or_gt_of_ne hji with lt | gt
    · exact List.pairwise_iff_getElem.mp hok.nd _ _ h2 h1 lt e'.symm
    · exact List.pairwise_iff_getElem.mp hok.nd _ _ h1 h2 gt e'
end
end OW
end
section
set_option linter.all false
set_option maxRecDepth 100000
set_option maxHeartbeats 4000000
set_option autoImplicit false
/- P21: _law_other_atom, _law_around. -/
namespace OW
open PySem L2
section
variable {P : Program} {w : World} {K : PySem.W.Frag} {mg : Str → Option Value} {base : Heap}
abbrev sOa : Stmt := top 43
abbrev nOa : List Str := ["_law_deck_here", "_law_hidden_here", "_law_at", "_law_u", "_law_here", "_law_v", "_law_there"]
theorem scOa : FnScope nOa ["_law_deck_here", "_law_hidden_here"] (defScope sOa) := ⟨rfl, rfl, rfl, by decide +kernel, rfl, by decide +kernel, by decide +kernel⟩
def spOa (K : PySem.W.Frag) : Sp := fun vs H Q _ => ∃ (d c h : Addr) (n : Nat) (hs : Hid) (m : Nat), vs = [.ref d, .ref h] ∧ Deck H d c n ∧ n ≤ 990000 ∧ Lx K H (hs.map hk) h ∧ h ≠ c ∧ HidOk hs m ∧ 2 ≤ m ∧ m ≤ 101 ∧
  ∀ H' t a, Deck H' d c (n + 3) → Fr d c H H' → Nk K H' a.key (.ref t) → BadA hs a → Q (.ref t) H'
theorem ok_oa {f fr : Addr} {fd dr : FuncData} (B : Bl K mg) (D : Df K mg "_law_other_atom" sOa ["_law_deck_here", "_law_hidden_here"] f fd) (DR : Df K mg "_law_draw" sDr ["_law_deck_here", "_law_ways"] fr dr) (GR : FnOk P w K mg base CX0 1 fr dr ["_law_deck_here", "_law_ways"] spDr) : FnOk P w K mg base CX0 2 f fd ["_law_deck_here", "_law_hidden_here"] (spOa K) := by
  refine D.fn.ok scOa (fun vs H Q E h => ?_) (fun cdv A outer s H vs Q E hr h => ?_)
  · obtain ⟨d, c, h, n, hs, m, rfl, _⟩ := h
    rfl
  obtain ⟨d, c, h, n, hs, m, rfl, DK, hn, ⟨xs, hx, hN⟩, hhc, hok, hm2, hm, q⟩ := h
  refine ⟨_, pss_cons (ps_set (i := 2) scOa.nd rfl (.inl rfl) (pe_call GR hr rfl DR.m DR.kp DR.b .nil pass0 (pa_cons (pv 0) (pa_cons (pe_callB call_len_seq (by rfl) B.len PySem.boot_len (pa_cons (pv 1) pa_nil)) pa_nil))))
    (pss_cons (ps_asg (pe_ix ix_list (pv 1) (pv 2) (fun _ _ => rfl)) (pg_tup rfl (pgs_cons (pg_name (i := 3) scOa.nd rfl (.inl rfl)) (pgs_cons (pg_name (i := 4) scOa.nd rfl (.inl rfl)) pgs_nil))))
    (pss_cons (ps_asg (pe_ix ix_list (pv 1) (pe_op op_mod (pe_op op_add (pe_op op_add (pv 2) pe_int) (pe_call GR hr rfl DR.m DR.kp DR.b .nil pass0 (pa_cons (pv 0) (pa_cons (pe_op op_sub (pe_callB call_len_seq (by rfl) B.len PySem.boot_len (pa_cons (pv 1) pa_nil)) pe_int) pa_nil)))) (pe_callB call_len_seq (by rfl) B.len PySem.boot_len (pa_cons (pv 1) pa_nil))) (fun _ _ => rfl)) (pg_tup rfl (pgs_cons (pg_name (i := 5) scOa.nd rfl (.inl rfl)) (pgs_cons (pg_name (i := 6) scOa.nd rfl (.inl rfl)) pgs_nil))))
    (pss_one (ps_ret (pe_tup (pa_cons (pv 3) (pa_cons (pv 5) (pa_cons (pe_op op_sub (pe_op op_sub (pe_op op_sub (pv 4) (pv 6)) pe_int) (pe_call GR hr rfl DR.m DR.kp DR.b .nil pass0 (pa_cons (pv 0) (pa_cons pe_int pa_nil)))) pa_nil)))))))), ?_⟩
  have hhd : h ≠ d := fun e => by
    obtain ⟨m0, ys, k, g1, _⟩ := DK.ex
    rw [e, g1] at hx
    cases hx
  have two := nk_two hk hN
  have xl : xs.length = m := by rw [two.length, hok.len]
  refine ⟨_, rfl, _, rfl, h, xs, rfl, .inl (.inl (.inl hx)), d, c, n, _, rfl, DK, by omega, by omega, by omega, fun H1 r r0 r1 dk1 fr1 => ?_⟩
  have hx1 := fr1 h _ hhd hhc hx
  have t1 := fr1.tk DK
  have hrl : r.toNat < hs.length := by rw [hok.len]; omega
  obtain ⟨v1, hv1, nv1⟩ := two.got (List.getElem?_eq_getElem hrl)
  have hp := List.getElem_mem hrl
  obtain ⟨tp, bp, rfl, hTp, nbp⟩ := hid_parts (Nk.tk t1 _ _ nv1) (hok.unk _ hp)
  refine ⟨_, rfl, _, rfl, h, xs, r, .ref tp, rfl, rfl, .inl (.inl hx1), atI_at r0 hv1, tp, _, rfl, hTp, rfl, _, _, rfl, _, _, rfl, rfl, ?_⟩
  refine ⟨_, rfl, _, rfl, _, _, rfl, rfl, _, rfl, _, rfl, h, xs, rfl, .inl (.inl (.inl hx1)), _, _, rfl, rfl, d, c, n + 1, _, rfl, dk1, by omega, by omega, by omega, fun H2 r2 r20 r21 dk2 fr2 => ?_⟩
  have hx2 := fr2 h _ hhd hhc hx1
  have t2 := fr2.tk dk1
  refine ⟨_, _, rfl, rfl, _, rfl, h, xs, rfl, .inl (.inl (.inl hx2)), _, _, rfl, rfl, (by show (0 : Int) < ((xs.length : Nat) : Int); omega), ?_⟩
  have hj0 : 0 ≤ (r + 1 + r2) % ((xs.length : Nat) : Int) := Int.emod_nonneg _ (by omega)
  have hj1 : (r + 1 + r2) % ((xs.length : Nat) : Int) < ((xs.length : Nat) : Int) := Int.emod_lt_of_pos _ (by omega)
  have hjl : ((r + 1 + r2) % ((xs.length : Nat) : Int)).toNat < hs.length := by rw [hok.len]; omega
  have hji : ((r + 1 + r2) % ((xs.length : Nat) : Int)).toNat ≠ r.toNat := by
    intro e
    have e2 : (r + 1 + r2) % ((xs.length : Nat) : Int) = r := by omega
    by_cases big : r + 1 + r2 < (xs.length : Int)
    · rw [Int.emod_eq_of_lt (by omega) big] at e2; omega
    · have e3 : (r + 1 + r2) % ((xs.length : Nat) : Int) = (r + 1 + r2 - xs.length) % ((xs.length : Nat) : Int) := (Int.sub_emod_right _ _).symm
      rw [e3, Int.emod_eq_of_lt (by omega) (by omega)] at e2
      omega
  obtain ⟨j, ej⟩ : ∃ j, j = (r + 1 + r2) % ((xs.length : Nat) : Int) := ⟨_, rfl⟩
  rw [← ej] at hj0 hj1 hjl hji
  obtain ⟨v2, hv2, nv2⟩ := two.got (List.getElem?_eq_getElem hjl)
  have hq := List.getElem_mem hjl
  obtain ⟨tq, bq, rfl, hTq, nbq⟩ := hid_parts (Nk.tk t2 _ _ (Nk.tk t1 _ _ nv2)) (hok.unk _ hq)
  refine ⟨h, xs, j, .ref tq, rfl, (by rw [ej]), .inl (.inl hx2), atI_at hj0 hv2, tq, _, rfl, hTq, rfl, _, _, rfl, _, _, rfl, rfl, ?_⟩
  refine ⟨_, rfl, _, rfl, _, rfl, _, rfl, _, _, rfl, rfl, _, _, rfl, rfl, _, rfl, d, c, n + 1 + 1, 3, rfl, dk2, by omega, by decide, by decide, fun H3 r3 r30 r31 dk3 fr3 => ?_⟩
  have t3 := fr3.tk dk2
  refine ⟨_, _, rfl, rfl, by show 3 ≤ sizeLine; decide, fun t ht => ?_⟩
  have s4 := same_upd (o := .tup [.ref bp, .ref bq, .int (hs[r.toNat].2 - hs[j.toNat].2 - 1 - r3)]) ht
  refine q _ t ⟨hs[r.toNat].1, hs[j.toNat].1, hs[r.toNat].2 - hs[j.toNat].2 - 1 - r3⟩ ((dk3.same s4).le (by omega)) (fr1.trans (fr2.trans (fr3.trans (Fr.of s4)))) ?_ ⟨_, _, hp, hq, rfl, rfl, ?_, by show _ - _ - 1 - r3 < _; omega⟩
  · exact .tup (.inl (.inl upd_same)) (.cons (Nk.same (Nk.tk t3 _ _ (Nk.tk t2 _ _ nbp)) s4) (.cons (Nk.same (Nk.tk t3 _ _ nbq) s4) (.cons (.num _) .nil)))
  · intro e
    have h1 : r.toNat < (hs.map (·.1)).length := by rw [List.length_map]; exact hrl
    have h2 : j.toNat < (hs.map (·.1)).length := by rw [List.length_map]; exact hjl
    have e' : (hs.map (·.1))[r.toNat] = (hs.map (·.1))[j.toNat] := by rw [List.getElem_map, List.getElem_map]; exact e
    rcases Nat.lt_or_gt_of_ne hji with lt | gt
    · exact List.pairwise_iff_getElem.mp hok.nd _ _ h2 h1 lt e'.symm
    · exact List.pairwise_iff_getElem.mp hok.nd _ _ h1 h2 gt e'
end
/-! ### around -/
def around (hs : Hid) : List Ato := (hs.zip (hs.drop 1 ++ hs.take 1)).map fun p => ⟨p.1.1, p.2.1, p.1.2 - p.2.2⟩
theorem turn_len {α : Type} (l : List α) : (l.drop 1 ++ l.take 1).length = l.length := by rw [List.length_append, List.length_drop, List.length_take]; omega
theorem around_len (hs : Hid) : (around hs).length = hs.length := by unfold around; rw [List.length_map, List.length_zip, turn_len, Nat.min_self]
theorem zip_fst {α β γ : Type} {f : α → γ} : ∀ {l : List α} {m : List β}, l.length ≤ m.length → (l.zip m).map (fun p => f p.1) = l.map f
  | [], _, _ => rfl
  | _ :: _, [], h => by simp at h
  | a :: l, b :: m, h => by
    rw [List.zip_cons_cons, List.map_cons, List.map_cons, zip_fst (by simpa using h)]
theorem zip_snd {α β γ : Type} {f : β → γ} : ∀ {l : List α} {m : List β}, m.length ≤ l.length → (l.zip m).map (fun p => f p.2) = m.map f
  | _, [], _ => by simp
  | [], _ :: _, h => by simp at h
  | a :: l, b :: m, h => by
    rw [List.zip_cons_cons, List.map_cons, List.map_cons, zip_snd (by simpa using h)]
theorem around_u (hs : Hid) : (around hs).map (·.u) = hs.map (·.1) := by
  unfold around
  rw [List.map_map]
  exact zip_fst (f := fun p : NestedKey × Int => p.1) (by rw [turn_len]; exact Nat.le_refl _)
theorem around_v (hs : Hid) : (around hs).map (·.v) = (hs.drop 1 ++ hs.take 1).map (·.1) := by
  unfold around
  rw [List.map_map]
  exact zip_snd (f := fun p : NestedKey × Int => p.1) (by rw [turn_len]; exact Nat.le_refl _)
theorem turn_perm {α : Type} (l : List α) : (l.drop 1 ++ l.take 1).Perm l := by
  have := List.perm_append_comm (l₁ := l.drop 1) (l₂ := l.take 1)
  rwa [List.take_append_drop] at this
theorem around_uv (hs : Hid) : ((around hs).map (·.v)).Perm ((around hs).map (·.u)) := by
  rw [around_u, around_v]
  exact (turn_perm hs).map _
theorem zip_get {α β : Type} {l : List α} {m : List β} {p : α × β} (h : p ∈ l.zip m) : ∃ i : Nat, l[i]? = some p.1 ∧ m[i]? = some p.2 := by
  obtain ⟨i, hi, e⟩ := List.getElem_of_mem h
  rw [List.length_zip] at hi
  refine ⟨i, ?_, ?_⟩
  · rw [List.getElem?_eq_getElem (by omega), ← e, List.getElem_zip]
  · rw [List.getElem?_eq_getElem (by omega), ← e, List.getElem_zip]
theorem turn_get {α : Type} {l : List α} {i : Nat} {x : α} (h : (l.drop 1 ++ l.take 1)[i]? = some x) (hi : i < l.length) : (i + 1 < l.length ∧ l[i + 1]? = some x) ∨ (i + 1 = l.length ∧ l[0]? = some x) := by
  by_cases c : i < (l.drop 1).length
  · rw [List.getElem?_append_left c, List.getElem?_drop, Nat.add_comm] at h
    rw [List.length_drop] at c
    exact .inl ⟨by omega, h⟩
  · rw [List.getElem?_append_right (by omega), List.length_drop, List.getElem?_take] at h
    rw [List.length_drop] at c
    have e : i - (l.length - 1) = 0 := by omega
    rw [e, if_pos (by decide)] at h
    exact .inr ⟨by omega, h⟩
/-- each leads from one to another, with just the room there is -/
theorem around_met {hs : Hid} {m : Nat} (k : HidOk hs m) (h2 : 2 ≤ m) : ∀ a ∈ around hs, MetA hs a := fun a ha => by
  unfold around at ha
  obtain ⟨⟨p, q⟩, hpq, rfl⟩ := List.mem_map.mp ha
  obtain ⟨i, e1, e2⟩ := zip_get hpq
  have hi : i < hs.length := (List.getElem?_eq_some_iff.mp e1).1
  have hl := k.len
  obtain ⟨j, hj, ne⟩ : ∃ j : Nat, hs[j]? = some q ∧ j ≠ i := by
    rcases turn_get e2 hi with ⟨h1, h3⟩ | ⟨h1, h3⟩
    · exact ⟨i + 1, h3, by omega⟩
    · exact ⟨0, h3, by omega⟩
  have hjl : j < hs.length := (List.getElem?_eq_some_iff.mp hj).1
  refine ⟨p, q, List.mem_of_getElem? e1, List.mem_of_getElem? hj, rfl, rfl, fun e => ?_, Int.le_refl _⟩
  have g1 := (List.getElem?_eq_some_iff.mp e1).2
  have g2 := (List.getElem?_eq_some_iff.mp hj).2
  have c1 : i < (hs.map (·.1)).length := by rw [List.length_map]; exact hi
  have c2 : j < (hs.map (·.1)).length := by rw [List.length_map]; exact hjl
  have e' : (hs.map (·.1))[i] = (hs.map (·.1))[j] := by rw [List.getElem_map, List.getElem_map, g1, g2]; exact e
  rcases Nat.lt_or_gt_of_ne ne with lt | gt
  · exact List.pairwise_iff_getElem.mp k.nd _ _ c2 c1 lt e'.symm
  · exact List.pairwise_iff_getElem.mp k.nd _ _ c1 c2 gt e'
def sumV : List (NestedKey × Int) → Int
  | [] => 0
  | p :: r => p.2 + sumV r
theorem sumV_app : ∀ l m : Hid, sumV (l ++ m) = sumV l + sumV m
  | [], m => by simp [sumV]
  | a :: l, m => by simp only [List.cons_append, sumV, sumV_app l m]; omega
theorem sumK_zip : ∀ (l m : Hid), l.length = m.length → sumK ((l.zip m).map fun p => (⟨p.1.1, p.2.1, p.1.2 - p.2.2⟩ : Ato)) = sumV l - sumV m
  | [], [], _ => rfl
  | [], _ :: _, h => by simp at h
  | _ :: _, [], h => by simp at h
  | a :: l, b :: m, h => by
    rw [List.zip_cons_cons, List.map_cons]
    simp only [sumK, sumV]
    rw [sumK_zip l m (by simpa using h)]
    omega
theorem around_sum (hs : Hid) : sumK (around hs) = 0 := by
  unfold around
  rw [sumK_zip _ _ (turn_len hs).symm, sumV_app]
  have : sumV hs = sumV (hs.take 1) + sumV (hs.drop 1) := by rw [← sumV_app, List.take_append_drop]
  omega
/-- a list around whose bounds are together below zero: no values -/
theorem no_round {r : List Ato} (pm : (r.map (·.v)).Perm (r.map (·.u))) (neg : sumK r < 0) {f : NestedKey → Int} (h : Sat f r) : False := by
  have h1 := sum_le (f := f) r h
  rw [sumF_perm pm] at h1
  omega
def less (b a : Ato) : Ato := if a = b then ⟨b.u, b.v, b.k - 1⟩ else a
theorem less_u (b a : Ato) : (less b a).u = a.u := by unfold less; split <;> simp_all
theorem less_v (b a : Ato) : (less b a).v = a.v := by unfold less; split <;> simp_all
theorem less_le (b a : Ato) : (less b a).k ≤ a.k := by
  unfold less
  split
  · rename_i e
    rw [e]
    show b.k - 1 ≤ b.k
    omega
  · exact Int.le_refl _
theorem sumK_less (b : Ato) : ∀ r : List Ato, sumK (r.map (less b)) ≤ sumK r ∧ (b ∈ r → sumK (r.map (less b)) < sumK r)
  | [] => ⟨Int.le_refl _, fun h => nomatch h⟩
  | a :: r => by
    obtain ⟨h1, h2⟩ := sumK_less b r
    have h3 := less_le b a
    simp only [List.map_cons, sumK]
    refine ⟨by omega, fun h => ?_⟩
    rcases List.mem_cons.mp h with e | h
    · have h4 : (less b a).k = b.k - 1 := by unfold less; rw [if_pos e.symm]
      rw [← e] at h3 ⊢
      rw [← e] at h4
      omega
    · have := h2 h; omega
theorem less_ok {a b : Ato} (h : AtoOk a) : AtoOk (less b a) := ⟨by rw [less_u]; exact h.u, by rw [less_v]; exact h.v, by rw [less_u, less_v]; exact h.ne⟩
theorem around_less {hs : Hid} {b : Ato} (hb : b ∈ around hs) {as : List Ato} (sub : ∀ a ∈ around hs, a ∈ as) {f : NestedKey → Int} (h : Sat f (as.map (less b))) : False := by
  refine no_round (r := (around hs).map (less b)) ?_ ?_ (f := f) fun a ha => ?_
  · rw [List.map_map, List.map_map]
    have e1 : (around hs).map ((·.v) ∘ less b) = (around hs).map (·.v) := List.map_congr_left fun a _ => less_v b a
    have e2 : (around hs).map ((·.u) ∘ less b) = (around hs).map (·.u) := List.map_congr_left fun a _ => less_u b a
    rw [e1, e2]
    exact around_uv hs
  · have := (sumK_less b (around hs)).2 hb
    have := around_sum hs
    omega
  · obtain ⟨a', ha', rfl⟩ := List.mem_map.mp ha
    exact h _ (List.mem_map.mpr ⟨a', sub a' ha', rfl⟩)
section
variable {P : Program} {w : World} {K : PySem.W.Frag} {mg : Str → Option Value} {base : Heap}
theorem cutL_drop1 (xs : List V) (h : 1 ≤ xs.length) : cutV xs (some 1) none = xs.drop 1 := cut_drop1 xs h
abbrev sAr : Stmt := top 36
abbrev nAr : List Str := ["_law_hidden_here", "_law_found", "_law_u", "_law_here", "_law_v", "_law_there"]
theorem scAr : FnScope nAr ["_law_hidden_here"] (defScope sAr) := ⟨rfl, rfl, rfl, by decide +kernel, rfl, by decide +kernel, by decide +kernel⟩
def spAr (K : PySem.W.Frag) : Sp := fun vs H Q _ => ∃ (h : Addr) (hs : Hid) (m : Nat), vs = [.ref h] ∧ Lx K H (hs.map hk) h ∧ HidOk hs m ∧ 2 ≤ m ∧ m ≤ 101 ∧ ∀ p H', Same H H' → H p = none → Lx K H' ((around hs).map Ato.key) p → Q (.ref p) H'
theorem ok_ar {f : Addr} {fd : FuncData} (B : Bl K mg) (D : Df K mg "_law_around" sAr ["_law_hidden_here"] f fd) : FnOk P w K mg base CX0 1 f fd ["_law_hidden_here"] (spAr K) := by
  refine D.fn.ok scAr (fun vs H Q E h => ?_) (fun cdv A outer s H vs Q E hr h => ?_)
  · obtain ⟨h, hs, m, rfl, _⟩ := h
    rfl
  obtain ⟨h, hs, m, rfl, ⟨xs, hx, hN⟩, hok, hm2, hm, q⟩ := h
  refine ⟨_, pss_cons (ps_set (i := 1) scAr.nd rfl (.inl rfl) (pe_lst pa_nil))
    (pss_cons (ps_for PassesOwn.never rfl (RZ.pi_zipA (by rfl) B.zip (pa_cons (pv 0) (pa_cons (pe_op op_cat (pe_slice sl_list (pv 0) (po_some pe_int) po_none) (pe_slice sl_list (pv 0) po_none (po_some pe_int))) pa_nil)))
        (pg_tup rfl (pgs_cons (pg_tup rfl (pgs_cons (pg_name (i := 2) scAr.nd rfl (.inl rfl)) (pgs_cons (pg_name (i := 3) scAr.nd rfl (.inl rfl)) pgs_nil))) (pgs_cons (pg_tup rfl (pgs_cons (pg_name (i := 4) scAr.nd rfl (.inl rfl)) (pgs_cons (pg_name (i := 5) scAr.nd rfl (.inl rfl)) pgs_nil))) pgs_nil)))
      (pss_one (ps_expr (pe_bm PySem.F.plainAttrs_list PySem.F.slot_list_append PySem.F.type_list_append mt_append (pv 1) (pa_cons (pe_tup (pa_cons (pv 2) (pa_cons (pv 4) (pa_cons (pe_op op_sub (pv 3) (pv 5)) pa_nil)))) pa_nil)))))
    (pss_one (ps_ret (pv 1)))), ?_⟩
  have xl : xs.length = m := by
    have := hN.length
    rw [List.length_map, hok.len] at this
    exact this
  refine ⟨Nat.zero_le _, fun F hF => ?_⟩
  have s1 := same_upd (o := .lst []) hF
  refine ⟨_, rfl, _, rfl, 1, rfl, h, xs, rfl, .inl (.inl (s1 _ _ hx)), fun p1 hp1 => ?_⟩
  rw [cut_drop1 xs (by omega)]
  have s2 := same_upd (o := .lst (xs.drop 1)) hp1
  refine ⟨_, rfl, 1, rfl, h, xs, rfl, .inl (.inl (s2 _ _ (s1 _ _ hx))), fun p2 hp2 => ?_⟩
  rw [cut_take1 xs (by omega)]
  have s3 := same_upd (o := .lst (xs.take 1)) hp2
  refine ⟨p1, p2, _, _, rfl, rfl, s3 _ _ upd_same, upd_same, ?_, fun p3 hp3 => ?_⟩
  · rw [List.length_drop, List.length_take]
    exact Nat.le_of_lt (small6 (by omega))
  have s4 := same_upd (o := .lst (xs.drop 1 ++ xs.take 1)) hp3
  have s14 := s1.trans (s2.trans (s3.trans s4))
  have hF4 := s4 _ _ (s3 _ _ (s2 _ _ (upd_same (H := H) (a := F) (o := .lst []))))
  have h3 : (upd (upd (upd (upd H F (.lst [])) p1 (.lst (xs.drop 1))) p2 (.lst (xs.take 1))) p3 (.lst (xs.drop 1 ++ xs.take 1))) p3 = some (.lst (xs.drop 1 ++ xs.take 1)) := upd_same
  have hp3F : p3 ≠ F := (ne_of_none (s3 _ _ (s2 _ _ upd_same)) hp3).symm
  generalize (upd (upd (upd (upd H F (.lst [])) p1 (.lst (xs.drop 1))) p2 (.lst (xs.take 1))) p3 (.lst (xs.drop 1 ++ xs.take 1))) = H4 at s14 hF4 h3
  have two := nk_two hk hN
  have hN2 : NkAll K H ((hs.drop 1 ++ hs.take 1).map hk) (xs.drop 1 ++ xs.take 1) := by
    rw [List.map_append, List.map_drop, List.map_take]
    exact (hN.drop 1).app (hN.take 1)
  have two2 := nk_two hk hN2
  have W := walk_zip (K := K) (a := h) (b := p3) (xs := xs) (ys := xs.drop 1 ++ xs.take 1) (n := m) (by rw [turn_len, xl, Nat.min_self])
  have hhF : h ≠ F := ne_of_none hx hF
  refine ⟨h, p3, xs, _, rfl, .inl ⟨.inl (.inl (s14 _ _ hx)), .inl (.inl h3), ?_⟩⟩
  refine for_it W (fun i σ H' => ∃ y2 y3 y4 y5 zs, σ = [some (.ref h), some (.ref F), y2, y3, y4, y5] ∧ Same H H' ∧ H' p3 = some (.lst (xs.drop 1 ++ xs.take 1)) ∧ H' F = some (.lst zs) ∧ NkAll K H' (((around hs).take i).map Ato.key) zs)
    ⟨none, none, none, none, [], rfl, s14, h3, hF4, .nil⟩ (fun i σ H' _ hh => by
      obtain ⟨_, _, _, _, _, _, h1, h2, _⟩ := hh
      exact ⟨.inl (.inl (h1 _ _ hx)), .inl (.inl h2)⟩) ?_ ?_
  · rintro i v σ H5 H5' hi ⟨y2, y3, y4, y5, zs, rfl, sm, e3, eF, nz⟩ ⟨T, x, y, rfl, hT, rfl, hx1, hy1⟩
    obtain ⟨p, hp, npx⟩ := two.get hx1
    obtain ⟨q', hq, nqy⟩ := two2.get hy1
    have sT := same_upd (o := .tup [x, y]) hT
    have pm : p ∈ hs := List.mem_of_getElem? hp
    have qm : q' ∈ hs := (turn_perm hs).mem_iff.mp (List.mem_of_getElem? hq)
    obtain ⟨tp, bp, rfl, hTp, nbp⟩ := hid_parts (Nk.same npx (sm.trans sT)) (hok.unk _ pm)
    obtain ⟨tq, bq, rfl, hTq, nbq⟩ := hid_parts (Nk.same nqy (sm.trans sT)) (hok.unk _ qm)
    have zl := nz.length
    rw [List.length_map, List.length_take, around_len, hok.len] at zl
    refine ⟨T, _, rfl, .inl (.inl upd_same), rfl, _, _, rfl, ⟨tp, _, rfl, hTp, rfl, _, _, rfl, _, _, rfl, rfl, _, _, rfl, ⟨tq, _, rfl, hTq, rfl, _, _, rfl, _, _, rfl, rfl, rfl, ?_⟩⟩⟩
    refine ⟨_, rfl, .inl ⟨rfl, _, .inl (.inl (sT _ _ eF))⟩, _, rfl, _, rfl, _, rfl, _, rfl, _, _, rfl, rfl, by show 3 ≤ sizeLine; decide, fun t ht => ?_⟩
    have s6 := same_upd (o := .tup [.ref bp, .ref bq, .int (p.2 - q'.2)]) ht
    refine ⟨F, zs, .ref t, rfl, rfl, s6 _ _ (sT _ _ eF), small6 (by omega), ?_⟩
    have t9 := upd_lst_tk (ys := zs ++ [V.ref t]) (s6 _ _ (sT _ _ eF))
    have ga : (around hs)[i]? = some ⟨p.1, q'.1, p.2 - q'.2⟩ := by
      unfold around
      have hz : (hs.zip (hs.drop 1 ++ hs.take 1))[i]? = some (p, q') := by
        have c1 := (List.getElem?_eq_some_iff.mp hp)
        have c2 := (List.getElem?_eq_some_iff.mp hq)
        obtain ⟨c1l, c1e⟩ := c1
        obtain ⟨c2l, c2e⟩ := c2
        rw [List.getElem?_eq_getElem (by rw [List.length_zip]; omega), List.getElem_zip, c1e, c2e]
      rw [List.getElem?_map, hz]
      rfl
    refine ⟨_, _, _, _, zs ++ [.ref t], rfl, fun b o e => ?_, ?_, upd_same, ?_⟩
    · rw [upd_ne (ne_of_none e hF)]
      exact s6 _ _ (sT _ _ (sm _ _ e))
    · rw [upd_ne hp3F]
      exact s6 _ _ (sT _ _ e3)
    · rw [take_next ga, List.map_append]
      refine (NkAll.tk ((Tk.same (sT.trans s6)).trans t9) _ _ nz).app (.cons ?_ .nil)
      exact Nk.tk t9 _ _ (.tup (.inl (.inl upd_same)) (.cons (Nk.same nbp s6) (.cons (Nk.same nbq s6) (.cons (.num _) .nil))))
  · rintro σ H5 ⟨y2, y3, y4, y5, zs, rfl, sm, e3, eF, nz⟩
    rw [List.take_of_length_le (by rw [around_len, hok.len]; exact Nat.le_refl _)] at nz
    exact ⟨_, rfl, q F H5 sm hF ⟨zs, eF, nz⟩⟩
end
end OW
end
section
set_option linter.all false
set_option maxRecDepth 100000
set_option maxHeartbeats 4000000
set_option autoImplicit false
/- P22: _law_named, _law_breaks, _law_is_solution. -/
namespace OW
open PySem L2
section
variable {X : Cx} {K : PySem.W.Frag}
theorem op_eqNLC (hK : X.K = K) (hu : X.A.units + 64 < cLine) : OpR X (compareOp .Eq) (rEqNL K false) := by subst hK; exact op_eqNL hu
theorem op_neNLC (hK : X.K = K) (hu : X.A.units + 64 < cLine) : OpR X (compareOp .NotEq) (rEqNL K true) := by subst hK; exact op_neNL hu
theorem cr_isiC (hK : X.K = K) : CallR X (.builtin "isinstance") (rIsiB K) := by subst hK; exact cr_isi
end
section
variable {P : Program} {w : World} {K : PySem.W.Frag} {mg : Str → Option Value} {base : Heap}
abbrev sNa : Stmt := top 38
abbrev nNa : List Str := ["_law_atoms", "_law_sides", "_law_atom", "_law_side"]
theorem scNa : FnScope nNa ["_law_atoms"] (defScope sNa) := ⟨rfl, rfl, rfl, by decide +kernel, rfl, by decide +kernel, by decide +kernel⟩
def spNa (K : PySem.W.Frag) : Sp := fun vs H Q _ => ∃ (a : Addr) (as : List Ato), vs = [.ref a] ∧ Sx K H (as.map Ato.key) a ∧ (∀ b ∈ as, AtoOk b) ∧ as.length ≤ 500 ∧ ∀ p H', Same H H' → H p = none → Lx K H' (names as) p → Q (.ref p) H'
theorem ok_na {f : Addr} {fd : FuncData} (B : Bl K mg) (D : Df K mg "_law_named" sNa ["_law_atoms"] f fd) : FnOk P w K mg base CX0 1 f fd ["_law_atoms"] (spNa K) := by
  refine D.fn.ok scNa (fun vs H Q E h => ?_) (fun cdv A outer s H vs Q E hr h => ?_)
  · obtain ⟨a, as, rfl, _⟩ := h
    rfl
  obtain ⟨a, as, rfl, ⟨xs, hS, hN⟩, ok, hlen, q⟩ := h
  refine ⟨_, pss_cons (ps_set (i := 1) scNa.nd rfl (.inl rfl) (pe_op op_cat
      (pe_lc (own := [("_law_atom", 2)]) (g := gName 2) rfl scNa.nd (pi_sq (pv 0)) (blkOk_by (N := nNa) (sc := defScope sNa) (by decide +kernel)) (fun _ _ _ _ _ => pg_name (i := 2) scNa.nd rfl (Or.inl rfl)) (fun _ _ _ _ _ => pts_nil) (fun _ _ _ _ _ => pe_ix (ix_tupC (K := K) rfl) (pv 2) pe_int (fun _ _ => rfl)))
      (pe_lc (own := [("_law_atom", 2)]) (g := gName 2) rfl scNa.nd (pi_sq (pv 0)) (blkOk_by (N := nNa) (sc := defScope sNa) (by decide +kernel)) (fun _ _ _ _ _ => pg_name (i := 2) scNa.nd rfl (Or.inl rfl)) (fun _ _ _ _ _ => pts_nil) (fun _ _ _ _ _ => pe_ix (ix_tupC (K := K) rfl) (pv 2) pe_int (fun _ _ => rfl)))))
    (pss_one (ps_ret (pe_callB (cr_nsortS rfl hr.units) (by rfl) B.sorted PyProof.Rows.boot_sorted (pa_cons (pe_callTy (cr_setN rfl hr.units) (by rfl) B.set PyProof.Rows.boot_set (pa_cons
      (pe_lc (own := [("_law_side", 3)]) (g := gName 3) rfl scNa.nd (pi_sq (pv 1)) (blkOk_by (N := nNa) (sc := defScope sNa) (by decide +kernel)) (fun _ _ _ _ _ => pg_name (i := 3) scNa.nd rfl (Or.inl rfl)) (fun _ _ _ _ _ => pts_one (pt_cmpR (op_neNC (K := K) rfl (by exact hr.units)) (pv 3) (pe_tup pa_nil) (nomark _))) (fun _ _ _ _ _ => pv 3)) pa_nil)) pa_nil)))), ?_⟩
  have two := nk_two Ato.key hN
  obtain ⟨J, Gs, W⟩ := sq_walk hS
  refine ⟨_, rfl, a, xs, J, rfl, W.sq (fun _ _ e => e), W.arm (fun _ _ e => e), fun hz1 D1 hD1 => ?_⟩
  refine lc_gen as (fun b y H' => Nk K H' b.u y) (fun _ => true) W.walk (fun _ s => W.g s) two.length.symm (by rw [← two.length]; exact hz1) hD1 (fun _ _ _ _ t h => Nk.tk t _ _ h) (fun i b x H' hb hx sm kk cn yes no => ?_) (fun ysu H1 s1 hyu two1 => ?_)
  · obtain ⟨b', hb', hbx⟩ := two.get hx
    rw [hb] at hb'
    obtain rfl : b = b' := Option.some.inj hb'
    obtain ⟨rb, bu, bv, rfl, htb, hu, hv⟩ := ato_parts (Nk.same hbx sm) (ok b (List.mem_of_getElem? hb))
    exact ⟨rfl, _, rfl, rb, _, 0, .ref bu, rfl, rfl, htb, atI_nat (j := 0) rfl, yes rfl _ _ (fun _ _ e => e) hu⟩
  rw [filter_true] at two1
  obtain ⟨J2, Gs2, W2⟩ := sq_walk (sq_same hS s1)
  have twob := nk_two Ato.key (NkAll.same hN s1)
  refine ⟨_, rfl, a, xs, J2, rfl, W2.sq (fun _ _ e => e), W2.arm (fun _ _ e => e), fun hz2 D2 hD2 => ?_⟩
  refine lc_gen as (fun b y H' => Nk K H' b.v y) (fun _ => true) W2.walk (fun _ s => W2.g s) two.length.symm (by rw [← two.length]; exact hz2) hD2 (fun _ _ _ _ t h => Nk.tk t _ _ h) (fun i b x H' hb hx sm kk cn yes no => ?_) (fun ysv H2 s2 hyv two2 => ?_)
  · obtain ⟨b', hb', hbx⟩ := twob.get hx
    rw [hb] at hb'
    obtain rfl : b = b' := Option.some.inj hb'
    obtain ⟨rb, bu, bv, rfl, htb, hu, hv⟩ := ato_parts (Nk.same hbx sm) (ok b (List.mem_of_getElem? hb))
    exact ⟨rfl, _, rfl, rb, _, 1, .ref bv, rfl, rfl, htb, atI_nat (j := 1) rfl, yes rfl _ _ (fun _ _ e => e) hv⟩
  rw [filter_true] at two2
  have lu := two1.length
  have lv := two2.length
  refine ⟨D1, D2, ysu, ysv, rfl, rfl, s2 _ _ hyu, hyv, Nat.le_of_lt (small6 (by omega)), fun p3 hp3 => ?_⟩
  have s3 := same_upd (o := .lst (ysu ++ ysv)) hp3
  have nsd : NkAll K (upd H2 p3 (.lst (ysu ++ ysv))) (sides as) (ysu ++ ysv) := (NkAll.same (two_nk (fun b : Ato => b.u) two1) (s2.trans s3)).app (NkAll.same (two_nk (fun b : Ato => b.v) two2) s3)
  have usd : ∀ k ∈ sides as, Unk k := fun k hk => by
    obtain ⟨b, hb, e⟩ := mem_sides.mp hk
    rcases e with e | e
    · rw [e]; exact (ok b hb).u
    · rw [e]; exact (ok b hb).v
  have two3 := nk_two (fun k : NestedKey => k) (as := sides as) (by rw [List.map_id']; exact nsd)
  have lsd : (sides as).length ≤ 1000 := by unfold sides; rw [List.length_append, List.length_map, List.length_map]; omega
  obtain ⟨J3, Gs3, W3⟩ := sq_walk (K := K) (H := upd H2 p3 (.lst (ysu ++ ysv))) (a := p3) (xs := ysu ++ ysv) (.inl (.inl (.inl upd_same)))
  refine ⟨_, rfl, p3, _, J3, rfl, W3.sq (fun _ _ e => e), W3.arm (fun _ _ e => e), fun hz3 D3 hD3 => ?_⟩
  refine lc_gen (sides as) (fun k y H' => Nk K H' k y) (fun k => decide (k ≠ ZK)) W3.walk (fun _ s => W3.g s) two3.length.symm (by rw [← two3.length]; exact hz3) hD3 (fun _ _ _ _ t h => Nk.tk t _ _ h) (fun i k x H' hk hx sm kk cn yes no => ?_) (fun ys H4 s4 hy two4 => ?_)
  · obtain ⟨k', hk', hkx⟩ := two3.get hx
    rw [hk] at hk'
    obtain rfl : k = k' := Option.some.inj hk'
    have hu := usd k (List.mem_of_getElem? hk)
    have hd := hu.depth
    refine ⟨rfl, _, rfl, Nat.zero_le _, fun e he => ?_⟩
    have sE := same_upd (o := .tup []) he
    refine ⟨k, ZK, Nk.same hkx (sm.trans sE), .tup (.inl (.inl upd_same)) .nil, by omega, by decide, _, rfl, ?_⟩
    refine ite2 (fun z => ?_) (fun z => ?_)
    · have e : ¬ k = ZK := fun e => by simp [e] at z
      exact ⟨_, rfl, yes (decide_eq_true e) _ _ sE (Nk.same hkx (sm.trans sE))⟩
    · have e : k = ZK := by simpa using z
      exact no (decide_eq_false fun z => z e) _ sE
  have nk4 : NkAll K H4 ((sides as).filter fun k => decide (k ≠ ZK)) ys := by
    have := two_nk (fun k : NestedKey => k) two4
    rwa [List.map_id'] at this
  have fl : ((sides as).filter fun k => decide (k ≠ ZK)).length ≤ (sides as).length := List.length_filter_le _ _
  refine ⟨D3, _, ys, rfl, .inl (.inl (.inl hy)), nk4, fun k hk => ?_, by omega, fun t H5 S ht hSt ndS mem at5 s5 => ?_⟩
  · exact unk_tp (usd k (List.mem_filter.mp hk).1)
  have hm : ∀ k, k ∈ S ↔ k ≠ ZK ∧ ∃ b ∈ as, k = b.u ∨ k = b.v := fun k => by
    rw [mem k, List.mem_filter, mem_sides, decide_eq_true_eq]
    exact And.comm
  have okS : SrtOk S := srt_names fun k hk => names_unk ok k (mem_names.mpr ((hm k).mp hk))
  refine ⟨t, S, rfl, hSt, okS, fun p6 H6 vs hp6 hvs nvs at6 s6 => ?_⟩
  have sAll := s1.trans (s2.trans (s3.trans (s4.trans s5)))
  exact q p6 H6 (sAll.trans s6) (sAll.free hp6) ⟨vs, hvs, by rw [← names_eq ok ndS hm]; exact nvs⟩
/-! ### _law_breaks -/
abbrev sBk : Stmt := top 39
abbrev nBk : List Str := ["_law_values", "_law_one", "_law_u", "_law_v", "_law_k"]
theorem scBk : FnScope nBk ["_law_values", "_law_one"] (defScope sBk) := ⟨rfl, rfl, rfl, by decide +kernel, rfl, by decide +kernel, by decide +kernel⟩
def spBk (P : Program) (w : World) (K : PySem.W.Frag) : Sp := fun vs H Q _ => ∃ (d : Addr) (v : V) (as : List Ato) (f : NestedKey → Int), vs = [.ref d, v] ∧ Nk K H (altK as) v ∧ (∀ b ∈ as, AtoOk b) ∧ ValD P w K H d f (sides as) ∧ ∀ H', Same H H' → Q (.bl (!satB f as)) H'
theorem ok_bk {f : Addr} {fd : FuncData} (B : Bl K mg) (D : Df K mg "_law_breaks" sBk ["_law_values", "_law_one"] f fd) : FnOk P w K mg base CX0 1 f fd ["_law_values", "_law_one"] (spBk P w K) := by
  refine D.fn.ok scBk (fun vs H Q E h => ?_) (fun cdv A outer s H vs Q E hr h => ?_)
  · obtain ⟨d, v, as, f, rfl, _⟩ := h
    rfl
  obtain ⟨d, v, as, ff, rfl, hk, ok, ⟨kvs, hd, hv⟩, q⟩ := h
  obtain ⟨t, xs, rfl, ht, hN⟩ := Nk.ref hk
  refine ⟨_, pss_one (ps_ret (pe_cmpR (op_neNL hr.units)
      (pe_lc (own := [("_law_u", 2), ("_law_v", 3), ("_law_k", 4)]) (g := gTup K 3 (gCons (gName 2) (gCons (gName 3) (gCons (gName 4) gNil)))) rfl scBk.nd (pi_sq (pv 1)) (blkOk_by (N := nBk) (sc := defScope sBk) (by decide +kernel))
        (fun _ _ _ _ _ => pg_tup rfl (pgs_cons (pg_name (i := 2) scBk.nd rfl (.inl rfl)) (pgs_cons (pg_name (i := 3) scBk.nd rfl (.inl rfl)) (pgs_cons (pg_name (i := 4) scBk.nd rfl (.inl rfl)) pgs_nil))))
        (fun _ _ _ _ _ => pts_one (pt_cmpR op_gt (pe_op op_sub (pe_ndgetC (P := P) (w := w) (K := K) rfl rfl rfl (by exact hr.units) (pv 0) (pv 2)) (pe_ndgetC (P := P) (w := w) (K := K) rfl rfl rfl (by exact hr.units) (pv 0) (pv 3))) (pv 4) (nomark _)))
        (fun _ _ _ _ _ => pe_int)) (pe_lst pa_nil) (nomark _))), ?_⟩
  obtain ⟨J, Gs, W⟩ := sq_walk (K := K) (H := H) (a := t) (xs := xs) (.inr ht)
  have two := nk_two Ato.key hN
  refine ⟨_, rfl, t, xs, J, rfl, W.sq (fun _ _ e => e), W.arm (fun _ _ e => e), fun hz D' hD => ?_⟩
  refine lc_gen as (fun a y _ => y = V.int 1) (fun a => decide (ff a.u - ff a.v > a.k)) W.walk (fun _ s => W.g s) two.length.symm (by rw [← two.length]; exact hz) hD (fun _ _ _ _ _ e => e) (fun i b x H' hb hx sm c cn yes no => ?_) (fun ys H' sm hy two2 => ?_)
  · obtain ⟨b', hb', hbx⟩ := two.get hx
    rw [hb] at hb'
    obtain rfl : b = b' := Option.some.inj hb'
    have hbm : b ∈ as := List.mem_of_getElem? hb
    have okb := ok b hbm
    obtain ⟨r, bu, bv, rfl, hr', hu, hv'⟩ := ato_parts (Nk.same hbx sm) okb
    have d1 := okb.u.depth
    have d2 := okb.v.depth
    refine ⟨r, _, rfl, hr', rfl, _, _, rfl, _, _, rfl, _, _, rfl, rfl, rfl, ?_⟩
    refine ⟨_, rfl, _, rfl, d, bu, kvs, b.u, _, rfl, rfl, hd.same sm, hu, by omega, hv _ (mem_sides.mpr ⟨b, hbm, .inl rfl⟩), ?_⟩
    refine ⟨_, rfl, _, rfl, d, bv, kvs, b.v, _, rfl, rfl, hd.same sm, hv', by omega, hv _ (mem_sides.mpr ⟨b, hbm, .inr rfl⟩), _, _, rfl, rfl, ?_⟩
    refine ⟨_, rfl, _, _, rfl, rfl, _, rfl, ?_⟩
    refine ite2 (fun z => ?_) (fun z => ?_)
    · exact yes z _ _ (fun _ _ e => e) rfl
    · exact no (Bool.eq_false_iff.mpr z) _ (fun _ _ e => e)
  · have ey : ys = ((as.filter fun a => decide (ff a.u - ff a.v > a.k)).map fun _ => (1 : Int)).map V.int := two_int two2
    refine ⟨Nat.zero_le _, fun e he => ?_⟩
    have sE := same_upd (o := .lst []) he
    refine ⟨D', e, ys, [], ((as.filter fun a => decide (ff a.u - ff a.v > a.k)).map fun _ => (1 : Int)).map NestedKey.num, [], rfl, rfl, .inl (.inl (sE _ _ hy)), ?_, .inl (.inl upd_same), .nil, ?_, by decide, ?_⟩
    · rw [ey]; exact nks_ints _
    · exact depthAll_le fun k hk => by
        obtain ⟨i, _, rfl⟩ := List.mem_map.mp hk
        simp [NestedKey.depth]
    · have e : (!decide (((as.filter fun a => decide (ff a.u - ff a.v > a.k)).map fun _ => (1 : Int)).map NestedKey.num = [])) = !satB ff as := by
        congr 1
        have hiff : (((as.filter fun a => decide (ff a.u - ff a.v > a.k)).map fun _ => (1 : Int)).map NestedKey.num = []) ↔ as.filter (fun a => decide (ff a.u - ff a.v > a.k)) = [] := by
          rw [List.map_eq_nil_iff, List.map_eq_nil_iff]
        rw [decide_eq_decide.mpr hiff]
        cases hs : satB ff as with
        | true =>
          rw [decide_eq_true_eq, List.filter_eq_nil_iff]
          intro a ha
          have := satB_iff.mp hs a ha
          simp only [gt_iff_lt, decide_eq_true_eq, Int.not_lt]
          exact this
        | false =>
          rw [decide_eq_false_iff_not, List.filter_eq_nil_iff]
          intro all
          have : satB ff as = true := satB_iff.mpr fun a ha => by
            have := all a ha
            simp only [gt_iff_lt, decide_eq_true_eq, Int.not_lt] at this
            exact this
          rw [hs] at this
          cases this
      show Q (V.bl (!decide (((as.filter fun a => decide (ff a.u - ff a.v > a.k)).map fun _ => (1 : Int)).map NestedKey.num = []))) _
      rw [e]
      exact q _ (sm.trans sE)
end
end OW
end
section
set_option linter.all false
set_option maxRecDepth 100000
set_option maxHeartbeats 4000000
set_option autoImplicit false
/- P23: _law_is_solution. -/
namespace OW
open PySem L2
def cmpLeft : Expr → Expr
  | .Compare l _ _ _ => l
  | e => e
section
variable {P : Program} {w : World} {K : PySem.W.Frag} {mg : Str → Option Value} {base : Heap}
abbrev sIs : Stmt := top 40
abbrev nIs : List Str := ["_law_clauses", "_law_pairs", "_law_atoms", "_law_clause", "_law_one", "_law_values", "_law_pair"]
theorem scIs : FnScope nIs ["_law_clauses", "_law_pairs"] (defScope sIs) := ⟨rfl, rfl, rfl, by decide +kernel, rfl, by decide +kernel, by decide +kernel⟩
def spIs (P : Program) (w : World) (K : PySem.W.Frag) : Sp := fun vs H Q _ => ∃ (c p : Addr) (cs : List Cla) (f : NestedKey → Int), vs = [.ref c, .ref p] ∧ Sx K H (cs.map claK) c ∧ (∀ cl ∈ cs, ClaOk cl) ∧ (allA cs).length ≤ 500 ∧ SolT K H p (names (allA cs)) f ∧ f ZK = 0 ∧ Met f cs ∧ ∀ H', Same H H' → Q (.bl true) H'
theorem ok_is {f fn fb : Addr} {fd dn db : FuncData} (B : Bl K mg) (D : Df K mg "_law_is_solution" sIs ["_law_clauses", "_law_pairs"] f fd) (DN : Df K mg "_law_named" sNa ["_law_atoms"] fn dn) (GN : FnOk P w K mg base CX0 1 fn dn ["_law_atoms"] (spNa K))
    (DB : Df K mg "_law_breaks" sBk ["_law_values", "_law_one"] fb db) (GB : FnOk P w K mg base CX0 1 fb db ["_law_values", "_law_one"] (spBk P w K)) : FnOk P w K mg base CX0 2 f fd ["_law_clauses", "_law_pairs"] (spIs P w K) := by
  refine D.fn.ok scIs (fun vs H Q E h => ?_) (fun cdv A outer s H vs Q E hr h => ?_)
  · obtain ⟨c, p, cs, f, rfl, _⟩ := h
    rfl
  obtain ⟨c, p, cs, ff, rfl, ⟨xs, hS, hN⟩, ok, hlen, hsol, hf0, hmet, q⟩ := h
  refine ⟨_, pss_cons (ps_set (i := 2) scIs.nd rfl (.inl rfl) (pe_lst pa_nil))
    (pss_cons (ps_for PassesOwn.never rfl (pi_sq (pv 0)) (pg_name (i := 3) scIs.nd rfl (.inl rfl))
      (pss_one (ps_for PassesOwn.never rfl (pi_sq (pv 3)) (pg_name (i := 4) scIs.nd rfl (.inl rfl))
        (pss_one (ps_expr (pe_bm PySem.F.plainAttrs_list PySem.F.slot_list_extend PySem.F.type_list_extend mt_extend (pv 2) (pa_cons (pe_callTy call_list_of (by rfl) B.list PyProof.Rows.boot_list (pa_cons (pv 4) pa_nil)) pa_nil)))))))
    (pss_cons (ps_if (PW.pt (pw_or (pt_not (pt_val (pe_callB cr_isi (by rfl) B.isi PyProof.Rows.boot_isinstance (pa_cons (pv 1) (pa_cons (pe_ty (by rfl) B.tup PyProof.Rows.boot_tuple) pa_nil)))))
      (pw_or1 (pt_cmpR (op_neNL hr.units) (pe_lc (own := [("_law_pair", 6)]) (g := gName 6) rfl scIs.nd (pi_sq (pv 1)) (blkOk_by (N := nIs) (sc := defScope sIs) (by decide +kernel)) (fun _ _ _ _ _ => pg_name (i := 6) scIs.nd rfl (Or.inl rfl)) (fun _ _ _ _ _ => pts_nil)
          (fun _ _ _ _ _ => pe_ix (ix_tupC (K := K) rfl) (pv 6) pe_int (fun _ _ => rfl)))
        (pe_call GN hr rfl DN.m DN.kp DN.b .nil pass0 (pa_cons (pv 2) pa_nil)) (nomark _))))) (pss_one (ps_ret pe_bl)) pss_nil)
    (pss_cons (ps_if (pt_cmpR (op_neNL hr.units) (pe_lc (own := [("_law_pair", 6)]) (g := gName 6) rfl scIs.nd (pi_sq (pv 1)) (blkOk_by (N := nIs) (sc := defScope sIs) (by decide +kernel)) (fun _ _ _ _ _ => pg_name (i := 6) scIs.nd rfl (Or.inl rfl))
          (fun _ _ _ _ _ => pts_one (PW.pt (pw_or (pt_not (pt_val (pe_callB (cr_isiC (K := K) rfl) (by rfl) B.isi PyProof.Rows.boot_isinstance (pa_cons (pe_ix (ix_tupC (K := K) rfl) (pv 6) pe_int (fun _ _ => rfl)) (pa_cons (pe_ty (by rfl) B.int PyProof.Rows.boot_int) pa_nil)))))
            (pw_or1 (pt_val (pe_callB (cr_isiC (K := K) rfl) (by rfl) B.isi PyProof.Rows.boot_isinstance (pa_cons (pe_ix (ix_tupC (K := K) rfl) (pv 6) pe_int (fun _ _ => rfl)) (pa_cons (pe_ty (by rfl) B.bool PyProof.Rows.boot_bool) pa_nil))))))))
          (fun _ _ _ _ _ => pv 6)) (pe_lst pa_nil) (nomark _)) (pss_one (ps_ret pe_bl)) pss_nil)
    (pss_cons (ps_set (i := 5) scIs.nd rfl (.inr rfl) (pe_callTy (cr_ndictT rfl hr.units) (by rfl) B.dict PyProof.Rows.boot_dict (pa_cons (pv 1) pa_nil)))
    (pss_cons (ps_ndput hr.units (pv 5) (pe_tup pa_nil) pe_int)
    (pss_one (ps_ret (pe_cmpR (op_eqNL hr.units)
      (pe_lc (own := [("_law_clause", 3)]) (g := gName 3) rfl scIs.nd (pi_sq (pv 0)) (blkOk_by (N := nIs) (sc := defScope sIs) (by decide +kernel)) (fun _ _ _ _ _ => pg_name (i := 3) scIs.nd rfl (Or.inl rfl))
        (fun _ _ _ _ _ => pts_one (pt_cmpR (op_eqNLC (K := K) rfl (by exact hr.units))
          (pe_lc (own := [("_law_one", 4)]) (g := gName 4) rfl scIs.nd (pi_sqC (K := K) rfl (pv 3)) (blkOk_by (N := nIs) (sc := relabS (compScope (cmpLeft (retOf ((defBody sIs).getD 6 (.Pass ⟨0, 0, 0, 0⟩))))) (defScope sIs)) (by decide +kernel)) (fun _ _ _ _ _ => pg_name (i := 4) scIs.nd rfl (Or.inl rfl))
            (fun _ _ _ _ _ => pts_one (pt_not (pt_val (pe_call GB hr rfl DB.m DB.kp DB.b .nil pass0 (pa_cons (pv 5) (pa_cons (pv 4) pa_nil)))))) (fun _ _ _ _ _ => pv 4))
          (pe_lst pa_nil) (nomark _)))
        (fun _ _ _ _ _ => pv 3)) (pe_lst pa_nil) (nomark _))))))))), ?_⟩
  have okA := allA_ok ok
  have nk1 := names_unk okA
  have nlen := names_len (as := allA cs)
  refine ⟨Nat.zero_le _, fun F hF => ?_⟩
  obtain ⟨J, Gs, W⟩ := sq_walk hS
  have two := nk_two claK hN
  have hl : xs.length = cs.length := two.length
  refine ⟨_, rfl, c, xs, J, rfl, W.sq (same_upd hF), W.arm (same_upd hF), fun _ => ?_⟩
  refine for_it W.walk (fun i σ H' => ∃ y3 y4 y5 y6 acc, σ = [some (.ref c), some (.ref p), some (.ref F), y3, y4, y5, y6] ∧ Same H H' ∧ H' F = some (.lst acc) ∧ NkAll K H' (((cs.take i).flatten.flatten).map Ato.key) acc)
    ⟨none, none, none, none, [], rfl, same_upd hF, upd_same, .nil⟩ (fun i σ H' _ h => by obtain ⟨_, _, _, _, _, _, h, _⟩ := h; exact W.g h) ?_ ?_
  · rintro i x σ H2 H2' hi ⟨y3, y4, y5, y6, acc, rfl, sm, hacc, nacc⟩ ⟨rfl, hx⟩
    obtain ⟨cl, hc, hcx⟩ := two.get hx
    obtain ⟨b, bs, rfl, hb, nb⟩ := Nk.ref hcx
    obtain ⟨J2, G2, W2⟩ := sq_walk (K := K) (H := H) (a := b) (xs := bs) (.inr hb)
    have two2 := nk_two altK nb
    have hl2 : bs.length = cl.length := two2.length
    refine ⟨_, rfl, b, bs, J2, rfl, W2.sq sm, W2.arm sm, fun _ => ?_⟩
    have nxt : (cs.take (i + 1)).flatten.flatten = (cs.take i).flatten.flatten ++ cl.flatten := by rw [take_next hc, List.flatten_append, List.flatten_append]; simp
    have cutA := allA_take cs (i + 1)
    refine for_it W2.walk (fun j σ H' => ∃ y4 acc, σ = [some (.ref c), some (.ref p), some (.ref F), some (.ref b), y4, y5, y6] ∧ Same H H' ∧ H' F = some (.lst acc) ∧ NkAll K H' ((((cs.take i).flatten.flatten) ++ (cl.take j).flatten).map Ato.key) acc)
      ⟨_, acc, rfl, sm, hacc, by simpa using nacc⟩ (fun i σ H' _ h => by obtain ⟨_, _, _, h, _⟩ := h; exact W2.g h) ?_ ?_
    · rintro j y σ H3 H3' hj ⟨y4, acc3, rfl, sm3, hacc3, nacc3⟩ ⟨rfl, hy⟩
      obtain ⟨l, hlj, hly⟩ := two2.get hy
      obtain ⟨t, ts, rfl, ht, nt⟩ := Nk.ref hly
      have more : ((cs.take i).flatten.flatten ++ (cl.take (j + 1)).flatten) = ((cs.take i).flatten.flatten ++ (cl.take j).flatten) ++ l := by rw [take_next hlj, List.flatten_append]; simp
      have bnd : acc3.length + ts.length ≤ sizeLine := by
        have h1 := nacc3.length
        have h2 := nt.length
        rw [List.length_map] at h1 h2
        have e : cl = cl.take (j + 1) ++ cl.drop (j + 1) := (List.take_append_drop _ cl).symm
        have h4 := congrArg List.length nxt
        have h5 := congrArg List.length more
        have h6 : cl.flatten.length = (cl.take (j + 1)).flatten.length + (cl.drop (j + 1)).flatten.length := by
          conv => lhs; rw [e]
          rw [List.flatten_append, List.length_append]
        unfold allA at cutA hlen
        simp only [List.length_append] at h4 h5 h1
        have : acc3.length + ts.length ≤ 1000000 := by omega
        exact Nat.le_of_lt (small6 (by omega))
      refine ⟨_, rfl, .inl ⟨rfl, _, .inl (.inl hacc3)⟩, _, rfl, t, ts, rfl, .inr ((Tk.same sm3).sqT ht), fun l2 hl2 => ?_⟩
      have s4 := same_upd (o := .lst ts) hl2
      have hFl : F ≠ l2 := ne_of_none hacc3 hl2
      refine ⟨F, l2, acc3, ts, rfl, rfl, s4 _ _ hacc3, upd_same, bnd, ?_⟩
      refine ⟨_, _, rfl, same_wr hF (sm3.trans s4), upd_same, ?_⟩
      rw [more, List.map_append]
      have t5 := (Tk.same s4).trans (upd_lst_tk (ys := acc3 ++ ts) (s4 _ _ hacc3))
      exact (NkAll.tk t5 _ _ nacc3).app (NkAll.tk ((Tk.same sm3).trans t5) _ _ nt)
    · rintro σ H3 ⟨y4, acc3, rfl, sm3, hacc3, nacc3⟩
      rw [hl2, List.take_length, ← nxt] at nacc3
      exact ⟨_, _, _, _, acc3, rfl, sm3, hacc3, nacc3⟩
  rintro σ H0 ⟨y3, y4, y5, y6, acc, rfl, sm, hacc, nacc⟩
  rw [hl, List.take_length] at nacc
  -- the pairs
  obtain ⟨ts, hpl, hpr⟩ := SolT.same hsol sm
  have two0 := pairs_two hpr
  have hpT : SqT K H0 p (ts.map V.ref) := hpl.sq
  refine ⟨_, rfl, _, _, "tuple", true, rfl, sqT_tyx hpT, by decide +kernel, _, rfl, iteF ?_⟩
  obtain ⟨J2, Gs2, W2⟩ := sq_walk (K := K) (H := H0) (a := p) (xs := ts.map V.ref) (.inr hpT)
  refine ⟨_, rfl, p, _, J2, rfl, W2.sq (fun _ _ e => e), W2.arm (fun _ _ e => e), fun hz2 D2 hD2 => ?_⟩
  refine lc_gen (names (allA cs)) (fun k y H' => Nk K H' k y) (fun _ => true) W2.walk (fun _ s => W2.g s) two0.length.symm (by rw [← two0.length]; exact hz2) hD2 (fun _ _ _ _ t h => Nk.tk t _ _ h) (fun i k x H' hk hx sm kk cn yes no => ?_) (fun ys2 H2 s2 hy2 two2 => ?_)
  · obtain ⟨k', hk', t, b, rfl, ht, hb, hd⟩ := two0.get hx
    rw [hk] at hk'
    obtain rfl : k = k' := Option.some.inj hk'
    exact ⟨rfl, _, rfl, t, _, 0, .ref b, rfl, rfl, (Tk.same sm).sqT ht, atI_nat (j := 0) rfl, yes rfl _ _ (fun _ _ e => e) (Nk.same hb sm)⟩
  rw [filter_true] at two2
  have nk2 : NkAll K H2 (names (allA cs)) ys2 := by
    have := two_nk (fun k : NestedKey => k) two2
    rwa [List.map_id'] at this
  refine ⟨_, rfl, F, allA cs, rfl, (show Lx K H2 ((allA cs).map Ato.key) F from ⟨acc, s2 _ _ hacc, NkAll.same nacc s2⟩).sx, okA, by omega, fun pu H3 s3 hpu hLu => ?_⟩
  obtain ⟨us, hus, nus⟩ := hLu
  have dn : NestedKey.depthAll (names (allA cs)) ≤ 60 := depthAll_le fun k hk => by have := (Unk.depth (.inr (nk1 k hk))); omega
  refine ⟨D2, pu, ys2, us, _, _, rfl, rfl, .inl (.inl (s3 _ _ hy2)), NkAll.same nk2 s3, .inl (.inl hus), nus, dn, dn, _, rfl, ?_⟩
  refine ite2 (fun e => absurd e (by simp)) (fun _ => ?_)
  -- the values are ints
  have s03 := s2.trans s3
  have hpT3 := (Tk.same s03).sqT hpT
  have two3 := pairs_two (PairsN.tk (Tk.same s03) hpr)
  obtain ⟨J4, Gs4, W4⟩ := sq_walk (K := K) (H := H3) (a := p) (xs := ts.map V.ref) (.inr hpT3)
  refine ⟨_, rfl, p, _, J4, rfl, W4.sq (fun _ _ e => e), W4.arm (fun _ _ e => e), fun hz4 D4 hD4 => ?_⟩
  refine lc_gen (names (allA cs)) (fun _ _ _ => True) (fun _ => false) W4.walk (fun _ s => W4.g s) two3.length.symm (by rw [← two3.length]; exact hz4) hD4 (fun _ _ _ _ _ _ => trivial) (fun i k x H' hk hx sm kk cn yes no => ?_) (fun ys4 H4 s4 hy4 two4 => ?_)
  · obtain ⟨k', hk', t, b, rfl, ht, hb, hd⟩ := two3.get hx
    have ht' := (Tk.same sm).sqT ht
    refine ⟨rfl, _, rfl, t, _, 1, .int (ff k'), rfl, rfl, ht', atI_nat (j := 1) rfl, _, _, "int", true, rfl, .base (.int _), by decide +kernel, _, rfl, iteF ?_⟩
    exact ⟨_, rfl, t, _, 1, .int (ff k'), rfl, rfl, ht', atI_nat (j := 1) rfl, _, _, "int", false, rfl, .base (.int _), by decide +kernel, _, rfl, iteF (no rfl _ fun _ _ e => e)⟩
  have ey4 : ys4 = [] := by
    have := two4.length
    rw [List.filter_eq_nil_iff.mpr (fun _ _ => Bool.false_ne_true)] at this
    exact List.eq_nil_of_length_eq_zero this
  subst ey4
  refine ⟨Nat.zero_le _, fun e he => ?_⟩
  have sE := same_upd (o := .lst []) he
  refine ⟨D4, e, [], [], [], [], rfl, rfl, .inl (.inl (sE _ _ hy4)), .nil, .inl (.inl upd_same), .nil, by decide, by decide, _, rfl, ?_⟩
  refine ite2 (fun e => absurd e (by simp)) (fun _ => ?_)
  have s05 := s03.trans (s4.trans sE)
  generalize upd H4 e (.lst []) = H5 at s05
  -- values
  refine ⟨_, rfl, p, ts, _, rfl, hpl.tk (Tk.same s05), PairsN.tk (Tk.same s05) hpr, fun d H6 hd dD at6 s6 => ?_⟩
  refine ⟨_, rfl, Nat.zero_le _, fun e0 he0 => ?_⟩
  have sZ := same_upd (o := .tup []) he0
  refine ⟨d, e0, _, ZK, rfl, rfl, dD.same sZ, .tup (.inl (.inl upd_same)) .nil, by decide, ?_, fun H7 d7 at7 tk7 => ?_⟩
  · have := length_mergeN ((names (allA cs)).map fun k => (k, V.int (ff k))) []
    rw [List.length_map, List.length_nil] at this
    exact small6 (by omega)
  have s7 : Same H H7 := fun b o e => by
    have e4 := s05 _ _ (sm _ _ e)
    rw [at7 b (ne_of_none e4 hd)]
    exact sZ _ _ (s6 _ _ e4)
  have hv : ValD P w K H7 d ff (sides (allA cs)) := ⟨_, d7, fun k hk => by
    rw [valV_putK]
    by_cases c : k = ZK
    · rw [if_pos c, c, hf0]
    · rw [if_neg c, valV_merge k, if_pos (mem_names.mpr ⟨c, mem_sides.mp hk⟩)]⟩
  have hSq := sq_same hS s7
  have two7 := nk_two claK (NkAll.same hN s7)
  obtain ⟨J8, Gs8, W8⟩ := sq_walk hSq
  refine ⟨_, rfl, c, xs, J8, rfl, W8.sq (fun _ _ e => e), W8.arm (fun _ _ e => e), fun hz8 D8 hD8 => ?_⟩
  refine lc_gen cs (fun _ _ _ => True) (fun _ => false) W8.walk (fun _ s => W8.g s) two7.length.symm (by rw [← two7.length]; exact hz8) hD8 (fun _ _ _ _ _ _ => trivial) (fun i cl x H' hcl hx sm8 kk cn yes no => ?_) (fun ys8 H8 s8 hy8 two8 => ?_)
  · obtain ⟨cl', hcl', hclx⟩ := two7.get hx
    rw [hcl] at hcl'
    obtain rfl : cl = cl' := Option.some.inj hcl'
    have hclm : cl ∈ cs := List.mem_of_getElem? hcl
    obtain ⟨t, as, rfl, ht, hNa⟩ := Nk.ref (Nk.same hclx sm8)
    have twoa := nk_two altK hNa
    obtain ⟨J9, Gs9, W9⟩ := sq_walk (K := K) (H := H') (a := t) (xs := as) (.inr ht)
    refine ⟨rfl, _, rfl, t, as, J9, rfl, W9.sq (fun _ _ e => e), W9.arm (fun _ _ e => e), fun hz9 D9 hD9 => ?_⟩
    refine lc_gen cl (fun a y H' => Nk K H' (altK a) y) (fun a => satB ff a) W9.walk (fun _ s => W9.g s) twoa.length.symm (by rw [← twoa.length]; exact hz9) hD9 (fun _ _ _ _ t h => Nk.tk t _ _ h) (fun j a x2 H9 ha hx2 sm9 kk2 cn2 yes2 no2 => ?_) (fun ys9 H10 s10 hy10 two10 => ?_)
    · obtain ⟨a', ha', hax⟩ := twoa.get hx2
      rw [ha] at ha'
      obtain rfl : a = a' := Option.some.inj ha'
      have ham : a ∈ cl := List.mem_of_getElem? ha
      refine ⟨rfl, _, rfl, _, rfl, d, x2, a, ff, rfl, Nk.same hax sm9, ((ok cl hclm).2 a ham).2, (hv.same (sm8.trans sm9)).mono fun k hk => ?_, fun H11 s11 => ⟨_, rfl, ?_⟩⟩
      · obtain ⟨b, hb, e⟩ := mem_sides.mp hk
        exact mem_sides.mpr ⟨b, mem_allA.mpr ⟨cl, hclm, a, ham, hb⟩, e⟩
      · cases hsb : satB ff a with
        | true => exact iteT ⟨_, rfl, yes2 hsb _ _ s11 (Nk.same (Nk.same hax sm9) s11)⟩
        | false => exact iteF (no2 hsb _ s11)
    · refine ⟨Nat.zero_le _, fun e1 he1 => ?_⟩
      have sE1 := same_upd (o := .lst []) he1
      have hne : cl.filter (fun a => satB ff a) ≠ [] := fun e => by
        obtain ⟨a, ha, sa⟩ := hmet cl hclm
        have : a ∈ cl.filter fun a => satB ff a := List.mem_filter.mpr ⟨ha, satB_iff.mpr sa⟩
        rw [e] at this
        cases this
      refine ⟨D9, e1, ys9, [], (cl.filter fun a => satB ff a).map altK, [], rfl, rfl, .inl (.inl (sE1 _ _ hy10)), NkAll.same (two_nk altK two10) sE1, .inl (.inl upd_same), .nil, depthAll_le fun k hk => ?_, by decide, _, rfl, ?_⟩
      · obtain ⟨a, ha, rfl⟩ := List.mem_map.mp hk
        have := AltOk.depth ((ok cl hclm).2 a (List.mem_filter.mp ha).1).2
        omega
      · refine ite2 (fun z => absurd z (by simp [hne])) (fun _ => no rfl _ (s10.trans sE1))
  have ey8 : ys8 = [] := by
    have := two8.length
    rw [List.filter_eq_nil_iff.mpr (fun _ _ => Bool.false_ne_true)] at this
    exact List.eq_nil_of_length_eq_zero this
  subst ey8
  refine ⟨Nat.zero_le _, fun e1 he1 => ?_⟩
  have sE1 := same_upd (o := .lst []) he1
  exact ⟨D8, e1, [], [], [], [], rfl, rfl, .inl (.inl (sE1 _ _ hy8)), .nil, .inl (.inl upd_same), .nil, by decide, by decide, q _ (s7.trans (s8.trans sE1))⟩
end
end OW
end
section
set_option linter.all false
set_option maxRecDepth 100000
set_option maxHeartbeats 4000000
set_option autoImplicit false
/- P24: _law_is_ring. -/
namespace OW
open PySem L2
section
variable {P : Program} {w : World} {K : PySem.W.Frag} {mg : Str → Option Value} {base : Heap}
abbrev sIr : Stmt := top 41
abbrev nIr : List Str := ["_law_atoms", "_law_ring", "_law_atom", "_law_one", "_law_other"]
theorem scIr : FnScope nIr ["_law_atoms", "_law_ring"] (defScope sIr) := ⟨rfl, rfl, rfl, by decide +kernel, rfl, by decide +kernel, by decide +kernel⟩
theorem ok_ir {f : Addr} {fd : FuncData} (B : Bl K mg) (D : Df K mg "_law_is_ring" sIr ["_law_atoms", "_law_ring"] f fd) : FnOk P w K mg base CX0 1 f fd ["_law_atoms", "_law_ring"] (spRho K) := by
  refine D.fn.ok scIr (fun vs H Q E h => ?_) (fun cdv A outer s H vs Q E hr h => ?_)
  · obtain ⟨a, p, as, r, rfl, _⟩ := h
    rfl
  obtain ⟨a, p, as, r, rfl, hS, ok, hlen, hp, R, q⟩ := h
  refine ⟨_, pss_cons (ps_if (PW.pt (pw_or (pt_not (pt_val (pe_callB cr_isi (by rfl) B.isi PyProof.Rows.boot_isinstance (pa_cons (pv 1) (pa_cons (pe_ty (by rfl) B.tup PyProof.Rows.boot_tuple) pa_nil)))))
      (pw_or (pt_cmpR op_lt (pe_callB call_len_seq (by rfl) B.len PySem.boot_len (pa_cons (pv 1) pa_nil)) pe_int (nomark _))
      (pw_or1 (pt_cmpR (op_neNL hr.units) (pe_lc (own := [("_law_atom", 2)]) (g := gName 2) rfl scIr.nd (pi_sq (pv 1)) (blkOk_by (N := nIr) (sc := defScope sIr) (by decide +kernel)) (fun _ _ _ _ _ => pg_name (i := 2) scIr.nd rfl (Or.inl rfl))
          (fun _ _ _ _ _ => pts_one (pt_cmpR (op_notInNC (K := K) rfl (by exact hr.units)) (pv 2) (pv 0) (by rfl))) (fun _ _ _ _ _ => pv 2)) (pe_lst pa_nil) (nomark _)))))) (pss_one (ps_ret pe_bl)) pss_nil)
    (pss_cons (ps_if (PW.pt (pw_or (pt_cmpR op_lt (pe_callB cr_setLen (by rfl) B.len PySem.boot_len (pa_cons (pe_callTy (cr_setN rfl hr.units) (by rfl) B.set PyProof.Rows.boot_set (pa_cons (pv 1) pa_nil)) pa_nil)) (pe_callB call_len_seq (by rfl) B.len PySem.boot_len (pa_cons (pv 1) pa_nil)) (nomark _))
      (pw_or1 (pt_cmpR op_gt (pe_callB (cr_sum rfl) (by rfl) B.sum PyProof.Rows.boot_sum (pa_cons
          (pe_lc (own := [("_law_atom", 2)]) (g := gName 2) rfl scIr.nd (pi_sq (pv 1)) (blkOk_by (N := nIr) (sc := defScope sIr) (by decide +kernel)) (fun _ _ _ _ _ => pg_name (i := 2) scIr.nd rfl (Or.inl rfl)) (fun _ _ _ _ _ => pts_nil)
            (fun _ _ _ _ _ => pe_ix (ix_tupC (K := K) rfl) (pv 2) pe_int (fun _ _ => rfl))) pa_nil)) (pe_un un_neg pe_int) (nomark _))))) (pss_one (ps_ret pe_bl)) pss_nil)
    (pss_one (ps_ret (pe_cmpR (op_eqNL hr.units)
        (pe_lc (own := [("_law_one", 3), ("_law_other", 4)]) (g := gTup K 2 (gCons (gName 3) (gCons (gName 4) gNil))) rfl scIr.nd (RZ.pi_zipA (by rfl) B.zip (pa_cons (pv 1) (pa_cons (pe_op op_catA (pe_slice sl_tupA (pv 1) (po_some pe_int) po_none) (pe_slice sl_tupA (pv 1) po_none (po_some pe_int))) pa_nil))) (blkOk_by (N := nIr) (sc := defScope sIr) (by decide +kernel))
          (fun _ _ _ _ _ => pg_tup rfl (pgs_cons (pg_name (i := 3) scIr.nd rfl (.inl rfl)) (pgs_cons (pg_name (i := 4) scIr.nd rfl (.inl rfl)) pgs_nil)))
          (fun _ _ _ _ _ => pts_one (pt_cmpR (op_neNC (K := K) rfl (by exact hr.units)) (pe_ix (ix_tupC (K := K) rfl) (pv 3) pe_int (fun _ _ => rfl)) (pe_ix (ix_tupC (K := K) rfl) (pv 4) pe_int (fun _ _ => rfl)) (nomark _)))
          (fun _ _ _ _ _ => pe_int)) (pe_lst pa_nil) (nomark _))))), ?_⟩
  obtain ⟨p', xs, e0, hT, hN⟩ := Nk.ref hp
  cases e0
  have okr : ∀ b ∈ r, AtoOk b := fun b hb => ok b (R.sub b hb)
  have two := nk_two Ato.key hN
  have hl : xs.length = r.length := two.length
  have h2 := R.two
  have hrl : r.length ≤ 1000 := Nat.le_trans (nodup_sub r as R.nd R.sub) hlen
  have hsl : r.length ≤ sizeLine := Nat.le_of_lt (small6 (by omega))
  have hge : ¬ ((xs.length : Int) < 2) := by omega
  refine ⟨_, rfl, _, _, "tuple", true, rfl, sqT_tyx hT, by decide +kernel, _, rfl, iteF ?_⟩
  refine ⟨_, rfl, p, xs, rfl, .inr hT, _, _, rfl, rfl, _, rfl, ?_⟩
  rw [decide_eq_false hge]
  refine iteF ?_
  -- all atoms are there
  obtain ⟨J, Gs, W⟩ := sq_walk (K := K) (H := H) (a := p) (xs := xs) (.inr hT)
  refine ⟨_, rfl, p, xs, J, rfl, W.sq (fun _ _ e => e), W.arm (fun _ _ e => e), fun hz1 D1 hD1 => ?_⟩
  refine lc_gen r (fun _ _ _ => True) (fun _ => false) W.walk (fun _ s => W.g s) hl.symm hsl hD1 (fun _ _ _ _ _ _ => trivial) (fun i b x H' hb hx sm kk cn yes no => ?_) (fun ys H1 s1 hy two1 => ?_)
  · obtain ⟨b', hb', hbx⟩ := two.get hx
    rw [hb] at hb'
    obtain rfl : b = b' := Option.some.inj hb'
    have hbm : b ∈ r := List.mem_of_getElem? hb
    obtain ⟨zs, hSq, hNz⟩ := hS.same sm
    refine ⟨rfl, _, rfl, _, rfl, b.key, _, a, zs, Nk.same hbx sm, rfl, hSq, hNz, by have := (okr b hbm).depth; omega, _, rfl, ?_⟩
    have e : decide (b.key ∈ as.map Ato.key) = true := decide_eq_true (mem_key.mpr (R.sub b hbm))
    refine ite2 (fun z => ?_) (fun _ => no rfl _ fun _ _ e => e)
    rw [if_pos rfl, e] at z
    cases z
  have ey : ys = [] := by
    have := two1.length
    rw [List.filter_eq_nil_iff.mpr (fun _ _ => Bool.false_ne_true)] at this
    exact List.eq_nil_of_length_eq_zero this
  subst ey
  refine ⟨Nat.zero_le _, fun e he => ?_⟩
  have sE := same_upd (o := .lst []) he
  refine ⟨D1, e, [], [], [], [], rfl, rfl, .inl (.inl (sE _ _ hy)), .nil, .inl (.inl upd_same), .nil, by decide, by decide, _, rfl, ?_⟩
  refine ite2 (fun e => absurd e (by simp)) (fun _ => ?_)
  have s12 := s1.trans sE
  generalize upd H1 e (.lst []) = H2 at s12
  -- each once
  refine ⟨_, rfl, p, r.map Ato.key, xs, rfl, .inr ((Tk.same s12).sqT hT), NkAll.same hN s12, fun k hk => ?_, by rw [List.length_map]; exact hrl, fun t H3 S ht hSt ndS mem at3 s3 => ?_⟩
  · obtain ⟨b, hb, rfl⟩ := List.mem_map.mp hk
    exact ⟨rfl, by have := (okr b hb).depth; omega⟩
  have s13 := s12.trans s3
  have hSl : S.length = r.length := by
    have ndr : (r.map Ato.key).Nodup := List.pairwise_map.mpr (List.Pairwise.imp (fun {b c} hne e => hne (Ato.inj e)) R.nd)
    have h1 := nodup_sub S (r.map Ato.key) ndS fun k hk => (mem k).mp hk
    have h3 := nodup_sub (r.map Ato.key) S ndr fun k hk => (mem k).mpr hk
    rw [List.length_map] at h1 h3
    omega
  refine ⟨t, S, rfl, hSt, _, rfl, p, xs, rfl, .inr ((Tk.same s13).sqT hT), _, _, rfl, rfl, _, rfl, ?_⟩
  rw [decide_eq_false (by omega)]
  refine iteF ?_
  -- below zero
  have two9 := nk_two Ato.key (NkAll.same hN s13)
  obtain ⟨J9, Gs9, W9⟩ := sq_walk (K := K) (H := H3) (a := p) (xs := xs) (.inr ((Tk.same s13).sqT hT))
  refine ⟨_, rfl, p, xs, J9, rfl, W9.sq (fun _ _ e => e), W9.arm (fun _ _ e => e), fun _ D9 hD9 => ?_⟩
  refine lc_gen r (fun b y H' => y = V.int b.k) (fun _ => true) W9.walk (fun _ s => W9.g s) hl.symm hsl hD9 (fun _ _ _ _ t h => h) (fun i b x H' hb hx sm kk cn yes no => ?_) (fun ysk H4 s4 hyk two10 => ?_)
  · obtain ⟨b', hb', hbx⟩ := two9.get hx
    rw [hb] at hb'
    obtain rfl : b = b' := Option.some.inj hb'
    obtain ⟨rb, bu, bv, rfl, htb, hu, hv⟩ := ato_parts (Nk.same hbx sm) (okr b (List.mem_of_getElem? hb))
    exact ⟨rfl, _, rfl, rb, _, 2, .int b.k, rfl, rfl, htb, atI_nat (j := 2) rfl, yes rfl _ _ (fun _ _ e => e) rfl⟩
  rw [filter_true] at two10
  have neg := R.neg
  refine ⟨D9, r.map (·.k), rfl, .inl (.inl (by rw [← two_int two10]; exact hyk)), _, rfl, _, _, rfl, rfl, _, rfl, ?_⟩
  refine ite2 (fun z => absurd (of_decide_eq_true z) (by rw [sumK_sum]; omega)) (fun _ => ?_)
  -- each leads to the next
  have s14 := s13.trans s4
  have hT4 := (Tk.same s14).sqT hT
  refine ⟨_, rfl, _, rfl, 1, rfl, p, xs, rfl, hT4, fun ⟨e, _⟩ => absurd e ?_, fun _ p1 hp1 => ?_⟩
  · rw [show HT.sIx xs.length 0 (some 1) = min 1 xs.length from HT.sIx_nat xs.length 0 1]; omega
  rw [cut_drop1 xs (by omega)]
  have s5 := same_upd (o := .tup (xs.drop 1)) hp1
  refine ⟨_, rfl, 1, rfl, p, xs, rfl, (Tk.same s5).sqT hT4, fun ⟨_, e⟩ => absurd e ?_, fun _ p2 hp2 => ?_⟩
  · rw [show HT.sIx xs.length xs.length (some 1) = min 1 xs.length from HT.sIx_nat xs.length xs.length 1]; omega
  rw [cut_take1 xs (by omega)]
  have s6 := same_upd (o := .tup (xs.take 1)) hp2
  refine ⟨p1, p2, xs.drop 1, xs.take 1, rfl, rfl, (Tk.same s6).sqT (.inl (.inl upd_same)), .inl (.inl upd_same), ?_, fun e => absurd (congrArg List.length e) ?_, fun _ e => absurd (congrArg List.length e) ?_, fun _ _ p3 hp3 => ?_⟩
  · rw [List.length_drop, List.length_take]
    exact Nat.le_of_lt (small6 (by omega))
  · rw [List.length_drop, List.length_nil]; omega
  · rw [List.length_take, List.length_nil]; omega
  have s7 := same_upd (o := .tup (xs.drop 1 ++ xs.take 1)) hp3
  have s17 := s14.trans (s5.trans (s6.trans s7))
  have h3 : (upd (upd (upd H4 p1 (.tup (xs.drop 1))) p2 (.tup (xs.take 1))) p3 (.tup (xs.drop 1 ++ xs.take 1))) p3 = some (.tup (xs.drop 1 ++ xs.take 1)) := upd_same
  generalize (upd (upd (upd H4 p1 (.tup (xs.drop 1))) p2 (.tup (xs.take 1))) p3 (.tup (xs.drop 1 ++ xs.take 1))) = H7 at s17 h3
  have hN1 := NkAll.same hN s17
  have hN7 : NkAll K H7 ((r.drop 1 ++ r.take 1).map Ato.key) (xs.drop 1 ++ xs.take 1) := by
    rw [List.map_append, List.map_drop, List.map_take]
    exact (hN1.drop 1).app (hN1.take 1)
  have twoA := nk_two Ato.key hN1
  have twoB := nk_two Ato.key hN7
  have okr2 : ∀ b ∈ r.drop 1 ++ r.take 1, AtoOk b := fun b hb => okr b ((List.mem_append.mp hb).elim List.mem_of_mem_drop List.mem_of_mem_take)
  have hT7 := (Tk.same s17).sqT hT
  have h3T : SqT K H7 p3 (xs.drop 1 ++ xs.take 1) := .inl (.inl h3)
  have W7 := walk_zipT (K := K) (a := p) (b := p3) (xs := xs) (ys := xs.drop 1 ++ xs.take 1) (n := r.length) (by rw [turn_len, hl, Nat.min_self])
  refine ⟨p, p3, xs, _, rfl, .inr ⟨hT7, h3T, fun D8 hD8 => ?_⟩⟩
  refine lc_genP r (fun _ _ _ => True) (fun _ => false) W7 (fun H' s => ⟨(Tk.same s).sqT hT7, (Tk.same s).sqT h3T⟩) rfl hsl hD8 (fun _ _ _ _ _ _ => trivial) (fun i b x y T H' hb hx hy7 sm hT' kk cn yes no => ?_) (fun ys8 H8 s8 hy8 two8 => ?_)
  · obtain ⟨b', hb', hbx⟩ := twoA.get hx
    obtain ⟨b2, hb2, hby⟩ := twoB.get hy7
    have sT := same_upd (o := .tup [x, y]) hT'
    obtain ⟨rb, bu, bv, rfl, htb, hu, hv⟩ := ato_parts (Nk.same hbx (sm.trans sT)) (okr b' (List.mem_of_getElem? hb'))
    obtain ⟨rc, cu, cv, rfl, htc, hu2, hv2⟩ := ato_parts (Nk.same hby (sm.trans sT)) (okr2 b2 (List.mem_of_getElem? hb2))
    have ev : b'.v = b2.u := by
      have h1 : (r.map (·.v))[i]? = some b'.v := by rw [List.getElem?_map, hb']; rfl
      have h2 : ((r.drop 1 ++ r.take 1).map (·.u))[i]? = some b2.u := by rw [List.getElem?_map, hb2]; rfl
      rw [R.round, h2] at h1
      exact (Option.some.inj h1).symm
    have d1 := (okr b' (List.mem_of_getElem? hb')).v.depth
    have d2 := (okr2 b2 (List.mem_of_getElem? hb2)).u.depth
    refine ⟨T, _, rfl, .inl (.inl upd_same), rfl, _, _, rfl, _, _, rfl, rfl, rfl, _, rfl, rb, _, 1, .ref bv, rfl, rfl, htb, atI_nat (j := 1) rfl, _, rfl, rc, _, 0, .ref cu, rfl, rfl, htc, atI_nat (j := 0) rfl, b'.v, b2.u, hv, hu2, by omega, by omega, _, rfl, ?_⟩
    exact ite2 (fun z => absurd z (by simp [ev])) (fun _ => no rfl _ fun _ _ e => e)
  have ey8 : ys8 = [] := by
    have := two8.length
    rw [List.filter_eq_nil_iff.mpr (fun _ _ => Bool.false_ne_true)] at this
    exact List.eq_nil_of_length_eq_zero this
  subst ey8
  refine ⟨Nat.zero_le _, fun e1 he1 => ?_⟩
  have sE1 := same_upd (o := .lst []) he1
  exact ⟨D8, e1, [], [], [], [], rfl, rfl, .inl (.inl (sE1 _ _ hy8)), .nil, .inl (.inl upd_same), .nil, by decide, by decide, q _ (s17.trans (s8.trans sE1))⟩
end
end OW
end
section
set_option linter.all false
set_option maxRecDepth 100000
set_option maxHeartbeats 4000000
set_option autoImplicit false
/- P25: lists of met atoms; _law_systems_right. -/
namespace OW
open PySem L2
section
variable {X : Cx} {K : PySem.W.Frag}
theorem op_eqNC (hK : X.K = K) (hu : X.A.units + 64 < cLine) : OpR X (compareOp .Eq) (rEqN K false) := by subst hK; exact op_eqN hu
end
theorem keys_back {S : List NestedKey} {as : List Ato} (h : ∀ k ∈ S, k ∈ as.map Ato.key) : ∃ S' : List Ato, S = S'.map Ato.key := by
  induction S with
  | nil => exact ⟨[], rfl⟩
  | cons k S ih =>
    obtain ⟨S', e⟩ := ih fun j hj => h j (List.mem_cons_of_mem _ hj)
    obtain ⟨a, _, ea⟩ := List.mem_map.mp (h k List.mem_cons_self)
    exact ⟨a :: S', by rw [List.map_cons, ← e, ea]⟩
section
variable {P : Program} {w : World} {K : PySem.W.Frag} {mg : Str → Option Value} {base : Heap}
theorem Fr.ne_of {d c : Addr} {n : Nat} {H : Hp} (D : Deck H d c n) {a : Addr} (h : H a = none) : a ≠ d ∧ a ≠ c := by
  obtain ⟨m, xs, k, g1, g2, _⟩ := D.ex
  exact ⟨(ne_of_none g1 h).symm, (ne_of_none g2 h).symm⟩
/-- what was new is new behind it, too -/
theorem Fr.free {d c : Addr} {n : Nat} {H H' : Hp} (f : Fr d c H H') (D : Deck H d c n) (D' : Deck H' d c n) {a : Addr} (h : H' a = none) : H a = none := by
  obtain ⟨h1, h2⟩ := Fr.ne_of D' h
  cases q : H a with
  | none => rfl
  | some o =>
    rw [f a o h1 h2 q] at h
    cases h
/-- [met(deck, hidden, room) for .. in range(N)] -/
theorem lc_mets {iH iO : Nat} {vs : List Nat} {σ : St} {H : Hp} {D d c h : Addr} {n m N : Nat} {hs : Hid} {room : Int} {Qd : Hp → Prop} {E : XK} (hget : ∀ x, ((wipe σ vs).set iO (some x))[iH]? = some (some (.ref h))) (hgd : ∀ x, ((wipe σ vs).set iO (some x))[0]? = some (some (.ref d))) (hw : ∀ x, wipe ((wipe σ vs).set iO (some x)) vs = wipe σ vs)
    (DK : Deck H d c n) (hh : Lx K H (hs.map hk) h) (hhc : h ≠ c) (hok : HidOk hs m) (hm2 : 2 ≤ m) (hm : m ≤ 101) (hr0 : 0 < room) (hr1 : room < 1000) (hD : H D = none) (hn : n + 3 * N ≤ 900000)
    (fin : ∀ H' (as : List Ato) ys, Deck H' d c (n + 3 * N) → Fr d c H H' → H' D = some (.lst ys) → NkAll K H' (as.map Ato.key) ys → as.length = N → (∀ a ∈ as, MetA hs a) → Qd H') :
    ∃ W : Nat → Nat → Hp → Prop, (∃ m, W 0 m (upd H D (.lst []))) ∧ ∀ i m H, W i m H →
      ((Itr 0 N).stop i H ∧ Qd H) ∨ ((Itr 0 N).go i H ∧ ∃ Nx : Hp → Prop, (∀ H', Nx H' → ∃ m', m' < m ∧ W (i + 1) m' H') ∧ ∀ x H', (Itr 0 N).yld i H x H' → gName iO x (wipe σ vs) H' fun σ2 H2 => wipe σ2 vs = wipe σ vs ∧ tYes σ2 H2 fun b H3 =>
        if b = true then tCall (spMe K) [] E (tCons (tVar 0) (tCons (tVar iH) (tCons (tC (.int room)) tNil))) σ2 H3 fun y H4 => ∃ acc, H4 D = some (.lst acc) ∧ acc.length < sizeLine ∧ Nx (upd H4 D (.lst (acc ++ [y]))) else Nx H3) := by
  obtain ⟨hDd, hDc⟩ := Fr.ne_of DK hD
  refine lc_range (lo := 0) (fun i H' => ∃ (as : List Ato) (ys : List V), Deck H' d c (n + 3 * i) ∧ Fr d c H H' ∧ H' D = some (.lst ys) ∧ NkAll K H' (as.map Ato.key) ys ∧ as.length = i ∧ (∀ a ∈ as, MetA hs a) ∧ Lx K H' (hs.map hk) h)
    ⟨[], [], DK.upd hDd hDc, Fr.of (same_upd hD), upd_same, .nil, rfl, (fun a ha => nomatch ha), hh.same (same_upd hD)⟩ ?_ ?_
  · rintro i H' hi ⟨as, ys, dk', fr, hy, ny, al, met, hhx⟩
    have yl := ny.length
    rw [List.length_map] at yl
    have hhD : h ≠ D := by
      obtain ⟨xs, h1, _⟩ := hh
      exact ne_of_none h1 hD
    refine ⟨hw _, _, hgd _, _, hget _, d, c, h, n + 3 * i, hs, m, room, rfl, dk', by omega, hhx, hhc, hok, hm2, hm, hr0, hr1, fun H4 t a dk4 fr4 nt ma => ?_⟩
    have hy4 := fr4 D _ hDd hDc hy
    have tk4 := fr4.tk dk'
    have t5 := upd_lst_tk (ys := ys ++ [V.ref t]) hy4
    refine ⟨ys, hy4, small6 (by omega), as ++ [a], ys ++ [.ref t], (dk4.upd hDd hDc).le (by omega), fun b o h1 h2 e => ?_, upd_same, ?_, by rw [List.length_append, List.length_singleton, al], fun b hb => ?_, ?_⟩
    · rw [upd_ne (ne_of_none e hD)]
      exact fr4 b o h1 h2 (fr b o h1 h2 e)
    · rw [List.map_append]
      exact (NkAll.tk (tk4.trans t5) _ _ ny).app (.cons (Nk.tk t5 _ _ nt) .nil)
    · rcases List.mem_append.mp hb with hb | hb
      · exact met b hb
      · obtain rfl : b = a := by simpa using hb
        exact ma
    · exact (fr4.lx dk' hhx hhc).tk t5 (upd_ne hhD)
  · rintro H' ⟨as, ys, dk', fr, hy, ny, al, met, _⟩
    exact fin H' as ys dk' fr hy ny al met
end
section
variable {P : Program} {w : World} {K : PySem.W.Frag} {mg : Str → Option Value} {base : Heap}
abbrev sSr : Stmt := top 42
abbrev nSr : List Str := ["_law_deck_here", "_law_many", "_law_count", "_law_hidden_here", "_law_around_here", "_law_k", "_law_atoms", "_law_word", "_law_pairs", "_law_clauses", "_law_u", "_law_v", "_law_less", "_law_ring", "_law_atom"]
theorem scSr : FnScope nSr ["_law_deck_here", "_law_many", "_law_count"] (defScope sSr) := ⟨rfl, rfl, rfl, by decide +kernel, rfl, by decide +kernel, by decide +kernel⟩
def spSr (K : PySem.W.Frag) : Sp := fun vs H Q _ => ∃ (d c : Addr) (n m N : Nat), vs = [.ref d, .int m, .int N] ∧ Deck H d c n ∧ n ≤ 100000 ∧ 1 ≤ m ∧ m ≤ 60 ∧ m + 1 ≤ N ∧ N ≤ 500 ∧ ∀ H', Deck H' d c (n + 5000) → Fr d c H H' → Q (.bl true) H'
/-- the defs that are called -/
structure SrT (P : Program) (w : World) (K : PySem.W.Frag) (mg : Str → Option Value) (base : Heap) (a1 a2 a3 a4 a5 a6 a7 a8 a9 a10 : Addr) (d1 d2 d3 d4 d5 d6 d7 d8 d9 d10 : FuncData) : Prop where
  D1 : Df K mg "_law_hidden" sHi ["_law_deck_here", "_law_many"] a1 d1
  G1 : FnOk P w K mg base CX0 3 a1 d1 ["_law_deck_here", "_law_many"] (spHi K)
  D2 : Df K mg "_law_around" sAr ["_law_hidden_here"] a2 d2
  G2 : FnOk P w K mg base CX0 1 a2 d2 ["_law_hidden_here"] (spAr K)
  D3 : Df K mg "_law_mixed" sMx ["_law_deck_here", "_law_some"] a3 d3
  G3 : FnOk P w K mg base CX0 2 a3 d3 ["_law_deck_here", "_law_some"] (spMx K)
  D4 : Df K mg "_law_met" sMe ["_law_deck_here", "_law_hidden_here", "_law_room"] a4 d4
  G4 : FnOk P w K mg base CX0 2 a4 d4 ["_law_deck_here", "_law_hidden_here", "_law_room"] (spMe K)
  D5 : Df K mg "solve" sSol ["atoms"] a5 d5
  G5 : FnOk P w K mg base CX0 2 a5 d5 ["atoms"] (spSol K)
  D6 : Df K mg "_law_is_solution" sIs ["_law_clauses", "_law_pairs"] a6 d6
  G6 : FnOk P w K mg base CX0 2 a6 d6 ["_law_clauses", "_law_pairs"] (spIs P w K)
  D7 : Df K mg "solution_holds" sSoh ["clauses", "thing"] a7 d7
  G7 : FnOk P w K mg base CX0 62 a7 d7 ["clauses", "thing"] (spSoh P w K)
  D8 : Df K mg "_law_draw" sDr ["_law_deck_here", "_law_ways"] a8 d8
  G8 : FnOk P w K mg base CX0 1 a8 d8 ["_law_deck_here", "_law_ways"] spDr
  D9 : Df K mg "_law_is_ring" sIr ["_law_atoms", "_law_ring"] a9 d9
  G9 : FnOk P w K mg base CX0 1 a9 d9 ["_law_atoms", "_law_ring"] (spRho K)
  D10 : Df K mg "ring_holds" sRho ["atoms", "thing"] a10 d10
  G10 : FnOk P w K mg base CX0 61 a10 d10 ["atoms", "thing"] (spRho K)
theorem ok_sr {f a1 a2 a3 a4 a5 a6 a7 a8 a9 a10 : Addr} {fd d1 d2 d3 d4 d5 d6 d7 d8 d9 d10 : FuncData} (B : Bl K mg) (D : Df K mg "_law_systems_right" sSr ["_law_deck_here", "_law_many", "_law_count"] f fd) (T : SrT P w K mg base a1 a2 a3 a4 a5 a6 a7 a8 a9 a10 d1 d2 d3 d4 d5 d6 d7 d8 d9 d10) : FnOk P w K mg base CX0 63 f fd ["_law_deck_here", "_law_many", "_law_count"] (spSr K) := by
  refine D.fn.ok scSr (fun vs H Q E h => ?_) (fun cdv A outer s H vs Q E hr h => ?_)
  · obtain ⟨d, c, n, m, N, rfl, _⟩ := h
    rfl
  obtain ⟨d, c, n, m, N, rfl, DK, hn, hm1, hm, hmN, hN5, q⟩ := h
  have hr1 := hr.mono (j := 1) (by decide)
  have hr2 := hr.mono (j := 2) (by decide)
  have hr3 := hr.mono (j := 3) (by decide)
  have hr61 := hr.mono (j := 61) (by decide)
  refine ⟨_, pss_cons (ps_set (i := 3) scSr.nd rfl (.inr rfl) (pe_call T.G1 hr3 rfl T.D1.m T.D1.kp T.D1.b .nil pass0 (pa_cons (pv 0) (pa_cons (pv 1) pa_nil))))
    (pss_cons (ps_set (i := 4) scSr.nd rfl (.inl rfl) (pe_call T.G2 hr1 rfl T.D2.m T.D2.kp T.D2.b .nil pass0 (pa_cons (pv 3) pa_nil)))
    (pss_cons (ps_set (i := 6) scSr.nd rfl (.inl rfl) (pe_call T.G3 hr2 rfl T.D3.m T.D3.kp T.D3.b .nil pass0 (pa_cons (pv 0) (pa_cons (pe_op op_cat
      (pe_lc (own := [("_law_k", 5)]) (g := gName 5) rfl scSr.nd (pi_range1 (by rfl) B.range (pa_cons (pe_op op_sub (pv 2) (pe_callB call_len_seq (by rfl) B.len PySem.boot_len (pa_cons (pv 4) pa_nil))) pa_nil)) (blkOk_by (N := nSr) (sc := defScope sSr) (by decide +kernel)) (fun _ _ _ _ _ => pg_name (i := 5) scSr.nd rfl (Or.inl rfl)) (fun _ _ _ _ _ => pts_nil)
        (fun _ _ _ _ _ => pe_call T.G4 hr2 rfl T.D4.m T.D4.kp T.D4.b .nil pass0 (pa_cons (pv 0) (pa_cons (pv 3) (pa_cons pe_int pa_nil))))) (pv 4)) pa_nil))))
    (pss_cons (ps_asg (pe_call T.G5 hr2 rfl T.D5.m T.D5.kp T.D5.b .nil pass0 (pa_cons (pv 6) pa_nil)) (pg_tup rfl (pgs_cons (pg_name (i := 7) scSr.nd rfl (.inl rfl)) (pgs_cons (pg_name (i := 8) scSr.nd rfl (.inl rfl)) pgs_nil))))
    (pss_cons (ps_set (i := 9) scSr.nd rfl (.inl rfl) (pe_tup (pa_cons (pe_tup (pa_cons (pe_callTy call_tuple_of (by rfl) B.tup PyProof.Rows.boot_tuple (pa_cons (pe_callB (cr_nsortS rfl hr1.units) (by rfl) B.sorted PyProof.Rows.boot_sorted (pa_cons (pe_callTy (cr_setN rfl hr1.units) (by rfl) B.set PyProof.Rows.boot_set (pa_cons (pv 6) pa_nil)) pa_nil)) pa_nil)) pa_nil)) pa_nil)))
    (pss_cons (ps_if (PW.pt (pw_or (pt_cmpR op_ne (pv 7) pe_str (nomark _)) (pw_or (pt_not (pt_val (pe_call T.G6 hr2 rfl T.D6.m T.D6.kp T.D6.b .nil pass0 (pa_cons (pv 9) (pa_cons (pv 8) pa_nil)))))
      (pw_or1 (pt_cmpR op_notBl (pe_call T.G7 hr rfl T.D7.m T.D7.kp T.D7.b .nil pass0 (pa_cons (pv 9) (pa_cons (pv 8) pa_nil))) pe_bl (nomark _)))))) (pss_one (ps_ret pe_bl)) pss_nil)
    (pss_cons (ps_asg (pe_ix ix_list (pv 4) (pe_call T.G8 hr1 rfl T.D8.m T.D8.kp T.D8.b .nil pass0 (pa_cons (pv 0) (pa_cons (pe_callB call_len_seq (by rfl) B.len PySem.boot_len (pa_cons (pv 4) pa_nil)) pa_nil))) (fun _ _ => rfl)) (pg_tup rfl (pgs_cons (pg_name (i := 10) scSr.nd rfl (.inr rfl)) (pgs_cons (pg_name (i := 11) scSr.nd rfl (.inr rfl)) (pgs_cons (pg_name (i := 5) scSr.nd rfl (.inr rfl)) pgs_nil)))))
    (pss_cons (ps_set (i := 12) scSr.nd rfl (.inl rfl) (pe_callTy call_tuple_of (by rfl) B.tup PyProof.Rows.boot_tuple (pa_cons
      (pe_lc (own := [("_law_atom", 14)]) (g := gName 14) rfl scSr.nd (pi_sq (pv 6)) (blkOk_by (N := nSr) (sc := defScope sSr) (by decide +kernel)) (fun _ _ _ _ _ => pg_name (i := 14) scSr.nd rfl (Or.inl rfl)) (fun _ _ _ _ _ => pts_nil)
        (fun _ _ _ _ _ => pe_ifExp (pt_cmpR (op_eqNC (K := K) rfl (by exact hr1.units)) (pv 14) (pe_tup (pa_cons (pv 10) (pa_cons (pv 11) (pa_cons (pv 5) pa_nil)))) (nomark _)) (pe_tup (pa_cons (pv 10) (pa_cons (pv 11) (pa_cons (pe_op op_sub (pv 5) pe_int) pa_nil)))) (pv 14))) pa_nil)))
    (pss_cons (ps_asg (pe_call T.G5 hr2 rfl T.D5.m T.D5.kp T.D5.b .nil pass0 (pa_cons (pv 12) pa_nil)) (pg_tup rfl (pgs_cons (pg_name (i := 7) scSr.nd rfl (.inl rfl)) (pgs_cons (pg_name (i := 13) scSr.nd rfl (.inl rfl)) pgs_nil))))
    (pss_one (ps_ret (pe_and (pe_cmpR op_eq (pv 7) pe_str (nomark _)) (pe_and (pe_call T.G9 hr1 rfl T.D9.m T.D9.kp T.D9.b .nil pass0 (pa_cons (pv 12) (pa_cons (pv 13) pa_nil))) (pe_one (pe_cmpR op_isBl (pe_call T.G10 hr61 rfl T.D10.m T.D10.kp T.D10.b .nil pass0 (pa_cons (pv 12) (pa_cons (pv 13) pa_nil))) pe_bl (nomark _))))))))))))))), ?_⟩
  refine ⟨_, rfl, _, rfl, d, c, n, m, rfl, DK, by omega, by omega, fun H1 h hs dk1 fr1 hh0 hLh hok => ?_⟩
  obtain ⟨hhd, hhc⟩ := Fr.ne_of DK hh0
  refine ⟨_, rfl, h, hs, m + 1, rfl, hLh, hok, by omega, by omega, fun p H2 s2 hp hLa => ?_⟩
  obtain ⟨hpd, hpc⟩ := Fr.ne_of dk1 hp
  have dk2 := dk1.same s2
  have al := around_len hs
  rw [hok.len] at al
  have hLa2 := hLa
  obtain ⟨arV, harV, narV⟩ := hLa
  have arl := narV.length
  rw [List.length_map, al] at arl
  refine ⟨_, rfl, _, rfl, _, rfl, p, arV, rfl, .inl (.inl (.inl harV)), _, _, rfl, rfl, ((N - (m + 1) : Nat) : Int), congrArg (fun z => [V.int z]) (by omega), by omega, by omega, fun D3 hD3 => ?_⟩
  rw [Int.toNat_natCast]
  have hLh2 := hLh.same s2
  refine lc_mets (K := K) (h := h) (d := d) (c := c) (n := n + 1000) (m := m + 1) (hs := hs) (room := 2) (fun _ => rfl) (fun _ => rfl) (fun _ => rfl) dk2 hLh2 hhc hok (by omega) (by omega) (by decide) (by decide) hD3 (by omega) (fun H4 as ys dk4 fr4 hy ny asl met => ?_)
  have harV4 := fr4 p _ hpd hpc harV
  have narV4 := NkAll.tk (fr4.tk dk2) _ _ narV
  have yl := ny.length
  rw [List.length_map, asl] at yl
  refine ⟨_, rfl, D3, p, ys, arV, rfl, rfl, hy, harV4, Nat.le_of_lt (small6 (by omega)), fun p5 hp5 => ?_⟩
  have s5 := same_upd (o := .lst (ys ++ arV)) hp5
  have dk5 := dk4.same s5
  refine ⟨d, c, p5, n + 1000 + 3 * (N - (m + 1)), (as ++ around hs).map Ato.key, rfl, dk5, by omega, ⟨ys ++ arV, upd_same, ?_⟩, ?_, fun H6 t gs dk6 fr6 pm nt => ?_⟩
  · rw [List.map_append]
    exact (NkAll.same ny s5).app (NkAll.same narV4 s5)
  · rw [List.length_map, List.length_append, asl, al]; omega
  obtain ⟨ats, pmA, rfl⟩ := perm_back pm
  have metA : ∀ a ∈ ats, MetA hs a := fun a ha => (List.mem_append.mp (pmA.mem_iff.mp ha)).elim (met a) fun h => around_met hok (by omega) a h
  have okA : ∀ a ∈ ats, AtoOk a := fun a ha => (metA a ha).ok hok
  have satA : Sat (hval hs) ats := fun a ha => (metA a ha).sat hok
  have atl : ats.length = N := by rw [pmA.length_eq, List.length_append, asl, al]; omega
  have fr26 : Fr d c H2 H6 := fr4.trans ((Fr.of s5).trans fr6)
  have frH6 : Fr d c H H6 := fr1.trans ((Fr.of s2).trans fr26)
  refine ⟨_, rfl, t, ats, rfl, Nk.sx nt, okA, by omega, fun t2 H7 s7 R7 => ?_⟩
  rcases R7 with ⟨pp, f, hT7, hsol, hsat, hf0⟩ | ⟨_, r, _, _, R⟩
  rotate_left
  · exact (ring_no R satA).elim
  refine ⟨t2, _, rfl, hT7, rfl, _, _, rfl, _, _, rfl, rfl, ?_⟩
  -- the clauses
  obtain ⟨_, xa, e0, hTa, nxa⟩ := Nk.ref (Nk.same nt s7)
  cases e0
  refine ⟨_, rfl, t, ats.map Ato.key, xa, rfl, .inr hTa, nxa, fun k hk => ?_, by rw [List.length_map]; omega, fun tS H8 S htS hSt ndS mem at8 s8 => ?_⟩
  · obtain ⟨a, ha, rfl⟩ := List.mem_map.mp hk
    exact ⟨rfl, by have := (okA a ha).depth; omega⟩
  obtain ⟨S', rfl⟩ := keys_back (S := S) (as := ats) fun k hk => (mem k).mp hk
  have memS : ∀ a, a ∈ S' ↔ a ∈ ats := fun a => by rw [← mem_key, mem, mem_key]
  have okS : SrtOk (S'.map Ato.key) := srt_atoms fun a ha => okA a ((memS a).mp ha)
  refine ⟨tS, _, rfl, hSt, okS, fun ps H9 vs hps hvs nvs at9 s9 => ?_⟩
  obtain ⟨AA, pmS, eS⟩ := srt_back (f := Ato.key) (as := S')
  rw [eS] at nvs
  have memA : ∀ a, a ∈ AA ↔ a ∈ ats := fun a => (pmS.mem_iff).trans (memS a)
  have s79 := s7.trans (s8.trans s9)
  refine ⟨ps, vs, rfl, .inl ⟨.inl (.inl hvs), fun t0 ht0 => ⟨by show 1 ≤ sizeLine; decide, fun t1 ht1 => ⟨by show 1 ≤ sizeLine; decide, fun tc htc => ?_⟩⟩⟩⟩
  have a0 := same_upd (o := .tup vs) ht0
  have a1 := same_upd (o := .tup [.ref t0]) ht1
  have a2 := same_upd (o := .tup [.ref t1]) htc
  have nAlt : Nk K (upd (upd (upd H9 t0 (.tup vs)) t1 (.tup [.ref t0])) tc (.tup [.ref t1])) (altK AA) (.ref t0) := .tup (.inl (.inl (a2 _ _ (a1 _ _ upd_same)))) (NkAll.same nvs (a0.trans (a1.trans a2)))
  have nCla : Nk K (upd (upd (upd H9 t0 (.tup vs)) t1 (.tup [.ref t0])) tc (.tup [.ref t1])) (claK [AA]) (.ref t1) := .tup (.inl (.inl (a2 _ _ upd_same))) (.cons nAlt .nil)
  have sC : Sx K (upd (upd (upd H9 t0 (.tup vs)) t1 (.tup [.ref t0])) tc (.tup [.ref t1])) ([[AA]].map claK) tc := ⟨_, .inr (.inl (.inl upd_same)), .cons nCla .nil⟩
  have s6A := s79.trans (a0.trans (a1.trans a2))
  generalize (upd (upd (upd H9 t0 (.tup vs)) t1 (.tup [.ref t0])) tc (.tup [.ref t1])) = H10 at sC s6A a2
  have eAll : allA [[AA]] = AA := by simp [allA]
  have AAl : AA.length ≤ N := by
    have h1 := pmS.length_eq
    have ndS' : S'.Nodup := nodup_of_map ndS
    have h2 := nodup_sub S' ats ndS' fun a ha => (memS a).mp ha
    omega
  have okAA : ∀ a ∈ AA, AtoOk a := fun a ha => okA a ((memA a).mp ha)
  have AAne : AA ≠ [] := fun e => by
    have : ats ≠ [] := fun e => by rw [e] at atl; simp at atl; omega
    obtain ⟨a, ha⟩ := List.exists_mem_of_ne_nil _ this
    have := (memA a).mpr ha
    rw [e] at this
    cases this
  have okC : ∀ cl ∈ [[AA]], ClaOk cl := fun cl hcl => by
    obtain rfl : cl = [AA] := by simpa using hcl
    exact ⟨by simp, fun a ha => by
      obtain rfl : a = AA := by simpa using ha
      exact ⟨AAne, okAA⟩⟩
  have eNames : names (allA [[AA]]) = names ats := by rw [eAll]; exact names_congr okAA memA
  have hsolC : ∀ H', Same H7 H' → SolT K H' pp (names (allA [[AA]])) f := fun H' s => by rw [eNames]; exact SolT.same hsol s
  have metC : Met f [[AA]] := fun cl hcl => by
    obtain rfl : cl = [AA] := by simpa using hcl
    exact ⟨AA, by simp, fun a ha => hsat a ((memA a).mp ha)⟩
  have s7A : Same H7 H10 := (s8.trans s9).trans ((a0.trans a1).trans a2)
  refine ⟨_, rfl, rfl, _, rfl, ?_⟩
  refine ite2 (fun z => absurd z (by simp)) (fun _ => ?_)
  refine ⟨_, rfl, _, rfl, tc, pp, [[AA]], f, rfl, sC, okC, by rw [eAll]; omega, hsolC _ s7A, hf0, metC, fun H11 s11 => ⟨_, rfl, iteF ?_⟩⟩
  refine ⟨_, rfl, _, rfl, tc, pp, [[AA]], f, rfl, sC.same s11, okC, by rw [eAll]; omega, hsolC _ (s7A.trans s11), hf0, metC, fun H12 s12 => ⟨true, true, rfl, rfl, _, rfl, iteF ?_⟩⟩
  -- one atom of the ring by one less
  have s6C := s6A.trans (s11.trans s12)
  have dk12 := dk6.same s6C
  have harV12 : H12 p = some (.lst arV) := s6C _ _ (fr6 p _ hpd hpc (s5 _ _ harV4))
  have narV12 : NkAll K H12 ((around hs).map Ato.key) arV := NkAll.same (NkAll.tk (fr6.tk dk5) _ _ (NkAll.same narV4 s5)) s6C
  refine ⟨_, rfl, _, rfl, _, rfl, p, arV, rfl, .inl (.inl (.inl harV12)), d, c, n + 1000 + 3 * (N - (m + 1)) + 1000, _, rfl, dk12, by omega, by omega, by omega, fun H13 r r0 r1 dk13 fr13 => ?_⟩
  have harV13 := fr13 p _ hpd hpc harV12
  have t13 := fr13.tk dk12
  have hrl : r.toNat < (around hs).length := by omega
  have two13 := nk_two Ato.key (NkAll.tk t13 _ _ narV12)
  obtain ⟨vb, hvb, nvb⟩ := two13.got (List.getElem?_eq_getElem hrl)
  have hbm := List.getElem_mem hrl
  generalize (around hs)[r.toNat] = b at nvb hbm
  have okb := (around_met hok (by omega) b hbm).ok hok
  obtain ⟨tb, bu, bv, rfl, hTb, nbu, nbv⟩ := ato_parts nvb okb
  refine ⟨p, arV, r, .ref tb, rfl, rfl, .inl (.inl harV13), atI_at r0 hvb, tb, _, rfl, hTb, rfl, _, _, rfl, _, _, rfl, _, _, rfl, rfl, ?_⟩
  have nt13 : Nk K H13 (.tup (ats.map Ato.key)) (.ref t) := Nk.tk t13 _ _ (Nk.same nt s6C)
  obtain ⟨_, xt, e0, hTt, nxt⟩ := Nk.ref nt13
  cases e0
  have twot := nk_two Ato.key nxt
  obtain ⟨J, Gs, W⟩ := sq_walk (K := K) (H := H13) (a := t) (xs := xt) (.inr hTt)
  refine ⟨_, rfl, t, xt, J, rfl, W.sq (fun _ _ e => e), W.arm (fun _ _ e => e), fun hz D14 hD14 => ?_⟩
  refine lc_gen ats (fun a y H' => Nk K H' (less b a).key y) (fun _ => true) W.walk (fun _ s => W.g s) twot.length.symm (by rw [← twot.length]; exact hz) hD14 (fun _ _ _ _ t h => Nk.tk t _ _ h) (fun i a x H' ha hx sm kk cn yes no => ?_) (fun ysl H14 s14 hyl twol => ?_)
  · obtain ⟨a', ha', hax⟩ := twot.get hx
    rw [ha] at ha'
    obtain rfl : a = a' := Option.some.inj ha'
    have oka := okA a (List.mem_of_getElem? ha)
    refine ⟨rfl, _, rfl, _, rfl, _, rfl, _, rfl, by show 3 ≤ sizeLine; decide, fun e he => ?_⟩
    have sE := same_upd (o := .tup [.ref bu, .ref bv, .int b.k]) he
    have smE := sm.trans sE
    refine ⟨a.key, b.key, Nk.same hax smE, .tup (.inl (.inl upd_same)) (.cons (Nk.same nbu smE) (.cons (Nk.same nbv smE) (.cons (.num _) .nil))), by have := oka.depth; omega, by have := okb.depth; omega, _, rfl, ?_⟩
    refine ite2 (fun z => ?_) (fun z => ?_)
    · have z' : decide (a.key = b.key) = true := z
      have e : a = b := Ato.inj (of_decide_eq_true z')
      have el : less b a = ⟨b.u, b.v, b.k - 1⟩ := by unfold less; rw [if_pos e]
      refine ⟨_, rfl, _, rfl, _, rfl, _, _, rfl, rfl, by show 3 ≤ sizeLine; decide, fun e2 he2 => ?_⟩
      have sE2 := same_upd (o := .tup [.ref bu, .ref bv, .int (b.k - 1)]) he2
      refine yes rfl _ _ (sE.trans sE2) ?_
      rw [el]
      exact .tup (.inl (.inl upd_same)) (.cons (Nk.same nbu (smE.trans sE2)) (.cons (Nk.same nbv (smE.trans sE2)) (.cons (.num _) .nil)))
    · have e : ¬ a = b := fun e => z (by show decide (a.key = b.key) = true; rw [e]; exact decide_eq_true rfl)
      have el : less b a = a := by unfold less; rw [if_neg e]
      refine ⟨_, rfl, yes rfl _ _ sE ?_⟩
      rw [el]
      exact Nk.same hax smE
  rw [filter_true] at twol
  have nl : NkAll K H14 ((ats.map (less b)).map Ato.key) ysl := by
    rw [List.map_map]
    exact two_nk (fun a => (less b a).key) twol
  refine ⟨D14, ysl, rfl, .inl ⟨.inl (.inl hyl), fun tl htl => ?_⟩⟩
  have sL := same_upd (o := .tup ysl) htl
  have ntl : Nk K (upd H14 tl (.tup ysl)) (.tup ((ats.map (less b)).map Ato.key)) (.ref tl) := .tup (.inl (.inl upd_same)) (NkAll.same nl sL)
  have okl : ∀ a ∈ ats.map (less b), AtoOk a := fun a ha => by
    obtain ⟨a', ha', rfl⟩ := List.mem_map.mp ha
    exact less_ok (okA a' ha')
  have dk15 := (dk13.same s14).same sL
  have fr15 : Fr d c H (upd H14 tl (.tup ysl)) := frH6.trans ((Fr.of s6C).trans (fr13.trans ((Fr.of s14).trans (Fr.of sL))))
  generalize upd H14 tl (.tup ysl) = H15 at ntl dk15 fr15
  refine ⟨_, rfl, tl, ats.map (less b), rfl, Nk.sx ntl, okl, by rw [List.length_map]; omega, fun t3 H16 s16 R16 => ?_⟩
  rcases R16 with ⟨_, f2, _, _, hsat2, _⟩ | ⟨pr, rr, hT16, nrr, R⟩
  · exact (around_less hbm (fun a ha => pmA.mem_iff.mpr (List.mem_append_right _ ha)) hsat2).elim
  refine ⟨t3, _, rfl, hT16, rfl, _, _, rfl, _, _, rfl, rfl, ?_⟩
  refine ⟨_, rfl, rfl, _, rfl, ?_⟩
  refine ite2 (fun _ => ?_) (fun z => absurd (decide_eq_true rfl) z)
  refine ⟨_, rfl, _, rfl, tl, pr, ats.map (less b), rr, rfl, Nk.sx (Nk.same ntl s16), okl, by rw [List.length_map]; omega, nrr, R, fun H17 s17 => ⟨_, rfl, iteT ?_⟩⟩
  refine ⟨_, rfl, _, rfl, tl, pr, ats.map (less b), rr, rfl, Nk.sx (Nk.same ntl (s16.trans s17)), okl, by rw [List.length_map]; omega, Nk.same nrr s17, R, fun H18 s18 => ⟨true, true, rfl, rfl, ?_⟩⟩
  have sF := s16.trans (s17.trans s18)
  exact q H18 ((dk15.same sF).le (by omega)) (fr15.trans (Fr.of sF))
end
end OW
end
section
set_option linter.all false
set_option maxRecDepth 100000
set_option maxHeartbeats 4000000
set_option autoImplicit false
/- P26: _law_choice. -/
namespace OW
open PySem L2
theorem cut_take2 (xs : List V) (h : 2 ≤ xs.length) : cutV xs none (some 2) = xs.take 2 := by
  unfold cutV
  rw [show HT.sIx xs.length xs.length (some 2) = min 2 xs.length from HT.sIx_nat xs.length xs.length 2, HT.sIx_none, show min 2 xs.length = 2 by omega]
  rfl
section
variable {P : Program} {w : World} {K : PySem.W.Frag} {mg : Str → Option Value} {base : Heap}
/-- what a choice is: see the promise of _law_choice -/
structure ChOk (hs : Hid) (g : Int) (cl : Cla) : Prop where
  ok : ∀ a ∈ cl, AltOk a ∧ a.length ≤ 2
  six : cl.length ≤ 6
  good : 0 < g → cl ≠ [] → ∃ a ∈ cl, ∀ x ∈ a, MetA hs x
  bad : g ≤ 0 → ∀ a ∈ cl, ∃ x ∈ a, BadA hs x
abbrev sCh : Stmt := top 44
abbrev nCh : List Str := ["_law_deck_here", "_law_hidden_here", "_law_goods", "_law_found", "_law_turn", "_law_one", "_law_u", "_law_here", "_law_v", "_law_there", "_law_k"]
theorem scCh : FnScope nCh ["_law_deck_here", "_law_hidden_here", "_law_goods"] (defScope sCh) := ⟨rfl, rfl, rfl, by decide +kernel, rfl, by decide +kernel, by decide +kernel⟩
def spCh (K : PySem.W.Frag) : Sp := fun vs H Q _ => ∃ (d c h : Addr) (n : Nat) (hs : Hid) (m : Nat) (g : Int), vs = [.ref d, .ref h, .int g] ∧ Deck H d c n ∧ n ≤ 800000 ∧ Lx K H (hs.map hk) h ∧ h ≠ c ∧ HidOk hs m ∧ 2 ≤ m ∧ m ≤ 101 ∧ 0 ≤ g ∧
  ∀ H' t cl, Deck H' d c (n + 1000) → Fr d c H H' → Nk K H' (claK cl) (.ref t) → cl ≠ [] → ChOk hs g cl → Q (.ref t) H'
theorem ok_ch {f fm fo : Addr} {fd dm dO : FuncData} (B : Bl K mg) (D : Df K mg "_law_choice" sCh ["_law_deck_here", "_law_hidden_here", "_law_goods"] f fd) (DM : Df K mg "_law_met" sMe ["_law_deck_here", "_law_hidden_here", "_law_room"] fm dm) (GM : FnOk P w K mg base CX0 2 fm dm ["_law_deck_here", "_law_hidden_here", "_law_room"] (spMe K))
    (DO : Df K mg "_law_other_atom" sOa ["_law_deck_here", "_law_hidden_here"] fo dO) (GO : FnOk P w K mg base CX0 2 fo dO ["_law_deck_here", "_law_hidden_here"] (spOa K)) : FnOk P w K mg base CX0 3 f fd ["_law_deck_here", "_law_hidden_here", "_law_goods"] (spCh K) := by
  refine D.fn.ok scCh (fun vs H Q E h => ?_) (fun cdv A outer s H vs Q E hr h => ?_)
  · obtain ⟨d, c, h, n, hs, m, g, rfl, _⟩ := h
    rfl
  obtain ⟨d, c, h, n, hs, m, g, rfl, DK, hn, hLh, hhc, hok, hm2, hm, hg0, q⟩ := h
  refine ⟨_, pss_cons (ps_set (i := 3) scCh.nd rfl (.inl rfl) (pe_lst pa_nil))
    (pss_cons (ps_for PassesOwn.never rfl (pi_range2 (by rfl) B.range (pa_cons pe_int (pa_cons pe_int pa_nil))) (pg_name (i := 4) scCh.nd rfl (.inl rfl))
      (pss_one (ps_if (pt_cmpR op_lt (pe_callB call_len_seq (by rfl) B.len PySem.boot_len (pa_cons (pv 3) pa_nil)) pe_int (nomark _))
        (pss_cons (ps_setLc (i := 5) (own := [("_law_k", 10)]) (g := gName 10) rfl scCh.nd rfl rfl (sw_true rfl rfl rfl (by decide +kernel)) (pi_range1 (by rfl) B.range (pa_cons pe_int pa_nil)) (blkOk_by (N := nCh) (sc := defScope sCh) (by decide +kernel)) (fun _ _ _ _ _ => pg_name (i := 10) scCh.nd rfl (Or.inl rfl)) (fun _ _ _ _ _ => pts_nil)
            (fun _ _ _ _ _ => pe_call GM hr rfl DM.m DM.kp DM.b .nil pass0 (pa_cons (pv 0) (pa_cons (pv 1) (pa_cons pe_int pa_nil)))))
        (C8.pss_cut (ps_if (pt_cmpR op_ge (pe_callB call_len_seq (by rfl) B.len PySem.boot_len (pa_cons (pv 3) pa_nil)) (pv 2) (nomark _))
            (pss_one (ps_asg (pe_call GO hr rfl DO.m DO.kp DO.b .nil pass0 (pa_cons (pv 0) (pa_cons (pv 1) pa_nil))) (pg_sub (pv 5) pe_int set_list (fun _ => rfl)))) pss_nil)
        (C8.pss_cut (ps_if (pt_cmpR op_gt (pv 4) pe_int (nomark _))
            (pss_cons (ps_asg (pe_slice sl_list (pv 1) po_none (po_some pe_int)) (pg_unl rfl (pgs_cons (pg_tup rfl (pgs_cons (pg_name (i := 6) scCh.nd rfl (.inl rfl)) (pgs_cons (pg_name (i := 7) scCh.nd rfl (.inl rfl)) pgs_nil))) (pgs_cons (pg_tup rfl (pgs_cons (pg_name (i := 8) scCh.nd rfl (.inl rfl)) (pgs_cons (pg_name (i := 9) scCh.nd rfl (.inl rfl)) pgs_nil))) pgs_nil))))
            (pss_one (ps_set (i := 5) scCh.nd rfl (.inl rfl) (pe_lst (pa_cons (pe_tup (pa_cons (pv 6) (pa_cons (pv 8) (pa_cons (pe_op op_add (pe_op op_sub (pv 7) (pv 9)) (pe_ix ix_list
              (pe_lst (pa_cons (pe_op op_add (pe_op op_pow pe_int pe_int) (pv 4)) (pa_cons (pe_op op_sub (pe_un un_neg (pe_op op_pow pe_int pe_int)) (pv 4)) pa_nil)))
              (pe_callTy call_int1 (by rfl) B.int PyProof.Rows.boot_int (pa_cons (pe_cmpR op_ge (pe_callB call_len_seq (by rfl) B.len PySem.boot_len (pa_cons (pv 3) pa_nil)) (pv 2) (nomark _)) pa_nil)) (fun _ _ => rfl))) pa_nil)))) pa_nil))))) pss_nil)
        (pss_cons (ps_set (i := 5) scCh.nd rfl (.inl rfl) (pe_callTy call_tuple_of (by rfl) B.tup PyProof.Rows.boot_tuple (pa_cons (pe_callB (cr_nsortS rfl hr.units) (by rfl) B.sorted PyProof.Rows.boot_sorted (pa_cons (pe_callTy (cr_setN rfl hr.units) (by rfl) B.set PyProof.Rows.boot_set (pa_cons (pv 5) pa_nil)) pa_nil)) pa_nil)))
        (pss_one (ps_if (pt_cmpR (op_notInN hr.units) (pv 5) (pv 3) (by rfl))
          (pss_one (ps_expr (pe_bm PySem.F.plainAttrs_list PySem.F.slot_list_append PySem.F.type_list_append mt_append (pv 3) (pa_cons (pv 5) pa_nil)))) pss_nil))))))
        pss_nil)))
    (pss_one (ps_ret (pe_callTy call_tuple_of (by rfl) B.tup PyProof.Rows.boot_tuple (pa_cons (pe_callB (cr_nsortL hr.units) (by rfl) B.sorted PyProof.Rows.boot_sorted (pa_cons (pv 3) pa_nil)) pa_nil))))), ?_⟩
  obtain ⟨hs0, hs1, hsr, ehs⟩ : ∃ a b r, hs = a :: b :: r := by
    have := hok.len
    match hs, this with
    | a :: b :: r, _ => exact ⟨a, b, r, rfl⟩
    | [a], e => simp at e; omega
    | [], e => simp at e; omega
  have hp0 : hs0 ∈ hs := by rw [ehs]; simp
  have hp1 : hs1 ∈ hs := by rw [ehs]; simp
  have hne01 : hs0.1 ≠ hs1.1 := fun e => by
    have nd := hok.nd
    rw [ehs, List.map_cons, List.map_cons] at nd
    exact (List.nodup_cons.mp nd).1 (by rw [e]; exact List.mem_cons_self)
  obtain ⟨m0, xs0, k0, gd, gc, _⟩ := id DK.ex
  refine ⟨Nat.zero_le _, fun F hF => ?_⟩
  obtain ⟨hFd, hFc⟩ := Fr.ne_of DK hF
  have hhF : h ≠ F := by
    obtain ⟨x0, h1, _⟩ := hLh
    exact ne_of_none h1 hF
  have s1 := same_upd (o := .lst []) hF
  refine ⟨1, 47, rfl, ⟨by decide, by decide, by decide, by decide⟩, ?_⟩
  show ∃ W : Nat → Nat → L2.St → Hp → Prop, _
  refine for_range (lo := 1) (n := 46) (fun i σ H' => ∃ y4 y5 y6 y7 y8 y9 y10 zs cl, σ = [some (.ref d), some (.ref h), some (.int g), some (.ref F), y4, y5, y6, y7, y8, y9, y10] ∧ Deck H' d c (n + 9 * i) ∧ Fr d c H H' ∧ H' F = some (.lst zs) ∧ NkAll K H' (cl.map altK) zs ∧ (0 < i → cl ≠ []) ∧ ChOk hs g cl ∧ Lx K H' (hs.map hk) h)
    ⟨none, none, none, none, none, none, none, [], [], rfl, DK.same s1, Fr.of s1, upd_same, .nil, fun z => absurd z (by omega), ⟨fun a ha => (nomatch ha), Nat.zero_le _, fun _ e => absurd rfl e, fun _ a ha => (nomatch ha)⟩, hLh.same s1⟩ ?_ ?_
  · rintro i σ H2 hi ⟨y4, y5, y6, y7, y8, y9, y10, zs, cl, rfl, dk2, fr2, eF, nz, hne, ch, hL2⟩
    have zl := nz.length
    rw [List.length_map] at zl
    refine ⟨_, rfl, F, zs, rfl, .inl (.inl (.inl eF)), _, _, rfl, rfl, _, rfl, ?_⟩
    refine ite2 (fun less6 => ?_) (fun more6 => ?_)
    rotate_left
    · have ge6 : ¬ ((zs.length : Nat) : Int) < 6 := of_decide_eq_false (Bool.eq_false_iff.mpr more6)
      exact ⟨_, _, _, _, _, _, _, zs, cl, rfl, dk2.le (by omega), fr2, eF, nz, fun _ e => by rw [e, List.length_nil] at zl; omega, ch, hL2⟩
    have lt6 : ((zs.length : Nat) : Int) < 6 := of_decide_eq_true less6
    -- two met atoms
    refine ⟨2, rfl, by decide, by decide, fun D5 hD5 => ?_⟩
    show ∃ W : Nat → Nat → Hp → Prop, _
    obtain ⟨hDd, hDc⟩ := Fr.ne_of dk2 hD5
    refine lc_mets (K := K) (h := h) (d := d) (c := c) (n := n + 9 * i) (m := m) (N := 2) (hs := hs) (room := 9) (fun _ => rfl) (fun _ => rfl) (fun _ => rfl) dk2 hL2 hhc hok hm2 hm (by decide) (by decide) hD5 (by omega) (fun H3 as ys dk3 fr3 hy ny asl met => ?_)
    have hDF : D5 ≠ F := (ne_of_none eF hD5).symm
    have eF3 := fr3 F _ hFd hFc eF
    have t3 := fr3.tk dk2
    have hL3 := fr3.lx dk2 hL2 hhc
    have hDh : h ≠ D5 := by
      obtain ⟨x0, h1, _⟩ := hL2
      exact ne_of_none h1 hD5
    obtain ⟨a1, a2, rfl⟩ : ∃ a1 a2, as = [a1, a2] := by
      match as, asl with
      | [a1, a2], _ => exact ⟨a1, a2, rfl⟩
    cases ny with
    | cons ny1 ny =>
    cases ny with
    | cons ny2 ny =>
    cases ny
    rename_i v1 v2
    have okM : ∀ x, MetA hs x → AtoOk x := fun x hx => hx.ok hok
    -- the word between
    refine ⟨fun σ' H' => ∃ ol lv L z6 z7 z8 z9, σ' = [some (.ref d), some (.ref h), some (.int g), some (.ref F), some (.int (1 + (i : Nat))), some (.ref ol), z6, z7, z8, z9, y10] ∧ Deck H' d c (n + 9 * (i + 1)) ∧ Fr d c H2 H' ∧ H' F = some (.lst zs) ∧ Lx K H' (hs.map hk) h ∧ H' ol = some (.lst lv) ∧ NkAll K H' (L.map Ato.key) lv ∧ L ≠ [] ∧ L.length ≤ 2 ∧ (∀ x ∈ L, AtoOk x) ∧ ((cl.length : Int) < g → ∀ x ∈ L, MetA hs x) ∧ (g ≤ (cl.length : Int) → ∃ x ∈ L, BadA hs x), ?_, ?_⟩
    · -- if there are good ones enough
      refine ⟨_, rfl, F, zs, rfl, .inl (.inl (.inl eF3)), _, rfl, _, _, rfl, rfl, _, rfl, ?_⟩
      refine ite2 (fun z => ?_) (fun z => ?_)
      · have z' : g ≤ ((zs.length : Nat) : Int) := of_decide_eq_true z
        refine ⟨_, rfl, _, rfl, d, c, h, n + 9 * i + 3 * 2, hs, m, rfl, dk3, by omega, hL3, hhc, hok, hm2, hm, fun H4 t a dk4 fr4 nt ba => ?_⟩
        have hy4 := fr4 D5 _ hDd hDc hy
        have t4 := fr4.tk dk3
        refine ⟨_, rfl, D5, [v1, v2], 0, 0, rfl, rfl, hy4, rfl, ?_⟩
        have t5 := upd_lst_tk (ys := [V.ref t, v2]) hy4
        refine ⟨D5, [.ref t, v2], [a, a2], _, _, _, _, rfl, (dk4.upd hDd hDc).le (by omega), fun b o h1 h2 e => ?_, ?_, ?_, upd_same, ?_, by simp, by simp, fun x hx => ?_, fun lt => absurd lt (by omega), fun _ => ⟨a, by simp, ba⟩⟩
        · show (upd H4 D5 _) b = some o
          rw [upd_ne (ne_of_none e hD5)]
          exact fr4 b o h1 h2 (fr3 b o h1 h2 e)
        · show (upd H4 D5 _) F = _
          rw [upd_ne hDF.symm]
          exact fr4 F _ hFd hFc eF3
        · exact (fr4.lx dk3 hL3 hhc).tk t5 (upd_ne hDh)
        · exact .cons (Nk.tk t5 _ _ nt) (.cons (Nk.tk (t4.trans t5) _ _ ny2) .nil)
        · rcases List.mem_cons.mp hx with e | hx
          · rw [e]; exact ba.ok hok
          · obtain rfl : x = a2 := by simpa using hx
            exact okM _ (met _ (by simp))
      · have z' : ¬ g ≤ ((zs.length : Nat) : Int) := of_decide_eq_false (Bool.eq_false_iff.mpr z)
        exact ⟨D5, [v1, v2], [a1, a2], _, _, _, _, rfl, dk3.le (by omega), fr3, eF3, hL3, hy, .cons ny1 (.cons ny2 .nil), by simp, by simp, fun x hx => okM x (met x hx), fun _ x hx => met x hx, fun le => absurd le (by omega)⟩
    rintro σ' H4 ⟨ol, lv, L, z6, z7, z8, z9, rfl, dk4, fr4, eF4, hL4, hol, nol, Lne, L2', Lok, Lgood, Lbad⟩
    refine ⟨fun σ' H' => ∃ ol lv L z6 z7 z8 z9, σ' = [some (.ref d), some (.ref h), some (.int g), some (.ref F), some (.int (1 + (i : Nat))), some (.ref ol), z6, z7, z8, z9, y10] ∧ Deck H' d c (n + 9 * (i + 1)) ∧ Fr d c H2 H' ∧ H' F = some (.lst zs) ∧ Lx K H' (hs.map hk) h ∧ H' ol = some (.lst lv) ∧ NkAll K H' (L.map Ato.key) lv ∧ L ≠ [] ∧ L.length ≤ 2 ∧ (∀ x ∈ L, AtoOk x) ∧ ((cl.length : Int) < g → ∀ x ∈ L, MetA hs x) ∧ (g ≤ (cl.length : Int) → ∃ x ∈ L, BadA hs x), ?_, ?_⟩
    · -- late turns
      refine ⟨_, rfl, _, _, rfl, rfl, _, rfl, ?_⟩
      refine ite2 (fun z => ?_) (fun z => ?_)
      rotate_left
      · exact ⟨ol, lv, L, z6, z7, z8, z9, rfl, dk4, fr4, eF4, hL4, hol, nol, Lne, L2', Lok, Lgood, Lbad⟩
      obtain ⟨xh, hxh, nxh⟩ := id hL4
      have two := nk_two hk nxh
      rw [ehs] at two
      cases two with
      | cons q0 two =>
      cases two with
      | cons q1 two =>
      rename_i w0 w1 wr
      have lxh : 2 ≤ (w0 :: w1 :: wr).length := by simp
      refine ⟨_, rfl, 2, rfl, h, _, rfl, .inl (.inl hxh), fun p3 hp3 => ?_⟩
      rw [cut_take2 _ lxh]
      have s5 := same_upd (o := .lst ((w0 :: w1 :: wr).take 2)) hp3
      obtain ⟨t0, b0, rfl, hT0, nb0⟩ := hid_parts (Nk.same q0 s5) (hok.unk _ hp0)
      obtain ⟨t1, b1, rfl, hT1, nb1⟩ := hid_parts (Nk.same q1 s5) (hok.unk _ hp1)
      refine ⟨p3, _, rfl, .inl (.inl upd_same), rfl, _, _, rfl, ⟨t0, _, rfl, hT0, rfl, _, _, rfl, _, _, rfl, rfl, _, _, rfl, ⟨t1, _, rfl, hT1, rfl, _, _, rfl, _, _, rfl, rfl, rfl, ?_⟩⟩⟩
      have eF5 := s5 _ _ eF4
      refine ⟨_, rfl, _, rfl, _, rfl, _, rfl, _, _, rfl, rfl, _, _, rfl, rfl, ⟨by decide, by decide, by decide⟩, _, rfl, _, _, rfl, rfl, _, _, rfl, rfl, ⟨by decide, by decide, by decide⟩, _, rfl, _, rfl, _, _, rfl, rfl, by show 2 ≤ sizeLine; decide, fun p6 hp6 => ?_⟩
      have s6 := same_upd (o := .lst [.int (10 ^ (6 : Int).toNat + (1 + (i : Nat))), .int (-(10 ^ (10 : Int).toNat) - (1 + (i : Nat)))]) hp6
      have eF6 := s6 _ _ eF5
      refine ⟨_, rfl, F, zs, rfl, .inl (.inl (.inl eF6)), _, rfl, _, _, rfl, rfl, .inr ⟨_, rfl, ?_⟩⟩
      -- which of the two
      obtain ⟨kk, hkk, hgood, hbad⟩ : ∃ kk : Int, atI [V.int (10 ^ (6 : Int).toNat + (1 + (i : Nat))), V.int (-(10 ^ (10 : Int).toNat) - (1 + (i : Nat)))] (if decide (g ≤ ((zs.length : Nat) : Int)) = true then 1 else 0) = some (.int kk) ∧ ((cl.length : Int) < g → 0 ≤ kk) ∧ (g ≤ (cl.length : Int) → kk < 0) := by
        have e6 : (10 : Int) ^ (6 : Int).toNat = 1000000 := by decide
        have e10 : (10 : Int) ^ (10 : Int).toNat = 10000000000 := by decide
        by_cases c0 : g ≤ ((zs.length : Nat) : Int)
        · rw [decide_eq_true c0]
          exact ⟨_, rfl, fun lt => absurd lt (by omega), fun _ => by rw [e10]; omega⟩
        · rw [decide_eq_false c0]
          exact ⟨_, rfl, fun _ => by rw [e6]; omega, fun le => absurd le (by omega)⟩
      refine ⟨p6, _, _, .int kk, rfl, rfl, .inl (.inl upd_same), hkk, _, _, rfl, rfl, by show 3 ≤ sizeLine; decide, fun p7 hp7 => ⟨by show 1 ≤ sizeLine; decide, fun p8 hp8 => ?_⟩⟩
      have s7 := same_upd (o := .tup [.ref b0, .ref b1, .int (hs0.2 - hs1.2 + kk)]) hp7
      have s8 := same_upd (o := .lst [.ref p7]) hp8
      have s58 := s5.trans (s6.trans (s7.trans s8))
      refine ⟨p8, [.ref p7], [⟨hs0.1, hs1.1, hs0.2 - hs1.2 + kk⟩], _, _, _, _, rfl, dk4.same s58, fr4.trans (Fr.of s58), s58 _ _ eF4, hL4.same s58, upd_same, .cons ?_ .nil, by simp, by simp, fun x hx => ?_, fun lt x hx => ?_, fun le => ⟨_, List.mem_singleton.mpr rfl, ?_⟩⟩
      · exact Nk.same (.tup (.inl (.inl upd_same)) (.cons (Nk.same nb0 (s6.trans s7)) (.cons (Nk.same nb1 (s6.trans s7)) (.cons (.num _) .nil)))) s8
      · obtain rfl : x = ⟨hs0.1, hs1.1, hs0.2 - hs1.2 + kk⟩ := by simpa using hx
        exact ⟨hok.unk _ hp0, hok.unk _ hp1, hne01⟩
      · obtain rfl : x = ⟨hs0.1, hs1.1, hs0.2 - hs1.2 + kk⟩ := by simpa using hx
        exact ⟨hs0, hs1, hp0, hp1, rfl, rfl, hne01, by show _ ≤ _ - _ + kk; have := hgood lt; omega⟩
      · exact ⟨hs0, hs1, hp0, hp1, rfl, rfl, hne01, by show _ - _ + kk < _; have := hbad le; omega⟩
    rintro σ' H5 ⟨ol, lv, L, z6, z7, z8, z9, rfl, dk5, fr5, eF5, hL5, hol, nol, Lne, L2', Lok, Lgood, Lbad⟩
    -- sorted, each once
    refine ⟨_, rfl, ol, L.map Ato.key, lv, rfl, .inl (.inl (.inl hol)), nol, fun k hk => ?_, by rw [List.length_map]; omega, fun tS H6 S htS hSt ndS mem at6 s6 => ?_⟩
    · obtain ⟨a, ha, rfl⟩ := List.mem_map.mp hk
      exact ⟨rfl, by have := (Lok a ha).depth; omega⟩
    obtain ⟨S', rfl⟩ := keys_back (S := S) (as := L) fun k hk => (mem k).mp hk
    have memS : ∀ a, a ∈ S' ↔ a ∈ L := fun a => by rw [← mem_key, mem, mem_key]
    have okS : SrtOk (S'.map Ato.key) := srt_atoms fun a ha => Lok a ((memS a).mp ha)
    refine ⟨tS, _, rfl, hSt, okS, fun ps H7 vs hps hvs nvs at7 s7 => ?_⟩
    obtain ⟨AA, pmS, eS⟩ := srt_back (f := Ato.key) (as := S')
    rw [eS] at nvs
    have memA : ∀ a, a ∈ AA ↔ a ∈ L := fun a => (pmS.mem_iff).trans (memS a)
    refine ⟨ps, vs, rfl, .inl ⟨.inl (.inl hvs), fun tA htA => ?_⟩⟩
    have s8 := same_upd (o := .tup vs) htA
    have s58 := s6.trans (s7.trans s8)
    have nA : Nk K (upd H7 tA (.tup vs)) (altK AA) (.ref tA) := .tup (.inl (.inl upd_same)) (NkAll.same nvs s8)
    have eF8 := s58 _ _ eF5
    have dk8 := dk5.same s58
    have hL8 := hL5.same s58
    have fr8 : Fr d c H2 (upd H7 tA (.tup vs)) := fr5.trans (Fr.of s58)
    generalize upd H7 tA (.tup vs) = H8 at nA eF8 dk8 hL8 fr8
    have nz8 := NkAll.tk (fr8.tk dk2) _ _ nz
    have AAl : AA.length ≤ 2 := by
      have h1 := pmS.length_eq
      have h2 := nodup_sub S' L (nodup_of_map ndS) fun a ha => (memS a).mp ha
      omega
    have AAne : AA ≠ [] := fun e => by
      obtain ⟨a, ha⟩ := List.exists_mem_of_ne_nil _ Lne
      have := (memA a).mpr ha
      rw [e] at this
      cases this
    have okAA : AltOk AA := ⟨AAne, fun x hx => Lok x ((memA x).mp hx)⟩
    have frH8 := fr2.trans fr8
    refine ⟨_, rfl, _, rfl, altK AA, cl.map altK, F, zs, nA, rfl, .inl (.inl (.inl eF8)), nz8, by have := AltOk.depth okAA.2; omega, _, rfl, ?_⟩
    refine ite2 (fun z => ?_) (fun z => ?_)
    · refine ⟨_, rfl, .inl ⟨rfl, _, .inl (.inl eF8)⟩, _, rfl, F, zs, .ref tA, rfl, rfl, eF8, small6 (by omega), ?_⟩
      have t9 := upd_lst_tk (ys := zs ++ [V.ref tA]) eF8
      refine ⟨_, _, _, _, _, _, _, zs ++ [.ref tA], cl ++ [AA], rfl, dk8.upd hFd hFc, fun b o h1 h2 e => ?_, upd_same, ?_, fun _ => by simp, ⟨fun a ha => ?_, by rw [List.length_append, List.length_singleton]; omega, fun gp _ => ?_, fun gn a ha => ?_⟩, hL8.tk t9 (upd_ne hhF)⟩
      · rw [upd_ne (ne_of_none e hF)]
        exact frH8 b o h1 h2 e
      · rw [List.map_append]
        exact (NkAll.tk t9 _ _ nz8).app (.cons (Nk.tk t9 _ _ nA) .nil)
      · rcases List.mem_append.mp ha with ha | ha
        · exact ch.ok a ha
        · obtain rfl : a = AA := by simpa using ha
          exact ⟨okAA, AAl⟩
      · by_cases e : cl = []
        · subst e
          exact ⟨AA, by simp, fun x hx => Lgood (by simpa using gp) x ((memA x).mp hx)⟩
        · obtain ⟨a, ha, hg⟩ := ch.good gp e
          exact ⟨a, List.mem_append_left _ ha, hg⟩
      · rcases List.mem_append.mp ha with ha | ha
        · exact ch.bad gn a ha
        · obtain rfl : a = AA := by simpa using ha
          obtain ⟨x, hx, bx⟩ := Lbad (by omega)
          exact ⟨x, (memA x).mpr hx, bx⟩
    · have hmem : altK AA ∈ cl.map altK := Classical.byContradiction fun e => z (by
        have e2 := decide_eq_false e
        rw [if_pos rfl, e2]; rfl)
      refine ⟨_, _, _, _, _, _, _, zs, cl, rfl, dk8, frH8, eF8, nz8, fun _ e => ?_, ch, hL8⟩
      rw [e] at hmem
      cases hmem
  · rintro σ H2 ⟨y4, y5, y6, y7, y8, y9, y10, zs, cl, rfl, dk2, fr2, eF, nz, hne, ch, hL2⟩
    have cne := hne (by decide)
    have okS : SrtOk (cl.map altK) := srt_alts fun a ha => (ch.ok a ha).1
    refine ⟨_, rfl, F, cl.map altK, zs, rfl, .inl (.inl eF), nz, okS, fun k hk => ?_, fun p H3 vs hp hvs nvs at3 s3 => ?_⟩
    · obtain ⟨a, ha, rfl⟩ := List.mem_map.mp hk
      have := AltOk.depth (ch.ok a ha).1.2
      omega
    obtain ⟨cl2, pm2, e2⟩ := srt_back (f := altK) (as := cl)
    rw [e2] at nvs
    refine ⟨p, vs, rfl, .inl ⟨.inl (.inl hvs), fun t ht => ?_⟩⟩
    have s4 := same_upd (o := .tup vs) ht
    have s34 := s3.trans s4
    refine q _ t cl2 ((dk2.same s34).le (by omega)) (fr2.trans (Fr.of s34)) (.tup (.inl (.inl upd_same)) (NkAll.same nvs s4)) (fun e => ?_) ⟨fun a ha => ch.ok a (pm2.mem_iff.mp ha), by rw [pm2.length_eq]; exact ch.six, fun gp _ => ?_, fun gn a ha => ch.bad gn a (pm2.mem_iff.mp ha)⟩
    · have := pm2.length_eq
      rw [e] at this
      exact cne (List.eq_nil_of_length_eq_zero this.symm)
    · obtain ⟨a, ha, hg⟩ := ch.good gp cne
      exact ⟨a, pm2.mem_iff.mpr ha, hg⟩
end
end OW
end
section
set_option linter.all false
set_option maxRecDepth 100000
set_option maxHeartbeats 4000000
set_option autoImplicit false
/- P27: the mathematics of the lists; _law_lists_right. -/
namespace OW
open PySem L2
/-! ### the tight ring -/
theorem around_at {hs : Hid} {i : Nat} {p q : NestedKey × Int} (hp : hs[i]? = some p) (hq : (hs.drop 1 ++ hs.take 1)[i]? = some q) : (⟨p.1, q.1, p.2 - q.2⟩ : Ato) ∈ around hs := by
  unfold around
  refine List.mem_map.mpr ⟨(p, q), ?_, rfl⟩
  obtain ⟨h1, e1⟩ := List.getElem?_eq_some_iff.mp hp
  obtain ⟨h2, e2⟩ := List.getElem?_eq_some_iff.mp hq
  have h3 : i < (hs.zip (hs.drop 1 ++ hs.take 1)).length := by rw [List.length_zip]; omega
  have : (hs.zip (hs.drop 1 ++ hs.take 1))[i] = (p, q) := by rw [List.getElem_zip, e1, e2]
  rw [← this]
  exact List.getElem_mem h3
theorem turn_at {α : Type} {l : List α} {i : Nat} (h : i + 1 < l.length) : (l.drop 1 ++ l.take 1)[i]? = l[i + 1]? := by
  rw [List.getElem?_append_left (by rw [List.length_drop]; omega), List.getElem?_drop, Nat.add_comm]
theorem turn_last {α : Type} {l : List α} (h : 1 ≤ l.length) : (l.drop 1 ++ l.take 1)[l.length - 1]? = l[0]? := by
  rw [List.getElem?_append_right (by rw [List.length_drop]; exact Nat.le_refl _), List.length_drop, Nat.sub_self, List.getElem?_take, if_pos (by decide)]
theorem tight {hs : Hid} {f : NestedKey → Int} (h : Sat f (around hs)) : ∀ p ∈ hs, ∀ q ∈ hs, f p.1 - f q.1 = p.2 - q.2 := by
  have up : ∀ (k i : Nat) (p q : NestedKey × Int), hs[i]? = some p → hs[i + k]? = some q → f p.1 - p.2 ≤ f q.1 - q.2 := by
    intro k
    induction k with
    | zero =>
      intro i p q hp hq
      rw [Nat.add_zero, hp] at hq
      rw [Option.some.inj hq]
      exact Int.le_refl _
    | succ k ih =>
      intro i p q hp hq
      have hl : i + (k + 1) < hs.length := (List.getElem?_eq_some_iff.mp hq).1
      have hi1 : i + 1 < hs.length := by omega
      have hm : hs[i + 1]? = some hs[i + 1] := List.getElem?_eq_getElem hi1
      have h1 := h _ (around_at hp (by rw [turn_at hi1]; exact hm))
      have h2 := ih (i + 1) hs[i + 1] q hm (by rw [show i + 1 + k = i + (k + 1) by omega]; exact hq)
      have h1' : f p.1 - f hs[i + 1].1 ≤ p.2 - hs[i + 1].2 := h1
      omega
  have all : ∀ p ∈ hs, ∀ q ∈ hs, f p.1 - p.2 ≤ f q.1 - q.2 := by
    intro p hp q hq
    obtain ⟨i, hi, ep⟩ := List.getElem_of_mem hp
    obtain ⟨j, hj, eq⟩ := List.getElem_of_mem hq
    have gp : hs[i]? = some p := by rw [List.getElem?_eq_getElem hi, ep]
    have gq : hs[j]? = some q := by rw [List.getElem?_eq_getElem hj, eq]
    have hlast : hs.length - 1 < hs.length := by omega
    have h0 : 0 < hs.length := by omega
    have gl : hs[hs.length - 1]? = some hs[hs.length - 1] := List.getElem?_eq_getElem hlast
    have g0 : hs[0]? = some hs[0] := List.getElem?_eq_getElem h0
    have a1 := up (hs.length - 1 - i) i p hs[hs.length - 1] gp (by rw [show i + (hs.length - 1 - i) = hs.length - 1 by omega]; exact gl)
    have a2 : f hs[hs.length - 1].1 - f hs[0].1 ≤ hs[hs.length - 1].2 - hs[0].2 := h _ (around_at gl (by rw [turn_last (by omega)]; exact g0))
    have a3 := up j 0 hs[0] q g0 (by rw [Nat.zero_add]; exact gq)
    omega
  intro p hp q hq
  have h1 := all p hp q hq
  have h2 := all q hq p hp
  omega
theorem bad_no {hs : Hid} {f : NestedKey → Int} (h : Sat f (around hs)) {a : Ato} (b : BadA hs a) : ¬ f a.u - f a.v ≤ a.k := by
  obtain ⟨p, q, hp, hq, e1, e2, _, lt⟩ := b
  rw [e1, e2, tight h p hp q hq]
  omega
/-! ### one atom of the ring by one less, at its place -/
theorem set_uv {l : List Ato} {i : Nat} {b : Ato} (h : l[i]? = some b) {g : Ato → NestedKey} {b' : Ato} (e : g b' = g b) : (l.set i b').map g = l.map g := by
  induction l generalizing i with
  | nil => simp at h
  | cons a l ih =>
    cases i with
    | zero =>
      simp at h
      rw [List.set_cons_zero, List.map_cons, List.map_cons, e, h]
    | succ i =>
      rw [List.set_cons_succ, List.map_cons, List.map_cons, ih (by simpa using h)]
theorem set_sum {l : List Ato} {i : Nat} {b b' : Ato} (h : l[i]? = some b) : sumK (l.set i b') = sumK l - b.k + b'.k := by
  induction l generalizing i with
  | nil => simp at h
  | cons a l ih =>
    cases i with
    | zero =>
      simp at h
      rw [List.set_cons_zero]
      simp only [sumK]
      rw [h]
      omega
    | succ i =>
      rw [List.set_cons_succ]
      simp only [sumK]
      rw [ih (by simpa using h)]
      omega
theorem set_no {hs : Hid} {i : Nat} {b : Ato} (h : (around hs)[i]? = some b) {f : NestedKey → Int} (s : Sat f ((around hs).set i ⟨b.u, b.v, b.k - 1⟩)) : False := by
  refine no_round (r := (around hs).set i ⟨b.u, b.v, b.k - 1⟩) ?_ ?_ s
  · rw [set_uv (b' := ⟨b.u, b.v, b.k - 1⟩) h (g := (·.v)) rfl, set_uv (b' := ⟨b.u, b.v, b.k - 1⟩) h (g := (·.u)) rfl]
    exact around_uv hs
  · rw [set_sum h, around_sum]
    show 0 - b.k + (b.k - 1) < 0
    omega
/-! ### sizes -/
theorem allA_cons (c : Cla) (cs : List Cla) : (allA (c :: cs)).length = c.flatten.length + (allA cs).length := by unfold allA; rw [List.flatten_cons, List.flatten_append, List.length_append]
theorem allA_erase {c : Cla} : ∀ {cs : List Cla}, c ∈ cs → (allA (cs.erase c)).length + c.flatten.length = (allA cs).length
  | x :: cs, h => by
    by_cases e : x = c
    · rw [e, List.erase_cons_head, allA_cons]; omega
    · have hm : c ∈ cs := (List.mem_cons.mp h).resolve_left fun z => e z.symm
      rw [List.erase_cons_tail (by simpa using e), allA_cons, allA_cons]
      have := allA_erase hm
      omega
theorem allA_sub : ∀ (l m : List Cla), l.Nodup → (∀ x ∈ l, x ∈ m) → (allA l).length ≤ (allA m).length
  | [], _, _, _ => Nat.zero_le _
  | x :: l, m, hn, hs => by
    obtain ⟨h1, h2⟩ := List.nodup_cons.mp hn
    have hx := hs x List.mem_cons_self
    have ih := allA_sub l (m.erase x) h2 fun y hy => (List.mem_erase_of_ne (fun e => h1 (by rw [← e]; exact hy))).mpr (hs y (List.mem_cons_of_mem _ hy))
    have := allA_erase hx
    rw [allA_cons]
    omega
theorem claK_back {S : List NestedKey} {cs : List Cla} (h : ∀ k ∈ S, k ∈ cs.map claK) : ∃ S' : List Cla, S = S'.map claK := by
  induction S with
  | nil => exact ⟨[], rfl⟩
  | cons k S ih =>
    obtain ⟨S', e⟩ := ih fun j hj => h j (List.mem_cons_of_mem _ hj)
    obtain ⟨a, _, ea⟩ := List.mem_map.mp (h k List.mem_cons_self)
    exact ⟨a :: S', by rw [List.map_cons, ← e, ea]⟩
theorem flat_le {k : Nat} : ∀ {cl : Cla}, (∀ a ∈ cl, a.length ≤ k) → cl.flatten.length ≤ k * cl.length
  | [], _ => by simp
  | a :: cl, h => by
    have h1 := h a List.mem_cons_self
    have h2 := flat_le (cl := cl) fun x hx => h x (List.mem_cons_of_mem _ hx)
    rw [List.flatten_cons, List.length_append, List.length_cons, Nat.mul_succ]
    omega
theorem allA_le {k : Nat} : ∀ {cs : List Cla}, (∀ c ∈ cs, c.flatten.length ≤ k) → (allA cs).length ≤ k * cs.length
  | [], _ => by simp [allA]
  | c :: cs, h => by
    have h1 := h c List.mem_cons_self
    have h2 := allA_le (cs := cs) fun x hx => h x (List.mem_cons_of_mem _ hx)
    rw [allA_cons, List.length_cons, Nat.mul_succ]
    omega
end OW
end
section
set_option linter.all false
set_option maxRecDepth 100000
set_option maxHeartbeats 8000000
set_option autoImplicit false
/- P28: _law_lists_right. -/
namespace OW
open PySem L2
theorem map_set {α β : Type} {f : α → β} : ∀ {l : List α} {i : Nat} {x : α}, (l.set i x).map f = (l.map f).set i (f x)
  | [], _, _ => rfl
  | _ :: _, 0, _ => rfl
  | a :: l, i + 1, x => by
    rw [List.set_cons_succ, List.map_cons, List.map_cons, List.set_cons_succ, map_set]
theorem nkall_set {K : PySem.W.Frag} {H : Hp} {k : NestedKey} {v : V} : ∀ {ks : List NestedKey} {vs : List V} {i : Nat}, NkAll K H ks vs → Nk K H k v → NkAll K H (ks.set i k) (vs.set i v)
  | _, _, _, .nil, _ => .nil
  | _, _, 0, .cons _ t, h => .cons h t
  | _, _, i + 1, .cons g t, h => .cons g (nkall_set t h)
theorem mem_set {α : Type} {l : List α} {i : Nat} {x y : α} (h : y ∈ l.set i x) : y ∈ l ∨ y = x := List.mem_or_eq_of_mem_set h
section
variable {P : Program} {w : World} {K : PySem.W.Frag} {mg : Str → Option Value} {base : Heap}
abbrev sLr : Stmt := top 45
abbrev nLr : List Str := ["_law_deck_here", "_law_way", "_law_hidden_here", "_law_around_here", "_law_single", "_law_at", "_law_choices", "_law_clauses", "_law_word", "_law_answer", "_law_good", "_law_k", "_law_atom"]
theorem scLr : FnScope nLr ["_law_deck_here", "_law_way"] (defScope sLr) := ⟨rfl, rfl, rfl, by decide +kernel, rfl, by decide +kernel, by decide +kernel⟩
def spLr (K : PySem.W.Frag) : Sp := fun vs H Q _ => ∃ (d c : Addr) (n wy : Nat), vs = [.ref d, .int wy] ∧ Deck H d c n ∧ n ≤ 100000 ∧ wy ≤ 2 ∧ ∀ H', Deck H' d c (n + 20000) → Fr d c H H' → Q (.bl true) H'
structure LrT (P : Program) (w : World) (K : PySem.W.Frag) (mg : Str → Option Value) (base : Heap) (a1 a2 a4 a6 a7 a8 b1 b2 b3 : Addr) (d1 d2 d4 d6 d7 d8 e1 e2 e3 : FuncData) : Prop where
  D1 : Df K mg "_law_hidden" sHi ["_law_deck_here", "_law_many"] a1 d1
  G1 : FnOk P w K mg base CX0 3 a1 d1 ["_law_deck_here", "_law_many"] (spHi K)
  D2 : Df K mg "_law_around" sAr ["_law_hidden_here"] a2 d2
  G2 : FnOk P w K mg base CX0 1 a2 d2 ["_law_hidden_here"] (spAr K)
  D4 : Df K mg "_law_met" sMe ["_law_deck_here", "_law_hidden_here", "_law_room"] a4 d4
  G4 : FnOk P w K mg base CX0 2 a4 d4 ["_law_deck_here", "_law_hidden_here", "_law_room"] (spMe K)
  D6 : Df K mg "_law_is_solution" sIs ["_law_clauses", "_law_pairs"] a6 d6
  G6 : FnOk P w K mg base CX0 2 a6 d6 ["_law_clauses", "_law_pairs"] (spIs P w K)
  D7 : Df K mg "solution_holds" sSoh ["clauses", "thing"] a7 d7
  G7 : FnOk P w K mg base CX0 62 a7 d7 ["clauses", "thing"] (spSoh P w K)
  D8 : Df K mg "_law_draw" sDr ["_law_deck_here", "_law_ways"] a8 d8
  G8 : FnOk P w K mg base CX0 1 a8 d8 ["_law_deck_here", "_law_ways"] spDr
  E1 : Df K mg "_law_choice" sCh ["_law_deck_here", "_law_hidden_here", "_law_goods"] b1 e1
  F1 : FnOk P w K mg base CX0 3 b1 e1 ["_law_deck_here", "_law_hidden_here", "_law_goods"] (spCh K)
  E2 : Df K mg "settle" sStl ["clauses"] b2 e2
  F2 : FnOk P w K mg base CX0 43 b2 e2 ["clauses"] (spStl K)
  E3 : Df K mg "tree_holds" sTho ["clauses", "thing"] b3 e3
  F3 : FnOk P w K mg base CX0 82 b3 e3 ["clauses", "thing"] (spTho K)
theorem ok_lr {f a1 a2 a4 a6 a7 a8 b1 b2 b3 : Addr} {fd d1 d2 d4 d6 d7 d8 e1 e2 e3 : FuncData} (B : Bl K mg) (D : Df K mg "_law_lists_right" sLr ["_law_deck_here", "_law_way"] f fd) (T : LrT P w K mg base a1 a2 a4 a6 a7 a8 b1 b2 b3 d1 d2 d4 d6 d7 d8 e1 e2 e3) : FnOk P w K mg base CX0 83 f fd ["_law_deck_here", "_law_way"] (spLr K) := by
  refine D.fn.ok scLr (fun vs H Q E h => ?_) (fun cdv A outer s H vs Q E hr h => ?_)
  · obtain ⟨d, c, n, wy, rfl, _⟩ := h
    rfl
  obtain ⟨d, c, n, wy, rfl, DK, hn, hwy, q⟩ := h
  have hr1 := hr.mono (j := 1) (by decide)
  have hr2 := hr.mono (j := 2) (by decide)
  have hr3 := hr.mono (j := 3) (by decide)
  have hr43 := hr.mono (j := 43) (by decide)
  have hr62 := hr.mono (j := 62) (by decide)
  refine ⟨_, pss_cons (ps_set (i := 2) scLr.nd rfl (.inr rfl) (pe_call T.G1 hr3 rfl T.D1.m T.D1.kp T.D1.b .nil pass0 (pa_cons (pv 0) (pa_cons pe_int pa_nil))))
    (pss_cons (ps_set (i := 3) scLr.nd rfl (.inl rfl) (pe_call T.G2 hr1 rfl T.D2.m T.D2.kp T.D2.b .nil pass0 (pa_cons (pv 2) pa_nil)))
    (pss_cons (ps_set (i := 4) scLr.nd rfl (.inl rfl) (pe_op op_cat (pv 3)
      (pe_lc (own := [("_law_k", 11)]) (g := gName 11) rfl scLr.nd (pi_range1 (by rfl) B.range (pa_cons (pe_op op_sub pe_int (pe_callB call_len_seq (by rfl) B.len PySem.boot_len (pa_cons (pv 3) pa_nil))) pa_nil)) (blkOk_by (N := nLr) (sc := defScope sLr) (by decide +kernel)) (fun _ _ _ _ _ => pg_name (i := 11) scLr.nd rfl (Or.inl rfl)) (fun _ _ _ _ _ => pts_nil)
        (fun _ _ _ _ _ => pe_call T.G4 hr2 rfl T.D4.m T.D4.kp T.D4.b .nil pass0 (pa_cons (pv 0) (pa_cons (pv 2) (pa_cons pe_int pa_nil)))))))
    (C8.pss_cut (ps_if (pt_cmpR op_eq (pv 1) pe_int (nomark _))
        (pss_cons (ps_set (i := 5) scLr.nd rfl (.inl rfl) (pe_call T.G8 hr1 rfl T.D8.m T.D8.kp T.D8.b .nil pass0 (pa_cons (pv 0) (pa_cons (pe_callB call_len_seq (by rfl) B.len PySem.boot_len (pa_cons (pv 3) pa_nil)) pa_nil))))
        (pss_one (ps_asg (pe_op op_catA (pe_slice sl_tupA (pe_ix ix_list (pv 4) (pv 5) (fun _ _ => rfl)) po_none (po_some pe_int)) (pe_tup (pa_cons (pe_op op_sub (pe_ix ix_tup (pe_ix ix_list (pv 4) (pv 5) (fun _ _ => rfl)) pe_int (fun _ _ => rfl)) pe_int) pa_nil))) (pg_sub (pv 4) (pv 5) set_list (fun _ => rfl))))) pss_nil)
    (pss_cons (ps_setLc (i := 6) (own := [("_law_k", 11)]) (g := gName 11) rfl scLr.nd rfl rfl (sw_true rfl rfl rfl (by decide +kernel)) (pi_range1 (by rfl) B.range (pa_cons pe_int pa_nil)) (blkOk_by (N := nLr) (sc := defScope sLr) (by decide +kernel)) (fun _ _ _ _ _ => pg_name (i := 11) scLr.nd rfl (Or.inl rfl)) (fun _ _ _ _ _ => pts_nil)
        (fun _ _ _ _ _ => pe_call T.F1 hr3 rfl T.E1.m T.E1.kp T.E1.b .nil pass0 (pa_cons (pv 0) (pa_cons (pv 2) (pa_cons (pe_op op_add pe_int (pe_call T.G8 hr1 rfl T.D8.m T.D8.kp T.D8.b .nil pass0 (pa_cons (pv 0) (pa_cons pe_int pa_nil)))) pa_nil)))))
    (pss_cons (ps_expr (pe_bm PySem.F.plainAttrs_list PySem.F.slot_list_append PySem.F.type_list_append mt_append (pv 6) (pa_cons (pe_call T.F1 hr3 rfl T.E1.m T.E1.kp T.E1.b .nil pass0 (pa_cons (pv 0) (pa_cons (pv 2) (pa_cons (pe_ix ix_list (pe_lst (pa_cons pe_int (pa_cons pe_int (pa_cons pe_int pa_nil)))) (pv 1) (fun _ _ => rfl)) pa_nil)))) pa_nil)))
    (pss_cons (ps_set (i := 7) scLr.nd rfl (.inl rfl) (pe_callTy call_tuple_of (by rfl) B.tup PyProof.Rows.boot_tuple (pa_cons (pe_callB (cr_nsortS rfl hr1.units) (by rfl) B.sorted PyProof.Rows.boot_sorted (pa_cons (pe_callTy (cr_setN rfl hr1.units) (by rfl) B.set PyProof.Rows.boot_set (pa_cons
      (pe_op op_cat (pe_lc (own := [("_law_atom", 12)]) (g := gName 12) rfl scLr.nd (pi_sq (pv 4)) (blkOk_by (N := nLr) (sc := defScope sLr) (by decide +kernel)) (fun _ _ _ _ _ => pg_name (i := 12) scLr.nd rfl (Or.inl rfl)) (fun _ _ _ _ _ => pts_nil)
        (fun _ _ _ _ _ => pe_tup (pa_cons (pe_tup (pa_cons (pv 12) pa_nil)) pa_nil))) (pv 6)) pa_nil)) pa_nil)) pa_nil)))
    (pss_cons (ps_asg (pe_call T.F2 hr43 rfl T.E2.m T.E2.kp T.E2.b .nil pass0 (pa_cons (pv 7) pa_nil)) (pg_tup rfl (pgs_cons (pg_name (i := 8) scLr.nd rfl (.inl rfl)) (pgs_cons (pg_name (i := 9) scLr.nd rfl (.inl rfl)) pgs_nil))))
    (pss_cons (ps_if (pt_cmpR op_eq (pv 1) pe_int (nomark _))
        (pss_cons (ps_set (i := 10) scLr.nd rfl (.inl rfl) (pe_and (pe_cmpR op_eq (pv 8) pe_str (nomark _)) (pe_one (pe_call T.G6 hr2 rfl T.D6.m T.D6.kp T.D6.b .nil pass0 (pa_cons (pv 7) (pa_cons (pv 9) pa_nil))))))
        (pss_one (ps_ret (pe_and (pv 10) (pe_one (pe_cmpR op_isBl (pe_call T.G7 hr62 rfl T.D7.m T.D7.kp T.D7.b .nil pass0 (pa_cons (pv 7) (pa_cons (pv 9) pa_nil))) pe_bl (nomark _))))))) pss_nil)
    (pss_one (ps_ret (pe_and (pe_cmpR op_eq (pv 8) pe_str (nomark _)) (pe_one (pe_cmpR op_isBl (pe_call T.F3 hr rfl T.E3.m T.E3.kp T.E3.b .nil pass0 (pa_cons (pv 7) (pa_cons (pv 9) pa_nil))) pe_bl (nomark _)))))))))))))), ?_⟩
  refine ⟨_, rfl, d, c, n, 39, rfl, DK, by omega, by decide, fun H1 h hs dk1 fr1 hh0 hLh hok => ?_⟩
  obtain ⟨hhd, hhc⟩ := Fr.ne_of DK hh0
  refine ⟨_, rfl, h, hs, 40, rfl, hLh, hok, by decide, by decide, fun p H2 s2 hp hLa => ?_⟩
  obtain ⟨hpd, hpc⟩ := Fr.ne_of dk1 hp
  have dk2 := dk1.same s2
  have al := around_len hs
  rw [hok.len] at al
  obtain ⟨arV, harV, narV⟩ := hLa
  have arl := narV.length
  rw [List.length_map, al] at arl
  have hLh2 := hLh.same s2
  have hph : p ≠ h := fun e => by
    obtain ⟨x0, h1, _⟩ := hLh
    rw [e, h1] at hp
    cases hp
  have eqZ : (90 : Int) - ((arV.length : Nat) : Int) = ((50 : Nat) : Int) := by omega
  refine ⟨_, rfl, _, rfl, p, arV, rfl, .inl (.inl (.inl harV)), _, _, rfl, rfl, ((50 : Nat) : Int), congrArg (fun z => [V.int z]) eqZ, by omega, by omega, fun D3 hD3 => ?_⟩
  refine lc_mets (K := K) (h := h) (d := d) (c := c) (n := n + 1000) (m := 40) (N := 50) (hs := hs) (room := 5) (fun _ => rfl) (fun _ => rfl) (fun _ => rfl) dk2 hLh2 hhc hok (by decide) (by decide) (by decide) (by decide) hD3 (by omega) (fun H4 as ys dk4 fr4 hy ny asl met => ?_)
  have harV4 := fr4 p _ hpd hpc harV
  have narV4 := NkAll.tk (fr4.tk dk2) _ _ narV
  have hLh4 := fr4.lx dk2 hLh2 hhc
  have yl := ny.length
  rw [List.length_map, asl] at yl
  refine ⟨p, D3, arV, ys, rfl, rfl, harV4, hy, Nat.le_of_lt (small6 (by omega)), fun sg hsg => ?_⟩
  have s5 := same_upd (o := .lst (arV ++ ys)) hsg
  obtain ⟨hsd, hsc⟩ := Fr.ne_of dk4 hsg
  have hsp : sg ≠ p := (ne_of_none harV4 hsg).symm
  have hsh : sg ≠ h := by
    obtain ⟨x0, h1, _⟩ := hLh4
    exact (ne_of_none h1 hsg).symm
  have dk5 := dk4.same s5
  have fr5 : Fr d c H (upd H4 sg (.lst (arV ++ ys))) := fr1.trans ((Fr.of s2).trans (fr4.trans (Fr.of s5)))
  have eS5 : (upd H4 sg (.lst (arV ++ ys))) sg = some (.lst (arV ++ ys)) := upd_same
  have eP5 := s5 _ _ harV4
  have nS5 : NkAll K (upd H4 sg (.lst (arV ++ ys))) ((around hs ++ as).map Ato.key) (arV ++ ys) := by
    rw [List.map_append]
    exact (NkAll.same narV4 s5).app (NkAll.same ny s5)
  have hLh5 := hLh4.same s5
  have hH5 : H sg = none := by
    cases q0 : H sg with
    | none => rfl
    | some o =>
      have h1 := fr4 _ _ hsd hsc (s2 _ _ (fr1 _ _ hsd hsc q0))
      rw [h1] at hsg
      cases hsg
  generalize upd H4 sg (.lst (arV ++ ys)) = H5 at dk5 fr5 eS5 eP5 nS5 hLh5
  have met5 : ∀ x ∈ around hs ++ as, MetA hs x := fun x hx => (List.mem_append.mp hx).elim (around_met hok (by decide) x) (met x)
  -- the word between
  refine ⟨fun σ' H' => ∃ y5 S sv, σ' = [some (.ref d), some (.int wy), some (.ref h), some (.ref p), some (.ref sg), y5, none, none, none, none, none, none, none] ∧ Deck H' d c (n + 4000) ∧ Fr d c H H' ∧ Lx K H' (hs.map hk) h ∧ H' sg = some (.lst sv) ∧ NkAll K H' (S.map Ato.key) sv ∧ S.length = 90 ∧ (∀ x ∈ S, AtoOk x) ∧ (wy ≠ 1 → (∀ x ∈ S, MetA hs x) ∧ ∀ a ∈ around hs, a ∈ S) ∧ (wy = 1 → ∀ f, ¬ Sat f S), ?_, ?_⟩
  · refine ⟨_, rfl, rfl, _, rfl, ?_⟩
    refine ite2 (fun z => ?_) (fun z => ?_)
    rotate_left
    · have hw1 : wy ≠ 1 := fun e => z (by rw [e]; rfl)
      exact ⟨none, around hs ++ as, arV ++ ys, rfl, dk5.le (by omega), fr5, hLh5, eS5, nS5, by rw [List.length_append, al, asl], fun x hx => (met5 x hx).ok hok, fun _ => ⟨met5, fun a ha => List.mem_append_left _ ha⟩, fun e => absurd e hw1⟩
    have hw1 : wy = 1 := by
      have := of_decide_eq_true z
      injection this with this
      omega
    refine ⟨_, rfl, _, rfl, p, arV, rfl, .inl (.inl (.inl eP5)), d, c, n + 1000 + 3 * 50, _, rfl, dk5, by omega, by omega, by omega, fun H6 r r0 r1 dk6 fr6 => ?_⟩
    have eS6 := fr6 sg _ hsd hsc eS5
    have t6 := fr6.tk dk5
    have hLh6 := fr6.lx dk5 hLh5 hhc
    have hrl : r.toNat < (around hs).length := by omega
    have hrl2 : r.toNat < (around hs ++ as).length := by rw [List.length_append]; omega
    have hb : (around hs)[r.toNat]? = some (around hs)[r.toNat] := List.getElem?_eq_getElem hrl
    have hb2 : (around hs ++ as)[r.toNat]? = some (around hs)[r.toNat] := by rw [List.getElem?_append_left hrl, hb]
    have nS6 := NkAll.tk t6 _ _ nS5
    obtain ⟨vb, hvb, nvb⟩ := (nk_two Ato.key nS6).got hb2
    have hbm := List.getElem_mem hrl
    generalize (around hs)[r.toNat] = b at hb hb2 nvb hbm
    have okb := (around_met hok (by decide) b hbm).ok hok
    obtain ⟨tb, bu, bv, rfl, hTb, nbu, nbv⟩ := ato_parts nvb okb
    have svl : (arV ++ ys).length = 90 := by rw [List.length_append, arl, yl]
    refine ⟨_, rfl, _, rfl, sg, _, r, .ref tb, rfl, rfl, .inl (.inl eS6), atI_at r0 hvb, 2, rfl, tb, _, rfl, hTb, fun ⟨_, e⟩ => absurd e (by show ¬ HT.sIx 3 3 (some 2) = 3; decide), fun _ p1 hp1 => ?_⟩
    have a1 := same_upd (o := .tup (cutV [.ref bu, .ref bv, .int b.k] none (some 2))) hp1
    have ecut : cutV [V.ref bu, .ref bv, .int b.k] none (some 2) = [.ref bu, .ref bv] := by rw [cut_take2 _ (by show 2 ≤ 3; decide)]; rfl
    refine ⟨_, rfl, _, rfl, sg, _, r, .ref tb, rfl, rfl, .inl (.inl (a1 _ _ eS6)), atI_at r0 hvb, tb, _, 2, .int b.k, rfl, rfl, (Tk.same a1).sqT hTb, atI_nat (j := 2) rfl, _, _, rfl, rfl, by show 1 ≤ sizeLine; decide, fun p2 hp2 => ?_⟩
    have a2 := same_upd (o := .tup [.int (b.k - 1)]) hp2
    refine ⟨p1, p2, _, [.int (b.k - 1)], rfl, rfl, (Tk.same a2).sqT (.inl (.inl upd_same)), .inl (.inl upd_same), ?_, fun e => ?_, fun _ e => (nomatch e), fun _ _ p3 hp3 => ?_⟩
    · rw [ecut]; show 3 ≤ sizeLine; decide
    · rw [ecut] at e; cases e
    have a3 := same_upd (o := .tup (cutV [.ref bu, .ref bv, .int b.k] none (some 2) ++ [.int (b.k - 1)])) hp3
    have a13 := a1.trans (a2.trans a3)
    have n3 : Nk K _ (Ato.key ⟨b.u, b.v, b.k - 1⟩) (.ref p3) := .tup (.inl (.inl (upd_same (H := upd (upd H6 p1 (.tup (cutV [.ref bu, .ref bv, .int b.k] none (some 2)))) p2 (.tup [.int (b.k - 1)])) (a := p3) (o := .tup (cutV [.ref bu, .ref bv, .int b.k] none (some 2) ++ [.int (b.k - 1)]))))) (by
      rw [ecut]
      rw [ecut] at a13
      exact .cons (Nk.same nbu a13) (.cons (Nk.same nbv a13) (.cons (.num _) .nil)))
    have eS7 := a13 _ _ eS6
    have dk7 := dk6.same a13
    have hLh7 := hLh6.same a13
    have nS7 := NkAll.same nS6 a13
    have fr7 : Fr d c H _ := fr5.trans (fr6.trans (Fr.of a13))
    generalize (upd (upd (upd H6 p1 (.tup (cutV [.ref bu, .ref bv, .int b.k] none (some 2)))) p2 (.tup [.int (b.k - 1)])) p3 (.tup (cutV [.ref bu, .ref bv, .int b.k] none (some 2) ++ [.int (b.k - 1)]))) = H7 at n3 eS7 dk7 hLh7 nS7 fr7
    have hix : ixN (arV ++ ys).length r = some r.toNat := by
      unfold ixN
      rw [if_pos r0, if_pos (by omega)]
    refine ⟨_, rfl, _, rfl, sg, _, r, r.toNat, rfl, rfl, eS7, hix, ?_⟩
    have t8 := upd_lst_tk (ys := (arV ++ ys).set r.toNat (V.ref p3)) eS7
    have eset : (around hs ++ as).set r.toNat ⟨b.u, b.v, b.k - 1⟩ = (around hs).set r.toNat ⟨b.u, b.v, b.k - 1⟩ ++ as := List.set_append_left _ _ hrl
    refine ⟨some (.int r), (around hs ++ as).set r.toNat ⟨b.u, b.v, b.k - 1⟩, _, rfl, (dk7.upd hsd hsc).le (by omega), fun b' o h1 h2 e => ?_, hLh7.tk t8 (upd_ne hsh.symm), upd_same, ?_, by rw [List.length_set, List.length_append, al, asl], fun x hx => ?_, fun e => absurd hw1 e, fun _ f hsat => ?_⟩
    · rw [upd_ne (ne_of_none e hH5)]
      exact fr7 b' o h1 h2 e
    · rw [map_set]
      exact nkall_set (NkAll.tk t8 _ _ nS7) (Nk.tk t8 _ _ n3)
    · rcases mem_set hx with hx | hx
      · exact (met5 x hx).ok hok
      · rw [hx]; exact ⟨okb.u, okb.v, okb.ne⟩
    · rw [eset] at hsat
      exact set_no hb fun x hx => hsat x (List.mem_append_left _ hx)
  rintro σ' H6 ⟨y5, S, sv, rfl, dk6, fr6, hLh6, eS6, nS6, Sl, Sok, Smet, Sno⟩
  have svl := nS6.length
  rw [List.length_map, Sl] at svl
  -- the choices
  refine ⟨9, rfl, by decide, by decide, fun D6 hD6 => ?_⟩
  obtain ⟨hDd, hDc⟩ := Fr.ne_of dk6 hD6
  have hDs : D6 ≠ sg := (ne_of_none eS6 hD6).symm
  have hDh : h ≠ D6 := by
    obtain ⟨x0, h1, _⟩ := hLh6
    exact ne_of_none h1 hD6
  show ∃ W : Nat → Nat → Hp → Prop, _
  refine lc_range (lo := 0) (n := 9) (fun i H' => ∃ (cls : List Cla) (ys : List V), Deck H' d c (n + 4000 + 1001 * i) ∧ Fr d c H6 H' ∧ H' D6 = some (.lst ys) ∧ NkAll K H' (cls.map claK) ys ∧ cls.length = i ∧ (∀ cl ∈ cls, cl ≠ [] ∧ ∃ g, 0 < g ∧ ChOk hs g cl) ∧ Lx K H' (hs.map hk) h)
    ⟨[], [], dk6.upd hDd hDc, Fr.of (same_upd hD6), upd_same, .nil, rfl, (fun cl hcl => nomatch hcl), hLh6.same (same_upd hD6)⟩ ?_ ?_
  · rintro i H7 hi ⟨cls, ys7, dk7, fr7, eD7, nD7, cl7, ch7, hL7⟩
    have yl7 := nD7.length
    rw [List.length_map] at yl7
    refine ⟨rfl, _, rfl, _, rfl, _, rfl, d, c, n + 4000 + 1001 * i, 3, rfl, dk7, by omega, by decide, by decide, fun H8 r r0 r1 dk8 fr8 => ?_⟩
    have hL8 := fr8.lx dk7 hL7 hhc
    refine ⟨_, _, rfl, rfl, d, c, h, n + 4000 + 1001 * i + 1, hs, 40, 1 + r, rfl, dk8, by omega, hL8, hhc, hok, by decide, by decide, by omega, fun H9 t cl dk9 fr9 nt clne ch => ?_⟩
    have fr79 := fr8.trans fr9
    have eD9 := fr79 D6 _ hDd hDc eD7
    have t9 := upd_lst_tk (ys := ys7 ++ [V.ref t]) eD9
    have t79 := (fr8.tk dk7).trans (fr9.tk dk8)
    refine ⟨ys7, eD9, small6 (by omega), cls ++ [cl], ys7 ++ [.ref t], (dk9.upd hDd hDc).le (by omega), fun b o h1 h2 e => ?_, upd_same, ?_, by rw [List.length_append, List.length_singleton, cl7], fun x hx => ?_, (fr9.lx dk8 hL8 hhc).tk t9 (upd_ne hDh)⟩
    · rw [upd_ne (ne_of_none e hD6)]
      exact fr79 b o h1 h2 (fr7 b o h1 h2 e)
    · rw [List.map_append]
      exact (NkAll.tk (t79.trans t9) _ _ nD7).app (.cons (Nk.tk t9 _ _ nt) .nil)
    · rcases List.mem_append.mp hx with hx | hx
      · exact ch7 x hx
      · obtain rfl : x = cl := by simpa using hx
        exact ⟨clne, 1 + r, by omega, ch⟩
  rintro H7 ⟨cls, ys7, dk7, fr7, eD7, nD7, cl7, ch7, hL7⟩
  have yl7 := nD7.length
  rw [List.length_map] at yl7
  have eS7 := fr7 sg _ hsd hsc eS6
  have nS7 := NkAll.tk (fr7.tk dk6) _ _ nS6
  -- the last choice
  obtain ⟨g0, hat, hg0, hgp, hgn⟩ : ∃ g0 : Int, atI [V.int 1, .int 1, .int 0] ((wy : Nat) : Int) = some (.int g0) ∧ 0 ≤ g0 ∧ (wy ≠ 2 → 0 < g0) ∧ (wy = 2 → g0 ≤ 0) := by
    have : wy = 0 ∨ wy = 1 ∨ wy = 2 := by omega
    rcases this with rfl | rfl | rfl
    · exact ⟨1, rfl, by decide, fun _ => by decide, fun e => by omega⟩
    · exact ⟨1, rfl, by decide, fun _ => by decide, fun e => by omega⟩
    · exact ⟨0, rfl, by decide, fun e => absurd rfl e, fun _ => by decide⟩
  refine ⟨_, rfl, .inl ⟨rfl, _, .inl (.inl eD7)⟩, _, rfl, _, rfl, by show 3 ≤ sizeLine; decide, fun lp hlp => ?_⟩
  have sP := same_upd (o := .lst [.int 1, .int 1, .int 0]) hlp
  refine ⟨_, rfl, lp, _, _, .int g0, rfl, rfl, .inl (.inl upd_same), hat, d, c, h, n + 4000 + 1001 * 9, hs, 40, g0, rfl, dk7.same sP, by omega, hL7.same sP, hhc, hok, by decide, by decide, hg0, fun H8 tl lc dk8 fr8 ntl lcne lch => ?_⟩
  have eD8 := fr8 D6 _ hDd hDc (sP _ _ eD7)
  have eS8 := fr8 sg _ hsd hsc (sP _ _ eS7)
  have t8 := (Tk.same sP).trans (fr8.tk (dk7.same sP))
  refine ⟨D6, ys7, .ref tl, rfl, rfl, eD8, small6 (by omega), ?_⟩
  have t9 := upd_lst_tk (ys := ys7 ++ [V.ref tl]) eD8
  have nD9 : NkAll K (upd H8 D6 (.lst (ys7 ++ [.ref tl]))) ((cls ++ [lc]).map claK) (ys7 ++ [.ref tl]) := by
    rw [List.map_append]
    exact (NkAll.tk (t8.trans t9) _ _ nD7).app (.cons (Nk.tk t9 _ _ ntl) .nil)
  have nS9 := NkAll.tk (t8.trans t9) _ _ nS7
  have eS9 : (upd H8 D6 (.lst (ys7 ++ [.ref tl]))) sg = some (.lst sv) := by rw [upd_ne hDs.symm]; exact eS8
  have eD9 : (upd H8 D6 (.lst (ys7 ++ [.ref tl]))) D6 = some (.lst (ys7 ++ [.ref tl])) := upd_same
  have dk9 : Deck (upd H8 D6 (.lst (ys7 ++ [.ref tl]))) d c (n + 20000) := (dk8.upd hDd hDc).le (by omega)
  have hHD6 : H D6 = none := by
    cases q0 : H D6 with
    | none => rfl
    | some o =>
      rw [fr6 _ _ hDd hDc q0] at hD6
      cases hD6
  have fr9 : Fr d c H (upd H8 D6 (.lst (ys7 ++ [.ref tl]))) := fun b o h1 h2 e => by
    rw [upd_ne (ne_of_none e hHD6)]
    exact fr8 b o h1 h2 (sP _ _ (fr7 b o h1 h2 (fr6 b o h1 h2 e)))
  generalize upd H8 D6 (.lst (ys7 ++ [.ref tl])) = H9 at nD9 nS9 eS9 eD9 dk9 fr9
  -- the clauses
  have twoS := nk_two Ato.key nS9
  obtain ⟨J, Gs, W⟩ := sq_walk (K := K) (H := H9) (a := sg) (xs := sv) (.inl (.inl (.inl eS9)))
  refine ⟨_, rfl, sg, sv, J, rfl, W.sq (fun _ _ e => e), W.arm (fun _ _ e => e), fun hz D10 hD10 => ?_⟩
  refine lc_gen S (fun a y H' => Nk K H' (claK [[a]]) y) (fun _ => true) W.walk (fun _ s => W.g s) twoS.length.symm (by rw [← twoS.length]; exact hz) hD10 (fun _ _ _ _ t h => Nk.tk t _ _ h) (fun i a x H' ha hx sm kk cn yes no => ?_) (fun ysS H10 s10 hyS twoC => ?_)
  · obtain ⟨a', ha', hax⟩ := twoS.get hx
    rw [ha] at ha'
    obtain rfl : a = a' := Option.some.inj ha'
    have oka := Sok a (List.mem_of_getElem? ha)
    obtain ⟨ra, au, av, rfl, _, _, _⟩ := ato_parts (Nk.same hax sm) oka
    refine ⟨rfl, _, rfl, by show 1 ≤ sizeLine; decide, fun t1 ht1 => ⟨by show 1 ≤ sizeLine; decide, fun t2 ht2 => ?_⟩⟩
    have b1 := same_upd (o := .tup [.ref ra]) ht1
    have b2 := same_upd (o := .tup [.ref t1]) ht2
    exact yes rfl _ _ (b1.trans b2) (.tup (.inl (.inl upd_same)) (.cons (.tup (.inl (.inl (b2 _ _ upd_same))) (.cons (Nk.same hax (sm.trans (b1.trans b2))) .nil)) .nil))
  rw [filter_true] at twoC
  have nSC : NkAll K H10 ((S.map fun a => ([[a]] : Cla)).map claK) ysS := by
    rw [List.map_map]
    exact two_nk (fun a : Ato => claK [[a]]) twoC
  have ySl := nSC.length
  rw [List.length_map, List.length_map, Sl] at ySl
  refine ⟨_, rfl, D10, D6, ysS, _, rfl, rfl, hyS, s10 _ _ eD9, ?_, fun p11 hp11 => ?_⟩
  · rw [List.length_append, List.length_singleton]
    exact Nat.le_of_lt (small6 (by omega))
  have s11 := same_upd (o := .lst (ysS ++ (ys7 ++ [.ref tl]))) hp11
  have nAll : NkAll K (upd H10 p11 (.lst (ysS ++ (ys7 ++ [.ref tl])))) (((S.map fun a => ([[a]] : Cla)) ++ (cls ++ [lc])).map claK) (ysS ++ (ys7 ++ [.ref tl])) := by
    rw [List.map_append]
    exact (NkAll.same nSC s11).app (NkAll.same nD9 (s10.trans s11))
  have memAll : ∀ cl, cl ∈ (S.map fun a => ([[a]] : Cla)) ++ (cls ++ [lc]) → (∃ a ∈ S, cl = [[a]]) ∨ (cl ≠ [] ∧ ∃ g, ChOk hs g cl ∧ cl ∈ cls ++ [lc]) := fun cl hcl => by
    rcases List.mem_append.mp hcl with hcl | hcl
    · obtain ⟨a, ha, rfl⟩ := List.mem_map.mp hcl
      exact .inl ⟨a, ha, rfl⟩
    · refine .inr ?_
      rcases List.mem_append.mp hcl with h1 | h1
      · obtain ⟨h2, g, _, h3⟩ := ch7 cl h1
        exact ⟨h2, g, h3, hcl⟩
      · obtain rfl : cl = lc := by simpa using h1
        exact ⟨lcne, g0, lch, hcl⟩
  have okAll : ∀ cl ∈ (S.map fun a => ([[a]] : Cla)) ++ (cls ++ [lc]), ClaOk cl := fun cl hcl => by
    rcases memAll cl hcl with ⟨a, ha, rfl⟩ | ⟨h1, g, h2, _⟩
    · refine ⟨by simp, fun x hx => ?_⟩
      obtain rfl : x = [a] := by simpa using hx
      refine ⟨by simp, fun y hy => ?_⟩
      obtain rfl : y = a := by simpa using hy
      exact Sok y ha
    · exact ⟨h1, fun a ha => (h2.ok a ha).1⟩
  have lenAll : ((S.map fun a => ([[a]] : Cla)) ++ (cls ++ [lc])).length = 100 := by
    rw [List.length_append, List.length_append, List.length_map, Sl, cl7]; rfl
  have sizeAll : (allA ((S.map fun a => ([[a]] : Cla)) ++ (cls ++ [lc]))).length ≤ 210 := by
    rw [allA_app, List.length_append]
    have h1 := allA_le (k := 1) (cs := S.map fun a => ([[a]] : Cla)) fun cl hcl => by
      obtain ⟨a, _, rfl⟩ := List.mem_map.mp hcl
      simp
    have h2 := allA_le (k := 12) (cs := cls ++ [lc]) fun cl hcl => by
      rcases memAll cl (List.mem_append_right _ hcl) with ⟨a, ha, rfl⟩ | ⟨_, g, h2, _⟩
      · simp
      · have h3 := flat_le (k := 2) fun a ha => (h2.ok a ha).2
        have h4 := h2.six
        omega
    rw [List.length_map, Sl] at h1
    rw [List.length_append, cl7, List.length_singleton] at h2
    omega
  refine ⟨p11, _, _, rfl, .inl (.inl (.inl upd_same)), nAll, fun k hk => ?_, by rw [List.length_map, lenAll]; decide, fun tS H12 SS htS hSt ndS mem at12 s12 => ?_⟩
  · obtain ⟨cl, hcl, rfl⟩ := List.mem_map.mp hk
    exact ⟨rfl, by have := (okAll cl hcl).depth; omega⟩
  obtain ⟨S', rfl⟩ := claK_back (S := SS) (cs := (S.map fun a => ([[a]] : Cla)) ++ (cls ++ [lc])) fun k hk => (mem k).mp hk
  have memS : ∀ cl, cl ∈ S' ↔ cl ∈ (S.map fun a => ([[a]] : Cla)) ++ (cls ++ [lc]) := fun cl => by rw [← mem_claK, mem, mem_claK]
  have okS : SrtOk (S'.map claK) := srt_clas fun cl hcl => okAll cl ((memS cl).mp hcl)
  refine ⟨tS, _, rfl, hSt, okS, fun ps H13 vs hps hvs nvs at13 s13 => ?_⟩
  obtain ⟨CC, pmC, eC⟩ := srt_back (f := claK) (as := S')
  rw [eC] at nvs
  have memC : ∀ cl, cl ∈ CC ↔ cl ∈ (S.map fun a => ([[a]] : Cla)) ++ (cls ++ [lc]) := fun cl => (pmC.mem_iff).trans (memS cl)
  have ndC : CC.Nodup := pmC.nodup_iff.mpr (nodup_of_map ndS)
  refine ⟨ps, vs, rfl, .inl ⟨.inl (.inl hvs), fun tC htC => ?_⟩⟩
  have s14 := same_upd (o := .tup vs) htC
  have sC : Sx K (upd H13 tC (.tup vs)) (CC.map claK) tC := ⟨vs, .inr (.inl (.inl upd_same)), NkAll.same nvs s14⟩
  have s9e := s10.trans (s11.trans (s12.trans (s13.trans s14)))
  have dk14 := dk9.same s9e
  have fr14 := fr9.trans (Fr.of s9e)
  generalize upd H13 tC (.tup vs) = H14 at sC dk14 fr14
  have okC : ∀ cl ∈ CC, ClaOk cl := fun cl hcl => okAll cl ((memC cl).mp hcl)
  have sizeC : (allA CC).length ≤ 500 := by
    have := allA_sub CC _ ndC fun cl hcl => (memC cl).mp hcl
    omega
  have leftC : (leftOf CC).length < 20 := by
    have h1 := nodup_sub (leftOf CC) (cls ++ [lc]) (ndC.filter _) fun cl hcl => by
      obtain ⟨h2, h3⟩ := List.mem_filter.mp hcl
      have h3 := of_decide_eq_true h3
      rcases memAll cl ((memC cl).mp h2) with ⟨a, _, rfl⟩ | ⟨_, _, _, h4⟩
      · exact absurd rfl h3
      · exact h4
    rw [List.length_append, cl7, List.length_singleton] at h1
    omega
  have satS : ∀ f, Met f CC → Sat f S := fun f hf a ha => by
    obtain ⟨x, hx, sx⟩ := hf [[a]] ((memC _).mpr (List.mem_append_left _ (List.mem_map.mpr ⟨a, ha, rfl⟩)))
    obtain rfl : x = [a] := by simpa using hx
    exact sx a (by simp)
  -- whether there is a solution
  have way0 : wy = 0 → Met (hval hs) CC := fun e cl hcl => by
    obtain ⟨sm, _⟩ := Smet (by omega)
    have good : ∀ a ∈ cl, (∀ x ∈ a, MetA hs x) → ∃ a ∈ cl, Sat (hval hs) a := fun a ha h => ⟨a, ha, fun x hx => (h x hx).sat hok⟩
    rcases List.mem_append.mp ((memC cl).mp hcl) with h1 | h1
    · obtain ⟨a, ha, rfl⟩ := List.mem_map.mp h1
      exact good [a] (by simp) fun x hx => by
        obtain rfl : x = a := by simpa using hx
        exact sm x ha
    · rcases List.mem_append.mp h1 with h2 | h2
      · obtain ⟨ne, g, gp, co⟩ := ch7 cl h2
        obtain ⟨a, ha, hg⟩ := co.good gp ne
        exact good a ha hg
      · obtain rfl : cl = lc := by simpa using h2
        obtain ⟨a, ha, hg⟩ := lch.good (hgp (by omega)) lcne
        exact good a ha hg
  have way12 : wy ≠ 0 → ∀ f, ¬ Met f CC := fun e f hf => by
    have hS := satS f hf
    by_cases e1 : wy = 1
    · exact Sno e1 f hS
    · obtain ⟨_, ar⟩ := Smet e1
      obtain ⟨a, ha, sa⟩ := hf lc ((memC _).mpr (List.mem_append_right _ (List.mem_append_right _ (by simp))))
      obtain ⟨x, hx, bx⟩ := lch.bad (hgn (by omega)) a ha
      exact bad_no (fun y hy => hS y (ar y hy)) bx (sa x hx)
  refine ⟨_, rfl, tC, CC, rfl, sC, okC, sizeC, leftC, fun t15 H15 s15 R15 => ?_⟩
  obtain ⟨wd, th, hT15, ans⟩ := R15
  refine ⟨t15, _, rfl, hT15, rfl, _, _, rfl, _, _, rfl, rfl, ?_⟩
  have sC15 := sC.same s15
  refine ⟨_, rfl, rfl, _, rfl, ?_⟩
  rcases ans with ⟨rfl, pp, f, rfl, hsol, hmet, hf0⟩ | ⟨rfl, tr, ntr, acc⟩
  · have hw0 : wy = 0 := Classical.byContradiction fun e => way12 e f hmet
    refine ite2 (fun _ => ?_) (fun z => absurd (by rw [hw0]; rfl) z)
    refine ⟨_, rfl, rfl, _, rfl, ?_⟩
    refine ite2 (fun _ => ?_) (fun z => absurd (decide_eq_true rfl) z)
    refine ⟨_, rfl, _, rfl, tC, pp, CC, f, rfl, sC15, okC, sizeC, hsol, hf0, hmet, fun H16 s16 => ?_⟩
    refine ⟨_, rfl, _, rfl, iteT ?_⟩
    refine ⟨_, rfl, _, rfl, tC, pp, CC, f, rfl, sC15.same s16, okC, by omega, SolT.same hsol s16, hf0, hmet, fun H17 s17 => ⟨true, true, rfl, rfl, ?_⟩⟩
    have sE := s15.trans (s16.trans s17)
    exact q H17 (dk14.same sE) (fr14.trans (Fr.of sE))
  · have hw0 : wy ≠ 0 := fun e => acc.sound (f := hval hs) (fun b hb => by
      obtain ⟨a, ha, hba⟩ := mem_sureA.mp hb
      obtain ⟨x, hx, sx⟩ := way0 e _ ha
      obtain rfl : x = a := by simpa using hx
      exact sx b hba) fun cl hcl => way0 e cl (List.mem_filter.mp hcl).1
    refine ite2 (fun z => ?_) (fun _ => ?_)
    · have := of_decide_eq_true z
      injection this with this
      omega
    refine ⟨_, rfl, rfl, _, rfl, ?_⟩
    refine ite2 (fun _ => ?_) (fun z => absurd (decide_eq_true rfl) z)
    refine ⟨_, rfl, _, rfl, tC, th, CC, tr, rfl, sC15, okC, sizeC, leftC, ntr, acc, fun H16 s16 => ⟨true, true, rfl, rfl, ?_⟩⟩
    have sE := s15.trans s16
    exact q H16 (dk14.same sE) (fr14.trans (Fr.of sE))
end
end OW
end
section
set_option linter.all false
set_option maxRecDepth 100000
set_option maxHeartbeats 8000000
set_option autoImplicit false
/- P29: law. -/
namespace OW
open PySem L2
section
variable {P : Program} {w : World} {K : PySem.W.Frag} {mg : Str → Option Value} {base : Heap}
abbrev sLw : Stmt := top 46
abbrev nLw : List Str := ["_law_script", "_law_deck_here", "_law_way"]
theorem scLw : FnScope nLw ["_law_script"] (defScope sLw) := ⟨rfl, rfl, rfl, by decide +kernel, rfl, by decide +kernel, by decide +kernel⟩
def spLaw (K : PySem.W.Frag) : Sp := fun vs H Q _ => ∃ (a : Addr) (ns : List Int), vs = [.ref a] ∧ SqL K H a (ns.map V.int) ∧ ns.length ≤ 63 ∧ ∀ H', Q (.bl true) H'
theorem ok_law {f a1 a2 a3 a4 : Addr} {fd d1 d2 d3 d4 : FuncData} (D : Df K mg "law" sLw ["_law_script"] f fd)
    (D1 : Df K mg "_law_deck" sDk ["_law_script"] a1 d1) (G1 : FnOk P w K mg base CX0 1 a1 d1 ["_law_script"] (spDk K))
    (D2 : Df K mg "_law_systems_right" sSr ["_law_deck_here", "_law_many", "_law_count"] a2 d2) (G2 : FnOk P w K mg base CX0 63 a2 d2 ["_law_deck_here", "_law_many", "_law_count"] (spSr K))
    (D3 : Df K mg "_law_draw" sDr ["_law_deck_here", "_law_ways"] a3 d3) (G3 : FnOk P w K mg base CX0 1 a3 d3 ["_law_deck_here", "_law_ways"] spDr)
    (D4 : Df K mg "_law_lists_right" sLr ["_law_deck_here", "_law_way"] a4 d4) (G4 : FnOk P w K mg base CX0 83 a4 d4 ["_law_deck_here", "_law_way"] (spLr K)) :
    FnOk P w K mg base CX0 84 f fd ["_law_script"] (spLaw K) := by
  refine D.fn.ok scLw (fun vs H Q E h => ?_) (fun cdv A outer s H vs Q E hr h => ?_)
  · obtain ⟨a, ns, rfl, _⟩ := h
    rfl
  obtain ⟨a, ns, rfl, hS, h63, q⟩ := h
  have hr1 := hr.mono (j := 1) (by decide)
  have hr63 := hr.mono (j := 63) (by decide)
  have hr83 := hr.mono (j := 83) (by decide)
  refine ⟨_, pss_cons (ps_set (i := 1) scLw.nd rfl (.inr rfl) (pe_call G1 hr1 rfl D1.m D1.kp D1.b .nil pass0 (pa_cons (pv 0) pa_nil)))
    (pss_cons (ps_if (PW.pt (pw_or (pt_not (pt_val (pe_call G2 hr63 rfl D2.m D2.kp D2.b .nil pass0 (pa_cons (pv 1) (pa_cons pe_int (pa_cons pe_int pa_nil))))))
      (pw_or1 (pt_not (pt_val (pe_call G2 hr63 rfl D2.m D2.kp D2.b .nil pass0 (pa_cons (pv 1) (pa_cons (pe_op op_add pe_int (pe_call G3 hr1 rfl D3.m D3.kp D3.b .nil pass0 (pa_cons (pv 1) (pa_cons pe_int pa_nil)))) (pa_cons pe_int pa_nil)))))))))
      (pss_one (ps_ret pe_bl)) pss_nil)
    (pss_one (ps_ret (pe_cmpR (op_eqNL hr.units)
      (pe_lc (own := [("_law_way", 2)]) (g := gName 2) rfl scLw.nd (pi_sq (pe_tup (pa_cons pe_int (pa_cons pe_int (pa_cons pe_int pa_nil))))) (blkOk_by (N := nLw) (sc := defScope sLw) (by decide +kernel)) (fun _ _ _ _ _ => pg_name (i := 2) scLw.nd rfl (Or.inl rfl))
        (fun _ _ _ _ _ => pts_one (pt_not (pt_val (pe_call G4 hr83 rfl D4.m D4.kp D4.b .nil pass0 (pa_cons (pv 1) (pa_cons (pv 2) pa_nil))))))
        (fun _ _ _ _ _ => pv 2)) (pe_lst pa_nil) (nomark _))))), ?_⟩
  refine ⟨_, rfl, a, ns, rfl, hS, h63, fun d c H1 s1 hd hc dk1 => ?_⟩
  refine ⟨_, rfl, d, c, 0, 59, 400, rfl, dk1, by decide, by decide, by decide, by decide, by decide, fun H2 dk2 fr2 => ?_⟩
  refine ⟨_, rfl, ?_⟩
  refine iteF ?_
  refine ⟨_, rfl, _, rfl, d, c, 0 + 5000, 58, rfl, dk2, by decide, by decide, by decide, fun H3 r r0 r1 dk3 fr3 => ?_⟩
  obtain ⟨m, rfl⟩ : ∃ m : Nat, r = (m : Int) := ⟨r.toNat, by omega⟩
  refine ⟨_, _, rfl, rfl, d, c, 0 + 5000 + 1, 2 + m, 120, congrArg (fun z => [V.ref d, V.int z, V.int 120]) (by omega), dk3, by decide, by omega, by omega, by omega, by decide, fun H4 dk4 fr4 => ?_⟩
  refine ⟨_, rfl, ?_⟩
  refine iteF ?_
  refine ⟨by show 3 ≤ sizeLine; decide, fun t ht => ?_⟩
  have st := same_upd (o := .tup [.int 0, .int 1, .int 2]) ht
  have dk5 := dk4.same st
  refine ⟨t, [.int 0, .int 1, .int 2], Itt K t, rfl, .inr (.inl (.inl upd_same)), .inr ⟨.inl (.inl upd_same), rfl⟩, fun _ D6 hD6 => ?_⟩
  obtain ⟨hDd, hDc⟩ := Fr.ne_of dk5 hD6
  obtain ⟨htd, htc⟩ := Fr.ne_of dk4 ht
  have htD : t ≠ D6 := ne_of_none upd_same hD6
  refine lc_tup (K := K) (a := t) (xs := [.int 0, .int 1, .int 2]) (fun i H' => Deck H' d c (0 + 5000 + 1 + 5000 + 20000 * i) ∧ H' D6 = some (.lst []) ∧ H' t = some (.tup [.int 0, .int 1, .int 2]))
    ⟨dk5.upd hDd hDc, upd_same, by rw [upd_ne htD]; exact upd_same⟩ (fun i H' _ h => .inl (.inl h.2.2)) ?_ ?_
  · rintro i x H' hx ⟨dk', hD', ht'⟩
    obtain ⟨hi, hx⟩ : i ≤ 2 ∧ x = V.int (i : Int) := by
      match i, hx with
      | 0, h => exact ⟨by decide, (Option.some.inj h).symm⟩
      | 1, h => exact ⟨by decide, (Option.some.inj h).symm⟩
      | 2, h => exact ⟨by decide, (Option.some.inj h).symm⟩
    subst hx
    refine ⟨rfl, _, rfl, _, rfl, d, c, _, i, rfl, dk', by omega, hi, fun H7 dk7 fr7 => ?_⟩
    refine ⟨_, rfl, ?_⟩
    refine iteF ?_
    exact ⟨dk7.le (by omega), fr7 _ _ hDd hDc hD', fr7 _ _ htd htc ht'⟩
  · rintro H' ⟨dk', hD', ht'⟩
    refine ⟨Nat.zero_le _, fun l hl => ?_⟩
    have sl := same_upd (o := .lst []) hl
    refine ⟨D6, l, [], [], [], [], rfl, rfl, .inl (.inl (sl _ _ hD')), .nil, .inl (.inl upd_same), .nil, by decide, by decide, ?_⟩
    exact q _
end
end OW
end
section
set_option linter.all false
set_option maxRecDepth 100000
set_option maxHeartbeats 8000000
set_option autoImplicit false
/- P30: the end (written by gen_end.py). -/
namespace OW
open PySem L2
section
variable {P : Program} {w : World} {K : PySem.W.Frag} {mg : Str → Option Value} {base : Heap}
theorem all_ok {f1 f2 f3 f4 f5 f6 f7 f8 f9 f10 f11 f12 f13 f14 f15 f16 f17 f18 f19 f20 f21 f22 f23 f24 f25 f26 f27 f28 f29 f30 f31 f32 f33 f34 : Addr} {d1 d2 d3 d4 d5 d6 d7 d8 d9 d10 d11 d12 d13 d14 d15 d16 d17 d18 d19 d20 d21 d22 d23 d24 d25 d26 d27 d28 d29 d30 d31 d32 d33 d34 : FuncData} (B : Bl K mg)
    (D1 : Df K mg "has_bools" sHas ["value"] f1 d1)
    (D2 : Df K mg "unknowns_in" sUnk ["atoms"] f2 d2)
    (D3 : Df K mg "atoms_in" sAin ["clauses"] f3 d3)
    (D4 : Df K mg "tighten" sTig ["atoms", "levels", "causes"] f4 d4)
    (D5 : Df K mg "ring_behind" sRbh ["causes", "atom"] f5 d5)
    (D6 : Df K mg "solve" sSol ["atoms"] f6 d6)
    (D7 : Df K mg "does_hold" sDoe ["alternative", "values"] f7 d7)
    (D8 : Df K mg "is_pair" sIsp ["value"] f8 d8)
    (D9 : Df K mg "solution_holds" sSoh ["clauses", "thing"] f9 d9)
    (D10 : Df K mg "ring_holds" sRho ["atoms", "thing"] f10 d10)
    (D11 : Df K mg "sure_atoms" sSur ["clauses"] f11 d11)
    (D12 : Df K mg "values_for" sVal ["unknowns", "pairs"] f12 d12)
    (D13 : Df K mg "broken_clause" sBro ["clauses", "values"] f13 d13)
    (D14 : Df K mg "settle_rest" sSet ["unknowns", "held", "left"] f14 d14)
    (D15 : Df K mg "split_at" sSpl ["unknowns", "held", "left", "clause"] f15 d15)
    (D16 : Df K mg "settle" sStl ["clauses"] f16 d16)
    (D17 : Df K mg "holds_below" sHbe ["clauses", "held", "split", "thing"] f17 d17)
    (D18 : Df K mg "tree_holds" sTho ["clauses", "thing"] f18 d18)
    (D19 : Df K mg "_law_deck" sDk ["_law_script"] f19 d19)
    (D20 : Df K mg "_law_draw" sDr ["_law_deck_here", "_law_ways"] f20 d20)
    (D21 : Df K mg "_law_pick" sPk ["_law_deck_here", "_law_some"] f21 d21)
    (D22 : Df K mg "_law_hidden" sHi ["_law_deck_here", "_law_many"] f22 d22)
    (D23 : Df K mg "_law_met" sMe ["_law_deck_here", "_law_hidden_here", "_law_room"] f23 d23)
    (D24 : Df K mg "_law_around" sAr ["_law_hidden_here"] f24 d24)
    (D25 : Df K mg "_law_mixed" sMx ["_law_deck_here", "_law_some"] f25 d25)
    (D26 : Df K mg "_law_named" sNa ["_law_atoms"] f26 d26)
    (D27 : Df K mg "_law_breaks" sBk ["_law_values", "_law_one"] f27 d27)
    (D28 : Df K mg "_law_is_solution" sIs ["_law_clauses", "_law_pairs"] f28 d28)
    (D29 : Df K mg "_law_is_ring" sIr ["_law_atoms", "_law_ring"] f29 d29)
    (D30 : Df K mg "_law_systems_right" sSr ["_law_deck_here", "_law_many", "_law_count"] f30 d30)
    (D31 : Df K mg "_law_other_atom" sOa ["_law_deck_here", "_law_hidden_here"] f31 d31)
    (D32 : Df K mg "_law_choice" sCh ["_law_deck_here", "_law_hidden_here", "_law_goods"] f32 d32)
    (D33 : Df K mg "_law_lists_right" sLr ["_law_deck_here", "_law_way"] f33 d33)
    (D34 : Df K mg "law" sLw ["_law_script"] f34 d34)
    : FnOk P w K mg base CX0 84 f34 d34 ["_law_script"] (spLaw K) := by
  have G1 := all_has (P := P) (w := w) (base := base) B D1 60
  have G2 := ok_unk (P := P) (w := w) (base := base) B D2
  have G3 := ok_ain (P := P) (w := w) (base := base) D3
  have G4 := ok_tig (P := P) (w := w) (base := base) D4
  have G5 := ok_rbh (P := P) (w := w) (base := base) B D5
  have G6 := ok_sol (P := P) (w := w) (base := base) B D6 D2 G2 D4 G4 D5 G5
  have G7 := ok_doe (P := P) (w := w) (base := base) B D7
  have G8 := ok_isp (P := P) (w := w) (base := base) B D8 D1 G1
  have G9 := ok_soh (P := P) (w := w) (base := base) B D9 D8 G8 D2 G2 D3 G3 D7 G7
  have G10 := ok_rho (P := P) (w := w) (base := base) B D10 D1 G1
  have G11 := ok_sur (P := P) (w := w) (base := base) B D11
  have G12 := ok_val (P := P) (w := w) (base := base) B D12
  have G13 := ok_bro (P := P) (w := w) (base := base) B D13 D7 G7
  have G14 := all_set (P := P) (w := w) (base := base) B D14 D6 G6 D12 G12 D13 G13 D15 20
  have G16 := ok_stl (P := P) (w := w) (base := base) B D16 D14 G14 D2 G2 D3 G3 D11 G11
  have G17 := all_hbe (P := P) (w := w) (base := base) B D17 D1 G1 D10 G10 20
  have G18 := ok_tho (P := P) (w := w) (base := base) D18 D17 G17 D11 G11
  have G19 := ok_dk (P := P) (w := w) (base := base) B D19
  have G20 := ok_dr (P := P) (w := w) (base := base) D20
  have G21 := ok_pk (P := P) (w := w) (base := base) B D21 D20 G20
  have G25 := ok_mx (P := P) (w := w) (base := base) B D25 D20 G20
  have G22 := ok_hi (P := P) (w := w) (base := base) B D22 D20 G20 D21 G21
  have G23 := ok_me (P := P) (w := w) (base := base) B D23 D20 G20
  have G31 := ok_oa (P := P) (w := w) (base := base) B D31 D20 G20
  have G24 := ok_ar (P := P) (w := w) (base := base) B D24
  have G26 := ok_na (P := P) (w := w) (base := base) B D26
  have G27 := ok_bk (P := P) (w := w) (base := base) B D27
  have G28 := ok_is (P := P) (w := w) (base := base) B D28 D26 G26 D27 G27
  have G29 := ok_ir (P := P) (w := w) (base := base) B D29
  have G30 := ok_sr (P := P) (w := w) (base := base) B D30 ⟨D22, G22, D24, G24, D25, G25, D23, G23, D6, G6, D28, G28, D9, G9, D20, G20, D29, G29, D10, G10⟩
  have G32 := ok_ch (P := P) (w := w) (base := base) B D32 D23 G23 D31 G31
  have G33 := ok_lr (P := P) (w := w) (base := base) B D33 ⟨D22, G22, D24, G24, D23, G23, D28, G28, D9, G9, D20, G20, D32, G32, D16, G16, D18, G18⟩
  exact ok_law D34 D19 G19 D30 G30 D20 G20 D33 G33
end
theorem all_mk {l : PySem.W.OpenLaw} {w : World} {K : PySem.W.Frag} {h : Heap} {mg : Str → Option Value} {fa z0 f1 f2 f3 f4 f5 f6 f7 f8 f9 f10 f11 f12 f13 f14 f15 f16 f17 f18 f19 f20 f21 f22 f23 f24 f25 f26 f27 f28 f29 f30 f31 f32 f33 f34 : Addr} (X : K.In h) (G : h.Ns mainGlobals mg) (hfa : mg "law" = some (.ref fa))
    {od1 an1 od2 an2 od3 an3 od4 an4 od5 an5 od6 an6 od7 an7 od8 an8 od9 an9 od10 an10 od11 an11 od12 an12 od13 an13 od14 an14 od15 an15 od16 an16 od17 an17 od18 an18 od19 an19 od20 an20 od21 an21 od22 an22 od23 an23 od24 an24 od25 an25 od26 an26 od27 an27 od28 an28 od29 an29 od30 an30 od31 an31 od32 an32 od33 an33 od34 an34 odz : Option Addr} {sl1 sl2 sl3 sl4 sl5 sl6 sl7 sl8 sl9 sl10 sl11 sl12 sl13 sl14 sl15 sl16 sl17 sl18 sl19 sl20 sl21 sl22 sl23 sl24 sl25 sl26 sl27 sl28 sl29 sl30 sl31 sl32 sl33 sl34 slz : Array (Option Value)} {oc1 kV1 dc1 pm1 cd1 ct1 oc2 kV2 dc2 pm2 cd2 ct2 oc3 kV3 dc3 pm3 cd3 ct3 oc4 kV4 dc4 pm4 cd4 ct4 oc5 kV5 dc5 pm5 cd5 ct5 oc6 kV6 dc6 pm6 cd6 ct6 oc7 kV7 dc7 pm7 cd7 ct7 oc8 kV8 dc8 pm8 cd8 ct8 oc9 kV9 dc9 pm9 cd9 ct9 oc10 kV10 dc10 pm10 cd10 ct10 oc11 kV11 dc11 pm11 cd11 ct11 oc12 kV12 dc12 pm12 cd12 ct12 oc13 kV13 dc13 pm13 cd13 ct13 oc14 kV14 dc14 pm14 cd14 ct14 oc15 kV15 dc15 pm15 cd15 ct15 oc16 kV16 dc16 pm16 cd16 ct16 oc17 kV17 dc17 pm17 cd17 ct17 oc18 kV18 dc18 pm18 cd18 ct18 oc19 kV19 dc19 pm19 cd19 ct19 oc20 kV20 dc20 pm20 cd20 ct20 oc21 kV21 dc21 pm21 cd21 ct21 oc22 kV22 dc22 pm22 cd22 ct22 oc23 kV23 dc23 pm23 cd23 ct23 oc24 kV24 dc24 pm24 cd24 ct24 oc25 kV25 dc25 pm25 cd25 ct25 oc26 kV26 dc26 pm26 cd26 ct26 oc27 kV27 dc27 pm27 cd27 ct27 oc28 kV28 dc28 pm28 cd28 ct28 oc29 kV29 dc29 pm29 cd29 ct29 oc30 kV30 dc30 pm30 cd30 ct30 oc31 kV31 dc31 pm31 cd31 ct31 oc32 kV32 dc32 pm32 cd32 ct32 oc33 kV33 dc33 pm33 cd33 ct33 oc34 kV34 dc34 pm34 cd34 ct34 : Value} {n0 : Nat} {tp tl tr ts to tt trp tsp : Tok}
    (a1 : PySem.W.nsIn K mainGlobals "has_bools" = some (some (.ref f1))) (l1 : K.lookup f1 = some ⟨oc1, od1, .func (PySem.W.fnOf "has_bools" "has_bools" (defArgs sHas) (defBody sHas) (defScope sHas) .none kV1 dc1 pm1 an1 cd1 ct1), sl1⟩) (c1 : PySem.W.codeIn K cd1 "has_bools" = true) (k1 : PySem.W.keepIn K (.ref f1) = true)
    (a2 : PySem.W.nsIn K mainGlobals "unknowns_in" = some (some (.ref f2))) (l2 : K.lookup f2 = some ⟨oc2, od2, .func (PySem.W.fnOf "unknowns_in" "unknowns_in" (defArgs sUnk) (defBody sUnk) (defScope sUnk) .none kV2 dc2 pm2 an2 cd2 ct2), sl2⟩) (c2 : PySem.W.codeIn K cd2 "unknowns_in" = true) (k2 : PySem.W.keepIn K (.ref f2) = true)
    (a3 : PySem.W.nsIn K mainGlobals "atoms_in" = some (some (.ref f3))) (l3 : K.lookup f3 = some ⟨oc3, od3, .func (PySem.W.fnOf "atoms_in" "atoms_in" (defArgs sAin) (defBody sAin) (defScope sAin) .none kV3 dc3 pm3 an3 cd3 ct3), sl3⟩) (c3 : PySem.W.codeIn K cd3 "atoms_in" = true) (k3 : PySem.W.keepIn K (.ref f3) = true)
    (a4 : PySem.W.nsIn K mainGlobals "tighten" = some (some (.ref f4))) (l4 : K.lookup f4 = some ⟨oc4, od4, .func (PySem.W.fnOf "tighten" "tighten" (defArgs sTig) (defBody sTig) (defScope sTig) .none kV4 dc4 pm4 an4 cd4 ct4), sl4⟩) (c4 : PySem.W.codeIn K cd4 "tighten" = true) (k4 : PySem.W.keepIn K (.ref f4) = true)
    (a5 : PySem.W.nsIn K mainGlobals "ring_behind" = some (some (.ref f5))) (l5 : K.lookup f5 = some ⟨oc5, od5, .func (PySem.W.fnOf "ring_behind" "ring_behind" (defArgs sRbh) (defBody sRbh) (defScope sRbh) .none kV5 dc5 pm5 an5 cd5 ct5), sl5⟩) (c5 : PySem.W.codeIn K cd5 "ring_behind" = true) (k5 : PySem.W.keepIn K (.ref f5) = true)
    (a6 : PySem.W.nsIn K mainGlobals "solve" = some (some (.ref f6))) (l6 : K.lookup f6 = some ⟨oc6, od6, .func (PySem.W.fnOf "solve" "solve" (defArgs sSol) (defBody sSol) (defScope sSol) .none kV6 dc6 pm6 an6 cd6 ct6), sl6⟩) (c6 : PySem.W.codeIn K cd6 "solve" = true) (k6 : PySem.W.keepIn K (.ref f6) = true)
    (a7 : PySem.W.nsIn K mainGlobals "does_hold" = some (some (.ref f7))) (l7 : K.lookup f7 = some ⟨oc7, od7, .func (PySem.W.fnOf "does_hold" "does_hold" (defArgs sDoe) (defBody sDoe) (defScope sDoe) .none kV7 dc7 pm7 an7 cd7 ct7), sl7⟩) (c7 : PySem.W.codeIn K cd7 "does_hold" = true) (k7 : PySem.W.keepIn K (.ref f7) = true)
    (a8 : PySem.W.nsIn K mainGlobals "is_pair" = some (some (.ref f8))) (l8 : K.lookup f8 = some ⟨oc8, od8, .func (PySem.W.fnOf "is_pair" "is_pair" (defArgs sIsp) (defBody sIsp) (defScope sIsp) .none kV8 dc8 pm8 an8 cd8 ct8), sl8⟩) (c8 : PySem.W.codeIn K cd8 "is_pair" = true) (k8 : PySem.W.keepIn K (.ref f8) = true)
    (a9 : PySem.W.nsIn K mainGlobals "solution_holds" = some (some (.ref f9))) (l9 : K.lookup f9 = some ⟨oc9, od9, .func (PySem.W.fnOf "solution_holds" "solution_holds" (defArgs sSoh) (defBody sSoh) (defScope sSoh) .none kV9 dc9 pm9 an9 cd9 ct9), sl9⟩) (c9 : PySem.W.codeIn K cd9 "solution_holds" = true) (k9 : PySem.W.keepIn K (.ref f9) = true)
    (a10 : PySem.W.nsIn K mainGlobals "ring_holds" = some (some (.ref f10))) (l10 : K.lookup f10 = some ⟨oc10, od10, .func (PySem.W.fnOf "ring_holds" "ring_holds" (defArgs sRho) (defBody sRho) (defScope sRho) .none kV10 dc10 pm10 an10 cd10 ct10), sl10⟩) (c10 : PySem.W.codeIn K cd10 "ring_holds" = true) (k10 : PySem.W.keepIn K (.ref f10) = true)
    (a11 : PySem.W.nsIn K mainGlobals "sure_atoms" = some (some (.ref f11))) (l11 : K.lookup f11 = some ⟨oc11, od11, .func (PySem.W.fnOf "sure_atoms" "sure_atoms" (defArgs sSur) (defBody sSur) (defScope sSur) .none kV11 dc11 pm11 an11 cd11 ct11), sl11⟩) (c11 : PySem.W.codeIn K cd11 "sure_atoms" = true) (k11 : PySem.W.keepIn K (.ref f11) = true)
    (a12 : PySem.W.nsIn K mainGlobals "values_for" = some (some (.ref f12))) (l12 : K.lookup f12 = some ⟨oc12, od12, .func (PySem.W.fnOf "values_for" "values_for" (defArgs sVal) (defBody sVal) (defScope sVal) .none kV12 dc12 pm12 an12 cd12 ct12), sl12⟩) (c12 : PySem.W.codeIn K cd12 "values_for" = true) (k12 : PySem.W.keepIn K (.ref f12) = true)
    (a13 : PySem.W.nsIn K mainGlobals "broken_clause" = some (some (.ref f13))) (l13 : K.lookup f13 = some ⟨oc13, od13, .func (PySem.W.fnOf "broken_clause" "broken_clause" (defArgs sBro) (defBody sBro) (defScope sBro) .none kV13 dc13 pm13 an13 cd13 ct13), sl13⟩) (c13 : PySem.W.codeIn K cd13 "broken_clause" = true) (k13 : PySem.W.keepIn K (.ref f13) = true)
    (a14 : PySem.W.nsIn K mainGlobals "settle_rest" = some (some (.ref f14))) (l14 : K.lookup f14 = some ⟨oc14, od14, .func (PySem.W.fnOf "settle_rest" "settle_rest" (defArgs sSet) (defBody sSet) (defScope sSet) .none kV14 dc14 pm14 an14 cd14 ct14), sl14⟩) (c14 : PySem.W.codeIn K cd14 "settle_rest" = true) (k14 : PySem.W.keepIn K (.ref f14) = true)
    (a15 : PySem.W.nsIn K mainGlobals "split_at" = some (some (.ref f15))) (l15 : K.lookup f15 = some ⟨oc15, od15, .func (PySem.W.fnOf "split_at" "split_at" (defArgs sSpl) (defBody sSpl) (defScope sSpl) .none kV15 dc15 pm15 an15 cd15 ct15), sl15⟩) (c15 : PySem.W.codeIn K cd15 "split_at" = true) (k15 : PySem.W.keepIn K (.ref f15) = true)
    (a16 : PySem.W.nsIn K mainGlobals "settle" = some (some (.ref f16))) (l16 : K.lookup f16 = some ⟨oc16, od16, .func (PySem.W.fnOf "settle" "settle" (defArgs sStl) (defBody sStl) (defScope sStl) .none kV16 dc16 pm16 an16 cd16 ct16), sl16⟩) (c16 : PySem.W.codeIn K cd16 "settle" = true) (k16 : PySem.W.keepIn K (.ref f16) = true)
    (a17 : PySem.W.nsIn K mainGlobals "holds_below" = some (some (.ref f17))) (l17 : K.lookup f17 = some ⟨oc17, od17, .func (PySem.W.fnOf "holds_below" "holds_below" (defArgs sHbe) (defBody sHbe) (defScope sHbe) .none kV17 dc17 pm17 an17 cd17 ct17), sl17⟩) (c17 : PySem.W.codeIn K cd17 "holds_below" = true) (k17 : PySem.W.keepIn K (.ref f17) = true)
    (a18 : PySem.W.nsIn K mainGlobals "tree_holds" = some (some (.ref f18))) (l18 : K.lookup f18 = some ⟨oc18, od18, .func (PySem.W.fnOf "tree_holds" "tree_holds" (defArgs sTho) (defBody sTho) (defScope sTho) .none kV18 dc18 pm18 an18 cd18 ct18), sl18⟩) (c18 : PySem.W.codeIn K cd18 "tree_holds" = true) (k18 : PySem.W.keepIn K (.ref f18) = true)
    (a19 : PySem.W.nsIn K mainGlobals "_law_deck" = some (some (.ref f19))) (l19 : K.lookup f19 = some ⟨oc19, od19, .func (PySem.W.fnOf "_law_deck" "_law_deck" (defArgs sDk) (defBody sDk) (defScope sDk) .none kV19 dc19 pm19 an19 cd19 ct19), sl19⟩) (c19 : PySem.W.codeIn K cd19 "_law_deck" = true) (k19 : PySem.W.keepIn K (.ref f19) = true)
    (a20 : PySem.W.nsIn K mainGlobals "_law_draw" = some (some (.ref f20))) (l20 : K.lookup f20 = some ⟨oc20, od20, .func (PySem.W.fnOf "_law_draw" "_law_draw" (defArgs sDr) (defBody sDr) (defScope sDr) .none kV20 dc20 pm20 an20 cd20 ct20), sl20⟩) (c20 : PySem.W.codeIn K cd20 "_law_draw" = true) (k20 : PySem.W.keepIn K (.ref f20) = true)
    (a21 : PySem.W.nsIn K mainGlobals "_law_pick" = some (some (.ref f21))) (l21 : K.lookup f21 = some ⟨oc21, od21, .func (PySem.W.fnOf "_law_pick" "_law_pick" (defArgs sPk) (defBody sPk) (defScope sPk) .none kV21 dc21 pm21 an21 cd21 ct21), sl21⟩) (c21 : PySem.W.codeIn K cd21 "_law_pick" = true) (k21 : PySem.W.keepIn K (.ref f21) = true)
    (a22 : PySem.W.nsIn K mainGlobals "_law_hidden" = some (some (.ref f22))) (l22 : K.lookup f22 = some ⟨oc22, od22, .func (PySem.W.fnOf "_law_hidden" "_law_hidden" (defArgs sHi) (defBody sHi) (defScope sHi) .none kV22 dc22 pm22 an22 cd22 ct22), sl22⟩) (c22 : PySem.W.codeIn K cd22 "_law_hidden" = true) (k22 : PySem.W.keepIn K (.ref f22) = true)
    (a23 : PySem.W.nsIn K mainGlobals "_law_met" = some (some (.ref f23))) (l23 : K.lookup f23 = some ⟨oc23, od23, .func (PySem.W.fnOf "_law_met" "_law_met" (defArgs sMe) (defBody sMe) (defScope sMe) .none kV23 dc23 pm23 an23 cd23 ct23), sl23⟩) (c23 : PySem.W.codeIn K cd23 "_law_met" = true) (k23 : PySem.W.keepIn K (.ref f23) = true)
    (a24 : PySem.W.nsIn K mainGlobals "_law_around" = some (some (.ref f24))) (l24 : K.lookup f24 = some ⟨oc24, od24, .func (PySem.W.fnOf "_law_around" "_law_around" (defArgs sAr) (defBody sAr) (defScope sAr) .none kV24 dc24 pm24 an24 cd24 ct24), sl24⟩) (c24 : PySem.W.codeIn K cd24 "_law_around" = true) (k24 : PySem.W.keepIn K (.ref f24) = true)
    (a25 : PySem.W.nsIn K mainGlobals "_law_mixed" = some (some (.ref f25))) (l25 : K.lookup f25 = some ⟨oc25, od25, .func (PySem.W.fnOf "_law_mixed" "_law_mixed" (defArgs sMx) (defBody sMx) (defScope sMx) .none kV25 dc25 pm25 an25 cd25 ct25), sl25⟩) (c25 : PySem.W.codeIn K cd25 "_law_mixed" = true) (k25 : PySem.W.keepIn K (.ref f25) = true)
    (a26 : PySem.W.nsIn K mainGlobals "_law_named" = some (some (.ref f26))) (l26 : K.lookup f26 = some ⟨oc26, od26, .func (PySem.W.fnOf "_law_named" "_law_named" (defArgs sNa) (defBody sNa) (defScope sNa) .none kV26 dc26 pm26 an26 cd26 ct26), sl26⟩) (c26 : PySem.W.codeIn K cd26 "_law_named" = true) (k26 : PySem.W.keepIn K (.ref f26) = true)
    (a27 : PySem.W.nsIn K mainGlobals "_law_breaks" = some (some (.ref f27))) (l27 : K.lookup f27 = some ⟨oc27, od27, .func (PySem.W.fnOf "_law_breaks" "_law_breaks" (defArgs sBk) (defBody sBk) (defScope sBk) .none kV27 dc27 pm27 an27 cd27 ct27), sl27⟩) (c27 : PySem.W.codeIn K cd27 "_law_breaks" = true) (k27 : PySem.W.keepIn K (.ref f27) = true)
    (a28 : PySem.W.nsIn K mainGlobals "_law_is_solution" = some (some (.ref f28))) (l28 : K.lookup f28 = some ⟨oc28, od28, .func (PySem.W.fnOf "_law_is_solution" "_law_is_solution" (defArgs sIs) (defBody sIs) (defScope sIs) .none kV28 dc28 pm28 an28 cd28 ct28), sl28⟩) (c28 : PySem.W.codeIn K cd28 "_law_is_solution" = true) (k28 : PySem.W.keepIn K (.ref f28) = true)
    (a29 : PySem.W.nsIn K mainGlobals "_law_is_ring" = some (some (.ref f29))) (l29 : K.lookup f29 = some ⟨oc29, od29, .func (PySem.W.fnOf "_law_is_ring" "_law_is_ring" (defArgs sIr) (defBody sIr) (defScope sIr) .none kV29 dc29 pm29 an29 cd29 ct29), sl29⟩) (c29 : PySem.W.codeIn K cd29 "_law_is_ring" = true) (k29 : PySem.W.keepIn K (.ref f29) = true)
    (a30 : PySem.W.nsIn K mainGlobals "_law_systems_right" = some (some (.ref f30))) (l30 : K.lookup f30 = some ⟨oc30, od30, .func (PySem.W.fnOf "_law_systems_right" "_law_systems_right" (defArgs sSr) (defBody sSr) (defScope sSr) .none kV30 dc30 pm30 an30 cd30 ct30), sl30⟩) (c30 : PySem.W.codeIn K cd30 "_law_systems_right" = true) (k30 : PySem.W.keepIn K (.ref f30) = true)
    (a31 : PySem.W.nsIn K mainGlobals "_law_other_atom" = some (some (.ref f31))) (l31 : K.lookup f31 = some ⟨oc31, od31, .func (PySem.W.fnOf "_law_other_atom" "_law_other_atom" (defArgs sOa) (defBody sOa) (defScope sOa) .none kV31 dc31 pm31 an31 cd31 ct31), sl31⟩) (c31 : PySem.W.codeIn K cd31 "_law_other_atom" = true) (k31 : PySem.W.keepIn K (.ref f31) = true)
    (a32 : PySem.W.nsIn K mainGlobals "_law_choice" = some (some (.ref f32))) (l32 : K.lookup f32 = some ⟨oc32, od32, .func (PySem.W.fnOf "_law_choice" "_law_choice" (defArgs sCh) (defBody sCh) (defScope sCh) .none kV32 dc32 pm32 an32 cd32 ct32), sl32⟩) (c32 : PySem.W.codeIn K cd32 "_law_choice" = true) (k32 : PySem.W.keepIn K (.ref f32) = true)
    (a33 : PySem.W.nsIn K mainGlobals "_law_lists_right" = some (some (.ref f33))) (l33 : K.lookup f33 = some ⟨oc33, od33, .func (PySem.W.fnOf "_law_lists_right" "_law_lists_right" (defArgs sLr) (defBody sLr) (defScope sLr) .none kV33 dc33 pm33 an33 cd33 ct33), sl33⟩) (c33 : PySem.W.codeIn K cd33 "_law_lists_right" = true) (k33 : PySem.W.keepIn K (.ref f33) = true)
    (a34 : PySem.W.nsIn K mainGlobals "law" = some (some (.ref f34))) (l34 : K.lookup f34 = some ⟨oc34, od34, .func (PySem.W.fnOf "law" "law" (defArgs sLw) (defBody sLw) (defScope sLw) .none kV34 dc34 pm34 an34 cd34 ct34), sl34⟩) (c34 : PySem.W.codeIn K cd34 "law" = true) (k34 : PySem.W.keepIn K (.ref f34) = true)
    (z_isinstance : PySem.W.nsIn K mainGlobals "isinstance" = some none)
    (z_tuple : PySem.W.nsIn K mainGlobals "tuple" = some none)
    (z_any : PySem.W.nsIn K mainGlobals "any" = some none)
    (z_all : PySem.W.nsIn K mainGlobals "all" = some none)
    (z_bool : PySem.W.nsIn K mainGlobals "bool" = some none)
    (z_int : PySem.W.nsIn K mainGlobals "int" = some none)
    (z_str : PySem.W.nsIn K mainGlobals "str" = some none)
    (z_sorted : PySem.W.nsIn K mainGlobals "sorted" = some none)
    (z_range : PySem.W.nsIn K mainGlobals "range" = some none)
    (z_len : PySem.W.nsIn K mainGlobals "len" = some none)
    (z_dict : PySem.W.nsIn K mainGlobals "dict" = some none)
    (z_list : PySem.W.nsIn K mainGlobals "list" = some none)
    (z_set : PySem.W.nsIn K mainGlobals "set" = some none)
    (z_sum : PySem.W.nsIn K mainGlobals "sum" = some none)
    (z_zip : PySem.W.nsIn K mainGlobals "zip" = some none)
    (az : PySem.W.nsIn K mainGlobals "ZERO" = some (some (.ref z0))) (lz : K.lookup z0 = some ⟨.type "tuple", odz, .seq #[] n0, slz⟩)
    (q1 : PySem.W.nsIn K mainGlobals "PAIR_PARTS" = some (some (.int 2 tp)))
    (q2 : PySem.W.nsIn K mainGlobals "LEAST_RING" = some (some (.int 2 tl)))
    (q3 : PySem.W.nsIn K mainGlobals "RING" = some (some (.str "ring" tr)))
    (q4 : PySem.W.nsIn K mainGlobals "SPLIT" = some (some (.str "split" ts)))
    (q5 : PySem.W.nsIn K mainGlobals "SOLUTION" = some (some (.str "solution" to)))
    (q6 : PySem.W.nsIn K mainGlobals "TREE" = some (some (.str "tree" tt)))
    (q7 : PySem.W.nsIn K mainGlobals "RING_PARTS" = some (some (.int 2 trp)))
    (q8 : PySem.W.nsIn K mainGlobals "SPLIT_PARTS" = some (some (.int 3 tsp)))
    : ∃ fd : FuncData, (∀ (s : Shared) (v : Value), BindsTo s fd ⟨[v], []⟩ [("_law_script", v)]) ∧ ∀ base : Heap, K.In base → base.Ns mainGlobals mg → FnOk l.prog w K mg base CX0 84 fa fd ["_law_script"] (spLaw K) := by
  have e := hfa.symm.trans (PySem.W.mg_of X G a34)
  cases e
  have F1 := fun_mk (st := sHas) l1 c1 k1
  have b1 := F1.binds (ps := ["value"]) fun _ _ _ _ _ _ us hl => match us, hl with | [_], _ => rfl
  have F2 := fun_mk (st := sUnk) l2 c2 k2
  have b2 := F2.binds (ps := ["atoms"]) fun _ _ _ _ _ _ us hl => match us, hl with | [_], _ => rfl
  have F3 := fun_mk (st := sAin) l3 c3 k3
  have b3 := F3.binds (ps := ["clauses"]) fun _ _ _ _ _ _ us hl => match us, hl with | [_], _ => rfl
  have F4 := fun_mk (st := sTig) l4 c4 k4
  have b4 := F4.binds (ps := ["atoms", "levels", "causes"]) fun _ _ _ _ _ _ us hl => match us, hl with | [_, _, _], _ => rfl
  have F5 := fun_mk (st := sRbh) l5 c5 k5
  have b5 := F5.binds (ps := ["causes", "atom"]) fun _ _ _ _ _ _ us hl => match us, hl with | [_, _], _ => rfl
  have F6 := fun_mk (st := sSol) l6 c6 k6
  have b6 := F6.binds (ps := ["atoms"]) fun _ _ _ _ _ _ us hl => match us, hl with | [_], _ => rfl
  have F7 := fun_mk (st := sDoe) l7 c7 k7
  have b7 := F7.binds (ps := ["alternative", "values"]) fun _ _ _ _ _ _ us hl => match us, hl with | [_, _], _ => rfl
  have F8 := fun_mk (st := sIsp) l8 c8 k8
  have b8 := F8.binds (ps := ["value"]) fun _ _ _ _ _ _ us hl => match us, hl with | [_], _ => rfl
  have F9 := fun_mk (st := sSoh) l9 c9 k9
  have b9 := F9.binds (ps := ["clauses", "thing"]) fun _ _ _ _ _ _ us hl => match us, hl with | [_, _], _ => rfl
  have F10 := fun_mk (st := sRho) l10 c10 k10
  have b10 := F10.binds (ps := ["atoms", "thing"]) fun _ _ _ _ _ _ us hl => match us, hl with | [_, _], _ => rfl
  have F11 := fun_mk (st := sSur) l11 c11 k11
  have b11 := F11.binds (ps := ["clauses"]) fun _ _ _ _ _ _ us hl => match us, hl with | [_], _ => rfl
  have F12 := fun_mk (st := sVal) l12 c12 k12
  have b12 := F12.binds (ps := ["unknowns", "pairs"]) fun _ _ _ _ _ _ us hl => match us, hl with | [_, _], _ => rfl
  have F13 := fun_mk (st := sBro) l13 c13 k13
  have b13 := F13.binds (ps := ["clauses", "values"]) fun _ _ _ _ _ _ us hl => match us, hl with | [_, _], _ => rfl
  have F14 := fun_mk (st := sSet) l14 c14 k14
  have b14 := F14.binds (ps := ["unknowns", "held", "left"]) fun _ _ _ _ _ _ us hl => match us, hl with | [_, _, _], _ => rfl
  have F15 := fun_mk (st := sSpl) l15 c15 k15
  have b15 := F15.binds (ps := ["unknowns", "held", "left", "clause"]) fun _ _ _ _ _ _ us hl => match us, hl with | [_, _, _, _], _ => rfl
  have F16 := fun_mk (st := sStl) l16 c16 k16
  have b16 := F16.binds (ps := ["clauses"]) fun _ _ _ _ _ _ us hl => match us, hl with | [_], _ => rfl
  have F17 := fun_mk (st := sHbe) l17 c17 k17
  have b17 := F17.binds (ps := ["clauses", "held", "split", "thing"]) fun _ _ _ _ _ _ us hl => match us, hl with | [_, _, _, _], _ => rfl
  have F18 := fun_mk (st := sTho) l18 c18 k18
  have b18 := F18.binds (ps := ["clauses", "thing"]) fun _ _ _ _ _ _ us hl => match us, hl with | [_, _], _ => rfl
  have F19 := fun_mk (st := sDk) l19 c19 k19
  have b19 := F19.binds (ps := ["_law_script"]) fun _ _ _ _ _ _ us hl => match us, hl with | [_], _ => rfl
  have F20 := fun_mk (st := sDr) l20 c20 k20
  have b20 := F20.binds (ps := ["_law_deck_here", "_law_ways"]) fun _ _ _ _ _ _ us hl => match us, hl with | [_, _], _ => rfl
  have F21 := fun_mk (st := sPk) l21 c21 k21
  have b21 := F21.binds (ps := ["_law_deck_here", "_law_some"]) fun _ _ _ _ _ _ us hl => match us, hl with | [_, _], _ => rfl
  have F22 := fun_mk (st := sHi) l22 c22 k22
  have b22 := F22.binds (ps := ["_law_deck_here", "_law_many"]) fun _ _ _ _ _ _ us hl => match us, hl with | [_, _], _ => rfl
  have F23 := fun_mk (st := sMe) l23 c23 k23
  have b23 := F23.binds (ps := ["_law_deck_here", "_law_hidden_here", "_law_room"]) fun _ _ _ _ _ _ us hl => match us, hl with | [_, _, _], _ => rfl
  have F24 := fun_mk (st := sAr) l24 c24 k24
  have b24 := F24.binds (ps := ["_law_hidden_here"]) fun _ _ _ _ _ _ us hl => match us, hl with | [_], _ => rfl
  have F25 := fun_mk (st := sMx) l25 c25 k25
  have b25 := F25.binds (ps := ["_law_deck_here", "_law_some"]) fun _ _ _ _ _ _ us hl => match us, hl with | [_, _], _ => rfl
  have F26 := fun_mk (st := sNa) l26 c26 k26
  have b26 := F26.binds (ps := ["_law_atoms"]) fun _ _ _ _ _ _ us hl => match us, hl with | [_], _ => rfl
  have F27 := fun_mk (st := sBk) l27 c27 k27
  have b27 := F27.binds (ps := ["_law_values", "_law_one"]) fun _ _ _ _ _ _ us hl => match us, hl with | [_, _], _ => rfl
  have F28 := fun_mk (st := sIs) l28 c28 k28
  have b28 := F28.binds (ps := ["_law_clauses", "_law_pairs"]) fun _ _ _ _ _ _ us hl => match us, hl with | [_, _], _ => rfl
  have F29 := fun_mk (st := sIr) l29 c29 k29
  have b29 := F29.binds (ps := ["_law_atoms", "_law_ring"]) fun _ _ _ _ _ _ us hl => match us, hl with | [_, _], _ => rfl
  have F30 := fun_mk (st := sSr) l30 c30 k30
  have b30 := F30.binds (ps := ["_law_deck_here", "_law_many", "_law_count"]) fun _ _ _ _ _ _ us hl => match us, hl with | [_, _, _], _ => rfl
  have F31 := fun_mk (st := sOa) l31 c31 k31
  have b31 := F31.binds (ps := ["_law_deck_here", "_law_hidden_here"]) fun _ _ _ _ _ _ us hl => match us, hl with | [_, _], _ => rfl
  have F32 := fun_mk (st := sCh) l32 c32 k32
  have b32 := F32.binds (ps := ["_law_deck_here", "_law_hidden_here", "_law_goods"]) fun _ _ _ _ _ _ us hl => match us, hl with | [_, _, _], _ => rfl
  have F33 := fun_mk (st := sLr) l33 c33 k33
  have b33 := F33.binds (ps := ["_law_deck_here", "_law_way"]) fun _ _ _ _ _ _ us hl => match us, hl with | [_, _], _ => rfl
  have F34 := fun_mk (st := sLw) l34 c34 k34
  have b34 := F34.binds (ps := ["_law_script"]) fun _ _ _ _ _ _ us hl => match us, hl with | [_], _ => rfl
  have B : Bl K mg := ⟨PySem.W.mg_none_of X G z_isinstance, PySem.W.mg_none_of X G z_tuple, PySem.W.mg_none_of X G z_any, PySem.W.mg_none_of X G z_all, PySem.W.mg_none_of X G z_bool, PySem.W.mg_none_of X G z_int, PySem.W.mg_none_of X G z_str, PySem.W.mg_none_of X G z_sorted, PySem.W.mg_none_of X G z_range, PySem.W.mg_none_of X G z_len, PySem.W.mg_none_of X G z_dict, PySem.W.mg_none_of X G z_list, PySem.W.mg_none_of X G z_set, PySem.W.mg_none_of X G z_sum, PySem.W.mg_none_of X G z_zip, ⟨z0, PySem.W.mg_of X G az, _, n0, lz, rfl, rfl⟩, ⟨_, PySem.W.mg_of X G q1⟩, ⟨_, PySem.W.mg_of X G q2⟩, ⟨_, PySem.W.mg_of X G q3⟩, ⟨_, PySem.W.mg_of X G q4⟩, ⟨_, PySem.W.mg_of X G q5⟩, ⟨_, PySem.W.mg_of X G q6⟩, ⟨_, PySem.W.mg_of X G q7⟩, ⟨_, PySem.W.mg_of X G q8⟩⟩
  refine ⟨PySem.W.fnOf "law" "law" (defArgs sLw) (defBody sLw) (defScope sLw) .none kV34 dc34 pm34 an34 cd34 ct34, fun s v => .of_eq rfl, fun base _ _ => ?_⟩
  exact all_ok B ⟨F1, b1, PySem.W.mg_of X G a1⟩ ⟨F2, b2, PySem.W.mg_of X G a2⟩ ⟨F3, b3, PySem.W.mg_of X G a3⟩ ⟨F4, b4, PySem.W.mg_of X G a4⟩ ⟨F5, b5, PySem.W.mg_of X G a5⟩ ⟨F6, b6, PySem.W.mg_of X G a6⟩ ⟨F7, b7, PySem.W.mg_of X G a7⟩ ⟨F8, b8, PySem.W.mg_of X G a8⟩ ⟨F9, b9, PySem.W.mg_of X G a9⟩ ⟨F10, b10, PySem.W.mg_of X G a10⟩ ⟨F11, b11, PySem.W.mg_of X G a11⟩ ⟨F12, b12, PySem.W.mg_of X G a12⟩ ⟨F13, b13, PySem.W.mg_of X G a13⟩ ⟨F14, b14, PySem.W.mg_of X G a14⟩ ⟨F15, b15, PySem.W.mg_of X G a15⟩ ⟨F16, b16, PySem.W.mg_of X G a16⟩ ⟨F17, b17, PySem.W.mg_of X G a17⟩ ⟨F18, b18, PySem.W.mg_of X G a18⟩ ⟨F19, b19, PySem.W.mg_of X G a19⟩ ⟨F20, b20, PySem.W.mg_of X G a20⟩ ⟨F21, b21, PySem.W.mg_of X G a21⟩ ⟨F22, b22, PySem.W.mg_of X G a22⟩ ⟨F23, b23, PySem.W.mg_of X G a23⟩ ⟨F24, b24, PySem.W.mg_of X G a24⟩ ⟨F25, b25, PySem.W.mg_of X G a25⟩ ⟨F26, b26, PySem.W.mg_of X G a26⟩ ⟨F27, b27, PySem.W.mg_of X G a27⟩ ⟨F28, b28, PySem.W.mg_of X G a28⟩ ⟨F29, b29, PySem.W.mg_of X G a29⟩ ⟨F30, b30, PySem.W.mg_of X G a30⟩ ⟨F31, b31, PySem.W.mg_of X G a31⟩ ⟨F32, b32, PySem.W.mg_of X G a32⟩ ⟨F33, b33, PySem.W.mg_of X G a33⟩ ⟨F34, b34, PySem.W.mg_of X G a34⟩
theorem walk {l : PySem.W.OpenLaw} {q : Program} {loose : List Str} {XP : (Str → Option Value) → Heap → Prop} {YP : World → Heap → Prop} {d : DefRec} {K : Params → PySem.W.Frag} (hn : l.most = some 63) (hdf : d.params.defaults = [])
    (hY : ∀ (w : World) (h : Heap), YP w h → (K w.params).In h)
    (F : ∀ (w : World) (mg : Str → Option Value) (fa : Addr) (h : Heap), (K w.params).In h → h.Ns mainGlobals mg → mg d.name = some (.ref fa) →
      ∃ fd : FuncData, (∀ (s : Shared) (u : Value), BindsTo s fd ⟨[u], []⟩ [("_law_script", u)]) ∧ ∀ base : Heap, (K w.params).In base → base.Ns mainGlobals mg → FnOk l.prog w (K w.params) mg base CX0 84 fa fd ["_law_script"] (spLaw (K w.params))) :
    PySem.W.WalkO q loose XP YP l.row.toRowW d [] (fun f vs => PySem.call f vs) :=
  L2.walk_of (n := 63) (k := 84) (x := "_law_script") (CX := fun _ => CX0) (sp := fun w => spLaw (K w.params)) hn (by decide) hdf ⟨rfl, by decide, by decide⟩ hY F (fun _ _ a ns hl _ hS => ⟨a, ns, rfl, hS, hl, fun _ => rfl⟩) fun _ _ _ _ _ z => z
end OW
end
set_option linter.all false
set_option maxRecDepth 100000
set_option maxHeartbeats 8000000
open PySem PySem.W PyProof.Rows
set_option maxRecDepth 100000 in
set_option maxHeartbeats 0 in
theorem PySem.Challenge.cw_ownwake_k52_great_systems_holds : PySem.Challenge.rw_ownwake_k52_great_systems.Holds := by
  w_on; o_law; k_head; (case hw => w_witness2)
  k_fill
  refine OW.walk (l := PySem.Challenge.rw_ownwake_k52_great_systems) rfl rfl (fun w h Y => PySem.W.kIn_of Y) ?F
  case F =>
    intro w mg fa h KX G hmg
    refine' OW.all_mk KX G hmg ?a1 ?l1 ?c1 ?k1 ?a2 ?l2 ?c2 ?k2 ?a3 ?l3 ?c3 ?k3 ?a4 ?l4 ?c4 ?k4 ?a5 ?l5 ?c5 ?k5 ?a6 ?l6 ?c6 ?k6 ?a7 ?l7 ?c7 ?k7 ?a8 ?l8 ?c8 ?k8 ?a9 ?l9 ?c9 ?k9 ?a10 ?l10 ?c10 ?k10 ?a11 ?l11 ?c11 ?k11 ?a12 ?l12 ?c12 ?k12 ?a13 ?l13 ?c13 ?k13 ?a14 ?l14 ?c14 ?k14 ?a15 ?l15 ?c15 ?k15 ?a16 ?l16 ?c16 ?k16 ?a17 ?l17 ?c17 ?k17 ?a18 ?l18 ?c18 ?k18 ?a19 ?l19 ?c19 ?k19 ?a20 ?l20 ?c20 ?k20 ?a21 ?l21 ?c21 ?k21 ?a22 ?l22 ?c22 ?k22 ?a23 ?l23 ?c23 ?k23 ?a24 ?l24 ?c24 ?k24 ?a25 ?l25 ?c25 ?k25 ?a26 ?l26 ?c26 ?k26 ?a27 ?l27 ?c27 ?k27 ?a28 ?l28 ?c28 ?k28 ?a29 ?l29 ?c29 ?k29 ?a30 ?l30 ?c30 ?k30 ?a31 ?l31 ?c31 ?k31 ?a32 ?l32 ?c32 ?k32 ?a33 ?l33 ?c33 ?k33 ?a34 ?l34 ?c34 ?k34 ?z_isinstance ?z_tuple ?z_any ?z_all ?z_bool ?z_int ?z_str ?z_sorted ?z_range ?z_len ?z_dict ?z_list ?z_set ?z_sum ?z_zip ?az ?lz ?q1 ?q2 ?q3 ?q4 ?q5 ?q6 ?q7 ?q8
    (case a1 => k_is)
    (case l1 => k_is)
    (case c1 => k_is)
    (case k1 => k_is)
    (case a2 => k_is)
    (case l2 => k_is)
    (case c2 => k_is)
    (case k2 => k_is)
    (case a3 => k_is)
    (case l3 => k_is)
    (case c3 => k_is)
    (case k3 => k_is)
    (case a4 => k_is)
    (case l4 => k_is)
    (case c4 => k_is)
    (case k4 => k_is)
    (case a5 => k_is)
    (case l5 => k_is)
    (case c5 => k_is)
    (case k5 => k_is)
    (case a6 => k_is)
    (case l6 => k_is)
    (case c6 => k_is)
    (case k6 => k_is)
    (case a7 => k_is)
    (case l7 => k_is)
    (case c7 => k_is)
    (case k7 => k_is)
    (case a8 => k_is)
    (case l8 => k_is)
    (case c8 => k_is)
    (case k8 => k_is)
    (case a9 => k_is)
    (case l9 => k_is)
    (case c9 => k_is)
    (case k9 => k_is)
    (case a10 => k_is)
    (case l10 => k_is)
    (case c10 => k_is)
    (case k10 => k_is)
    (case a11 => k_is)
    (case l11 => k_is)
    (case c11 => k_is)
    (case k11 => k_is)
    (case a12 => k_is)
    (case l12 => k_is)
    (case c12 => k_is)
    (case k12 => k_is)
    (case a13 => k_is)
    (case l13 => k_is)
    (case c13 => k_is)
    (case k13 => k_is)
    (case a14 => k_is)
    (case l14 => k_is)
    (case c14 => k_is)
    (case k14 => k_is)
    (case a15 => k_is)
    (case l15 => k_is)
    (case c15 => k_is)
    (case k15 => k_is)
    (case a16 => k_is)
    (case l16 => k_is)
    (case c16 => k_is)
    (case k16 => k_is)
    (case a17 => k_is)
    (case l17 => k_is)
    (case c17 => k_is)
    (case k17 => k_is)
    (case a18 => k_is)
    (case l18 => k_is)
    (case c18 => k_is)
    (case k18 => k_is)
    (case a19 => k_is)
    (case l19 => k_is)
    (case c19 => k_is)
    (case k19 => k_is)
    (case a20 => k_is)
    (case l20 => k_is)
    (case c20 => k_is)
    (case k20 => k_is)
    (case a21 => k_is)
    (case l21 => k_is)
    (case c21 => k_is)
    (case k21 => k_is)
    (case a22 => k_is)
    (case l22 => k_is)
    (case c22 => k_is)
    (case k22 => k_is)
    (case a23 => k_is)
    (case l23 => k_is)
    (case c23 => k_is)
    (case k23 => k_is)
    (case a24 => k_is)
    (case l24 => k_is)
    (case c24 => k_is)
    (case k24 => k_is)
    (case a25 => k_is)
    (case l25 => k_is)
    (case c25 => k_is)
    (case k25 => k_is)
    (case a26 => k_is)
    (case l26 => k_is)
    (case c26 => k_is)
    (case k26 => k_is)
    (case a27 => k_is)
    (case l27 => k_is)
    (case c27 => k_is)
    (case k27 => k_is)
    (case a28 => k_is)
    (case l28 => k_is)
    (case c28 => k_is)
    (case k28 => k_is)
    (case a29 => k_is)
    (case l29 => k_is)
    (case c29 => k_is)
    (case k29 => k_is)
    (case a30 => k_is)
    (case l30 => k_is)
    (case c30 => k_is)
    (case k30 => k_is)
    (case a31 => k_is)
    (case l31 => k_is)
    (case c31 => k_is)
    (case k31 => k_is)
    (case a32 => k_is)
    (case l32 => k_is)
    (case c32 => k_is)
    (case k32 => k_is)
    (case a33 => k_is)
    (case l33 => k_is)
    (case c33 => k_is)
    (case k33 => k_is)
    (case a34 => k_is)
    (case l34 => k_is)
    (case c34 => k_is)
    (case k34 => k_is)
    (case z_isinstance => k_is)
    (case z_tuple => k_is)
    (case z_any => k_is)
    (case z_all => k_is)
    (case z_bool => k_is)
    (case z_int => k_is)
    (case z_str => k_is)
    (case z_sorted => k_is)
    (case z_range => k_is)
    (case z_len => k_is)
    (case z_dict => k_is)
    (case z_list => k_is)
    (case z_set => k_is)
    (case z_sum => k_is)
    (case z_zip => k_is)
    (case az => k_is)
    (case lz => k_is)
    (case q1 => k_is)
    (case q2 => k_is)
    (case q3 => k_is)
    (case q4 => k_is)
    (case q5 => k_is)
    (case q6 => k_is)
    (case q7 => k_is)
    (case q8 => k_is)
