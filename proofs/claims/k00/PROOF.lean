import PyProof.Rows.All
import Wide.All
import OpenK.AllK
import Wide.FinOn
import HandS.ForMost
import HandS.ForExc
import HandS.StrMore
import HandS.IsInst
import HandS.TupAny
import HandS.Flow
import HandS.Conv
import HandS.Deep
import HandS.Zip
import HandS.Style
import HandS.HeadWalk
import KE.GoesNew
import KE.GoesEnum
import PySem.Challenge.RW_baremarks_k00_classes_lines
set_option Elab.async false
set_option linter.all false
set_option maxRecDepth 100000
set_option maxHeartbeats 2000000
set_option autoImplicit false
/-! Bm, part A: plain values, the store, and how they stand for the layer's values and heap. -/
namespace Bm
open PySem PySem.Spec PyProof.Rows L2

/-- a value: tuples by what they hold; lists, objects by their place in the store -/
inductive PV where
  | non | bl (b : Bool) | int (i : Int) | str (s : List Nat) | tup (l : List PV) | loc (n : Nat)
  deriving Inhabited
/-- what stands in the store -/
inductive MO where
  | lst (xs : List PV)
  | frz (xs : List PV)
  | obj (c : Nat) (fs : List (Str × PV))
abbrev Store := List MO
abbrev Ls := List (Option PV)
/-- an exception: its class (its number in the program's table), its fields -/
structure Exn where
  cls : Nat
  fs : List (Str × PV)

/-- not to be taken for a step by unfolding -/
theorem nd {α : Type} {a b : α} (h : a = b) : a = b := by
  subst h
  exact (Eq.refl a).symm.symm
inductive Out (α : Type) where
  | ok (a : α) (S : Store)
  | exn (x : Exn) (S : Store)
  | bad
def Out.bind {α β : Type} : Out α → (α → Store → Out β) → Out β
  | .ok a S, k => k a S
  | .exn x S, _ => .exn x S
  | .bad, _ => .bad
@[simp] theorem Out.bind_ok {α β : Type} (a : α) (S : Store) (k : α → Store → Out β) : (Out.ok a S).bind k = k a S := nd rfl
@[simp] theorem Out.bind_exn {α β : Type} (x : Exn) (S : Store) (k : α → Store → Out β) : (Out.exn x S : Out α).bind k = .exn x S := nd rfl
@[simp] theorem Out.bind_bad {α β : Type} (k : α → Store → Out β) : (Out.bad : Out α).bind k = .bad := nd rfl

/-- the written part's names of classes -/
structure Env1 where
  K : PySem.W.Frag
  /-- where the class number n stands -/
  cls : Nat → Addr

/-- a text as the model has them: code points, not too long -/
structure SOk (s : List Nat) : Prop where
  cp : ∀ c ∈ s, c < 1114112
  len : s.length ≤ sizeLine
abbrev mkS (s : List Nat) : Str := ⟨s.toArray⟩
theorem SOk.sub {s t : List Nat} (h : SOk s) (i : ∀ c ∈ t, c ∈ s) (l : t.length ≤ s.length) : SOk t := ⟨fun c hc => h.cp c (i c hc), Nat.le_trans l h.len⟩

section
variable (G : Env1) (m : List Addr) (H : Hp)
mutual
def VR : PV → V → Prop
  | .non, v => v = .non
  | .bl b, v => v = .bl b
  | .int i, v => v = .int i
  | .str s, v => v = .str (mkS s) ∧ SOk s
  | .tup l, v => ∃ a vs, v = .ref a ∧ SqT G.K H a vs ∧ VRs l vs
  | .loc n, v => ∃ a, v = .ref a ∧ m[n]? = some a
def VRs : List PV → List V → Prop
  | [], vs => vs = []
  | p :: ps, vs => ∃ v r, vs = v :: r ∧ VR p v ∧ VRs ps r
end
def FR : List (Str × PV) → List (Str × V) → Prop
  | [], vs => vs = []
  | p :: ps, vs => ∃ v r, vs = (p.1, v) :: r ∧ VR G m H p.2 v ∧ FR ps r
def MR : MO → Addr → Prop
  | .lst xs, a => ∃ vs, H a = some (.lst vs) ∧ VRs G m H xs vs
  | .frz xs, a => ∃ vs o, H a = some (.frz o (.lst vs)) ∧ VRs G m H xs vs
  | .obj c fs, a => ∃ dx fv, H a = some (.ins (G.cls c) dx fv) ∧ FR G m H fs fv
structure Rep (S : Store) : Prop where
  len : m.length = S.length
  nd : m.Nodup
  ok : ∀ (i : Nat) (o : MO) (a : Addr), S[i]? = some o → m[i]? = some a → MR G m H o a
/-- the slots -/
structure LR (ls : Ls) (σ : L2.St) : Prop where
  len : ls.length = σ.length
  ok : ∀ (i : Nat) (p : PV), ls[i]? = some (some p) → ∃ v, σ[i]? = some (some v) ∧ VR G m H p v
end

/-- what may have happened: more places, all that is not in the store as it was -/
structure Ext (G : Env1) (m : List Addr) (H : Hp) (m' : List Addr) (H' : Hp) : Prop where
  more : ∃ t, m' = m ++ t
  keep : ∀ a o, a ∉ m → H a = some o → H' a = some o
  new : ∀ a ∈ m', a ∉ m → H a = none
  tups : ∀ a vs, SqT G.K H a vs → SqT G.K H' a vs

section
variable {G : Env1} {m m' m'' : List Addr} {H H' H'' : Hp} {S S' : Store}
theorem Ext.refl : Ext G m H m H := ⟨⟨[], by simp⟩, fun _ _ _ h => h, fun _ h n => absurd h n, fun _ _ h => h⟩
theorem Ext.get (e : Ext G m H m' H') {n : Nat} {a : Addr} (h : m[n]? = some a) : m'[n]? = some a := by
  obtain ⟨t, rfl⟩ := e.more
  rw [List.getElem?_append_left (List.getElem?_eq_some_iff.mp h).1]
  exact h
theorem Ext.trans (a : Ext G m H m' H') (b : Ext G m' H' m'' H'') : Ext G m H m'' H'' := by
  refine ⟨?_, fun x o hx h => ?_, fun x hx n => ?_, fun x vs h => b.tups _ _ (a.tups _ _ h)⟩
  · obtain ⟨t, rfl⟩ := a.more
    obtain ⟨u, rfl⟩ := b.more
    exact ⟨t ++ u, by simp⟩
  · refine b.keep x o (fun hm => ?_) (a.keep x o hx h)
    have := a.new x hm hx
    rw [h] at this; cases this
  · by_cases hm : x ∈ m'
    · exact a.new x hm n
    · have h0 := b.new x hx hm
      cases q : H x with
      | none => rfl
      | some o => rw [a.keep x o n q] at h0; cases h0
mutual
theorem VR.mono (e : Ext G m H m' H') : ∀ {p : PV} {v : V}, VR G m H p v → VR G m' H' p v
  | .non, _, h => h
  | .bl _, _, h => h
  | .int _, _, h => h
  | .str _, _, h => h
  | .loc n, _, h => by
    obtain ⟨a, h1, h2⟩ := h
    exact ⟨a, h1, e.get h2⟩
  | .tup l, _, h => by
    obtain ⟨a, vs, h1, h2, h3⟩ := h
    exact ⟨a, vs, h1, e.tups _ _ h2, VRs.mono e h3⟩
theorem VRs.mono (e : Ext G m H m' H') : ∀ {p : List PV} {v : List V}, VRs G m H p v → VRs G m' H' p v
  | [], _, h => h
  | p :: ps, _, h => by
    obtain ⟨v, r, h1, h2, h3⟩ := h
    exact ⟨v, r, h1, VR.mono e h2, VRs.mono e h3⟩
end
theorem FR.mono (e : Ext G m H m' H') : ∀ {p : List (Str × PV)} {v : List (Str × V)}, FR G m H p v → FR G m' H' p v
  | [], _, h => h
  | p :: ps, _, h => by
    obtain ⟨v, r, h1, h2, h3⟩ := h
    exact ⟨v, r, h1, VR.mono e h2, FR.mono e h3⟩
theorem LR.mono (e : Ext G m H m' H') {ls : Ls} {σ : L2.St} (h : LR G m H ls σ) : LR G m' H' ls σ :=
  ⟨h.len, fun i p hp => let ⟨v, h1, h2⟩ := h.ok i p hp; ⟨v, h1, h2.mono e⟩⟩
theorem LR.set {ls : Ls} {σ : L2.St} (h : LR G m H ls σ) {p : PV} {v : V} (r : VR G m H p v) (i : Nat) : LR G m H (ls.set i (some p)) (σ.set i (some v)) := by
  refine ⟨by simp [h.len], fun j q hq => ?_⟩
  by_cases hj : i = j
  · subst hj
    have hl : i < ls.length := by
      have := (List.getElem?_eq_some_iff.mp hq).1
      simpa using this
    rw [List.getElem?_set_self hl] at hq
    cases hq
    exact ⟨v, by rw [List.getElem?_set_self (by rw [← h.len]; exact hl)], r⟩
  · rw [List.getElem?_set_ne hj] at hq
    obtain ⟨w, h1, h2⟩ := h.ok j q hq
    exact ⟨w, by rw [List.getElem?_set_ne hj]; exact h1, h2⟩
theorem LR.unset {ls : Ls} {σ : L2.St} (h : LR G m H ls σ) (i : Nat) (x : Option V) : LR G m H (ls.set i none) (σ.set i x) := by
  refine ⟨by simp [h.len], fun j q hq => ?_⟩
  by_cases hj : i = j
  · subst hj
    have hl : i < ls.length := by
      have := (List.getElem?_eq_some_iff.mp hq).1
      simpa using this
    rw [List.getElem?_set_self hl] at hq
    cases hq
  · rw [List.getElem?_set_ne hj] at hq
    obtain ⟨w, h1, h2⟩ := h.ok j q hq
    exact ⟨w, by rw [List.getElem?_set_ne hj]; exact h1, h2⟩
theorem VRs.length : ∀ {p : List PV} {v : List V}, VRs G m H p v → p.length = v.length
  | [], _, h => by cases h; rfl
  | p :: ps, _, h => by
    obtain ⟨v, r, rfl, _, h3⟩ := h
    simp [VRs.length h3]
theorem VRs.get : ∀ {p : List PV} {v : List V} {i : Nat} {q : PV}, VRs G m H p v → p[i]? = some q → ∃ u, v[i]? = some u ∧ VR G m H q u
  | [], _, _, _, _, e => by simp at e
  | p :: ps, _, 0, q, h, e => by
    obtain ⟨v, r, rfl, h2, _⟩ := h
    simp at e; subst e
    exact ⟨v, rfl, h2⟩
  | p :: ps, _, i + 1, q, h, e => by
    obtain ⟨v, r, rfl, _, h3⟩ := h
    obtain ⟨u, h4, h5⟩ := VRs.get (i := i) h3 (by simpa using e)
    exact ⟨u, by simpa using h4, h5⟩
theorem VRs.append : ∀ {p q : List PV} {v u : List V}, VRs G m H p v → VRs G m H q u → VRs G m H (p ++ q) (v ++ u)
  | [], _, _, _, h, h' => by cases h; exact h'
  | p :: ps, _, _, _, h, h' => by
    obtain ⟨v, r, rfl, h2, h3⟩ := h
    exact ⟨v, _, rfl, h2, VRs.append h3 h'⟩
theorem VRs.one {p : PV} {v : V} (h : VR G m H p v) : VRs G m H [p] [v] := ⟨v, [], rfl, h, rfl⟩
theorem VRs.take : ∀ {p : List PV} {v : List V} (n : Nat), VRs G m H p v → VRs G m H (p.take n) (v.take n)
  | _, _, 0, _ => rfl
  | [], _, n + 1, h => by cases h; rfl
  | p :: ps, _, n + 1, h => by
    obtain ⟨v, r, rfl, h2, h3⟩ := h
    exact ⟨v, _, rfl, h2, VRs.take n h3⟩
theorem VRs.drop : ∀ {p : List PV} {v : List V} (n : Nat), VRs G m H p v → VRs G m H (p.drop n) (v.drop n)
  | _, _, 0, h => h
  | [], _, n + 1, h => by cases h; rfl
  | p :: ps, _, n + 1, h => by
    obtain ⟨v, r, rfl, h2, h3⟩ := h
    exact VRs.drop n h3
theorem VRs.set {q : PV} {u : V} (r0 : VR G m H q u) : ∀ {p : List PV} {v : List V} (i : Nat), VRs G m H p v → VRs G m H (p.set i q) (v.set i u)
  | [], _, _, h => by cases h; rfl
  | p :: ps, _, 0, h => by
    obtain ⟨v, r, rfl, h2, h3⟩ := h
    exact ⟨u, r, rfl, r0, h3⟩
  | p :: ps, _, i + 1, h => by
    obtain ⟨v, r, rfl, h2, h3⟩ := h
    exact ⟨v, _, rfl, h2, VRs.set r0 i h3⟩
theorem VRs.reverse : ∀ {p : List PV} {v : List V}, VRs G m H p v → VRs G m H p.reverse v.reverse
  | [], _, h => by cases h; rfl
  | p :: ps, _, h => by
    obtain ⟨v, r, rfl, h2, h3⟩ := h
    rw [List.reverse_cons, List.reverse_cons]
    exact VRs.append (VRs.reverse h3) (VRs.one h2)
theorem VRs.dropLast {p : List PV} {v : List V} (h : VRs G m H p v) : VRs G m H p.dropLast v.dropLast := by
  rw [List.dropLast_eq_take, List.dropLast_eq_take, h.length]
  exact h.take _
theorem VRs.eraseIdx : ∀ {p : List PV} {v : List V} (i : Nat), VRs G m H p v → VRs G m H (p.eraseIdx i) (v.eraseIdx i)
  | [], _, _, h => by cases h; rfl
  | p :: ps, _, 0, h => by
    obtain ⟨v, r, rfl, h2, h3⟩ := h
    exact h3
  | p :: ps, _, i + 1, h => by
    obtain ⟨v, r, rfl, h2, h3⟩ := h
    exact ⟨v, _, rfl, h2, VRs.eraseIdx i h3⟩
theorem VRs.replicate {q : PV} {u : V} (r0 : VR G m H q u) : ∀ n : Nat, VRs G m H (List.replicate n q) (List.replicate n u)
  | 0 => rfl
  | n + 1 => ⟨u, _, rfl, r0, VRs.replicate r0 n⟩
theorem VRs.flat {p : List PV} {v : List V} (h : VRs G m H p v) : ∀ n : Nat, VRs G m H (List.replicate n p).flatten (List.replicate n v).flatten
  | 0 => rfl
  | n + 1 => by
    rw [List.replicate_succ, List.replicate_succ, List.flatten_cons, List.flatten_cons]
    exact h.append (VRs.flat h n)
theorem VRs.strs : ∀ {l : List (List Nat)} {v : List V}, VRs G m H (l.map PV.str) v → v = (l.map mkS).map V.str ∧ ∀ s ∈ l, SOk s
  | [], _, h => by cases h; exact ⟨rfl, by simp⟩
  | s :: r, _, h => by
    obtain ⟨v, u, rfl, h2, h3⟩ := h
    obtain ⟨h4, h5⟩ := VRs.strs h3
    refine ⟨by rw [List.map_cons, List.map_cons, ← h4, h2.1], fun t ht => ?_⟩
    rcases List.mem_cons.mp ht with rfl | ht
    · exact h2.2
    · exact h5 t ht
theorem VRs.ints : ∀ {l : List Int} {v : List V}, VRs G m H (l.map PV.int) v → v = l.map V.int
  | [], _, h => by cases h; rfl
  | s :: r, _, h => by
    obtain ⟨v, u, rfl, h2, h3⟩ := h
    rw [List.map_cons, ← VRs.ints h3, h2]
theorem VRs.of_strs : ∀ {l : List (List Nat)}, (∀ s ∈ l, SOk s) → VRs G m H (l.map PV.str) ((l.map mkS).map V.str)
  | [], _ => rfl
  | s :: r, h => ⟨_, _, rfl, ⟨rfl, h s List.mem_cons_self⟩, VRs.of_strs fun t ht => h t (List.mem_cons_of_mem _ ht)⟩
theorem VRs.of_ints : ∀ {l : List Int}, VRs G m H (l.map PV.int) (l.map V.int)
  | [] => rfl
  | s :: r => ⟨_, _, rfl, rfl, VRs.of_ints⟩

/-! ### the three ways in which the heap changes -/
theorem MR.mono (e : Ext G m H m' H') {o : MO} {a : Addr} (ha : ∀ u, H a = some u → H' a = some u) (h : MR G m H o a) : MR G m' H' o a := by
  cases o with
  | lst xs =>
    obtain ⟨vs, h1, h2⟩ := h
    exact ⟨vs, ha _ h1, h2.mono e⟩
  | frz xs =>
    obtain ⟨vs, o, h1, h2⟩ := h
    exact ⟨vs, o, ha _ h1, h2.mono e⟩
  | obj c fs =>
    obtain ⟨dx, fv, h1, h2⟩ := h
    exact ⟨dx, fv, ha _ h1, h2.mono e⟩
theorem MR.there {o : MO} {a : Addr} (h : MR G m H o a) : ∃ u, H a = some u := by
  cases o with
  | lst xs => obtain ⟨vs, h1, h2⟩ := h; exact ⟨_, h1⟩
  | frz xs => obtain ⟨vs, o, h1, h2⟩ := h; exact ⟨_, h1⟩
  | obj c fs => obtain ⟨dx, fv, h1, h2⟩ := h; exact ⟨_, h1⟩
theorem Rep.there (R : Rep G m H S) {a : Addr} (h : a ∈ m) : ∃ u, H a = some u := by
  obtain ⟨i, hi⟩ := List.mem_iff_getElem?.mp h
  have hl : i < S.length := by rw [← R.len]; exact (List.getElem?_eq_some_iff.mp hi).1
  exact (R.ok i S[i] a (List.getElem?_eq_getElem hl) hi).there
theorem Rep.fresh (R : Rep G m H S) {p : Addr} (h : H p = none) : p ∉ m := fun hm => by
  obtain ⟨u, e⟩ := R.there hm
  rw [h] at e; cases e
theorem SqT.upd {K : PySem.W.Frag} {p : Addr} {o : HO} {a : Addr} {vs : List V} (hp : ∀ ws, ¬ Rd H p (.tup ws)) (h : SqT K H a vs) : SqT K (upd H p o) a vs := by
  rcases h with h | h
  · refine .inl ?_
    have ne : a ≠ p := fun e => by subst e; exact hp _ h
    rcases h with h | ⟨z, h⟩
    · exact .inl (by rw [upd_ne ne]; exact h)
    · exact .inr ⟨z, by rw [upd_ne ne]; exact h⟩
  · exact .inr h
theorem noRd {p : Addr} (h : H p = none) : ∀ ws, ¬ Rd H p (.tup ws) := fun ws r => by
  rcases r with r | ⟨z, r⟩ <;> (rw [h] at r; cases r)
/-- a thing beside the store -/
theorem ext_side {p : Addr} {o : HO} (h : H p = none) : Ext G m H m (upd H p o) :=
  ⟨⟨[], by simp⟩, fun a u _ e => by rw [upd_ne (ne_of_none e h)]; exact e, fun _ a n => absurd a n, fun _ _ => SqT.upd (noRd h)⟩
theorem Rep.side (R : Rep G m H S) {p : Addr} {o : HO} (h : H p = none) : Rep G m (upd H p o) S :=
  ⟨R.len, R.nd, fun i x a h1 h2 => (R.ok i x a h1 h2).mono (ext_side h) fun u e => by rw [upd_ne (ne_of_none e h)]; exact e⟩
/-- a new place of the store -/
theorem ext_new {p : Addr} {o : HO} (h : H p = none) : Ext G m H (m ++ [p]) (upd H p o) :=
  ⟨⟨[p], rfl⟩, fun a u _ e => by rw [upd_ne (ne_of_none e h)]; exact e, fun a ha n => by
    rcases List.mem_append.mp ha with q | q
    · exact absurd q n
    · rw [List.mem_singleton.mp q]; exact h, fun _ _ => SqT.upd (noRd h)⟩
theorem Rep.new (R : Rep G m H S) {p : Addr} {o : HO} {x : MO} (h : H p = none) (r : MR G (m ++ [p]) (upd H p o) x p) : Rep G (m ++ [p]) (upd H p o) (S ++ [x]) := by
  refine ⟨by simp [R.len], ?_, fun i y a h1 h2 => ?_⟩
  · refine List.nodup_append.mpr ⟨R.nd, by simp, fun a ha b hb e => ?_⟩
    rw [List.mem_singleton.mp hb] at e
    subst e
    exact R.fresh h ha
  · by_cases hi : i < m.length
    · rw [List.getElem?_append_left (by rw [← R.len]; exact hi)] at h1
      rw [List.getElem?_append_left hi] at h2
      exact (R.ok i y a h1 h2).mono (ext_new h) fun u e => by rw [upd_ne (ne_of_none e h)]; exact e
    · have hi' : i = m.length := by
        have := (List.getElem?_eq_some_iff.mp h2).1
        simp at this; omega
      subst hi'
      rw [List.getElem?_append_right (Nat.le_refl _)] at h2
      rw [R.len, List.getElem?_append_right (Nat.le_refl _)] at h1
      simp at h1 h2
      subst h1; subst h2
      exact r
theorem new_loc {p : Addr} (R : Rep G m H S) : (m ++ [p])[S.length]? = some p := by
  rw [← R.len, List.getElem?_append_right (Nat.le_refl _)]; simp
/-- a place of the store is written -/
theorem ext_set (R : Rep G m H S) {a : Addr} {o u : HO} (hm : a ∈ m) (h : H a = some u) (hu : ∀ ws, ¬ Rd H a (.tup ws)) : Ext G m H m (upd H a o) :=
  ⟨⟨[], by simp⟩, fun b v hb e => by rw [upd_ne (show b ≠ a from fun z => hb (by rw [z]; exact hm))]; exact e, fun _ a n => absurd a n, fun _ _ => SqT.upd hu⟩
theorem Rep.set (R : Rep G m H S) {a : Addr} {i : Nat} {o u : HO} {x : MO} (hm : m[i]? = some a) (h : H a = some u) (hu : ∀ ws, ¬ Rd H a (.tup ws)) (r : MR G m (upd H a o) x a) : Rep G m (upd H a o) (S.set i x) := by
  refine ⟨by simp [R.len], R.nd, fun j y b h1 h2 => ?_⟩
  by_cases hj : i = j
  · subst hj
    have hl : i < S.length := by rw [← R.len]; exact (List.getElem?_eq_some_iff.mp hm).1
    rw [List.getElem?_set_self hl] at h1
    cases h1
    rw [hm] at h2; cases h2
    exact r
  · rw [List.getElem?_set_ne hj] at h1
    have ne : b ≠ a := fun z => by
      subst z
      have h3 : m[i]? = m[j]? := by rw [hm, h2]
      exact hj ((List.getElem?_inj (List.getElem?_eq_some_iff.mp hm).1 R.nd).mp h3)
    exact (R.ok j y b h1 h2).mono (ext_set R (List.mem_of_getElem? hm) h hu) fun v e => by rw [upd_ne ne]; exact e
theorem lst_noRd {a : Addr} {vs : List V} (h : H a = some (.lst vs)) : ∀ ws, ¬ Rd H a (.tup ws) := fun ws r => by
  rcases r with r | ⟨z, r⟩ <;> (rw [h] at r; cases r)
theorem ins_noRd {a C dx : Addr} {fs : List (Str × V)} (h : H a = some (.ins C dx fs)) : ∀ ws, ¬ Rd H a (.tup ws) := fun ws r => by
  rcases r with r | ⟨z, r⟩ <;> (rw [h] at r; cases r)
/-- what stands at a place of the store -/
theorem Rep.at (R : Rep G m H S) {i : Nat} {o : MO} {a : Addr} (h : S[i]? = some o) (hm : m[i]? = some a) : MR G m H o a := R.ok i o a h hm
theorem Rep.has (R : Rep G m H S) {i : Nat} {o : MO} (h : S[i]? = some o) : ∃ a, m[i]? = some a := by
  have hl : i < m.length := by rw [R.len]; exact (List.getElem?_eq_some_iff.mp h).1
  exact ⟨m[i], List.getElem?_eq_getElem hl⟩
end

/-! ### what is wanted of an outcome -/
def XR (G : Env1) (m : List Addr) (H : Hp) (x : Exn) (cls : Value) (d : Option Addr) : Prop :=
  cls = .ref (G.cls x.cls) ∧ ∃ dd fs, d = some dd ∧ H dd = some (.xd fs) ∧ FR G m H x.fs fs
def Fin (G : Env1) (m : List Addr) (H : Hp) {α β : Type} (r : List Addr → Hp → α → β → Prop) (Q : β → Hp → Prop) (E : XK) : Out α → Prop
  | .ok p S' => ∀ m' H' v, Ext G m H m' H' → Rep G m' H' S' → r m' H' p v → Q v H'
  | .exn x S' => ∀ m' H' cls d, Ext G m H m' H' → Rep G m' H' S' → XR G m' H' x cls d → E cls d H'
  | .bad => False
section
variable {G : Env1} {m m' : List Addr} {H H' : Hp} {S S' : Store} {α β γ δ : Type} {r : List Addr → Hp → α → β → Prop} {r2 : List Addr → Hp → γ → δ → Prop} {Q : β → Hp → Prop} {Q2 : δ → Hp → Prop} {E : XK}
theorem Fin.mono (e : Ext G m H m' H') {o : Out α} (h : Fin G m H r Q E o) : Fin G m' H' r Q E o := by
  cases o with
  | ok p S' => exact fun m2 H2 v e2 => h m2 H2 v (e.trans e2)
  | exn x S' => exact fun m2 H2 c d e2 => h m2 H2 c d (e.trans e2)
  | bad => exact h
theorem Fin.bind {o : Out α} {k : α → Store → Out γ} (h : Fin G m H r2 Q2 E (o.bind k))
    (hk : ∀ p S1 m1 H1 v, Ext G m H m1 H1 → Rep G m1 H1 S1 → r m1 H1 p v → Fin G m1 H1 r2 Q2 E (k p S1) → Q v H1) : Fin G m H r Q E o := by
  cases o with
  | ok p S1 => exact fun m1 H1 v e R q => hk p S1 m1 H1 v e R q (Fin.mono e h)
  | exn x S1 => exact h
  | bad => exact h
theorem Fin.here {p : α} {v : β} (h : Fin G m H r Q E (.ok p S)) (R : Rep G m H S) (q : r m H p v) : Q v H := h m H v .refl R q
theorem Fin.elim {P : Prop} (h : Fin G m H r Q E (.bad : Out α)) : P := False.elim h
theorem Fin.imp {o : Out α} {Q' : β → Hp → Prop} (h : Fin G m H r Q E o) (hq : ∀ v H', Q v H' → Q' v H') : Fin G m H r Q' E o := by
  cases o with
  | ok p S1 => exact fun m1 H1 v e R q => hq v H1 (h m1 H1 v e R q)
  | exn x S1 => exact h
  | bad => exact h
end
/-- an expression that gives what c says -/
def EvT (G : Env1) (W : WX) (c : Ls → Store → Out PV) : TE := fun σ H Q => ∃ m ls S, Rep G m H S ∧ LR G m H ls σ ∧ Fin G m H (VR G) Q (fun cls d H' => W cls d σ H') (c ls S)
def EvA (G : Env1) (W : WX) (c : Ls → Store → Out (List PV)) : TA := fun σ H Q => ∃ m ls S, Rep G m H S ∧ LR G m H ls σ ∧ Fin G m H (VRs G) Q (fun cls d H' => W cls d σ H') (c ls S)
def BR : List Addr → Hp → Bool → Bool → Prop := fun _ _ a b => a = b
def EvB (G : Env1) (W : WX) (c : Ls → Store → Out Bool) : TT := fun σ H Q => ∃ m ls S, Rep G m H S ∧ LR G m H ls σ ∧ Fin G m H BR Q (fun cls d H' => W cls d σ H') (c ls S)
theorem PEimp {X : Cx} {e : Expr} {t t' : TE} (h : PE X e t) (i : ∀ σ H Q, t' σ H Q → t σ H Q) : PE X e t' := ⟨fun pins s σ H Q I q => h.run pins s σ H Q I (i σ H Q q)⟩
theorem PTimp {X : Cx} {e : Expr} {t t' : TT} (h : PT X e t) (i : ∀ σ H Q, t' σ H Q → t σ H Q) : PT X e t' := ⟨fun pins s σ H Q I q => h.run pins s σ H Q I (i σ H Q q)⟩
theorem PWimp {X : Cx} {e : Expr} {t t' : TT} (h : PW X e t) (i : ∀ σ H Q, t' σ H Q → t σ H Q) : PW X e t' := ⟨fun w pins s σ H Q I q => h.run w pins s σ H Q I (i σ H Q q)⟩
theorem PAimp {X : Cx} {e : List Expr} {t t' : TA} (h : PA X e t) (i : ∀ σ H Q, t' σ H Q → t σ H Q) : PA X e t' := ⟨fun p pins s σ H Q I q => h.run p pins s σ H Q I (i σ H Q q)⟩
theorem PSimp {X : Cx} {e : Stmt} {t t' : TS} (h : PS X e t) (i : ∀ D σ H, t' D σ H → t D σ H) : PS X e t' := ⟨fun pins s σ H D I q => h.run pins s σ H D I (i D σ H q)⟩
theorem PSsimp {X : Cx} {e : List Stmt} {t t' : TS} (h : PSs X e t) (i : ∀ D σ H, t' D σ H → t D σ H) : PSs X e t' := ⟨fun pins s σ H D I q => h.run pins s σ H D I (i D σ H q)⟩
end Bm

/-! Bm, part B: operators by plain values. -/
namespace Bm
open PySem PySem.Spec PyProof.Rows L2

/-! ### new things -/
section
variable {G : Env1} {m : List Addr} {H : Hp} {S : Store} {Q : VK} {E : XK}
theorem fin_tup {l : List PV} {vs : List V} (F : Fin G m H (VR G) Q E (.ok (.tup l) S)) (R : Rep G m H S) (r : VRs G m H l vs) : ∀ p, H p = none → Q (.ref p) (upd H p (.tup vs)) := fun p hp =>
  F m _ _ (ext_side hp) (R.side hp) ⟨p, vs, rfl, SqT.of upd_same, r.mono (ext_side hp)⟩
theorem fin_new {l : List PV} {vs : List V} (F : Fin G m H (VR G) Q E (.ok (.loc S.length) (S ++ [.lst l]))) (R : Rep G m H S) (r : VRs G m H l vs) : ∀ p, H p = none → Q (.ref p) (upd H p (.lst vs)) := fun p hp =>
  F (m ++ [p]) _ _ (ext_new hp) (R.new hp ⟨vs, upd_same, r.mono (ext_new hp)⟩) ⟨p, rfl, new_loc R⟩
theorem fin_set {α : Type} {β : Type} {rr : List Addr → Hp → α → β → Prop} {QQ : β → Hp → Prop} {x : α} {y : β} {l : List PV} {vs ws : List V} {i : Nat} {a : Addr} (F : Fin G m H rr QQ E (.ok x (S.set i (.lst l)))) (R : Rep G m H S) (hm : m[i]? = some a)
    (h : H a = some (.lst ws)) (r : VRs G m H l vs) (hx : rr m (upd H a (.lst vs)) x y) : QQ y (upd H a (.lst vs)) :=
  have e := ext_set (o := .lst vs) R (List.mem_of_getElem? hm) h (lst_noRd h)
  F m _ _ e (R.set hm h (lst_noRd h) ⟨vs, upd_same, r.mono e⟩) hx
/-- a list of the store, to be read -/
theorem Rep.seq (R : Rep G m H S) {i : Nat} {xs : List PV} {a : Addr} (h : S[i]? = some (.lst xs) ∨ S[i]? = some (.frz xs)) (hm : m[i]? = some a) : ∃ vs, SqL G.K H a vs ∧ VRs G m H xs vs := by
  rcases h with h | h
  · obtain ⟨vs, h1, h2⟩ := R.at h hm
    exact ⟨vs, SqL.of h1, h2⟩
  · obtain ⟨vs, o, h1, h2⟩ := R.at h hm
    exact ⟨vs, .inl (.inr ⟨o, h1⟩), h2⟩
end
/-- the list at a place, locked or not -/
def lstAt (S : Store) (i : Nat) : Option (List PV) :=
  match S[i]? with
  | some (.lst xs) => some xs
  | some (.frz xs) => some xs
  | _ => none
theorem lstAt_is {S : Store} {i : Nat} {xs : List PV} (h : lstAt S i = some xs) : S[i]? = some (.lst xs) ∨ S[i]? = some (.frz xs) := by
  unfold lstAt at h
  split at h
  · rename_i q; cases h; exact .inl q
  · rename_i q; cases h; exact .inr q
  · cases h
theorem lstAt_lst {S : Store} {i : Nat} {xs : List PV} (h : S[i]? = some (.lst xs)) : lstAt S i = some xs := by
  unfold lstAt; rw [h]
theorem lstAt_frz {S : Store} {i : Nat} {xs : List PV} (h : S[i]? = some (.frz xs)) : lstAt S i = some xs := by
  unfold lstAt; rw [h]

/-! ### two-place operators -/
abbrev Op2 := PV → PV → Store → Out PV
def tO2 (G : Env1) (g : Op2) : R2 := fun x y H Q => ∃ m S p q E, Rep G m H S ∧ VR G m H p x ∧ VR G m H q y ∧ Fin G m H (VR G) Q E (g p q S)
abbrev OpS (X : Cx) (G : Env1) (f : Value → Value → Sem Value) (g : Op2) : Prop := OpR X f (tO2 G g)
theorem OpRimp {X : Cx} {f : Value → Value → Sem Value} {r r' : R2} (h : OpR X f r) (i : ∀ x y H Q, r' x y H Q → r x y H Q) : OpR X f r' := fun pins s σ H x y v u Q I rx ry q => h pins s σ H x y v u Q I rx ry (i x y H Q q)

def bAdd : Op2
  | .int i, .int j, S => .ok (.int (i + j)) S
  | .str s, .str t, S => if s.length + t.length ≤ sizeLine then .ok (.str (s ++ t)) S else .bad
  | .tup a, .tup b, S => if a.length + b.length ≤ sizeLine then .ok (.tup (a ++ b)) S else .bad
  | .loc a, .loc b, S => match S[a]?, S[b]? with
    | some (.lst xs), some (.lst ys) => if xs.length + ys.length ≤ sizeLine then .ok (.loc S.length) (S ++ [.lst (xs ++ ys)]) else .bad
    | _, _ => .bad
  | .int i, .bl k, S => .ok (.int (i + if k then 1 else 0)) S
  | _, _, _ => .bad
def bSub : Op2
  | .int i, .int j, S => .ok (.int (i - j)) S
  | _, _, _ => .bad
def bMul : Op2
  | .int i, .int j, S => if (-(2 ^ 64) < i ∧ i < 2 ^ 64) ∨ (-(2 ^ 64) < j ∧ j < 2 ^ 64) then .ok (.int (i * j)) S else .bad
  | .str s, .int j, S => if -(2 ^ 63) ≤ j ∧ j < 2 ^ 63 ∧ s.length * j.toNat ≤ sizeLine then .ok (.str (List.replicate j.toNat s).flatten) S else .bad
  | .loc a, .int j, S => match S[a]? with
    | some (.lst xs) => if -(2 ^ 63) ≤ j ∧ j < 2 ^ 63 ∧ xs.length * j.toNat ≤ sizeLine then .ok (.loc S.length) (S ++ [.lst (List.replicate j.toNat xs).flatten]) else .bad
    | _ => .bad
  | _, _, _ => .bad
def bDiv : Op2
  | .int i, .int j, S => if 0 < j ∧ j < 1073741824 then .ok (.int (i / j)) S else .bad
  | _, _, _ => .bad
def bMod : Op2
  | .int i, .int j, S => if 0 < j then .ok (.int (i % j)) S else .bad
  | _, _, _ => .bad
def bPow : Op2
  | .int i, .int j, S => if 0 ≤ j ∧ j ≤ 1000000 ∧ i.natAbs < 2 ^ 64 then .ok (.int (i ^ j.toNat)) S else .bad
  | _, _, _ => .bad
def bShl : Op2
  | .int i, .int j, S => if 0 ≤ j ∧ j ≤ 1000000 ∧ i.natAbs < 2 ^ 64 then .ok (.int (i * 2 ^ j.toNat)) S else .bad
  | _, _, _ => .bad
def bShr : Op2
  | .int i, .int j, S => if 0 ≤ j then .ok (.int (i / 2 ^ j.toNat)) S else .bad
  | _, _, _ => .bad

theorem str_cast (s : List Nat) : (⟨s.toArray⟩ : Str).length = s.length := by simp [Str.length]
theorem str_app (s t : List Nat) : (⟨s.toArray⟩ : Str) ++ (⟨t.toArray⟩ : Str) = ⟨(s ++ t).toArray⟩ := by
  show Str.append _ _ = _
  simp [Str.append]
section
variable {X : Cx} {G : Env1}
theorem bx {f : Value → Value → Sem Value} {r : R2} {pins : List (Addr × Obj)} {s : Shared} {σ : L2.St} {H : Hp} {x y : V} {v u : Value} {Q : VK} (h : OpR X f r) (I : Inv X pins σ H s) (rx : RelV x v) (ry : RelV y u) (q : r x y H Q) :
    wpAny (model X.prog X.w) X.A (f v u) (EP X pins σ Q) X.xe s := h pins s σ H x y v u Q I rx ry q
theorem rep_flat : ∀ (n : Nat) (x acc : Array Nat), (List.replicate n x).foldl (· ++ ·) acc = acc ++ (List.replicate n x.toList).flatten.toArray
  | 0, x, acc => by simp
  | n + 1, x, acc => by
    obtain ⟨l⟩ := x
    rw [List.replicate_succ, List.foldl_cons, rep_flat n, List.replicate_succ, List.flatten_cons]
    simp [Array.append_assoc]
theorem op_mul_str : OpR X (binaryOp .Mult) (fun x y H Q => ∃ (s : List Nat) (j : Int), x = .str (mkS s) ∧ y = .int j ∧ -(2 ^ 63) ≤ j ∧ j < 2 ^ 63 ∧ s.length * j.toNat ≤ sizeLine ∧ Q (.str (mkS (List.replicate j.toNat s).flatten)) H) := by
  intro pins s σ H x y v u Q I rx ry h
  obtain ⟨z, j, rfl, rfl, h1, h2, h3, q⟩ := h
  obtain ⟨t, rfl⟩ := rx
  obtain ⟨t', rfl⟩ := ry
  have hl : (⟨z.toArray⟩ : Str).length = z.length := str_cast z
  refine PySem.P.mul_str (by rw [decide_eq_false (by omega), decide_eq_false (by omega)]; rfl) (fun a b => ?_) (fun a b => ?_) ?_
  · rw [hl] at b ⊢
    have hs := sizeLine_eq
    have hj : 0 < j := by omega
    have hz : z.length ≠ 0 := fun e => by
      rw [Bool.or_eq_false_iff] at b
      exact absurd b.2 (by rw [e]; decide)
    have h5 : (z.length : Int) * j ≤ 16777216 := by
      have h6 : ((z.length * j.toNat : Nat) : Int) ≤ 16777216 := by rw [hs] at h3; exact Int.ofNat_le.mpr h3
      rw [Int.natCast_mul, Int.toNat_of_nonneg (Int.le_of_lt hj)] at h6
      exact h6
    have h7 : (z.length : Int) ≤ (2 ^ 63 - 1) / j := by
      rw [Int.le_ediv_iff_mul_le hj]
      exact Int.le_trans h5 (by decide)
    omega
  · rw [hl]
    have hs := sizeLine_eq
    show decide (z.length * j.toNat > sizeLine) = false
    exact decide_eq_false (by omega)
  · by_cases a : j < 1
    · rw [if_pos a]
      have e0 : j.toNat = 0 := by omega
      rw [e0] at q
      exact ⟨by decide, ⟨.str _, H, I.tok _, ⟨_, rfl⟩, q⟩⟩
    · rw [if_neg a]
      by_cases b : (j == 1 || (⟨z.toArray⟩ : Str).length == 0) = true
      · rw [if_pos b]
        have e0 : (List.replicate j.toNat z).flatten = z := by
          rw [Bool.or_eq_true] at b
          rcases b with b | b
          · have : j = 1 := by simpa using b
            subst this
            simp
          · have : z = [] := by rw [hl] at b; simpa using b
            subst this
            simp
        rw [e0] at q
        exact ⟨.str _, H, I, ⟨_, rfl⟩, q⟩
      · rw [if_neg b]
        have e0 : (List.replicate j.toNat z.toArray).foldl (· ++ ·) #[] = (List.replicate j.toNat z).flatten.toArray := by
          rw [rep_flat]; simp
        refine ⟨?_, ⟨.str _, H, I.tok _, ⟨_, rfl⟩, by rw [e0]; exact q⟩⟩
        have hs := sizeLine_eq
        have e1 : (⟨(List.replicate j.toNat z.toArray).foldl (· ++ ·) #[]⟩ : Str).length = z.length * j.toNat := by
          rw [e0, str_cast, List.length_flatten]
          simp [Nat.mul_comm]
        first
          | (rw [e1]; exact h3)
          | (show Str.length _ ≤ sizeLine; rw [e1]; exact h3)

theorem os_add (hK : X.K = G.K) : OpS X G (binaryOp .Add) bAdd := by
  intro pins s σ H x y v u Q I rx ry ⟨m, S, p, q, E, R, hp, hq, F⟩
  cases p <;> cases q <;> first | exact F.elim | skip
  · rename_i i k
    obtain rfl : x = .int i := hp
    obtain rfl : y = .bl k := hq
    exact bx op_add_ib I rx ry ⟨i, k, rfl, rfl, by
      have h := F.here R rfl
      cases k <;> exact h⟩
  · rename_i i j
    obtain rfl : x = .int i := hp
    obtain rfl : y = .int j := hq
    exact bx op_add I rx ry ⟨i, j, rfl, rfl, F.here R rfl⟩
  · rename_i a b
    obtain ⟨rfl, ka⟩ := hp
    obtain ⟨rfl, kb⟩ := hq
    simp only [bAdd] at F
    split at F
    · rename_i hl
      refine bx op_add_str I rx ry ⟨_, _, rfl, rfl, by rw [str_cast, str_cast]; exact hl, ?_⟩
      rw [str_app]
      exact F.here R ⟨rfl, ⟨fun c hc => (List.mem_append.mp hc).elim (ka.cp c) (kb.cp c), by rw [List.length_append]; exact hl⟩⟩
    · exact F.elim
  · rename_i a b
    obtain ⟨a1, vs, rfl, h1, h2⟩ := hp
    obtain ⟨a2, ws, rfl, h3, h4⟩ := hq
    simp only [bAdd] at F
    split at F
    · rename_i hl
      refine bx op_catA I rx ry ⟨a1, a2, vs, ws, rfl, rfl, by rw [hK]; exact h1, by rw [hK]; exact h3, by rw [← h2.length, ← h4.length]; exact hl, fun e => ?_, fun _ e => ?_, fun _ _ => ?_⟩
      · subst e
        have ea : a = [] := List.eq_nil_of_length_eq_zero h2.length
        subst ea
        exact F.here R ⟨a2, ws, rfl, h3, h4⟩
      · subst e
        have eb : b = [] := List.eq_nil_of_length_eq_zero h4.length
        subst eb
        rw [List.append_nil] at F
        exact F.here R ⟨a1, vs, rfl, h1, h2⟩
      · exact fin_tup F R (h2.append h4)
    · exact F.elim
  · rename_i a b
    obtain ⟨a1, rfl, h1⟩ := hp
    obtain ⟨a2, rfl, h2⟩ := hq
    simp only [bAdd] at F
    split at F
    · rename_i xs ys e1 e2
      split at F
      · rename_i hl
        obtain ⟨vs, g1, g2⟩ := R.at e1 h1
        obtain ⟨ws, g3, g4⟩ := R.at e2 h2
        exact bx op_cat I rx ry ⟨a1, a2, vs, ws, rfl, rfl, g1, g3, by rw [← g2.length, ← g4.length]; exact hl, fin_new F R (g2.append g4)⟩
      · exact F.elim
    · exact F.elim
theorem os_int {op : Operator} {g : Op2} {C : Int → Int → Prop} [∀ i j, Decidable (C i j)] {h : Int → Int → Int} (ho : OpR X (binaryOp op) (rI C fun i j => .int (h i j)))
    (hg : ∀ i j S, g (.int i) (.int j) S = if C i j then .ok (.int (h i j)) S else .bad) (hn : ∀ p q S, (∀ i j, ¬ (p = .int i ∧ q = .int j)) → g p q S = .bad) : OpS X G (binaryOp op) g := by
  intro pins s σ H x y v u Q I rx ry ⟨m, S, p, q, E, R, hp, hq, F⟩
  by_cases hb : ∃ i j, p = .int i ∧ q = .int j
  · obtain ⟨i, j, rfl, rfl⟩ := hb
    obtain rfl : x = .int i := hp
    obtain rfl : y = .int j := hq
    rw [hg] at F
    split at F
    · rename_i hc
      exact bx ho I rx ry ⟨i, j, rfl, rfl, hc, F.here R rfl⟩
    · exact F.elim
  · rw [hn p q S fun i j e => hb ⟨i, j, e⟩] at F
    exact F.elim
theorem os_sub : OpS X G (binaryOp .Sub) bSub := by
  intro pins s σ H x y v u Q I rx ry ⟨m, S, p, q, E, R, hp, hq, F⟩
  cases p <;> cases q <;> first | exact F.elim | skip
  rename_i i j
  obtain rfl : x = .int i := hp
  obtain rfl : y = .int j := hq
  exact bx op_sub I rx ry ⟨i, j, rfl, rfl, F.here R rfl⟩
theorem os_mul : OpS X G (binaryOp .Mult) bMul := by
  intro pins s σ H x y v u Q I rx ry ⟨m, S, p, q, E, R, hp, hq, F⟩
  cases p <;> cases q <;> first | exact F.elim | skip
  · rename_i i j
    obtain rfl : x = .int i := hp
    obtain rfl : y = .int j := hq
    simp only [bMul] at F
    split at F
    · rename_i hc
      exact bx op_mul I rx ry ⟨i, j, rfl, rfl, hc, F.here R rfl⟩
    · exact F.elim
  · rename_i z j
    obtain ⟨rfl, kz⟩ := hp
    obtain rfl : y = .int j := hq
    simp only [bMul] at F
    split at F
    · rename_i hc
      refine bx op_mul_str I rx ry ⟨z, j, rfl, rfl, hc.1, hc.2.1, hc.2.2, F.here R ⟨rfl, ⟨fun c h => ?_, ?_⟩⟩⟩
      · obtain ⟨l, h1, h2⟩ := List.mem_flatten.mp h
        rw [List.eq_of_mem_replicate h1] at h2
        exact kz.cp c h2
      · rw [List.length_flatten]
        simpa [Nat.mul_comm] using hc.2.2
    · exact F.elim
  · rename_i a j
    obtain ⟨a1, rfl, h1⟩ := hp
    obtain rfl : y = .int j := hq
    simp only [bMul] at F
    split at F
    · rename_i xs e1
      split at F
      · rename_i hc
        obtain ⟨vs, g1, g2⟩ := R.at e1 h1
        exact bx op_rep I rx ry ⟨a1, j, vs, rfl, rfl, g1, hc.1, hc.2.1, by rw [← g2.length]; exact hc.2.2, fin_new F R (g2.flat _)⟩
      · exact F.elim
    · exact F.elim
theorem os_div : OpS X G (binaryOp .FloorDiv) bDiv := os_int (C := fun _ j => 0 < j ∧ j < 1073741824) op_fdiv (fun _ _ _ => rfl) fun p q S h => by
  cases p <;> cases q <;> first | rfl | exact absurd ⟨rfl, rfl⟩ (h _ _)
theorem os_mod : OpS X G (binaryOp .Mod) bMod := os_int (C := fun _ j => 0 < j) op_mod (fun _ _ _ => rfl) fun p q S h => by
  cases p <;> cases q <;> first | rfl | exact absurd ⟨rfl, rfl⟩ (h _ _)
theorem os_pow : OpS X G (binaryOp .Pow) bPow := os_int (C := fun i j => 0 ≤ j ∧ j ≤ 1000000 ∧ i.natAbs < 2 ^ 64) op_pow (fun _ _ _ => rfl) fun p q S h => by
  cases p <;> cases q <;> first | rfl | exact absurd ⟨rfl, rfl⟩ (h _ _)
theorem os_shl : OpS X G (binaryOp .LShift) bShl := os_int (C := fun i j => 0 ≤ j ∧ j ≤ 1000000 ∧ i.natAbs < 2 ^ 64) op_shl (fun _ _ _ => rfl) fun p q S h => by
  cases p <;> cases q <;> first | rfl | exact absurd ⟨rfl, rfl⟩ (h _ _)
theorem os_shr : OpS X G (binaryOp .RShift) bShr := os_int (C := fun _ j => 0 ≤ j) op_shr (fun _ _ _ => rfl) fun p q S h => by
  cases p <;> cases q <;> first | rfl | exact absurd ⟨rfl, rfl⟩ (h _ _)
end
end Bm

/-! Bm, part C: comparisons, truth. -/
namespace Bm
open PySem PySem.Spec PyProof.Rows L2

/-! ### equality -/
mutual
/-- == of values without lists and objects -/
def pvEq : PV → PV → Bool
  | .non, .non => true
  | .bl a, .bl b => a == b
  | .bl a, .int j => (if a then 1 else 0) == j
  | .int i, .bl b => i == (if b then 1 else 0)
  | .int i, .int j => i == j
  | .str s, .str t => s == t
  | .tup a, .tup b => pvEqs a b
  | _, _ => false
def pvEqs : List PV → List PV → Bool
  | [], [] => true
  | p :: ps, q :: qs => pvEq p q && pvEqs ps qs
  | _, _ => false
end
/-- without lists and objects, not deeper than n -/
def pd : Nat → PV → Bool
  | _, .non => true
  | _, .bl _ => true
  | _, .int _ => true
  | _, .str _ => true
  | 0, .tup _ => false
  | n + 1, .tup l => l.all (pd n)
  | _, .loc _ => false
def mapO {α β : Type} (f : α → Option β) : List α → Option (List β)
  | [] => some []
  | a :: r => match f a, mapO f r with
    | some b, some bs => some (b :: bs)
    | _, _ => none
/-- as data of the model -/
def toD : Nat → Store → PV → Option PyData
  | _, _, .non => some .none
  | _, _, .bl b => some (.bool b)
  | _, _, .int i => some (.int i)
  | _, _, .str s => some (.str (mkS s))
  | n + 1, S, .tup l => (mapO (toD n S) l).map .tuple
  | n + 1, S, .loc a => match lstAt S a with
    | some xs => (mapO (toD n S) xs).map .list
    | none => none
  | 0, _, _ => none

section
variable {G : Env1} {m : List Addr} {H : Hp} {S : Store}
theorem toD_all {f : PV → Option PyData} {n : Nat} (hf : ∀ p v d, f p = some d → VR G m H p v → Dp G.K H v d ∧ d.canLay0 = true ∧ d.depth ≤ n) :
    ∀ (l : List PV) (vs : List V) (ds : List PyData), mapO f l = some ds → VRs G m H l vs → DpAll G.K H vs ds ∧ PyData.canLayAll0 ds = true ∧ PyData.depthAll ds ≤ n
  | [], vs, ds, h, r => by
    cases r; cases h
    exact ⟨.nil, rfl, Nat.zero_le _⟩
  | p :: ps, vs, ds, h, r => by
    obtain ⟨v, u, rfl, h2, h3⟩ := r
    unfold mapO at h
    split at h
    · rename_i b bs e1 e2
      cases h
      obtain ⟨a1, a2, a3⟩ := hf p v b e1 h2
      obtain ⟨b1, b2, b3⟩ := toD_all hf ps u bs e2 h3
      exact ⟨.cons a1 b1, by rw [PyData.canLayAll0, a2, b2]; rfl, Nat.max_le.mpr ⟨a3, b3⟩⟩
    · cases h
theorem sok_ok {s : List Nat} (h : SOk s) : PyData.strOk (mkS s) = true := by
  unfold PyData.strOk
  rw [Array.all_eq_true']
  intro c hc
  have := h.cp c (by simpa using hc)
  simpa using this
theorem toD_ok (R : Rep G m H S) : ∀ (n : Nat) (p : PV) (v : V) (d : PyData), toD n S p = some d → VR G m H p v → Dp G.K H v d ∧ d.canLay0 = true ∧ d.depth ≤ n
  | n, .non, v, d, h, r => by
    have h' : some PyData.none = some d := by cases n <;> exact h
    cases h'; cases (show v = .non from r)
    exact ⟨.non, rfl, Nat.zero_le _⟩
  | n, .bl b, v, d, h, r => by
    have h' : some (PyData.bool b) = some d := by cases n <;> exact h
    cases h'; cases (show v = .bl b from r)
    exact ⟨.bl b, rfl, Nat.zero_le _⟩
  | n, .int b, v, d, h, r => by
    have h' : some (PyData.int b) = some d := by cases n <;> exact h
    cases h'; cases (show v = .int b from r)
    exact ⟨.int b, rfl, Nat.zero_le _⟩
  | n, .str b, v, d, h, r => by
    have h' : some (PyData.str (mkS b)) = some d := by cases n <;> exact h
    obtain ⟨rfl, k⟩ := r
    cases h'
    exact ⟨.str _, sok_ok k, Nat.zero_le _⟩
  | 0, .tup l, v, d, h, r => by cases h
  | 0, .loc a, v, d, h, r => by cases h
  | n + 1, .tup l, v, d, h, r => by
    obtain ⟨a, vs, rfl, h1, h2⟩ := r
    rw [toD] at h
    cases e : mapO (toD n S) l with
    | none => rw [e] at h; cases h
    | some ds =>
      rw [e] at h; cases h
      obtain ⟨b1, b2, b3⟩ := toD_all (fun p v d => toD_ok R n p v d) l vs ds e h2
      exact ⟨.tup h1 b1, b2, Nat.succ_le_succ b3⟩
  | n + 1, .loc i, v, d, h, r => by
    obtain ⟨a, rfl, hm⟩ := r
    rw [toD] at h
    split at h
    · rename_i xs e0
      obtain ⟨vs, h1, h2⟩ := R.seq (lstAt_is e0) hm
      cases e : mapO (toD n S) xs with
      | none => rw [e] at h; cases h
      | some ds =>
        rw [e] at h; cases h
        obtain ⟨b1, b2, b3⟩ := toD_all (fun p v d => toD_ok R n p v d) xs vs ds e h2
        exact ⟨.lst h1 b1, b2, Nat.succ_le_succ b3⟩
    · cases h
theorem str_beq (s t : List Nat) : (mkS s == mkS t) = (s == t) := by
  rw [Bool.eq_iff_iff]
  simp [mkS]
end
theorem pd_all {n : Nat} {S : Store} (hf : ∀ p, pd n p = true → ∃ d, toD n S p = some d ∧ d.depth ≤ n) : ∀ l : List PV, l.all (pd n) = true → ∃ ds, mapO (toD n S) l = some ds
  | [], _ => ⟨[], rfl⟩
  | p :: ps, h => by
    rw [List.all_cons, Bool.and_eq_true] at h
    obtain ⟨d, e, _⟩ := hf p h.1
    obtain ⟨ds, e2⟩ := pd_all hf ps h.2
    exact ⟨d :: ds, by rw [mapO, e, e2]⟩
theorem pd_toD {S : Store} : ∀ (n : Nat) (p : PV), pd n p = true → ∃ d, toD n S p = some d
  | n, .non, _ => ⟨.none, by cases n <;> rfl⟩
  | n, .bl b, _ => ⟨.bool b, by cases n <;> rfl⟩
  | n, .int i, _ => ⟨.int i, by cases n <;> rfl⟩
  | n, .str s, _ => ⟨.str (mkS s), by cases n <;> rfl⟩
  | n, .loc _, h => by cases n <;> cases h
  | 0, .tup _, h => by cases h
  | n + 1, .tup l, h => by
    have key : ∀ l : List PV, l.all (pd n) = true → ∃ ds, mapO (toD n S) l = some ds := by
      intro l
      induction l with
      | nil => exact fun _ => ⟨[], rfl⟩
      | cons p ps ih =>
        intro h
        rw [List.all_cons, Bool.and_eq_true] at h
        obtain ⟨d, e⟩ := pd_toD (S := S) n p h.1
        obtain ⟨ds, e2⟩ := ih h.2
        exact ⟨d :: ds, by rw [mapO, e, e2]⟩
    obtain ⟨ds, e⟩ := key l h
    exact ⟨.tuple ds, by rw [toD, e]; rfl⟩
theorem eqv_pv {S : Store} : ∀ (n : Nat) (p q : PV) (d e : PyData), pd n p = true → pd n q = true → toD n S p = some d → toD n S q = some e → PyData.eqv d e = pvEq p q := by
  intro n
  induction n with
  | zero =>
    intro p q d e hp hq h1 h2
    cases p <;> cases q <;> first | (cases hp; done) | (cases hq; done) | (cases h1; cases h2; first | rfl | (simp only [PyData.eqv, pvEq]; done) | (simp only [PyData.eqv, pvEq, str_beq]; done))
  | succ n ih =>
    have key : ∀ (l k : List PV) (ds es : List PyData), l.all (pd n) = true → k.all (pd n) = true → mapO (toD n S) l = some ds → mapO (toD n S) k = some es → PyData.eqvAll ds es = pvEqs l k := by
      intro l
      induction l with
      | nil =>
        intro k ds es _ hk h1 h2
        cases h1
        cases k with
        | nil => cases h2; rfl
        | cons q qs =>
          unfold mapO at h2
          split at h2
          · cases h2; rfl
          · cases h2
      | cons p ps ihl =>
        intro k ds es hl hk h1 h2
        rw [List.all_cons, Bool.and_eq_true] at hl
        unfold mapO at h1
        split at h1
        · rename_i b bs e1 e2
          cases h1
          cases k with
          | nil => cases h2; rfl
          | cons q qs =>
            rw [List.all_cons, Bool.and_eq_true] at hk
            unfold mapO at h2
            split at h2
            · rename_i c cs e3 e4
              cases h2
              rw [PyData.eqvAll, pvEqs, ih p q b c hl.1 hk.1 e1 e3, ihl qs bs cs hl.2 hk.2 e2 e4]
            · cases h2
        · cases h1
    intro p q d e hp hq h1 h2
    cases p <;> cases q <;> first | (cases hp; done) | (cases hq; done) | skip
    case tup.tup l k =>
      have hp' : l.all (pd n) = true := hp
      have hq' : k.all (pd n) = true := hq
      rw [toD] at h1 h2
      cases e1 : mapO (toD n S) l with
      | none => rw [e1] at h1; cases h1
      | some ds =>
        cases e2 : mapO (toD n S) k with
        | none => rw [e2] at h2; cases h2
        | some es =>
          rw [e1] at h1; rw [e2] at h2
          cases h1; cases h2
          rw [PyData.eqv, pvEq]
          exact key l k ds es hp' hq' e1 e2
    all_goals (simp only [toD] at h1 h2)
    all_goals first
      | (cases h1; cases h2; first | rfl | (simp only [PyData.eqv, pvEq]; done) | (simp only [PyData.eqv, pvEq, str_beq]; done))
      | (rw [Option.map_eq_some_iff] at h1; obtain ⟨_, _, rfl⟩ := h1; cases h2; rfl)
      | (rw [Option.map_eq_some_iff] at h2; obtain ⟨_, _, rfl⟩ := h2; cases h1; rfl)

def bEq0 (f : Bool → Bool) : Op2 := fun p q S =>
  if pd 200 p && pd 200 q then .ok (.bl (f (pvEq p q))) S
  else match toD 200 S p, toD 200 S q with
    | some d, some e => .ok (.bl (f (PyData.eqv d e))) S
    | _, _ => .bad
abbrev bEq : Op2 := bEq0 fun b => b
abbrev bNe : Op2 := bEq0 fun b => !b
theorem bEq0_toD {f : Bool → Bool} {p q : PV} {S : Store} : bEq0 f p q S = match toD 200 S p, toD 200 S q with
    | some d, some e => .ok (.bl (f (PyData.eqv d e))) S
    | _, _ => .bad := by
  unfold bEq0
  split
  · rename_i h
    rw [Bool.and_eq_true] at h
    obtain ⟨d, hd⟩ := pd_toD (S := S) 200 p h.1
    obtain ⟨e, he⟩ := pd_toD (S := S) 200 q h.2
    rw [hd, he]
    simp only []
    rw [eqv_pv 200 p q d e h.1 h.2 hd he]
  · rfl
section
variable {X : Cx} {G : Env1}
theorem os_eq (hK : X.K = G.K) (hu : X.A.units + 200 < cLine) : OpS X G (compareOp .Eq) bEq := by
  intro pins s σ H x y v u Q I rx ry ⟨m, S, p, q, E, R, hp, hq, F⟩
  unfold bEq at F
  rw [bEq0_toD] at F
  split at F
  · rename_i d e h1 h2
    obtain ⟨a1, a2, a3⟩ := toD_ok R _ p x d h1 hp
    obtain ⟨b1, b2, b3⟩ := toD_ok R _ q y e h2 hq
    obtain ⟨as, r1⟩ := Dp.reads I d x v (by rw [hK]; exact a1) rx
    obtain ⟨bs, r2⟩ := Dp.reads I e y u (by rw [hK]; exact b1) ry
    refine SeqAt.compareEq_reads r1 r2 a2 b2 ?_ ⟨.bl _, H, I, rfl, F.here R rfl⟩
    have := Nat.min_le_left d.depth e.depth
    omega
  · exact F.elim
theorem os_ne (hK : X.K = G.K) (hu : X.A.units + 200 < cLine) : OpS X G (compareOp .NotEq) bNe := by
  intro pins s σ H x y v u Q I rx ry ⟨m, S, p, q, E, R, hp, hq, F⟩
  unfold bNe at F
  rw [bEq0_toD] at F
  split at F
  · rename_i d e h1 h2
    obtain ⟨a1, a2, a3⟩ := toD_ok R _ p x d h1 hp
    obtain ⟨b1, b2, b3⟩ := toD_ok R _ q y e h2 hq
    obtain ⟨as, r1⟩ := Dp.reads I d x v (by rw [hK]; exact a1) rx
    obtain ⟨bs, r2⟩ := Dp.reads I e y u (by rw [hK]; exact b1) ry
    refine SeqAt.compareNe_reads r1 r2 a2 b2 ?_ ⟨.bl _, H, I, rfl, F.here R rfl⟩
    have := Nat.min_le_left d.depth e.depth
    omega
  · exact F.elim

/-! ### order -/
def bCmp (fi : Int → Int → Bool) (fs : List Nat → List Nat → Bool) : Op2
  | .int i, .int j, S => .ok (.bl (fi i j)) S
  | .str s, .str t, S => .ok (.bl (fs s t)) S
  | _, _, _ => .bad
abbrev bLt : Op2 := bCmp (fun i j => decide (i < j)) fun s t => decide (s < t)
abbrev bLe : Op2 := bCmp (fun i j => decide (i ≤ j)) fun s t => !decide (t < s)
abbrev bGt : Op2 := bCmp (fun i j => decide (j < i)) fun s t => decide (t < s)
abbrev bGe : Op2 := bCmp (fun i j => decide (j ≤ i)) fun s t => !decide (s < t)
theorem os_cmp {op : CmpOp} {fi : Int → Int → Bool} {fs : List Nat → List Nat → Bool} (h1 : OpR X (compareOp op) (rI0 fun i j => .bl (fi i j)))
    (h2 : OpR X (compareOp op) (fun x y H Q => ∃ i j, x = .str i ∧ y = .str j ∧ Q (.bl (fs i.cps.toList j.cps.toList)) H)) : OpS X G (compareOp op) (bCmp fi fs) := by
  intro pins s σ H x y v u Q I rx ry ⟨m, S, p, q, E, R, hp, hq, F⟩
  cases p <;> cases q <;> first | exact F.elim | skip
  · rename_i i j
    obtain rfl : x = .int i := hp
    obtain rfl : y = .int j := hq
    exact bx h1 I rx ry ⟨i, j, rfl, rfl, F.here R rfl⟩
  · rename_i i j
    obtain ⟨rfl, ka⟩ := hp
    obtain ⟨rfl, kb⟩ := hq
    exact bx h2 I rx ry ⟨mkS i, mkS j, rfl, rfl, by
      show Q (.bl (fs (mkS i).cps.toList (mkS j).cps.toList)) H
      exact F.here R rfl⟩
theorem os_lt : OpS X G (compareOp .Lt) bLt := os_cmp op_lt op_lt_str
theorem os_le : OpS X G (compareOp .LtE) bLe := os_cmp op_le op_le_str
theorem os_gt : OpS X G (compareOp .Gt) bGt := os_cmp op_gt op_gt_str
theorem os_ge : OpS X G (compareOp .GtE) bGe := os_cmp op_ge op_ge_str

/-! ### is -/
def bIs0 (f : Bool → Bool) : Op2
  | .non, .non, S => .ok (.bl (f true)) S
  | .bl _, .non, S => .ok (.bl (f false)) S
  | .int _, .non, S => .ok (.bl (f false)) S
  | .str _, .non, S => .ok (.bl (f false)) S
  | .tup _, .non, S => .ok (.bl (f false)) S
  | .loc _, .non, S => .ok (.bl (f false)) S
  | .bl a, .bl b, S => .ok (.bl (f (decide (a = b)))) S
  | _, _, _ => .bad
abbrev bIs : Op2 := bIs0 fun b => b
abbrev bIsNot : Op2 := bIs0 fun b => !b
theorem os_is0 {f : Bool → Bool} {op : CmpOp} (h1 : OpR X (compareOp op) (fun x y H Q => y = .non ∧ Q (.bl (f (decide (x = .non)))) H))
    (h2 : OpR X (compareOp op) (fun x y H Q => ∃ a b : Bool, x = .bl a ∧ y = .bl b ∧ Q (.bl (f (decide (a = b)))) H)) : OpS X G (compareOp op) (bIs0 f) := by
  intro pins s σ H x y v u Q I rx ry ⟨m, S, p, q, E, R, hp, hq, F⟩
  cases q with
  | non =>
    obtain rfl : y = .non := hq
    refine bx h1 I rx ry ⟨rfl, ?_⟩
    cases p with
    | non => obtain rfl : x = .non := hp; exact F.here R rfl
    | bl b => obtain rfl : x = .bl b := hp; exact F.here R rfl
    | int b => obtain rfl : x = .int b := hp; exact F.here R rfl
    | str b => obtain ⟨rfl, _⟩ := hp; exact F.here R rfl
    | tup l => obtain ⟨a, vs, rfl, _⟩ := hp; exact F.here R rfl
    | loc n => obtain ⟨a, rfl, _⟩ := hp; exact F.here R rfl
  | bl b =>
    obtain rfl : y = .bl b := hq
    cases p <;> first | exact F.elim | skip
    rename_i a
    obtain rfl : x = .bl a := hp
    exact bx h2 I rx ry ⟨a, b, rfl, rfl, F.here R rfl⟩
  | _ => cases p <;> exact F.elim
theorem os_is : OpS X G (compareOp .Is) bIs := os_is0 (f := fun b => b) op_isN op_isBl
theorem os_isnot : OpS X G (compareOp .IsNot) bIsNot := os_is0 (f := fun b => !b) op_notN op_notBl

/-! ### in -/
/-- the signs of s stand side by side in t -/
def subIn (s t : List Nat) : Bool := !(Builtin.Str.occurrences (mkS t) (mkS s) 0 (mkS t).length 1).isEmpty
def bIn0 (f : Bool → Bool) : Op2
  | .str [c], .str t, S => .ok (.bl (f (decide (c ∈ t)))) S
  | .str s, .str t, S => .ok (.bl (f (subIn s t))) S
  | p, .tup l, S => match toD 200 S p, mapO (toD 200 S) l with
    | some d, some ds => .ok (.bl (f (ds.any fun z => PyData.eqv z d))) S
    | _, _ => .bad
  | p, .loc i, S => match lstAt S i with
    | some l => match toD 200 S p, mapO (toD 200 S) l with
      | some d, some ds => .ok (.bl (f (ds.any fun z => PyData.eqv z d))) S
      | _, _ => .bad
    | none => .bad
  | _, _, _ => .bad
abbrev bIn : Op2 := bIn0 fun b => b
abbrev bNotIn : Op2 := bIn0 fun b => !b
theorem os_in0 {f : Bool → Bool} {op : CmpOp} (hK : X.K = G.K) (hu : X.A.units + 216 < cLine)
    (h1 : OpR X (compareOp op) (fun x y H Q => ∃ (c : Nat) (z : Str), x = .str ⟨#[c]⟩ ∧ y = .str z ∧ Q (.bl (f (decide (c ∈ z.cps.toList)))) H))
    (h2 : OpR X (compareOp op) (fun x y H Q => ∃ i j, x = .str i ∧ y = .str j ∧ Q (.bl (f (!(Builtin.Str.occurrences j i 0 j.length 1).isEmpty))) H))
    (h3 : ∀ {E : Value → Shared → Prop} {s : Shared} {c x : Value} {xs : List PyData} {d : PyData} {as bs : List Addr} {Q : Value → Shared → Prop}, Reads s.heap c (.list xs) as → Reads s.heap x d bs → PyData.canLayAll0 xs = true → d.canLay0 = true →
      X.A.units + 1 + min (PyData.depthAll xs) d.depth < cLine → Q (.bool (f (xs.any fun y => PyData.eqv y d))) s → wpAny (model X.prog X.w) X.A (compareOp op x c) Q E s)
    (h4 : ∀ {E : Value → Shared → Prop} {s : Shared} {c x : Value} {xs : List PyData} {d : PyData} {as bs : List Addr} {Q : Value → Shared → Prop}, Reads s.heap c (.tuple xs) as → Reads s.heap x d bs → PyData.canLayAll0 xs = true → d.canLay0 = true →
      X.A.units + 1 + min (PyData.depthAll xs) d.depth < cLine → Q (.bool (f (xs.any fun y => PyData.eqv y d))) s → wpAny (model X.prog X.w) X.A (compareOp op x c) Q E s) :
    OpS X G (compareOp op) (bIn0 f) := by
  intro pins s σ H x y v u Q I rx ry ⟨m, S, p, q, E, R, hp, hq, F⟩
  cases q with
  | str t =>
    obtain ⟨rfl, kb⟩ := hq
    cases p with
    | str z =>
      obtain ⟨rfl, ka⟩ := hp
      unfold bIn0 at F
      split at F
      · rename_i c t' heq1 heq2
        cases heq1; cases heq2
        exact bx h1 I rx ry ⟨c, mkS t, rfl, rfl, F.here R rfl⟩
      · rename_i heq1 heq2
        cases heq1; cases heq2
        exact bx h2 I rx ry ⟨mkS z, mkS t, rfl, rfl, F.here R rfl⟩
      · rename_i heq1; cases heq1
      · rename_i heq1; cases heq1
      · exact F.elim
    | _ => exact F.elim
  | tup l =>
    have F' : Fin G m H (VR G) Q E (match toD 200 S p, mapO (toD 200 S) l with
      | some d, some ds => .ok (.bl (f (ds.any fun z => PyData.eqv z d))) S
      | _, _ => .bad) := by cases p <;> first | exact F | (rename_i z; cases z with | nil => exact F | cons c r => cases r <;> exact F)
    split at F'
    · rename_i d ds e1 e2
      obtain ⟨a1, a2, a3⟩ := toD_ok R _ p x d e1 hp
      obtain ⟨a, vs, rfl, g1, g2⟩ := hq
      obtain ⟨b1, b2, b3⟩ := toD_all (fun p v d => toD_ok R 200 p v d) l vs ds e2 g2
      obtain ⟨as, r1⟩ := Dp.reads I d x v (by rw [hK]; exact a1) rx
      obtain ⟨bs, r2⟩ := Dp.reads I (.tuple ds) (.ref a) u (by rw [hK]; exact .tup g1 b1) ry
      refine h4 r2 r1 b2 a2 ?_ ⟨.bl _, H, I, rfl, F'.here R rfl⟩
      have := Nat.min_le_left (PyData.depthAll ds) d.depth
      omega
    · exact F'.elim
  | loc i =>
    have F' : Fin G m H (VR G) Q E (match lstAt S i with
      | some l => (match toD 200 S p, mapO (toD 200 S) l with
        | some d, some ds => .ok (.bl (f (ds.any fun z => PyData.eqv z d))) S
        | _, _ => .bad)
      | none => .bad) := by cases p <;> first | exact F | (rename_i z; cases z with | nil => exact F | cons c r => cases r <;> exact F)
    split at F'
    · rename_i l e0
      split at F'
      · rename_i d ds e1 e2
        obtain ⟨a1, a2, a3⟩ := toD_ok R _ p x d e1 hp
        obtain ⟨a, rfl, hm⟩ := hq
        obtain ⟨vs, g1, g2⟩ := R.seq (lstAt_is e0) hm
        obtain ⟨b1, b2, b3⟩ := toD_all (fun p v d => toD_ok R 200 p v d) l vs ds e2 g2
        obtain ⟨as, r1⟩ := Dp.reads I d x v (by rw [hK]; exact a1) rx
        obtain ⟨bs, r2⟩ := Dp.reads I (.list ds) (.ref a) u (by rw [hK]; exact .lst g1 b1) ry
        refine h3 r2 r1 b2 a2 ?_ ⟨.bl _, H, I, rfl, F'.here R rfl⟩
        have := Nat.min_le_left (PyData.depthAll ds) d.depth
        omega
      · exact F'.elim
    · exact F'.elim
  | _ =>
    cases p <;> first | exact F.elim | (rename_i z; cases z with | nil => exact F.elim | cons c r => cases r <;> exact F.elim) | (rename_i z b; cases z with | nil => exact F.elim | cons c r => cases r <;> exact F.elim)
theorem os_in (hK : X.K = G.K) (hu : X.A.units + 216 < cLine) : OpS X G (compareOp .In) bIn :=
  os_in0 (f := fun b => b) hK hu op_in_sign op_in_str (fun a b c d e h => SeqAt.in_list_reads a b c d e h) fun a b c d e h => SeqAt.in_tuple_reads a b c d e h
theorem os_notin (hK : X.K = G.K) (hu : X.A.units + 216 < cLine) : OpS X G (compareOp .NotIn) bNotIn :=
  os_in0 (f := fun b => !b) hK hu op_notIn_sign op_notin_str (fun a b c d e h => SeqAt.notIn_list_reads a b c d e h) fun a b c d e h => SeqAt.notIn_tuple_reads a b c d e h
end

/-! ### truth -/
def tru : PV → Store → Option Bool
  | .non, _ => some false
  | .bl b, _ => some b
  | .int i, _ => some (i != 0)
  | .str s, _ => some (!s.isEmpty)
  | .tup l, _ => some (!l.isEmpty)
  | .loc i, S => (lstAt S i).map fun xs => !xs.isEmpty
def toB (p : PV) (S : Store) : Out Bool := match tru p S with
  | some b => .ok b S
  | none => .bad
section
variable {X : Cx} {G : Env1}
theorem tru_ok' {m : List Addr} {H : Hp} {S : Store} {p : PV} {v : V} {b : Bool} (hK : X.K = G.K) (R : Rep G m H S) (r : VR G m H p v) (h : tru p S = some b) : TruV X.K v H b := by
  cases p with
  | non => cases (show v = .non from r); cases h; rfl
  | bl b => cases (show v = .bl b from r); cases h; rfl
  | int i => cases (show v = .int i from r); cases h; rfl
  | str s =>
    obtain ⟨rfl, k⟩ := r
    cases h
    refine ⟨by rw [str_cast]; exact k.len, ?_⟩
    rw [str_cast]
    cases s with
    | nil => rfl
    | cons c s =>
      rw [Bool.eq_iff_iff]
      simp
      omega
  | tup l =>
    obtain ⟨a, vs, rfl, h1, h2⟩ := r
    cases h
    refine .inr (.inl ⟨vs, by rw [hK]; exact h1, ?_⟩)
    have e := h2.length
    cases l <;> cases vs <;> first | rfl | (simp at e)
  | loc i =>
    obtain ⟨a, rfl, hm⟩ := r
    have h' : (lstAt S i).map (fun xs => !xs.isEmpty) = some b := h
    cases e0 : lstAt S i with
    | none => rw [e0] at h'; cases h'
    | some l =>
      rw [e0] at h'; cases h'
      obtain ⟨vs, g1, g2⟩ := R.seq (lstAt_is e0) hm
      refine .inl ⟨vs, by rw [hK]; exact g1, ?_⟩
      have e := g2.length
      cases l <;> cases vs <;> first | rfl | (simp at e)
end
end Bm

/-! Bm, part D: expressions. -/
namespace Bm
open PySem PySem.Spec PyProof.Rows L2

abbrev CE := Ls → Store → Out PV
abbrev CA := Ls → Store → Out (List PV)
abbrev CB := Ls → Store → Out Bool
/-- the expression e gives what c says -/
abbrev PEv (X : Cx) (G : Env1) (W : WX) (e : Expr) (c : CE) : Prop := PE X e (EvT G W c)
abbrev PAv (X : Cx) (G : Env1) (W : WX) (e : List Expr) (c : CA) : Prop := PA X e (EvA G W c)
abbrev PTv (X : Cx) (G : Env1) (W : WX) (e : Expr) (c : CB) : Prop := PT X e (EvB G W c)
abbrev PWv (X : Cx) (G : Env1) (W : WX) (e : Expr) (c : CB) : Prop := PW X e (EvB G W c)

/-! ### outcomes, built up -/
def cVar (i : Nat) : CE := fun ls S => match ls[i]? with
  | some (some p) => .ok p S
  | _ => .bad
def cCst (p : PV) : CE := fun _ S => .ok p S
def cOp (g : Op2) (a b : CE) : CE := fun ls S => (a ls S).bind fun p S1 => (b ls S1).bind fun q S2 => g p q S2
def cChn (g h : Op2) (a b c : CE) : CE := fun ls S => (a ls S).bind fun p S1 => (b ls S1).bind fun q S2 => (g p q S2).bind fun z S3 => match z with
  | .bl true => (c ls S3).bind fun r S4 => h q r S4
  | .bl false => .ok (.bl false) S3
  | _ => .bad
def cAnd (a b : CE) : CE := fun ls S => (a ls S).bind fun p S1 => (toB p S1).bind fun k S2 => if k then b ls S2 else .ok p S2
def cOr (a b : CE) : CE := fun ls S => (a ls S).bind fun p S1 => (toB p S1).bind fun k S2 => if k then .ok p S2 else b ls S2
def cNot (a : CE) : CE := fun ls S => (a ls S).bind fun p S1 => (toB p S1).bind fun k S2 => .ok (.bl (!k)) S2
def uNeg : PV → Store → Out PV
  | .int i, S => .ok (.int (-i)) S
  | _, _ => .bad
def cNeg (a : CE) : CE := fun ls S => (a ls S).bind fun p S1 => uNeg p S1
def cIte (c : CB) (a b : CE) : CE := fun ls S => (c ls S).bind fun k S1 => if k then a ls S1 else b ls S1
def cNil : CA := fun _ S => .ok [] S
def cCons (a : CE) (r : CA) : CA := fun ls S => (a ls S).bind fun p S1 => (r ls S1).bind fun ps S2 => .ok (p :: ps) S2
def cTup (r : CA) : CE := fun ls S => (r ls S).bind fun ps S1 => if ps.length ≤ sizeLine then .ok (.tup ps) S1 else .bad
def cLst (r : CA) : CE := fun ls S => (r ls S).bind fun ps S1 => if ps.length ≤ sizeLine then .ok (.loc S1.length) (S1 ++ [.lst ps]) else .bad
def kTru (a : CE) : CB := fun ls S => (a ls S).bind toB
def kNot (a : CB) : CB := fun ls S => (a ls S).bind fun k S1 => .ok (!k) S1
def kAnd (a b : CB) : CB := fun ls S => (a ls S).bind fun k S1 => if k then b ls S1 else .ok false S1
def kOr (a b : CB) : CB := fun ls S => (a ls S).bind fun k S1 => if k then .ok true S1 else b ls S1

section
variable {X : Cx} {G : Env1} {W : WX} {a b c : Expr} {es : List Expr} {ca cb cc : CE} {cr : CA} {ka kb : CB} {pos : Pos}

/-- one part, then more -/
theorem Fin.step {m : List Addr} {H : Hp} {ls : Ls} {σ : L2.St} {α β γ δ : Type} {r : List Addr → Hp → α → β → Prop} {r2 : List Addr → Hp → γ → δ → Prop} {Q : δ → Hp → Prop} {E : XK} {o : Out α} {k : α → Store → Out γ} {R : β → Hp → Prop}
    (L : LR G m H ls σ) (h : Fin G m H r2 Q E (o.bind k)) (hk : ∀ p S1 m1 H1 v, Ext G m H m1 H1 → LR G m1 H1 ls σ → Rep G m1 H1 S1 → r m1 H1 p v → Fin G m1 H1 r2 Q E (k p S1) → R v H1) : Fin G m H r R E o :=
  h.bind fun p S1 m1 H1 v e1 R1 v1 F1 => hk p S1 m1 H1 v e1 (L.mono e1) R1 v1 F1

theorem ev_var {i : Nat} {x : Str} (hN : X.N[i]? = some x) (hv : Vis X.env.scope x) (hd : (x == ("__debug__" : Str)) = false) (hcd : (x == ("__classdict__" : Str)) = false) : PEv X G W (.Name x pos) (cVar i) := by
  refine PEimp (pe_var hN hv hd hcd) ?_
  rintro σ H Q ⟨m, ls, S, R, L, F⟩
  unfold cVar at F
  split at F
  · rename_i p hp
    obtain ⟨v, h1, h2⟩ := L.ok i p hp
    exact ⟨v, h1, F.here R h2⟩
  · exact F.elim
theorem ev_cst {e : Expr} {p : PV} {v : V} (h : PE X e (tC v)) (hp : ∀ m H, VR G m H p v) : PEv X G W e (cCst p) := by
  refine PEimp h ?_
  rintro σ H Q ⟨m, ls, S, R, L, F⟩
  exact F.here R (hp m H)
theorem ev_op {op : Operator} {g : Op2} (ho : OpS X G (binaryOp op) g) (ha : PEv X G W a ca) (hb : PEv X G W b cb) : PEv X G W (.BinOp a op b pos) (cOp g ca cb) := by
  refine PEimp (pe_op ho ha hb) ?_
  rintro σ H Q ⟨m, ls, S, R, L, F⟩
  exact ⟨m, ls, S, R, L, Fin.step L F fun p S1 m1 H1 v e1 L1 R1 v1 F1 => ⟨m1, ls, S1, R1, L1, Fin.step L1 F1 fun q S2 m2 H2 u e2 M2 R2 v2 F2 => ⟨m2, S2, p, q, _, R2, v1.mono e2, v2, F2⟩⟩⟩
theorem ev_cmp {op : CmpOp} {g : Op2} (ho : OpS X G (compareOp op) g) (ha : PEv X G W a ca) (hb : PEv X G W b cb) (hm : behindInMarks op b = false) : PEv X G W (.Compare a [op] [b] pos) (cOp g ca cb) := by
  refine PEimp (pe_cmpR ho ha hb hm) ?_
  rintro σ H Q ⟨m, ls, S, R, L, F⟩
  exact ⟨m, ls, S, R, L, Fin.step L F fun p S1 m1 H1 v e1 L1 R1 v1 F1 => ⟨m1, ls, S1, R1, L1, Fin.step L1 F1 fun q S2 m2 H2 u e2 M2 R2 v2 F2 => ⟨m2, S2, p, q, _, R2, v1.mono e2, v2, F2⟩⟩⟩
theorem chn_imp {g h : Op2} {σ : L2.St} {H : Hp} {Q : VK} (q : EvT G W (cChn g h ca cb cc) σ H Q) :
    tChain (tO2 G g) (tO2 G h) (EvT G W ca) (EvT G W cb) (EvT G W cc) σ H Q := by
  obtain ⟨m, ls, S, R, L, F⟩ := q
  refine ⟨m, ls, S, R, L, Fin.step L F fun p S1 m1 H1 v e1 L1 R1 v1 F1 => ⟨m1, ls, S1, R1, L1, Fin.step L1 F1 fun q S2 m2 H2 u e2 M2 R2 v2 F2 => ⟨m2, S2, p, q, _, R2, v1.mono e2, v2, Fin.step M2 F2 fun z S3 m3 H3 w e3 L3 R3 v3 F3 => ?_⟩⟩⟩
  cases z <;> first | exact F3.elim | skip
  rename_i k
  obtain rfl : w = .bl k := v3
  cases k with
  | true => exact ⟨true, rfl, by rw [if_pos rfl]; exact ⟨m3, ls, S3, R3, L3, Fin.step L3 F3 fun r S4 m4 H4 t e4 L4 R4 v4 F4 => ⟨m4, S4, q, r, _, R4, (v2.mono e3).mono e4, v4, F4⟩⟩⟩
  | false => exact ⟨false, rfl, by rw [if_neg Bool.false_ne_true]; exact F3.here R3 rfl⟩
theorem ev_chn {op op' : CmpOp} {g h : Op2} (ho : OpS X G (compareOp op) g) (ho' : OpS X G (compareOp op') h) (ha : PEv X G W a ca) (hb : PEv X G W b cb) (hc : PEv X G W c cc) (hm : lastMarks [op, op'] [b, c] = false) :
    PEv X G W (.Compare a [op, op'] [b, c] pos) (cChn g h ca cb cc) :=
  PEimp (pe_chain ho ho' ha hb hc hm) fun _ _ _ q => chn_imp q
theorem toB_fin {m : List Addr} {H : Hp} {S : Store} {p : PV} {v : V} {γ δ : Type} {r2 : List Addr → Hp → γ → δ → Prop} {Q : δ → Hp → Prop} {E : XK} {k : Bool → Store → Out γ} (hK : X.K = G.K) (R : Rep G m H S) (r : VR G m H p v)
    (F : Fin G m H r2 Q E ((toB p S).bind k)) : ∃ b, TruV X.K v H b ∧ Fin G m H r2 Q E (k b S) := by
  unfold toB at F
  split at F
  · rename_i b hb
    exact ⟨b, tru_ok' hK R r hb, F⟩
  · exact F.elim
theorem ev_and {r : List Expr} (hK : X.K = G.K) (ha : PEv X G W a ca) (hb : PEv X G W (.BoolOp .And (b :: r) pos) cb) : PEv X G W (.BoolOp .And (a :: b :: r) pos) (cAnd ca cb) := by
  refine PEimp (pe_andT ha hb) ?_
  rintro σ H Q ⟨m, ls, S, R, L, F⟩
  refine ⟨m, ls, S, R, L, Fin.step L F fun p S1 m1 H1 v e1 L1 R1 v1 F1 => ?_⟩
  obtain ⟨k, h1, F2⟩ := toB_fin hK R1 v1 F1
  refine ⟨k, h1, ?_⟩
  cases k with
  | true => exact ⟨m1, ls, S1, R1, L1, F2⟩
  | false => exact F2.here R1 v1
theorem ev_or {r : List Expr} (hK : X.K = G.K) (ha : PEv X G W a ca) (hb : PEv X G W (.BoolOp .Or (b :: r) pos) cb) : PEv X G W (.BoolOp .Or (a :: b :: r) pos) (cOr ca cb) := by
  refine PEimp (pe_orT ha hb) ?_
  rintro σ H Q ⟨m, ls, S, R, L, F⟩
  refine ⟨m, ls, S, R, L, Fin.step L F fun p S1 m1 H1 v e1 L1 R1 v1 F1 => ?_⟩
  obtain ⟨k, h1, F2⟩ := toB_fin hK R1 v1 F1
  refine ⟨k, h1, ?_⟩
  cases k with
  | true => exact F2.here R1 v1
  | false => exact ⟨m1, ls, S1, R1, L1, F2⟩
theorem ev_one {op : BoolOp} (ha : PEv X G W a ca) : PEv X G W (.BoolOp op [a] pos) ca := pe_one ha
theorem ev_not (hK : X.K = G.K) (ha : PEv X G W a ca) : PEv X G W (.UnaryOp .Not a pos) (cNot ca) := by
  refine PEimp (pe_notT ha) ?_
  rintro σ H Q ⟨m, ls, S, R, L, F⟩
  refine ⟨m, ls, S, R, L, Fin.step L F fun p S1 m1 H1 v e1 L1 R1 v1 F1 => ?_⟩
  obtain ⟨k, h1, F2⟩ := toB_fin hK R1 v1 F1
  exact ⟨k, h1, F2.here R1 rfl⟩
theorem ev_neg (ha : PEv X G W a ca) : PEv X G W (.UnaryOp .USub a pos) (cNeg ca) := by
  refine PEimp (pe_un un_neg ha) ?_
  rintro σ H Q ⟨m, ls, S, R, L, F⟩
  refine ⟨m, ls, S, R, L, Fin.step L F fun p S1 m1 H1 v e1 L1 R1 v1 F1 => ?_⟩
  cases p <;> first | exact F1.elim | skip
  rename_i i
  obtain rfl : v = .int i := v1
  exact ⟨i, rfl, F1.here R1 rfl⟩
theorem ev_ite (hc : PTv X G W c ka) (ha : PEv X G W a ca) (hb : PEv X G W b cb) : PEv X G W (.IfExp c a b pos) (cIte ka ca cb) := by
  refine PEimp (pe_ifExp hc ha hb) ?_
  rintro σ H Q ⟨m, ls, S, R, L, F⟩
  refine ⟨m, ls, S, R, L, Fin.step L F fun p S1 m1 H1 v e1 L1 R1 v1 F1 => ?_⟩
  obtain rfl : p = v := v1
  cases p with
  | true => exact ⟨m1, ls, S1, R1, L1, F1⟩
  | false => exact ⟨m1, ls, S1, R1, L1, F1⟩
theorem ev_nil : PAv X G W [] cNil := by
  refine PAimp pa_nil ?_
  rintro σ H Q ⟨m, ls, S, R, L, F⟩
  exact F.here R rfl
theorem ev_cons (ha : PEv X G W a ca) (hr : PAv X G W es cr) (hs : starEach (a :: es) X.env = (false, eval a X.env) :: starEach es X.env) : PAv X G W (a :: es) (cCons ca cr) := by
  refine PAimp (pa_cons ha hr hs) ?_
  rintro σ H Q ⟨m, ls, S, R, L, F⟩
  refine ⟨m, ls, S, R, L, Fin.step L F fun p S1 m1 H1 v e1 L1 R1 v1 F1 => ⟨m1, ls, S1, R1, L1, Fin.step L1 F1 fun ps S2 m2 H2 vs e2 M2 R2 v2 F2 => F2.here R2 ⟨v, vs, rfl, v1.mono e2, v2⟩⟩⟩
theorem ev_tup {k : Nat} (h : PAv X G W es cr) : PEv X G W (.Tuple es k pos) (cTup cr) := by
  refine PEimp (pe_tup h) ?_
  rintro σ H Q ⟨m, ls, S, R, L, F⟩
  refine ⟨m, ls, S, R, L, Fin.step L F fun p S1 m1 H1 v e1 L1 R1 v1 F1 => ?_⟩
  split at F1
  · rename_i hl
    exact ⟨by rw [← v1.length]; exact hl, fin_tup F1 R1 v1⟩
  · exact F1.elim
theorem ev_lst (h : PAv X G W es cr) : PEv X G W (.List es pos) (cLst cr) := by
  refine PEimp (pe_lst h) ?_
  rintro σ H Q ⟨m, ls, S, R, L, F⟩
  refine ⟨m, ls, S, R, L, Fin.step L F fun p S1 m1 H1 v e1 L1 R1 v1 F1 => ?_⟩
  split at F1
  · rename_i hl
    exact ⟨by rw [← v1.length]; exact hl, fin_new F1 R1 v1⟩
  · exact F1.elim

/-! ### tests -/
theorem kv_tru (hK : X.K = G.K) (ha : PEv X G W a ca) (he : ∀ whole, isTrue a X.env whole = (do let v ← whole; standAt a.pos; holding [v] (truthy v))) : PTv X G W a (kTru ca) := by
  refine PTimp (pt_truth ha he) ?_
  rintro σ H Q ⟨m, ls, S, R, L, F⟩
  refine ⟨m, ls, S, R, L, Fin.step L F fun p S1 m1 H1 v e1 L1 R1 v1 F1 => ?_⟩
  unfold toB at F1
  split at F1
  · rename_i b hb
    exact ⟨b, tru_ok' hK R1 v1 hb, F1.here R1 rfl⟩
  · exact F1.elim
theorem bl_fin {m : List Addr} {H : Hp} {S : Store} {p : PV} {v : V} {Q : Bool → Hp → Prop} {E : XK} (F : Fin G m H BR Q E (toB p S)) (hp : ∃ b, p = .bl b) (R : Rep G m H S) (r : VR G m H p v) : ∃ k, v = .bl k ∧ Q k H := by
  obtain ⟨b, rfl⟩ := hp
  exact ⟨b, r, F.here R rfl⟩
theorem kv_cmp {op : CmpOp} {g : Op2} (ho : OpS X G (compareOp op) g) (hg : ∀ p q S z S', g p q S = .ok z S' → ∃ b, z = .bl b) (ha : PEv X G W a ca) (hb : PEv X G W b cb) (hm : behindInMarks op b = false) : PTv X G W (.Compare a [op] [b] pos) (kTru (cOp g ca cb)) := by
  refine PTimp (pt_cmpR ho ha hb hm) ?_
  rintro σ H Q ⟨m, ls, S, R, L, F⟩
  have F' : Fin G m H BR Q (fun cls d H' => W cls d σ H') ((ca ls S).bind fun p S1 => (cb ls S1).bind fun q S2 => (g p q S2).bind toB) := by
    unfold kTru cOp at F
    revert F
    cases ca ls S with
    | ok p S1 =>
      simp only [Out.bind_ok]
      cases cb ls S1 with
      | ok q S2 => exact fun F => F
      | exn x S2 => exact fun F => F
      | bad => exact fun F => F
    | exn x S1 => exact fun F => F
    | bad => exact fun F => F
  exact ⟨m, ls, S, R, L, Fin.step L F' fun p S1 m1 H1 v e1 L1 R1 v1 F1 => ⟨m1, ls, S1, R1, L1, Fin.step L1 F1 fun q S2 m2 H2 u e2 M2 R2 v2 F2 => ⟨m2, S2, p, q, _, R2, v1.mono e2, v2, by
    cases h : g p q S2 with
    | ok z S3 =>
      rw [h] at F2
      exact fun m3 H3 w e3 R3 v3 => bl_fin (F2.mono e3) (hg _ _ _ _ _ h) R3 v3
    | exn x S3 => rw [h] at F2; exact F2
    | bad => rw [h] at F2; exact F2⟩⟩⟩
theorem bind_assoc {α β γ : Type} {o : Out α} {f : α → Store → Out β} {k : β → Store → Out γ} : (o.bind f).bind k = o.bind fun a S => (f a S).bind k := by cases o <;> rfl
theorem kv_chn {op op' : CmpOp} {g h : Op2} (ho : OpS X G (compareOp op) g) (ho' : OpS X G (compareOp op') h) (hh : ∀ p q S z S', h p q S = .ok z S' → ∃ b, z = .bl b) (ha : PEv X G W a ca) (hb : PEv X G W b cb) (hc : PEv X G W c cc) (hm : lastMarks [op, op'] [b, c] = false) :
    PTv X G W (.Compare a [op, op'] [b, c] pos) (kTru (cChn g h ca cb cc)) := by
  refine PTimp (pt_chain ho ho' ha hb hc hm) ?_
  rintro σ H Q ⟨m, ls, S, R, L, F⟩
  refine chn_imp ⟨m, ls, S, R, L, ?_⟩
  unfold kTru at F
  have key : ∀ z S1, cChn g h ca cb cc ls S = .ok z S1 → ∃ b, z = .bl b := by
    intro z S1 e
    unfold cChn at e
    revert e
    cases ca ls S with
    | ok p S2 =>
      simp only [Out.bind_ok]
      cases cb ls S2 with
      | ok q S3 =>
        simp only [Out.bind_ok]
        cases g p q S3 with
        | ok y S4 =>
          simp only [Out.bind_ok]
          cases y <;> first | (intro e; cases e; done) | skip
          rename_i k
          cases k with
          | false => intro e; cases e; exact ⟨_, rfl⟩
          | true =>
            simp only []
            cases cc ls S4 with
            | ok r S5 => exact fun e => hh _ _ _ _ _ e
            | exn x S5 => intro e; cases e
            | bad => intro e; cases e
        | exn x S4 => intro e; cases e
        | bad => intro e; cases e
      | exn x S3 => intro e; cases e
      | bad => intro e; cases e
    | exn x S2 => intro e; cases e
    | bad => intro e; cases e
  cases e : cChn g h ca cb cc ls S with
  | ok z S1 =>
    rw [e] at F
    exact fun m3 H3 w e3 R3 v3 => bl_fin (F.mono e3) (key z S1 e) R3 v3
  | exn x S1 => rw [e] at F; exact F
  | bad => rw [e] at F; exact F
theorem kv_not (ha : PTv X G W a ka) : PTv X G W (.UnaryOp .Not a pos) (kNot ka) := by
  refine PTimp (pt_not ha) ?_
  rintro σ H Q ⟨m, ls, S, R, L, F⟩
  refine ⟨m, ls, S, R, L, Fin.step L F fun p S1 m1 H1 v e1 L1 R1 v1 F1 => ?_⟩
  obtain rfl : p = v := v1
  exact F1.here R1 rfl
theorem kw_and1 (ha : PTv X G W a ka) : PWv X G W (.BoolOp .And [a] pos) ka := pw_and1 ha
theorem kw_or1 (ha : PTv X G W a ka) : PWv X G W (.BoolOp .Or [a] pos) ka := pw_or1 ha
theorem kw_and {r : List Expr} (ha : PTv X G W a ka) (hb : PWv X G W (.BoolOp .And (b :: r) pos) kb) : PWv X G W (.BoolOp .And (a :: b :: r) pos) (kAnd ka kb) := by
  refine PWimp (pw_and ha hb) ?_
  rintro σ H Q ⟨m, ls, S, R, L, F⟩
  refine ⟨m, ls, S, R, L, Fin.step L F fun p S1 m1 H1 v e1 L1 R1 v1 F1 => ?_⟩
  obtain rfl : p = v := v1
  cases p with
  | true => exact ⟨m1, ls, S1, R1, L1, F1⟩
  | false => exact F1.here R1 rfl
theorem kw_or {r : List Expr} (ha : PTv X G W a ka) (hb : PWv X G W (.BoolOp .Or (b :: r) pos) kb) : PWv X G W (.BoolOp .Or (a :: b :: r) pos) (kOr ka kb) := by
  refine PWimp (pw_or ha hb) ?_
  rintro σ H Q ⟨m, ls, S, R, L, F⟩
  refine ⟨m, ls, S, R, L, Fin.step L F fun p S1 m1 H1 v e1 L1 R1 v1 F1 => ?_⟩
  obtain rfl : p = v := v1
  cases p with
  | true => exact F1.here R1 rfl
  | false => exact ⟨m1, ls, S1, R1, L1, F1⟩
end

/-! ### items and slices -/
def bIdx : Op2
  | .loc a, .int i, S => match lstAt S a with
    | some xs => match atI xs i with
      | some p => .ok p S
      | none => .bad
    | none => .bad
  | .tup xs, .int i, S => match atI xs i with
    | some p => .ok p S
    | none => .bad
  | .str s, .int i, S => match atI s i with
    | some c => .ok (.str [c]) S
    | none => .bad
  | _, _, _ => .bad
def cut {α : Type} (xs : List α) (lo hi : Option Int) : List α := (xs.drop (HT.sIx xs.length 0 lo)).take (HT.sIx xs.length xs.length hi - HT.sIx xs.length 0 lo)
def bSl (p : PV) (lo hi : Option Int) (S : Store) : Out PV := match p with
  | .loc a => match lstAt S a with
    | some xs => .ok (.loc S.length) (S ++ [.lst (cut xs lo hi)])
    | none => .bad
  | .tup xs => .ok (.tup (cut xs lo hi)) S
  | .str s => .ok (.str (cut s lo hi)) S
  | _ => .bad
def bRev (p : PV) (S : Store) : Out PV := match p with
  | .loc a => match lstAt S a with
    | some xs => .ok (.loc S.length) (S ++ [.lst xs.reverse])
    | none => .bad
  | .str s => .ok (.str s.reverse) S
  | _ => .bad
def toI (p : PV) (S : Store) : Out (Option Int) := match p with
  | .int i => .ok (some i) S
  | _ => .bad
abbrev CO := Ls → Store → Out (Option Int)
def cNone : CO := fun _ S => .ok none S
def cSome (a : CE) : CO := fun ls S => (a ls S).bind toI
def cSl (a : CE) (lo hi : CO) : CE := fun ls S => (a ls S).bind fun p S1 => (lo ls S1).bind fun l S2 => (hi ls S2).bind fun h S3 => bSl p l h S3
def cRev (a : CE) : CE := fun ls S => (a ls S).bind bRev
section
variable {X : Cx} {G : Env1} {W : WX} {a b c : Expr} {es : List Expr} {ca cb cc : CE} {cr : CA} {ka kb : CB} {pos : Pos} {m : List Addr} {H : Hp}
theorem VRs.atI {xs : List PV} {vs : List V} {i : Int} {p : PV} (r : VRs G m H xs vs) (h : atI xs i = some p) : ∃ v, L2.atI vs i = some v ∧ VR G m H p v := by
  unfold L2.atI at h ⊢
  rw [← r.length]
  cases e : ixN xs.length i with
  | none => rw [e] at h; cases h
  | some j =>
    rw [e] at h
    obtain ⟨u, h1, h2⟩ := r.get h
    exact ⟨u, h1, h2⟩
theorem VRs.cut {xs : List PV} {vs : List V} (r : VRs G m H xs vs) (lo hi : Option Int) : VRs G m H (cut xs lo hi) (cutV vs lo hi) := by
  unfold Bm.cut cutV
  rw [← r.length]
  exact (r.drop _).take _
theorem cut_mem {α : Type} {xs : List α} {lo hi : Option Int} {c : α} (h : c ∈ cut xs lo hi) : c ∈ xs := List.mem_of_mem_drop (List.mem_of_mem_take h)
theorem cut_len {α : Type} (xs : List α) (lo hi : Option Int) : (cut xs lo hi).length ≤ xs.length := by
  unfold cut
  rw [List.length_take, List.length_drop]
  omega
theorem sok_cut {s : List Nat} (h : SOk s) (lo hi : Option Int) : SOk (cut s lo hi) := h.sub (fun _ => cut_mem) (cut_len s lo hi)
theorem cutS_is (s : List Nat) (lo hi : Option Int) : cutS (mkS s) lo hi = mkS (cut s lo hi) := by
  unfold cutS cut
  rw [str_cast]
theorem ev_idx (hK : X.K = G.K) (ha : PEv X G W a ca) (hb : PEv X G W b cb) (hs : PlainIx b) : PEv X G W (.Subscript a b pos) (cOp bIdx ca cb) := by
  refine PEimp (pe_ix ix_seq ha hb hs) ?_
  rintro σ H Q ⟨m, ls, S, R, L, F⟩
  refine ⟨m, ls, S, R, L, Fin.step L F fun p S1 m1 H1 v e1 L1 R1 v1 F1 => ⟨m1, ls, S1, R1, L1, Fin.step L1 F1 fun q S2 m2 H2 u e2 M2 R2 v2 F2 => ?_⟩⟩
  replace v1 := v1.mono e2
  cases p <;> cases q <;> first | exact F2.elim | skip
  · rename_i s i
    obtain ⟨rfl, ks⟩ := v1
    obtain rfl : u = .int i := v2
    simp only [bIdx] at F2
    split at F2
    · rename_i c hc
      refine .inr (.inr ⟨mkS s, i, c, rfl, rfl, by rw [str_cast]; exact ks.len, hc, F2.here R2 ⟨rfl, ?_⟩⟩)
      have hm : c ∈ s := by
        unfold L2.atI at hc
        cases e : ixN s.length i with
        | none => rw [e] at hc; cases hc
        | some j => rw [e] at hc; exact List.mem_of_getElem? hc
      refine ks.sub (fun d hd => ?_) ?_
      · rw [List.mem_singleton.mp hd]; exact hm
      · exact List.length_pos_of_mem hm
    · exact F2.elim
  · rename_i xs i
    obtain ⟨a1, vs, rfl, h1, h2⟩ := v1
    obtain rfl : u = .int i := v2
    simp only [bIdx] at F2
    split at F2
    · rename_i p hp
      obtain ⟨w, h3, h4⟩ := h2.atI hp
      exact .inr (.inl ⟨a1, vs, i, w, rfl, rfl, by rw [hK]; exact h1, h3, F2.here R2 h4⟩)
    · exact F2.elim
  · rename_i n i
    obtain ⟨a1, rfl, h1⟩ := v1
    obtain rfl : u = .int i := v2
    simp only [bIdx] at F2
    split at F2
    · rename_i xs hx
      split at F2
      · rename_i p hp
        obtain ⟨vs, g1, g2⟩ := R2.seq (lstAt_is hx) h1
        obtain ⟨w, h3, h4⟩ := g2.atI hp
        exact .inl ⟨a1, vs, i, w, rfl, rfl, by rw [hK]; exact g1, h3, F2.here R2 h4⟩
      · exact F2.elim
    · exact F2.elim
/-- an optional part of a slice -/
def EvO (G : Env1) (W : WX) (c : CO) : L2.St → Hp → (Option Int → Hp → Prop) → Prop := fun σ H Q => ∃ m ls S, Rep G m H S ∧ LR G m H ls σ ∧ Fin G m H (fun _ _ a b => a = b) Q (fun cls d H' => W cls d σ H') (c ls S)
theorem POimp {X : Cx} {e : Option Expr} {t t' : L2.St → Hp → (Option Int → Hp → Prop) → Prop} (h : PO X e t) (i : ∀ σ H Q, t' σ H Q → t σ H Q) : PO X e t' := ⟨fun pins s σ H Q I q => h.run pins s σ H Q I (i σ H Q q)⟩
theorem evo_none : PO X none (EvO G W cNone) := by
  refine POimp po_none ?_
  rintro σ H Q ⟨m, ls, S, R, L, F⟩
  exact F.here R rfl
theorem evo_some (ha : PEv X G W a ca) : PO X (some a) (EvO G W (cSome ca)) := by
  refine POimp (po_some ha) ?_
  rintro σ H Q ⟨m, ls, S, R, L, F⟩
  refine ⟨m, ls, S, R, L, Fin.step L F fun p S1 m1 H1 v e1 L1 R1 v1 F1 => ?_⟩
  cases p <;> first | exact F1.elim | skip
  rename_i i
  obtain rfl : v = .int i := v1
  exact ⟨i, rfl, F1.here R1 rfl⟩
theorem ev_sl {lo hi : Option Expr} {cl ch : CO} {p2 : Pos} (hK : X.K = G.K) (ha : PEv X G W a ca) (hl : PO X lo (EvO G W cl)) (hh : PO X hi (EvO G W ch)) : PEv X G W (.Subscript a (.Slice lo hi none p2) pos) (cSl ca cl ch) := by
  refine PEimp (pe_slice (SlR.or sl_list (SlR.or sl_tupA sl_str)) ha hl hh) ?_
  rintro σ H Q ⟨m, ls, S, R, L, F⟩
  refine ⟨m, ls, S, R, L, Fin.step L F fun p S1 m1 H1 v e1 L1 R1 v1 F1 => ⟨m1, ls, S1, R1, L1, Fin.step L1 F1 fun l S2 m2 H2 l' e2 M2 R2 v2 F2 => ⟨m2, ls, S2, R2, M2, Fin.step M2 F2 fun h S3 m3 H3 h' e3 L3 R3 v3 F3 => ?_⟩⟩⟩
  obtain rfl : l = l' := v2
  obtain rfl : h = h' := v3
  replace v1 := (v1.mono e2).mono e3
  cases p <;> first | exact F3.elim | skip
  · rename_i s
    obtain ⟨rfl, ks⟩ := v1
    refine .inr (.inr ⟨mkS s, rfl, by rw [str_cast]; exact ks.len, ?_⟩)
    rw [cutS_is]
    exact F3.here R3 ⟨rfl, sok_cut ks l h⟩
  · rename_i xs
    obtain ⟨a1, vs, rfl, h1, h2⟩ := v1
    refine .inr (.inl ⟨a1, vs, rfl, by rw [hK]; exact h1, fun hw => ?_, fun _ => fin_tup F3 R3 (h2.cut l h)⟩)
    have e0 : cut xs l h = xs := by
      unfold cut
      rw [h2.length, hw.1, hw.2, List.drop_zero, Nat.sub_zero, ← h2.length, List.take_length]
    unfold bSl at F3
    simp only [e0] at F3
    exact F3.here R3 ⟨a1, vs, rfl, h1, h2⟩
  · rename_i n
    obtain ⟨a1, rfl, h1⟩ := v1
    simp only [bSl] at F3
    split at F3
    · rename_i xs hx
      obtain ⟨vs, g1, g2⟩ := R3.seq (lstAt_is hx) h1
      exact .inl ⟨a1, vs, rfl, by rw [hK]; exact g1, fin_new F3 R3 (g2.cut l h)⟩
    · exact F3.elim
theorem rev_text (s : List Nat) (u : Tok) : Txt.sliceBy (mkS s) none none (-1, u) = mkS s.reverse := by
  have h := step_rev_list (mkS s) u
  have e : (Txt.sliceBy (mkS s) none none (-1, u)).cps.toList = s.reverse := by
    rw [h]
    apply List.ext_getElem
    · simp [Str.length]
    · intro i h1 h2
      have hi : i < s.length := by simpa using h2
      simp [Str.length, Array.getD]
      rw [dif_pos (by omega)]
  generalize Txt.sliceBy (mkS s) none none (-1, u) = z at e
  obtain ⟨⟨l⟩⟩ := z
  have e' : l = s.reverse := e
  rw [e']
def tRevB (K : PySem.W.Frag) (te : TE) : TE := fun σ H Q => te σ H fun x H1 => (∃ a xs, x = .ref a ∧ SqL K H1 a xs ∧ ∀ p, H1 p = none → Q (.ref p) (upd H1 p (.lst xs.reverse))) ∨ ∃ s, x = .str (mkS s) ∧ s.length ≤ sizeLine ∧ Q (.str (mkS s.reverse)) H1
theorem pe_revB {e : Expr} {te : TE} {k : Nat} {p1 p2 p3 pos : Pos} (he : PE X e te) : PE X (.Subscript e (.Slice none none (some (.UnaryOp .USub (.Constant (.int 1) k p1) p2)) p3) pos) (tRevB X.K te) := by
  refine ⟨fun pins s σ H Q I h => ?_⟩
  refine Subscript_ (thn (he.run pins s σ H _ I h) fun v s1 ⟨x, H1, I1, r1, q1⟩ => ?_)
  have hst : PO X (some (.UnaryOp .USub (.Constant (.int 1) k p1) p2)) (tPart (tUn (rU fun i => .int (-i)) (tC (.int 1)))) := po_some (pe_un un_neg pe_int)
  refine wpAny_Slice (thn (po_none.run pins s1 σ H1 (fun o H2 => o = none ∧ H2 = H1) I1 ⟨rfl, rfl⟩) fun vl s2 ⟨l, H2, I2, pl, el, e2⟩ => ?_)
  subst el e2
  refine thn (po_none.run pins s2 σ H2 (fun o H3 => o = none ∧ H3 = H2) I2 ⟨rfl, rfl⟩) fun vu s3 ⟨u, H3, I3, pu, eu, e3⟩ => ?_
  subst eu e3
  refine thn (hst.run pins s3 σ H3 (fun o H4 => o = some (-1) ∧ H4 = H3) I3 ⟨1, rfl, -1, rfl, rfl, rfl⟩) fun vs s4 ⟨o, H4, I4, ps, eo, e4⟩ => ?_
  subst eo e4
  have I5 : Inv X pins σ H4 { s4 with heap := s4.heap.push { cls := .type "slice", data := .fields #[vl, vu, vs] } } := I4.kept (t' := s4.toks) fun b ob q => Heap.get?_push_of_some _ q
  rcases q1 with ⟨a, xs, ex, hx, q⟩ | ⟨z, ex, hz, q⟩
  · subst ex
    cases r1
    obtain ⟨its, r, ht, hz⟩ := I5.list hx
    have hlen := r.length
    show wpAny (model X.prog X.w) X.A (subscriptTail e (.Slice none none (some (.UnaryOp .USub (.Constant (.int 1) k p1) p2)) p3) (.ref a) (.ref s4.heap.objs.size)) (EP X pins σ Q) X.xe { s4 with heap := s4.heap.push { cls := .type "slice", data := .fields #[vl, vu, vs] } }
    refine tail_any (ops := [.ref a, .ref s4.heap.objs.size]) ht.isList.typeIs (PySem.slot_list_getitem.lookup) ?_ (by with_unfolding_all rfl)
    refine wpAny_getItem_list_slice ht.isList (Heap.IsSliceOf.new _ vl vu vs) pl pu ps (by decide) ?_ (by rw [List.size_toArray]; omega)
    rw [PySem.W.krv_pick]
    refine ⟨.ref _, _, I5.laid (t' := s4.toks) (o := .lst xs.reverse) (fun b ob q => Heap.get?_push_of_some _ q) (Nat.le_refl _) ?_, rfl, q _ (I5.hok.fresh (Nat.le_refl _))⟩
    exact ⟨by rw [List.length_reverse]; exact hz, _, 0, r.reverse, Heap.get?_push_size _ rfl⟩
  · subst ex
    obtain ⟨t, rfl⟩ := r1
    show wpAny (model X.prog X.w) X.A (subscriptTail e (.Slice none none (some (.UnaryOp .USub (.Constant (.int 1) k p1) p2)) p3) (.str (mkS z) t) (.ref s4.heap.objs.size)) (EP X pins σ Q) X.xe { s4 with heap := s4.heap.push { cls := .type "slice", data := .fields #[vl, vu, vs] } }
    refine tail_any (ops := [.str (mkS z) t, .ref s4.heap.objs.size]) (typeIs_str _ _ _) PySem.F.slot_str_getitem.lookup ?_ (by with_unfolding_all rfl)
    obtain ⟨os, hos, hcs, hds⟩ := Heap.IsSliceOf.new s4.heap vl vu vs
    obtain ⟨l, rfl, hl1⟩ := IsPart.raw pl
    obtain ⟨u, rfl, hu1⟩ := IsPart.raw pu
    obtain ⟨w, rfl, hw1⟩ := IsPart.raw ps
    obtain rfl : l = none := by cases l with | none => rfl | some _ => cases hl1
    obtain rfl : u = none := by cases u with | none => rfl | some _ => cases hu1
    obtain ⟨wt, rfl⟩ : ∃ wt, w = some (-1, wt) := by
      cases w with
      | none => cases hw1
      | some y =>
        obtain ⟨y1, y2⟩ := y
        simp at hw1
        exact ⟨y2, by rw [← hw1]⟩
    refine wpAny_getItem_str_slice (l := none) (u := none) (st := some (-1, wt)) ⟨os, hos, hcs, hds⟩ rfl ?_
    have ht := rev_text z wt
    unfold Txt.sliceBy at ht
    have hh : ¬ (((((some ((-1 : Int), wt)).map (·.1)).getD 1 == 1) && ((slicePicked (mkS z) none none (some (-1, wt))).length == (mkS z).length)) = true) := by
      have : ((((some ((-1 : Int), wt)).map (·.1)).getD 1 == 1)) = false := rfl
      rw [this]; simp
    rw [if_neg hh] at ht
    unfold sliceMade
    rw [if_neg hh, ht]
    exact ⟨by rw [str_cast, List.length_reverse]; exact hz, .str _, H4, I5.tok _, ⟨_, rfl⟩, q⟩
theorem ev_rev {k : Nat} {p1 p2 p3 : Pos} (hK : X.K = G.K) (ha : PEv X G W a ca) : PEv X G W (.Subscript a (.Slice none none (some (.UnaryOp .USub (.Constant (.int 1) k p1) p2)) p3) pos) (cRev ca) := by
  refine PEimp (pe_revB ha) ?_
  rintro σ H Q ⟨m, ls, S, R, L, F⟩
  refine ⟨m, ls, S, R, L, Fin.step L F fun p S1 m1 H1 v e1 L1 R1 v1 F1 => ?_⟩
  cases p <;> first | exact F1.elim | skip
  · rename_i s
    obtain ⟨rfl, ks⟩ := v1
    exact .inr ⟨s, rfl, ks.len, F1.here R1 ⟨rfl, ks.sub (fun c hc => List.mem_reverse.mp hc) (by rw [List.length_reverse]; exact Nat.le_refl _)⟩⟩
  · rename_i n
    obtain ⟨a1, rfl, h1⟩ := v1
    simp only [bRev] at F1
    split at F1
    · rename_i xs hx
      obtain ⟨vs, g1, g2⟩ := R1.seq (lstAt_is hx) h1
      exact .inl ⟨a1, vs, rfl, by rw [hK]; exact g1, fin_new F1 R1 g2.reverse⟩
    · exact F1.elim
end
end Bm

/-! Bm, part E: calls. -/
namespace Bm
open PySem PySem.Spec PyProof.Rows L2

/-! ### lists of signs -/
theorem drop_takeWhile (p : Nat → Bool) : ∀ l : List Nat, l.drop (l.takeWhile p).length = l.dropWhile p
  | [] => rfl
  | c :: r => by
    by_cases h : p c = true
    · rw [List.takeWhile_cons_of_pos h, List.dropWhile_cons_of_pos h, List.length_cons, List.drop_succ_cons, drop_takeWhile p r]
    · rw [List.takeWhile_cons_of_neg h, List.dropWhile_cons_of_neg h]; rfl
def lstripL (p : Nat → Bool) (s : List Nat) : List Nat := s.dropWhile p
def rstripL (p : Nat → Bool) (s : List Nat) : List Nat := (s.reverse.dropWhile p).reverse
def stripL (p : Nat → Bool) (s : List Nat) : List Nat := rstripL p (lstripL p s)
theorem rstrip_take (p : Nat → Bool) (l : List Nat) : l.take (l.length - (l.reverse.takeWhile p).length) = rstripL p l := by
  unfold rstripL
  rw [← drop_takeWhile, List.drop_reverse, List.reverse_reverse]
theorem str_ext {x : Str} {l : List Nat} (h : x.cps.toList = l) : x = mkS l := by
  obtain ⟨⟨a⟩⟩ := x
  have h' : a = l := h
  rw [h']
theorem stripBy_list (p : Nat → Bool) (l r : Bool) (s : List Nat) : Txt.stripBy p l r (mkS s) = mkS (if r then rstripL p (if l then lstripL p s else s) else if l then lstripL p s else s) := by
  rw [stripBy_eq]
  refine str_ext ?_
  rw [PySem.StrLaws.strSub_toList]
  have e0 : (mkS s).cps.toList = s := rfl
  unfold PySem.stripHi PySem.stripLo
  rw [e0, str_cast]
  cases l <;> cases r <;> simp only [if_true, if_false, Bool.false_eq_true, List.drop_zero, Nat.sub_zero, List.take_length]
  · exact rstrip_take p s
  · rw [drop_takeWhile]
    unfold lstripL
    rw [List.take_of_length_le]
    rw [← drop_takeWhile, List.length_drop]
    exact Nat.le_refl _
  · rw [drop_takeWhile]
    unfold lstripL
    rw [← rstrip_take]
    congr 1
    have : (s.dropWhile p).length = s.length - (s.takeWhile p).length := by rw [← drop_takeWhile, List.length_drop]
    omega
theorem lstrip_mem {p : Nat → Bool} {s : List Nat} {c : Nat} (h : c ∈ lstripL p s) : c ∈ s := (List.dropWhile_sublist _).subset h
theorem rstrip_mem {p : Nat → Bool} {s : List Nat} {c : Nat} (h : c ∈ rstripL p s) : c ∈ s := by
  have := (List.dropWhile_sublist p).subset (List.mem_reverse.mp h)
  exact List.mem_reverse.mp this
theorem lstrip_len (p : Nat → Bool) (s : List Nat) : (lstripL p s).length ≤ s.length := (List.dropWhile_sublist _).length_le
theorem rstrip_len (p : Nat → Bool) (s : List Nat) : (rstripL p s).length ≤ s.length := by
  unfold rstripL
  rw [List.length_reverse]
  exact Nat.le_trans (List.dropWhile_sublist _).length_le (by rw [List.length_reverse]; exact Nat.le_refl _)
theorem sok_l {p : Nat → Bool} {s : List Nat} (h : SOk s) : SOk (lstripL p s) := h.sub (fun _ => lstrip_mem) (lstrip_len p s)
theorem sok_r {p : Nat → Bool} {s : List Nat} (h : SOk s) : SOk (rstripL p s) := h.sub (fun _ => rstrip_mem) (rstrip_len p s)
theorem contains_list (t : List Nat) : (mkS t).cps.contains = fun c => t.contains c := by
  funext c
  simp [mkS]

/-! ### built-in functions and types -/
abbrev Fn := List PV → Store → Out PV
def tFn (G : Env1) (g : Fn) : List V → Hp → VK → Prop := fun xs H Q => ∃ m S ps E, Rep G m H S ∧ VRs G m H ps xs ∧ Fin G m H (VR G) Q E (g ps S)
abbrev CallS (X : Cx) (G : Env1) (f : Value) (g : Fn) : Prop := CallR X f (tFn G g)
theorem CRimp {X : Cx} {f : Value} {r r' : List V → Hp → VK → Prop} (h : CallR X f r) (i : ∀ xs H Q, r' xs H Q → r xs H Q) : CallR X f r' := fun pins s σ H xs us Q I rs q => h pins s σ H xs us Q I rs (i xs H Q q)
/-- by cases upon what the arguments are -/
theorem CRany {X : Cx} {f : Value} {r : List V → Hp → VK → Prop} (h : ∀ xs H Q, r xs H Q → ∃ r', CallR X f r' ∧ r' xs H Q) : CallR X f r := fun pins s σ H xs us Q I rs q =>
  let ⟨r', h1, h2⟩ := h xs H Q q
  h1 pins s σ H xs us Q I rs h2

def fLen : Fn
  | [.str s], S => .ok (.int s.length) S
  | [.tup l], S => .ok (.int l.length) S
  | [.loc a], S => match lstAt S a with
    | some xs => .ok (.int xs.length) S
    | none => .bad
  | _, _ => .bad
def fInt : Fn
  | [.int i], S => .ok (.int i) S
  | [.bl b], S => .ok (.int (if b then 1 else 0)) S
  | _, _ => .bad
def fList : Fn
  | [.tup l], S => .ok (.loc S.length) (S ++ [.lst l])
  | [.loc a], S => match lstAt S a with
    | some xs => .ok (.loc S.length) (S ++ [.lst xs])
    | none => .bad
  | _, _ => .bad
def fTuple : Fn
  | [.tup l], S => .ok (.tup l) S
  | [.loc a], S => match lstAt S a with
    | some xs => .ok (.tup xs) S
    | none => .bad
  | _, _ => .bad
def fAbs : Fn
  | [.int i], S => .ok (.int (if i < 0 then -i else i)) S
  | _, _ => .bad
def fMax : Fn
  | [.int i, .int j], S => .ok (.int (if j > i then j else i)) S
  | _, _ => .bad
def fMin : Fn
  | [.int i, .int j], S => .ok (.int (if j < i then j else i)) S
  | _, _ => .bad
def fStr : Fn
  | [.int i], S => if i.natAbs.log2 < 1920 then .ok (.str (Str.ofString (toString i)).cps.toList) S else .bad
  | _, _ => .bad
section
variable {X : Cx} {G : Env1}
theorem VRs.one' {m : List Addr} {H : Hp} {p : PV} {xs : List V} (h : VRs G m H [p] xs) : ∃ v, xs = [v] ∧ VR G m H p v := by
  obtain ⟨v, r, rfl, h1, h2⟩ := h
  cases h2
  exact ⟨v, rfl, h1⟩
theorem VRs.two' {m : List Addr} {H : Hp} {p q : PV} {xs : List V} (h : VRs G m H [p, q] xs) : ∃ v u, xs = [v, u] ∧ VR G m H p v ∧ VR G m H q u := by
  obtain ⟨v, r, rfl, h1, h2⟩ := h
  obtain ⟨u, rfl, h3⟩ := VRs.one' h2
  exact ⟨v, u, rfl, h1, h3⟩
theorem cs_len (hK : X.K = G.K) : CallS X G (.builtin "len") fLen := by
  refine CRimp call_len ?_
  rintro xs H Q ⟨m, S, ps, E, R, r, F⟩
  unfold fLen at F
  split at F
  · obtain ⟨v, rfl, rfl, k⟩ := VRs.one' r
    exact ⟨_, _, rfl, ⟨by rw [str_cast]; exact k.len, by rw [str_cast]⟩, F.here R rfl⟩
  · obtain ⟨v, rfl, a, vs, rfl, h1, h2⟩ := VRs.one' r
    exact ⟨_, _, rfl, .inr ⟨vs, by rw [hK]; exact h1, h2.length⟩, F.here R rfl⟩
  · obtain ⟨v, rfl, a, rfl, h1⟩ := VRs.one' r
    split at F
    · rename_i xs hx
      obtain ⟨vs, g1, g2⟩ := R.seq (lstAt_is hx) h1
      exact ⟨_, _, rfl, .inl ⟨vs, by rw [hK]; exact g1, g2.length⟩, F.here R rfl⟩
    · exact F.elim
  · exact F.elim
theorem cs_int : CallS X G (.type "int") fInt := by
  refine CRimp call_int1 ?_
  rintro xs H Q ⟨m, S, ps, E, R, r, F⟩
  unfold fInt at F
  split at F
  · obtain ⟨v, rfl, rfl⟩ := VRs.one' r
    exact .inl ⟨_, rfl, F.here R rfl⟩
  · rename_i b
    obtain ⟨v, rfl, rfl⟩ := VRs.one' r
    exact .inr ⟨_, rfl, F.here R (by cases b <;> rfl)⟩
  · exact F.elim
theorem cs_list (hK : X.K = G.K) : CallS X G (.type "list") fList := by
  refine CRimp call_list_of ?_
  rintro xs H Q ⟨m, S, ps, E, R, r, F⟩
  unfold fList at F
  split at F
  · obtain ⟨v, rfl, a, vs, rfl, h1, h2⟩ := VRs.one' r
    exact ⟨a, vs, rfl, .inr (by rw [hK]; exact h1), fin_new F R h2⟩
  · obtain ⟨v, rfl, a, rfl, h1⟩ := VRs.one' r
    split at F
    · rename_i xs hx
      obtain ⟨vs, g1, g2⟩ := R.seq (lstAt_is hx) h1
      exact ⟨a, vs, rfl, .inl (by rw [hK]; exact g1), fin_new F R g2⟩
    · exact F.elim
  · exact F.elim
theorem cs_tuple (hK : X.K = G.K) : CallS X G (.type "tuple") fTuple := by
  refine CRimp call_tuple_of ?_
  rintro xs H Q ⟨m, S, ps, E, R, r, F⟩
  unfold fTuple at F
  split at F
  · obtain ⟨v, rfl, a, vs, rfl, h1, h2⟩ := VRs.one' r
    exact ⟨a, vs, rfl, .inr ⟨by rw [hK]; exact h1, F.here R ⟨a, vs, rfl, h1, h2⟩⟩⟩
  · obtain ⟨v, rfl, a, rfl, h1⟩ := VRs.one' r
    split at F
    · rename_i xs hx
      obtain ⟨vs, g1, g2⟩ := R.seq (lstAt_is hx) h1
      exact ⟨a, vs, rfl, .inl ⟨by rw [hK]; exact g1, fin_tup F R g2⟩⟩
    · exact F.elim
  · exact F.elim
theorem cs_abs : CallS X G (.builtin "abs") fAbs := by
  refine CRimp call_abs ?_
  rintro xs H Q ⟨m, S, ps, E, R, r, F⟩
  unfold fAbs at F
  split at F
  · obtain ⟨v, rfl, rfl⟩ := VRs.one' r
    exact ⟨_, rfl, F.here R rfl⟩
  · exact F.elim
theorem cs_max (hc : X.calm = true) : CallS X G (.builtin "max") fMax := by
  refine CRimp (call_max2 hc) ?_
  rintro xs H Q ⟨m, S, ps, E, R, r, F⟩
  unfold fMax at F
  split at F
  · obtain ⟨v, u, rfl, rfl, rfl⟩ := VRs.two' r
    exact ⟨_, _, rfl, F.here R rfl⟩
  · exact F.elim
theorem cs_min (hc : X.calm = true) : CallS X G (.builtin "min") fMin := by
  refine CRimp (call_min2 hc) ?_
  rintro xs H Q ⟨m, S, ps, E, R, r, F⟩
  unfold fMin at F
  split at F
  · obtain ⟨v, u, rfl, rfl, rfl⟩ := VRs.two' r
    exact ⟨_, _, rfl, F.here R rfl⟩
  · exact F.elim
end

/-! ### isinstance -/
inductive Ty where
  | int | str | bool | tuple | list
  deriving DecidableEq
def Ty.name : Ty → String
  | .int => "int" | .str => "str" | .bool => "bool" | .tuple => "tuple" | .list => "list"
def isTy (T : Ty) : PV → Store → Option Bool
  | .non, _ => some false
  | .bl _, _ => some (match T with | .bool => true | .int => true | _ => false)
  | .int _, _ => some (match T with | .int => true | _ => false)
  | .str _, _ => some (match T with | .str => true | _ => false)
  | .tup _, _ => some (match T with | .tuple => true | _ => false)
  | .loc a, S => match lstAt S a with
    | some _ => some (match T with | .list => true | _ => false)
    | none => none
def fIsi (T : Ty) : PV → Store → Out PV := fun p S => match isTy T p S with
  | some b => .ok (.bl b) S
  | none => .bad
theorem kit5 (T : Ty) : kitB "NoneType" T.name = some false ∧ kitB "bool" T.name = some (match T with | .bool => true | .int => true | _ => false) ∧ kitB "int" T.name = some (match T with | .int => true | _ => false) ∧
    kitB "str" T.name = some (match T with | .str => true | _ => false) ∧ kitB "tuple" T.name = some (match T with | .tuple => true | _ => false) ∧ kitB "list" T.name = some (match T with | .list => true | _ => false) := by
  cases T <;> decide +kernel
section
variable {X : Cx} {G : Env1} {W : WX} {a : Expr} {es : List Expr} {ca : CE} {cr : CA}
def cIsi (T : Ty) (a : CE) : CE := fun ls S => (a ls S).bind fun p S1 => fIsi T p S1
theorem ev_isi {T : Ty} {x : Str} {p p2 pos : Pos} {te : Expr} (hK : X.K = G.K) (hg : Gl X "isinstance") (hm : X.mg "isinstance" = none) (ha : PEv X G W a ca) (ht : PE X te (tC (.ty T.name))) (hs : starEach [a, te] X.env = [(false, eval a X.env), (false, eval te X.env)])
    (hs2 : starEach [te] X.env = [(false, eval te X.env)]) :
    PEv X G W (.Call (.Name "isinstance" p) [a, te] [] pos) (cIsi T ca) := by
  have hp : (backTo pos (starEach [te] X.env)).any (·.1) = false := by rw [hs2]; rfl
  refine PEimp (pe_callB call_isi hg hm (by decide +kernel) (pa_cons ha (pa_cons ht pa_nil hs2) (by rw [hs, hs2])) (by decide) (by decide) (by rw [hs, hs2]) hp) ?_
  rintro σ H Q ⟨m, ls, S, R, L, F⟩
  refine ⟨m, ls, S, R, L, Fin.step L F fun q S1 m1 H1 v e1 L1 R1 v1 F1 => ?_⟩
  show ∃ (x c : V) (t u : Value) (b : Bool), [v, .ty T.name] = [x, c] ∧ ClsV c u ∧ TyX X.K H1 x t ∧ PySem.W.kitOne X.K t u = some b ∧ Q (.bl b) H1
  obtain ⟨k0, k1, k2, k3, k4, k5⟩ := kit5 T
  unfold fIsi isTy at F1
  cases q with
  | non => cases (show v = .non from v1); exact ⟨_, _, _, _, _, rfl, .ty _, .base .non, kit_ty k0, F1.here R1 rfl⟩
  | bl b => cases (show v = .bl b from v1); exact ⟨_, _, _, _, _, rfl, .ty _, .base (.bl b), kit_ty k1, F1.here R1 rfl⟩
  | int i => cases (show v = .int i from v1); exact ⟨_, _, _, _, _, rfl, .ty _, .base (.int i), kit_ty k2, F1.here R1 rfl⟩
  | str s => obtain ⟨rfl, _⟩ := v1; exact ⟨_, _, _, _, _, rfl, .ty _, .base (.str _), kit_ty k3, F1.here R1 rfl⟩
  | tup l =>
    obtain ⟨b, vs, rfl, h1, h2⟩ := v1
    have F2 := F1.here R1 rfl
    rcases h1 with (h1 | ⟨o, h1⟩) | ⟨o, its, n, h1, h3, _⟩
    · exact ⟨_, _, _, _, _, rfl, .ty _, .base (.tup h1), kit_ty k4, F2⟩
    · exact ⟨_, _, _, _, _, rfl, .ty _, .fTuple h1, kit_ty k4, F2⟩
    · exact ⟨_, _, _, _, _, rfl, .ty _, .kTuple (by rw [hK]; exact h1) h3, kit_ty k4, F2⟩
  | loc n =>
    obtain ⟨b, rfl, h1⟩ := v1
    simp only at F1
    split at F1
    · rename_i b' hb'
      split at hb'
      · rename_i xs hx
        cases hb'
        have F2 := F1.here R1 rfl
        rcases lstAt_is hx with h | h
        · obtain ⟨vs, g1, g2⟩ := R1.at h h1
          exact ⟨_, _, _, _, _, rfl, .ty _, .base (.lst g1), kit_ty k5, F2⟩
        · obtain ⟨vs, o, g1, g2⟩ := R1.at h h1
          exact ⟨_, _, _, _, _, rfl, .ty _, .base (.frz g1), kit_ty k5, F2⟩
      · cases hb'
    · exact F1.elim

/-! ### calls of built-in things -/
def cCall (g : Fn) (r : CA) : CE := fun ls S => (r ls S).bind g
theorem ev_callB {id : String} {g : Fn} {x : Str} {p pos : Pos} (hc : CallS X G (.builtin id) g) (hg : Gl X x) (hm : X.mg x = none) (hv : bootBuiltins x = some (.builtin id)) (ha : PAv X G W (a :: es) cr) (hn : x ≠ "__name__") (hdb : (x == ("__debug__" : Str)) = false)
    (he : starEach (a :: es) X.env = (false, eval a X.env) :: starEach es X.env) (hpl : (backTo pos (starEach es X.env)).any (·.1) = false) : PEv X G W (.Call (.Name x p) (a :: es) [] pos) (cCall g cr) := by
  refine PEimp (pe_callB hc hg hm hv ha hn hdb he hpl) ?_
  rintro σ H Q ⟨m, ls, S, R, L, F⟩
  exact ⟨m, ls, S, R, L, Fin.step L F fun ps S1 m1 H1 vs e1 L1 R1 v1 F1 => ⟨m1, S1, ps, _, R1, v1, F1⟩⟩
theorem ev_callTy {T : String} {g : Fn} {x : Str} {p pos : Pos} (hc : CallS X G (.type T) g) (hg : Gl X x) (hm : X.mg x = none) (hv : bootBuiltins x = some (.type T)) (ha : PAv X G W (a :: es) cr) (hn : x ≠ "__name__") (hdb : (x == ("__debug__" : Str)) = false)
    (he : starEach (a :: es) X.env = (false, eval a X.env) :: starEach es X.env) (hpl : (backTo pos (starEach es X.env)).any (·.1) = false) : PEv X G W (.Call (.Name x p) (a :: es) [] pos) (cCall g cr) := by
  refine PEimp (pe_callTy hc hg hm hv ha hn hdb he hpl) ?_
  rintro σ H Q ⟨m, ls, S, R, L, F⟩
  exact ⟨m, ls, S, R, L, Fin.step L F fun ps S1 m1 H1 vs e1 L1 R1 v1 F1 => ⟨m1, S1, ps, _, R1, v1, F1⟩⟩
end

/-! ### methods of built-in types -/
abbrev Mt := PV → List PV → Store → Out PV
def tMt (G : Env1) (g : Mt) : V → List V → Hp → VK → Prop := fun x xs H Q => ∃ m S p ps E, Rep G m H S ∧ VR G m H p x ∧ VRs G m H ps xs ∧ Fin G m H (VR G) Q E (g p ps S)
abbrev MtG (X : Cx) (G : Env1) (id : String) (g : Mt) : Prop := MtR X id (tMt G g)
theorem MRimp {X : Cx} {id : String} {r r' : V → List V → Hp → VK → Prop} (h : MtR X id r) (i : ∀ x xs H Q, r' x xs H Q → r x xs H Q) : MtR X id r' := fun pins s σ H x xs v us Q I rx rs q => h pins s σ H x xs v us Q I rx rs (i x xs H Q q)
/-- which type has the method -/
inductive MT where
  | str | list
def isMT : MT → PV → Store → Bool
  | .str, .str _, _ => true
  | .list, .loc a, S => (lstAt S a).isSome
  | _, _, _ => false
def MT.name : MT → String
  | .str => "str" | .list => "list"
def cMt (T : MT) (g : Mt) (o : CE) (r : CA) : CE := fun ls S => (o ls S).bind fun p S1 => if isMT T p S1 then (r ls S1).bind fun ps S2 => g p ps S2 else .bad
section
variable {X : Cx} {G : Env1} {W : WX} {a o : Expr} {es : List Expr} {ca co : CE} {cr : CA}
theorem tyV_of {T : MT} {m : List Addr} {H : Hp} {S : Store} {p : PV} {v : V} (hK : X.K = G.K) (R : Rep G m H S) (r : VR G m H p v) (h : isMT T p S = true) : tyV X.K T.name v H := by
  cases T <;> cases p <;> first | (cases h; done) | skip
  · obtain ⟨rfl, _⟩ := r
    rfl
  · obtain ⟨b, rfl, h1⟩ := r
    rename_i n
    have h' : (lstAt S n).isSome = true := h
    obtain ⟨xs, hx⟩ := Option.isSome_iff_exists.mp h'
    obtain ⟨vs, g1, g2⟩ := R.seq (lstAt_is hx) h1
    exact .inl ⟨rfl, vs, by rw [hK]; exact g1⟩
theorem ev_mt {T : MT} {g : Mt} {id : String} {name : Str} {apos cpos : Pos} (hK : X.K = G.K) (pa : PlainAttrs T.name) (slot : Slot T.name name id) (hty : typeOf (.builtin id) = pure (.type "method_descriptor")) (hm : MtG X G id g) (ho : PEv X G W o co) (ha : PAv X G W (a :: es) cr)
    (hbase : attributeBase o name X.env (eval o X.env) = eval o X.env)
    (hfew : ((backTo cpos (starEach (a :: es) X.env)).all (fun x => !x.1) && (backToKw cpos (keywordEach [] X.env)).all (fun x => x.1.isSome)
      && decide ((a :: es).length + ([] : List Keyword).length + (if ([] : List Keyword).isEmpty then 0 else 1) < 30)) = true)
    (hline : (apos.endLine == cpos.line) = true) (hs : starEach (a :: es) X.env = (false, eval a X.env) :: starEach es X.env) (hplain : (backTo cpos (starEach es X.env)).any (·.1) = false) :
    PEv X G W (.Call (.Attribute o name apos) (a :: es) [] cpos) (cMt T g co cr) := by
  refine PEimp (pe_bm pa slot hty hm ho ha hbase hfew hline hs hplain) ?_
  rintro σ H Q ⟨m, ls, S, R, L, F⟩
  refine ⟨m, ls, S, R, L, Fin.step L F fun p S1 m1 H1 v e1 L1 R1 v1 F1 => ?_⟩
  split at F1
  · rename_i hp
    exact ⟨tyV_of hK R1 v1 hp, m1, ls, S1, R1, L1, Fin.step L1 F1 fun ps S2 m2 H2 vs e2 L2 R2 v2 F2 => ⟨m2, S2, p, ps, _, R2, v1.mono e2, v2, F2⟩⟩
  · exact F1.elim
theorem ev_mt0 {T : MT} {g : Mt} {id : String} {name : Str} {apos cpos : Pos} (hK : X.K = G.K) (pa : PlainAttrs T.name) (slot : Slot T.name name id) (hty : typeOf (.builtin id) = pure (.type "method_descriptor")) (hm : MtG X G id g) (ho : PEv X G W o co)
    (hbase : attributeBase o name X.env (eval o X.env) = eval o X.env) (hline : (apos.endLine == cpos.line) = true) :
    PEv X G W (.Call (.Attribute o name apos) [] [] cpos) (cMt T g co cNil) := by
  refine PEimp (pe_bm0 pa slot hty hm ho hbase hline) ?_
  rintro σ H Q ⟨m, ls, S, R, L, F⟩
  refine ⟨m, ls, S, R, L, Fin.step L F fun p S1 m1 H1 v e1 L1 R1 v1 F1 => ?_⟩
  split at F1
  · rename_i hp
    exact ⟨tyV_of hK R1 v1 hp, m1, S1, p, [], _, R1, v1, rfl, F1⟩
  · exact F1.elim
end

/-! the methods -/
def mAppend : Mt
  | .loc a, [q], S => match S[a]? with
    | some (.lst xs) => if xs.length < sizeLine then .ok .non (S.set a (.lst (xs ++ [q]))) else .bad
    | _ => .bad
  | _, _, _ => .bad
def mExtend : Mt
  | .loc a, [.loc b], S => match S[a]?, S[b]? with
    | some (.lst xs), some (.lst ys) => if xs.length + ys.length ≤ sizeLine then .ok .non (S.set a (.lst (xs ++ ys))) else .bad
    | _, _ => .bad
  | _, _, _ => .bad
def mPop : Mt
  | .loc a, [], S => match S[a]? with
    | some (.lst xs) => match xs[xs.length - 1]? with
      | some q => .ok q (S.set a (.lst xs.dropLast))
      | none => .bad
    | _ => .bad
  | .loc a, [.int i], S => match S[a]? with
    | some (.lst xs) => if -(2 ^ 63) ≤ i ∧ i < 2 ^ 63 then match seqIndex? i xs.length with
      | some k => match xs[k]? with
        | some q => .ok q (S.set a (.lst (xs.eraseIdx k)))
        | none => .bad
      | none => .bad
      else .bad
    | _ => .bad
  | _, _, _ => .bad
def mStrip (l r : Bool) : Mt
  | .str s, [.str t], S => .ok (.str (if r then rstripL t.contains (if l then lstripL t.contains s else s) else if l then lstripL t.contains s else s)) S
  | _, _, _ => .bad
def mSplit : Mt
  | .str s, [.str t], S => if t ≠ [] ∧ t.all (· < 256) = true ∧ s.length + 2 ≤ sizeLine then .ok (.loc S.length) (S ++ [.lst ((TL.spl t 0 [] s).map PV.str)]) else .bad
  | _, _, _ => .bad
/-- the texts, if they are all texts -/
def allStr : List PV → Option (List (List Nat))
  | [] => some []
  | .str s :: r => match allStr r with
    | some l => some (s :: l)
    | none => none
  | _ :: _ => none
def joinV (t : List Nat) (xs : List PV) (S : Store) : Out PV := match allStr xs with
  | some l => if (l.map List.length).sum + l.length * t.length ≤ 16777216 then .ok (.str (TL.joinL t l)) S else .bad
  | none => .bad
def mJoin : Mt
  | .str t, [.tup xs], S => joinV t xs S
  | .str t, [.loc a], S => match lstAt S a with
    | some xs => joinV t xs S
    | none => .bad
  | _, _, _ => .bad
theorem allStr_is : ∀ {xs : List PV} {l : List (List Nat)}, allStr xs = some l → xs = l.map PV.str
  | [], l, h => by cases h; rfl
  | .str s :: r, l, h => by
    unfold allStr at h
    split at h
    · rename_i k hk
      cases h
      rw [allStr_is hk]; rfl
    · cases h
  | .non :: _, _, h => by cases h
  | .bl _ :: _, _, h => by cases h
  | .int _ :: _, _, h => by cases h
  | .tup _ :: _, _, h => by cases h
  | .loc _ :: _, _, h => by cases h
theorem allStr_map : ∀ l : List (List Nat), allStr (l.map PV.str) = some l
  | [] => rfl
  | s :: r => by rw [List.map_cons, allStr, allStr_map r]
theorem joinL_mem {t : List Nat} {c : Nat} : ∀ {l : List (List Nat)}, c ∈ TL.joinL t l → c ∈ t ∨ ∃ s ∈ l, c ∈ s
  | [], h => by cases h
  | [s], h => .inr ⟨s, List.mem_singleton.mpr rfl, h⟩
  | s :: u :: r, h => by
    have h' : c ∈ s ++ (t ++ TL.joinL t (u :: r)) := h
    rcases List.mem_append.mp h' with h' | h'
    · exact .inr ⟨s, List.mem_cons_self, h'⟩
    · rcases List.mem_append.mp h' with h' | h'
      · exact .inl h'
      · rcases joinL_mem h' with h' | ⟨w, h1, h2⟩
        · exact .inl h'
        · exact .inr ⟨w, List.mem_cons_of_mem _ h1, h2⟩
theorem joinL_len {t : List Nat} : ∀ {l : List (List Nat)}, (TL.joinL t l).length ≤ (l.map List.length).sum + l.length * t.length
  | [] => Nat.zero_le _
  | [s] => by
    show s.length ≤ _
    simp
  | s :: u :: r => by
    have ih := joinL_len (t := t) (l := u :: r)
    show (s ++ (t ++ TL.joinL t (u :: r))).length ≤ _
    rw [List.length_append, List.length_append, List.map_cons, List.sum_cons, List.length_cons (a := s), Nat.succ_mul]
    omega
theorem spl_mem {t : List Nat} {c : Nat} : ∀ {s : List Nat} {k : Nat} {acc : List Nat} {p : List Nat}, p ∈ TL.spl t k acc s → c ∈ p → c ∈ acc ∨ c ∈ s
  | [], k, acc, p, h, hc => by
    rw [TL.spl_nil] at h
    rw [List.mem_singleton.mp h] at hc
    exact .inl hc
  | d :: r, k + 1, acc, p, h, hc => by
    have h' : p ∈ TL.spl t k acc r := by
      rw [TL.spl_pass] at h ⊢
      exact h
    rcases spl_mem h' hc with q | q
    · exact .inl q
    · exact .inr (List.mem_cons_of_mem _ q)
  | d :: r, 0, acc, p, h, hc => by
    by_cases hp : TL.pre t (d :: r) = true
    · rw [TL.spl_hit hp] at h
      rcases List.mem_cons.mp h with rfl | h
      · exact .inl hc
      · rcases spl_mem h hc with q | q
        · cases q
        · exact .inr (List.mem_cons_of_mem _ q)
    · rw [TL.spl_miss (Bool.not_eq_true _ ▸ hp)] at h
      rcases spl_mem h hc with q | q
      · rcases List.mem_append.mp q with q | q
        · exact .inl q
        · rw [List.mem_singleton.mp q]; exact .inr List.mem_cons_self
      · exact .inr (List.mem_cons_of_mem _ q)
theorem spl_len {t : List Nat} : ∀ {s : List Nat} {k : Nat} {acc : List Nat} {p : List Nat}, p ∈ TL.spl t k acc s → p.length ≤ acc.length + s.length
  | [], k, acc, p, h => by
    rw [TL.spl_nil] at h
    rw [List.mem_singleton.mp h]
    exact Nat.le_refl _
  | d :: r, k + 1, acc, p, h => by
    have h' : p ∈ TL.spl t k acc r := by
      rw [TL.spl_pass] at h ⊢
      exact h
    have := spl_len h'
    rw [List.length_cons]; omega
  | d :: r, 0, acc, p, h => by
    by_cases hp : TL.pre t (d :: r) = true
    · rw [TL.spl_hit hp] at h
      rcases List.mem_cons.mp h with rfl | h
      · omega
      · have := spl_len h
        rw [List.length_cons]
        simp at this
        omega
    · rw [TL.spl_miss (Bool.not_eq_true _ ▸ hp)] at h
      have := spl_len h
      rw [List.length_append, List.length_singleton] at this
      rw [List.length_cons]; omega
section
variable {X : Cx} {G : Env1}
theorem mg_append : MtG X G "list.append" mAppend := by
  refine MRimp (show MtR X "list.append" rAppend from mt_append) ?_
  rintro x xs H Q ⟨m, S, p, ps, E, R, r, rs, F⟩
  unfold mAppend at F
  split at F
  · obtain ⟨a, rfl, hm⟩ := r
    obtain ⟨v, rfl, h1⟩ := VRs.one' rs
    split at F
    · rename_i ys hy
      split at F
      · rename_i hl
        obtain ⟨vs, g1, g2⟩ := R.at hy hm
        exact ⟨a, vs, v, rfl, rfl, g1, by rw [← g2.length]; exact hl, fin_set F R hm g1 (g2.append (VRs.one h1)) rfl⟩
      · exact F.elim
    · exact F.elim
  · exact F.elim
theorem mg_extend : MtG X G "list.extend" mExtend := by
  refine MRimp (show MtR X "list.extend" rExtend from mt_extend) ?_
  rintro x xs H Q ⟨m, S, p, ps, E, R, r, rs, F⟩
  unfold mExtend at F
  split at F
  · obtain ⟨a, rfl, hm⟩ := r
    obtain ⟨v, rfl, b, rfl, hb⟩ := VRs.one' rs
    split at F
    · rename_i ys zs hy hz
      split at F
      · rename_i hl
        obtain ⟨vs, g1, g2⟩ := R.at hy hm
        obtain ⟨ws, g3, g4⟩ := R.at hz hb
        exact ⟨a, b, vs, ws, rfl, rfl, g1, g3, by rw [← g2.length, ← g4.length]; exact hl, fin_set F R hm g1 (g2.append g4) rfl⟩
      · exact F.elim
    · exact F.elim
  · exact F.elim
theorem mg_pop : MtG X G "list.pop" mPop := by
  refine MRimp (MtR.or (show MtR X "list.pop" rPop from mt_pop) (show MtR X "list.pop" rPopAt from mt_popAt)) ?_
  rintro x xs H Q ⟨m, S, p, ps, E, R, r, rs, F⟩
  unfold mPop at F
  split at F
  · obtain ⟨a, rfl, hm⟩ := r
    cases rs
    split at F
    · rename_i ys hy
      split at F
      · rename_i q hq
        obtain ⟨vs, g1, g2⟩ := R.at hy hm
        obtain ⟨u, h3, h4⟩ := g2.get hq
        exact .inl ⟨a, vs, u, rfl, rfl, g1, by rw [← g2.length]; exact h3, fin_set F R hm g1 g2.dropLast (h4.mono (ext_set R (List.mem_of_getElem? hm) g1 (lst_noRd g1)))⟩
      · exact F.elim
    · exact F.elim
  · obtain ⟨a, rfl, hm⟩ := r
    obtain ⟨v, rfl, rfl⟩ := VRs.one' rs
    split at F
    · rename_i ys hy
      split at F
      · rename_i hb
        split at F
        · rename_i k hk
          split at F
          · rename_i q hq
            obtain ⟨vs, g1, g2⟩ := R.at hy hm
            obtain ⟨u, h3, h4⟩ := g2.get hq
            exact .inr ⟨a, vs, _, k, u, rfl, rfl, g1, hb.1, hb.2, by rw [← g2.length]; exact hk, h3, fin_set F R hm g1 (g2.eraseIdx k) (h4.mono (ext_set R (List.mem_of_getElem? hm) g1 (lst_noRd g1)))⟩
          · exact F.elim
        · exact F.elim
      · exact F.elim
    · exact F.elim
  · exact F.elim
theorem mg_strip0 {id : String} {l r : Bool} (h : MtR X id (fun x xs H Q => ∃ a b, x = .str a ∧ xs = [.str b] ∧ a.length ≤ sizeLine ∧ Q (.str (Txt.stripBy b.cps.contains l r a)) H)) : MtG X G id (mStrip l r) := by
  refine MRimp h ?_
  rintro x xs H Q ⟨m, S, p, ps, E, R, rr, rs, F⟩
  unfold mStrip at F
  split at F
  · rename_i s t
    obtain ⟨rfl, k⟩ := rr
    obtain ⟨v, rfl, rfl, k2⟩ := VRs.one' rs
    refine ⟨_, _, rfl, rfl, by rw [str_cast]; exact k.len, ?_⟩
    rw [contains_list, stripBy_list]
    refine F.here R ⟨rfl, ?_⟩
    cases l <;> cases r
    · exact k
    · exact sok_r k
    · exact sok_l k
    · exact sok_r (sok_l k)
  · exact F.elim
theorem mg_strip : MtG X G "str.strip" (mStrip true true) := mg_strip0 mt_stripChars
theorem mg_lstrip : MtG X G "str.lstrip" (mStrip true false) := mg_strip0 mt_lstripChars
theorem mg_rstrip : MtG X G "str.rstrip" (mStrip false true) := mg_strip0 mt_rstripChars
theorem mg_split : MtG X G "str.split" mSplit := by
  refine MRimp mt_split ?_
  rintro x xs H Q ⟨m, S, p, ps, E, R, rr, rs, F⟩
  unfold mSplit at F
  split at F
  · rename_i s t
    obtain ⟨rfl, k⟩ := rr
    obtain ⟨v, rfl, rfl, k2⟩ := VRs.one' rs
    split at F
    · rename_i hc
      refine ⟨_, _, rfl, rfl, ?_, by rw [str_cast]; exact hc.2.2, ?_⟩
      · rw [str_cast]
        cases t with
        | nil => exact absurd rfl hc.1
        | cons c r => rfl
      · have e : Txt.split (mkS s) (mkS t) = (TL.spl t 0 [] s).map mkS := SX.split_S hc.1 hc.2.1
        rw [e]
        refine fin_new F R (VRs.of_strs fun p hp => ⟨fun c hcp => ?_, ?_⟩)
        · rcases spl_mem hp hcp with q | q
          · cases q
          · exact k.cp c q
        · have := spl_len hp
          have := k.len
          simp at *
          omega
    · exact F.elim
  · exact F.elim
theorem mg_join (hK : X.K = G.K) : MtG X G "str.join" mJoin := by
  refine MRimp mt_join ?_
  rintro x xs H Q ⟨m, S, p, ps, E, R, rr, rs, F⟩
  have key : ∀ (t : List Nat) (zs : List PV) (vs : List V), SOk t → VRs G m H zs vs → Fin G m H (VR G) Q E (joinV t zs S) → ∃ ys : List Str, vs = ys.map V.str ∧ (ys.map (·.length)).sum + ys.length * (mkS t).length ≤ 16777216 ∧ Q (.str (Txt.join (mkS t) ys)) H := by
    intro t zs vs kt rz F
    unfold joinV at F
    split at F
    · rename_i l hl
      split at F
      · rename_i hc
        rw [allStr_is hl] at rz
        obtain ⟨e, ks⟩ := VRs.strs rz
        refine ⟨l.map mkS, e, ?_, ?_⟩
        · rw [SX.lens, List.length_map, str_cast]
          exact hc
        · have ej : Txt.join (mkS t) (l.map mkS) = mkS (TL.joinL t l) := SX.join_S t l
          rw [ej]
          refine F.here R ⟨rfl, fun c hc' => ?_, ?_⟩
          · rcases joinL_mem hc' with q | ⟨s, q1, q2⟩
            · exact kt.cp c q
            · exact (ks s q1).cp c q2
          · rw [sizeLine_eq]
            exact Nat.le_trans joinL_len hc
      · exact F.elim
    · exact F.elim
  unfold mJoin at F
  split at F
  · obtain ⟨rfl, k⟩ := rr
    obtain ⟨v, rfl, a, vs, rfl, h1, h2⟩ := VRs.one' rs
    obtain ⟨ys, rfl, h3, h4⟩ := key _ _ _ k h2 F
    exact ⟨_, a, ys, rfl, rfl, .inr (by rw [hK]; exact h1), h3, h4⟩
  · obtain ⟨rfl, k⟩ := rr
    obtain ⟨v, rfl, a, rfl, hm⟩ := VRs.one' rs
    split at F
    · rename_i zs hz
      obtain ⟨vs, g1, g2⟩ := R.seq (lstAt_is hz) hm
      obtain ⟨ys, rfl, h3, h4⟩ := key _ _ _ k g2 F
      exact ⟨_, a, ys, rfl, rfl, .inl (by rw [hK]; exact g1), h3, h4⟩
    · exact F.elim
  · exact F.elim
end

/-! ### defs of the program -/
def spOf (G : Env1) (g : Fn) : Sp := fun vs H Q E => ∃ m S ps, Rep G m H S ∧ VRs G m H ps vs ∧ Fin G m H (VR G) Q E (g ps S)
section
variable {X : Cx} {G : Env1} {W : WX} {a : Expr} {es : List Expr} {ca : CE} {cr ck : CA} {k : Nat} {f : Addr} {fd : FuncData} {ps ks : List Str} {g : Fn} {x : Str} {p pos : Pos}
theorem ev_call (F : FnOk X.prog X.w X.K X.mg X.base (L2.CX X.prog X.w) k f fd ps (spOf G g)) (hr : Room k X.A) (hg : Gl X x) (hm : X.mg x = some (.ref f)) (hk : PySem.W.keepIn X.K (.ref f) = true) (hb : Binds X.K fd ps []) (tk : Takes X W)
    (ha : PAv X G W (a :: es) cr) (hdb : (x == ("__debug__" : Str)) = false) (he : starEach (a :: es) X.env = (false, eval a X.env) :: starEach es X.env) (hpl : (backTo pos (starEach es X.env)).any (·.1) = false) :
    PEv X G W (.Call (.Name x p) (a :: es) [] pos) (cCall g cr) := by
  refine PEimp (pe_callS F hr hg hm hk hb (fun σ => passAt tk σ) ha hdb he hpl) ?_
  rintro σ H Q ⟨m, ls, S, R, L, Fi⟩
  exact ⟨m, ls, S, R, L, Fin.step L Fi fun ps S1 m1 H1 vs e1 L1 R1 v1 F1 => ⟨m1, S1, ps, R1, v1, F1⟩⟩
theorem ev_call0 (F : FnOk X.prog X.w X.K X.mg X.base (L2.CX X.prog X.w) k f fd ps (spOf G g)) (hr : Room k X.A) (hg : Gl X x) (hm : X.mg x = some (.ref f)) (hk : PySem.W.keepIn X.K (.ref f) = true) (hb : Binds X.K fd ps []) (tk : Takes X W) (hdb : (x == ("__debug__" : Str)) = false) :
    PEv X G W (.Call (.Name x p) [] [] pos) (cCall g cNil) := by
  refine ⟨fun pins s σ H Q I h => ?_⟩
  obtain ⟨m, ls, S, R, L, Fi⟩ := h
  refine wpAny_Call_Name_kw (ld_glob I hg hm ?_ hdb)
  exact PySem.W.callWith_K0 I.kIn hk (run_fnS (E := WE W) (us := []) F hr hb (passAt tk σ) I .nil ⟨m, S, [], R, rfl, Fi⟩)

/-- how a call by names binds: the positional values, then the named ones, put into the parameters' order by π -/
structure KB (K : PySem.W.Frag) (fd : FuncData) (ps ks : List Str) (π : List Nat) : Prop where
  to : ∀ (s : Shared) (us ws : List Value), (us ++ ws).length = ps.length → ws.length = ks.length → BindsTo s fd ⟨us, ks.zip ws⟩ (ps.zip (π.filterMap ((us ++ ws)[·]?)))
theorem paired_pick {vs : List V} {us : List Value} (r : Vals vs us) : ∀ π : List Nat, Vals (π.filterMap (vs[·]?)) (π.filterMap (us[·]?))
  | [] => .nil
  | i :: π => by
    rw [List.filterMap_cons, List.filterMap_cons]
    cases e : vs[i]? with
    | none => rw [r.none_of e]; exact paired_pick r π
    | some v =>
      obtain ⟨u, h1, h2⟩ := r.get e
      rw [h1]
      exact .cons h2 (paired_pick r π)
theorem VRs.pick {m : List Addr} {H : Hp} {l : List PV} {vs : List V} (r : VRs G m H l vs) : ∀ π : List Nat, VRs G m H (π.filterMap (l[·]?)) (π.filterMap (vs[·]?))
  | [] => rfl
  | i :: π => by
    rw [List.filterMap_cons, List.filterMap_cons]
    cases e : l[i]? with
    | none =>
      have h1 : l.length ≤ i := List.getElem?_eq_none_iff.mp e
      have h2 : vs[i]? = none := List.getElem?_eq_none_iff.mpr (by rw [← r.length]; exact h1)
      rw [h2]; exact VRs.pick r π
    | some v =>
      obtain ⟨u, h1, h2⟩ := r.get e
      rw [h1]
      exact ⟨u, _, rfl, h2, VRs.pick r π⟩
theorem run_fnKS {E : XK} {π : List Nat} {pins : List (Addr × Obj)} {σ : L2.St} {H : Hp} {s : Shared} {Q : VK} {us ws : List Value} {vs zs : List V} {sp : Sp} (F : FnOk X.prog X.w X.K X.mg X.base (L2.CX X.prog X.w) k f fd ps sp) (hr : Room k X.A) (hb : KB X.K fd ps ks π)
    (hx : PassesAt (L2.CX X.prog X.w) X σ E) (I : Inv X pins σ H s) (r : Vals vs us) (rz : Vals zs ws) (hl : (vs ++ zs).length = ps.length) (hl2 : zs.length = ks.length) (h : sp (π.filterMap ((vs ++ zs)[·]?)) H Q E) :
    wpAny (model X.prog X.w) X.A (call (.ref f) us (ks.zip ws)) (EP X pins σ Q) X.xe s := by
  have r2 : Vals (vs ++ zs) (us ++ ws) := r.append rz
  have b := hb.to s us ws (by rw [← r2.length]; exact hl) (by rw [← rz.length]; exact hl2)
  refine wpAny_call (codeAny_mono (F.run X.A X.stack s H ⟨us, ks.zip ws⟩ _ _ Q E hr I.env0 b (paired_pick r2 π) h) fun r s' hq => ?_)
  cases r with
  | error e => exact hx pins H s e s' I hq
  | ok fl =>
    cases fl with
    | ret u => exact I.after hq
    | next => exact False.elim hq
    | brk => exact False.elim hq
    | cont => exact False.elim hq
def cCallK (g : Fn) (π : List Nat) (np nk : Nat) (r rk : CA) : CE := fun ls S => (r ls S).bind fun ps S1 => (rk ls S1).bind fun qs S2 => if ps.length + qs.length = np ∧ qs.length = nk then g (π.filterMap ((ps ++ qs)[·]?)) S2 else .bad
/-- the values of the keywords -/
abbrev PKv (X : Cx) (G : Env1) (W : WX) (e : List Keyword) (c : CA) : Prop := PK X e (EvA G W c)
theorem PKimp {X : Cx} {e : List Keyword} {t t' : TA} (h : PK X e t) (i : ∀ σ H Q, t' σ H Q → t σ H Q) : PK X e t' := ⟨fun p pins s σ H Q I q => h.run p pins s σ H Q I (i σ H Q q)⟩
theorem evk_nil : PKv X G W [] cNil := by
  refine PKimp pk_nil ?_
  rintro σ H Q ⟨m, ls, S, R, L, F⟩
  exact F.here R rfl
theorem evk_cons {nm : Option Str} {kpos : Pos} {kws : List Keyword} (ha : PEv X G W a ca) (hr : PKv X G W kws ck) : PKv X G W (⟨nm, a, kpos⟩ :: kws) (cCons ca ck) := by
  refine PKimp (pk_cons ha hr) ?_
  rintro σ H Q ⟨m, ls, S, R, L, F⟩
  exact ⟨m, ls, S, R, L, Fin.step L F fun p S1 m1 H1 v e1 L1 R1 v1 F1 => ⟨m1, ls, S1, R1, L1, Fin.step L1 F1 fun ps S2 m2 H2 vs e2 L2 R2 v2 F2 => F2.here R2 ⟨v, vs, rfl, v1.mono e2, v2⟩⟩⟩
theorem ev_callK {π : List Nat} {kws : List Keyword} (F : FnOk X.prog X.w X.K X.mg X.base (L2.CX X.prog X.w) k f fd ps (spOf G g)) (hr : Room k X.A) (hg : Gl X x) (hm : X.mg x = some (.ref f)) (hk : PySem.W.keepIn X.K (.ref f) = true) (hb : KB X.K fd ps ks π) (tk : Takes X W)
    (hkw : PKv X G W kws ck) (ha : PAv X G W (a :: es) cr) (hdb : (x == ("__debug__" : Str)) = false)
    (hall : (backToKw pos (keywordEach kws X.env)).all (·.1.isSome) = true) (hks : (backToKw pos (keywordEach kws X.env)).filterMap (·.1) = ks)
    (he : starEach (a :: es) X.env = (false, eval a X.env) :: starEach es X.env)
    (hpl : ((backTo pos (starEach (a :: es) X.env)).any (·.1) || (backToKw pos (keywordEach kws X.env)).any (·.1.isNone)) = false) :
    PEv X G W (.Call (.Name x p) (a :: es) kws pos) (cCallK g π ps.length ks.length cr ck) := by
  refine ⟨fun pins s σ H Q I h => ?_⟩
  obtain ⟨m, ls, S, R, L, Fi⟩ := h
  refine wpAny_Call_Name_kw (ld_glob I hg hm ?_ hdb)
  refine PySem.W.callWith_KW (h₀ := X.base) I.ok.mod.kin hk hall (thn (ha.run pos pins s σ H _ I ⟨m, ls, S, R, L, Fin.step L Fi fun l1 S1 m1 H1 vs e1 L1 R1 v1 F1 => (⟨l1, S1, m1, L1, R1, v1, F1⟩ : ∃ l1 S1 m1, LR G m1 H1 ls σ ∧ Rep G m1 H1 S1 ∧ VRs G m1 H1 l1 vs ∧ Fin G m1 H1 (VR G) Q (fun cls d H' => W cls d σ H') ((ck ls S1).bind fun qs S2 => if l1.length + qs.length = ps.length ∧ qs.length = ks.length then g (π.filterMap ((l1 ++ qs)[·]?)) S2 else .bad))⟩)
    fun us s1 ⟨vs, H1, I1, r1, l1, S1, m1, L1, R1, v1, F1⟩ => ?_) hpl he
  refine thn (hkw.run pos pins s1 σ H1 _ I1 ⟨m1, ls, S1, R1, L1, Fin.step L1 F1 fun l2 S2 m2 H2 zs e2 L2 R2 v2 F2 => (⟨l2, S2, m2, R2, v1.mono e2, v2, F2⟩ : ∃ l2 S2 m2, Rep G m2 H2 S2 ∧ VRs G m2 H2 l1 vs ∧ VRs G m2 H2 l2 zs ∧ Fin G m2 H2 (VR G) Q (fun cls d H' => W cls d σ H') (if l1.length + l2.length = ps.length ∧ l2.length = ks.length then g (π.filterMap ((l1 ++ l2)[·]?)) S2 else .bad))⟩)
    fun ws s2 ⟨zs, H2, I2, r2, l2, S2, m2, R2, v1', v2, F2⟩ => ⟨I2.kIn, ?_⟩
  split at F2
  · rename_i hc
    rw [hks]
    exact run_fnKS (E := WE W σ) F hr hb (passAt tk σ) I2 r1 r2 (by rw [List.length_append, ← v1'.length, ← v2.length]; exact hc.1) (by rw [← v2.length]; exact hc.2) ⟨m2, S2, _, R2, (v1'.append v2).pick π, F2⟩
  · exact F2.elim
theorem ev_callK0 {π : List Nat} {kws : List Keyword} (F : FnOk X.prog X.w X.K X.mg X.base (L2.CX X.prog X.w) k f fd ps (spOf G g)) (hr : Room k X.A) (hg : Gl X x) (hm : X.mg x = some (.ref f)) (hk : PySem.W.keepIn X.K (.ref f) = true) (hb : KB X.K fd ps ks π) (tk : Takes X W)
    (hkw : PKv X G W kws ck) (hdb : (x == ("__debug__" : Str)) = false)
    (hall : (backToKw pos (keywordEach kws X.env)).all (·.1.isSome) = true) (hks : (backToKw pos (keywordEach kws X.env)).filterMap (·.1) = ks)
    (hpl : ((backTo pos (starEach [] X.env)).any (·.1) || (backToKw pos (keywordEach kws X.env)).any (·.1.isNone)) = false) :
    PEv X G W (.Call (.Name x p) [] kws pos) (cCallK g π ps.length ks.length cNil ck) := by
  refine ⟨fun pins s σ H Q I h => ?_⟩
  obtain ⟨m, ls, S, R, L, Fi⟩ := h
  refine wpAny_Call_Name_kw (ld_glob I hg hm ?_ hdb)
  have Fj : Fin G m H (VR G) Q (fun cls d H' => W cls d σ H') ((ck ls S).bind fun qs S2 => if ([] : List PV).length + qs.length = ps.length ∧ qs.length = ks.length then g (π.filterMap ((([] : List PV) ++ qs)[·]?)) S2 else .bad) := Fi
  refine PySem.W.callWith_KW0 (h₀ := X.base) I.ok.mod.kin hk hall (thn (hkw.run pos pins s σ H _ I ⟨m, ls, S, R, L, Fin.step L Fj fun l2 S2 m2 H2 zs e2 L2 R2 v2 F2 => (⟨l2, S2, m2, R2, v2, F2⟩ : ∃ l2 S2 m2, Rep G m2 H2 S2 ∧ VRs G m2 H2 l2 zs ∧ Fin G m2 H2 (VR G) Q (fun cls d H' => W cls d σ H') (if ([] : List PV).length + l2.length = ps.length ∧ l2.length = ks.length then g (π.filterMap ((([] : List PV) ++ l2)[·]?)) S2 else .bad))⟩)
    fun ws s2 ⟨zs, H2, I2, r2, l2, S2, m2, R2, v2, F2⟩ => ⟨I2.kIn, ?_⟩) hpl
  split at F2
  · rename_i hc
    rw [hks]
    exact run_fnKS (E := WE W σ) (us := []) F hr hb (passAt tk σ) I2 .nil r2 (by rw [List.nil_append, ← v2.length]; simpa using hc.1) (by rw [← v2.length]; exact hc.2) ⟨m2, S2, _, R2, v2.pick π, F2⟩
  · exact F2.elim
end
end Bm

/-! Bm, part F: what is walked. -/
namespace Bm
open PySem PySem.Spec PyProof.Rows L2

/-! ### a list, a tuple, a text as what zip and enumerate draw from -/
inductive Sk where
  | l (a : Addr) | t (a : Addr) | s (z : Str) (tk : Tok)
def Sk.val : Sk → Value
  | .l a => .ref a | .t a => .ref a | .s z tk => .str z tk
def Sk.src : Sk → List Addr
  | .l a => [a] | .t a => [a] | .s _ _ => []
def Sk.obj : Sk → Obj
  | .l a => { cls := .type "list_iterator", data := .fields #[.ref a, .int 0 0] }
  | .t a => { cls := .type "tuple_iterator", data := .fields #[.ref a, .int 0 0] }
  | .s z tk => { cls := .type (strIterType z), data := .fields #[.str z tk, .int 0 0] }
def Sk.own (it : Addr) (i : Nat) (h : Heap) : Sk → Prop
  | .l a => h.IsListIter it a i
  | .t a => h.IsTupleIter it a i
  | .s z tk => h.IsStrIter it (strIterType z) z tk i
def Sk.held (its : Array Value) (h : Heap) : Sk → Prop
  | .l a => h.IsList a its
  | .t a => h.IsTuple a its
  | .s _ _ => True
def Sk.num (its : Array Value) : Sk → Nat
  | .l _ => its.size | .t _ => its.size | .s z _ => z.cps.size
def Sk.gives (its : Array Value) (i : Nat) (v : Value) : Sk → Prop
  | .l _ => its[i]? = some v
  | .t _ => its[i]? = some v
  | .s z _ => ∃ c u, z.cps[i]? = some c ∧ v = .str ⟨#[c]⟩ u
def sgs (z : Str) : List V := z.cps.toList.map fun c => V.str ⟨#[c]⟩
def Sk.hold (K : PySem.W.Frag) (H : Hp) (xs : List V) : Sk → Prop
  | .l a => SqL K H a xs
  | .t a => SqT K H a xs
  | .s z _ => xs = sgs z
theorem Sk.draws {prog : Program} {w : World} {A : Around} (hh : A.handled = none) (it : Addr) (k : Sk) (hne : it ∉ k.src) (its : Array Value) :
    Draws prog w A it (it :: k.src) (k.num its) (fun i v => k.gives its i v) (fun i h => k.own it i h ∧ k.held its h) := by
  cases k with
  | l a => exact Draws.list hh it a (fun e => hne (by simp [Sk.src, e])) its
  | t a => exact Draws.tuple hh it a (fun e => hne (by simp [Sk.src, e])) its
  | s z tk =>
    have D := Draws.text (prog := prog) (w := w) (A := A) hh it z tk
    exact ⟨fun i h st => D.live i h st.1, fun i h h' st hk => ⟨D.frame i h h' st.1 hk, trivial⟩, fun i s Q E hi st hQ => D.item i s Q E hi st.1 fun x h' tk' hP st' hs => hQ x h' tk' hP ⟨st', trivial⟩ hs, fun s Q E st hE => D.done s Q E st.1 hE⟩
theorem Sk.begins (k : Sk) (its : Array Value) : Begins k.val k.obj fun h => k.held its h := by
  cases k with
  | l a => exact begins_list a its
  | t a => exact begins_tuple a its
  | s z tk => exact begins_text z tk
theorem Sk.born {h : Heap} {it : Addr} (k : Sk) (e : h.get? it = some k.obj) : k.own it 0 h := by
  cases k with
  | l a => exact ⟨_, e, rfl, rfl⟩
  | t a => exact ⟨_, e, rfl, rfl⟩
  | s z tk => exact ⟨_, e, rfl, rfl⟩
theorem Sk.ownObj {h : Heap} {it : Addr} {i : Nat} (k : Sk) (e : k.own it i h) : ∃ o, h.get? it = some o ∧ ∀ v, o.data ≠ .cell v := by
  cases k with
  | l a => obtain ⟨o, e1, _, d⟩ := e; exact ⟨o, e1, fun v q => by rw [d] at q; cases q⟩
  | t a => obtain ⟨o, e1, _, d⟩ := e; exact ⟨o, e1, fun v q => by rw [d] at q; cases q⟩
  | s z tk => obtain ⟨o, e1, _, d⟩ := e; exact ⟨o, e1, fun v q => by rw [d] at q; cases q⟩
theorem Sk.ownAt {h h' : Heap} {it : Addr} {i : Nat} (k : Sk) (e : k.own it i h) (q : ∀ o, h.get? it = some o → h'.get? it = some o) : k.own it i h' := by
  cases k with
  | l a => exact Heap.IsListIter.at e q
  | t a => exact Heap.IsTupleIter.at e q
  | s z tk => obtain ⟨o, e1, c, d⟩ := e; exact ⟨o, q o e1, c, d⟩
section
variable {X : Cx} {pins : List (Addr × Obj)} {σ : L2.St} {H : Hp} {s : Shared}
theorem sgs_len (z : Str) : (sgs z).length = z.cps.size := by simp [sgs]
theorem Sk.read (I : Inv X pins σ H s) (k : Sk) {xs : List V} (h : k.hold X.K H xs) : ∃ its : Array Value, k.held its s.heap ∧ k.num its = xs.length ∧ ∀ i v, k.gives its i v → ∃ x, xs[i]? = some x ∧ RelV x v := by
  cases k with
  | l a =>
    obtain ⟨its, r, p, hz⟩ := I.list h
    refine ⟨its.toArray, p.isList, by simp [Sk.num, r.length], fun i v g => ?_⟩
    have g' : its[i]? = some v := by
      have g'' : its.toArray[i]? = some v := g
      simpa using g''
    cases e : xs[i]? with
    | none => rw [r.none_of e] at g'; cases g'
    | some x =>
      obtain ⟨u, h1, h2⟩ := r.get e
      rw [h1] at g'; cases g'
      exact ⟨x, rfl, h2⟩
  | t a =>
    obtain ⟨its, r, p, hz⟩ := I.tuple h
    refine ⟨its.toArray, p, by simp [Sk.num, r.length], fun i v g => ?_⟩
    have g' : its[i]? = some v := by
      have g'' : its.toArray[i]? = some v := g
      simpa using g''
    cases e : xs[i]? with
    | none => rw [r.none_of e] at g'; cases g'
    | some x =>
      obtain ⟨u, h1, h2⟩ := r.get e
      rw [h1] at g'; cases g'
      exact ⟨x, rfl, h2⟩
  | s z tk =>
    have h' : xs = sgs z := h
    subst h'
    refine ⟨#[], trivial, by rw [sgs_len]; rfl, fun i v g => ?_⟩
    obtain ⟨c, u, h1, rfl⟩ := g
    refine ⟨.str ⟨#[c]⟩, ?_, u, rfl⟩
    unfold sgs
    rw [List.getElem?_map]
    have : z.cps.toList[i]? = some c := by simpa using h1
    rw [this]; rfl
theorem Sk.inj (I : Inv X pins σ H s) (k : Sk) {xs ys : List V} (h : k.hold X.K H xs) (h' : k.hold X.K H ys) : xs = ys := by
  cases k with
  | l a => exact I.list_inj h h'
  | t a => exact I.tuple_inj h h'
  | s z tk => exact (show xs = sgs z from h).trans (show ys = sgs z from h').symm
end

/-! ### zip(a, b) -/
def ItZ (K : PySem.W.Frag) (k1 k2 : Sk) (n : Nat) : It :=
  ⟨fun i H => i < n ∧ ∃ xs ys, k1.hold K H xs ∧ k2.hold K H ys ∧ n = min xs.length ys.length,
    fun i H v H' => ∃ T x y, v = .ref T ∧ H T = none ∧ H' = upd H T (.tup [x, y]) ∧ (∀ xs, k1.hold K H xs → xs[i]? = some x) ∧ ∀ ys, k2.hold K H ys → ys[i]? = some y,
    fun i H => i = n ∧ ∃ xs ys, k1.hold K H xs ∧ k2.hold K H ys ∧ n = min xs.length ys.length⟩
theorem turn_zipM {P : Program} {w : World} {K : PySem.W.Frag} {elts : List Expr} {kk : Nat} {tpos : Pos} {k1 k2 : Sk} {n : Nat} {z TI TO i1 i2 : Addr} (D : ZipSep2 z TI TO i1 i2 (i1 :: k1.src) (i2 :: k2.src)) (n1 : i1 ∉ k1.src) (n2 : i2 ∉ k2.src) :
    Turn P w K (.Tuple elts kk tpos) (ItZ K k1 k2 n) [z, TI, TO, i1, i2] z (fun i h => IsZip h z TI TO .none ∧ IsTupOf2 h TI (.ref i1) (.ref i2) ∧ (∃ a1 a2, IsTupOf2 h TO a1 a2) ∧ k1.own i1 i h ∧ k2.own i2 i h) where
  mem := by simp
  obj := fun i h st c hc => by
    obtain ⟨hz, hTI, ⟨x, y, hTO⟩, h1, h2⟩ := st
    have e' : c = z ∨ c = TI ∨ c = TO ∨ c = i1 ∨ c = i2 := by simpa using hc
    rcases e' with q | q | q | q | q
    · rw [q]; exact ⟨_, hz, fun v q => nomatch q⟩
    · rw [q]; exact ⟨_, hTI, fun v q => nomatch q⟩
    · rw [q]; exact ⟨_, hTO, fun v q => nomatch q⟩
    · rw [q]; exact k1.ownObj h1
    · rw [q]; exact k2.ownObj h2
  keep := fun i h h' st k => by
    obtain ⟨hz, hTI, ⟨x, y, hTO⟩, h1, h2⟩ := st
    exact ⟨k z (by simp) _ hz, k TI (by simp) _ hTI, ⟨x, y, k TO (by simp) _ hTO⟩, k1.ownAt h1 fun o q => k i1 (by simp) o q, k2.ownAt h2 fun o q => k i2 (by simp) o q⟩
  item := by
    intro X hP hw hK hc i pins s σ H E I hf st hg
    subst hP hw hK
    obtain ⟨hi, xs, ys, hqx, hqy, hn⟩ := hg
    obtain ⟨its, p1, m1, g1⟩ := k1.read I hqx
    obtain ⟨its2, p2, m2, g2⟩ := k2.read I hqy
    have hd : X.A.in1.handled = none := I.ok.hd hc
    have W := GoesN.zip2 (A := X.A) (elts := elts) (x1 := kk) (pos := tpos) D (k1.draws (prog := X.prog) (w := X.w) hd i1 n1 its) (k2.draws (prog := X.prog) (w := X.w) hd i2 n2 its2)
    obtain ⟨hz, hTI, hTO, h1, h2⟩ := st
    have lt : ∀ c, c ∈ [z, TI, TO, i1, i2] → c < s.heap.objs.size := fun c hcm => by
      have e' : c = z ∨ c = TI ∨ c = TO ∨ c = i1 ∨ c = i2 := by simpa using hcm
      rcases e' with q | q | q | q | q
      · rw [q]; exact Heap.lt_size hz
      · rw [q]; exact Heap.lt_size hTI
      · rw [q]; obtain ⟨_, _, hTO⟩ := hTO; exact Heap.lt_size hTO
      · rw [q]; obtain ⟨_, e1, _⟩ := k1.ownObj h1; exact Heap.lt_size e1
      · rw [q]; obtain ⟨_, e2, _⟩ := k2.ownObj h2; exact Heap.lt_size e2
    refine wpAny_mono (W.goes i s (fun v s2 => ∃ x H', Inv X pins σ H' s2 ∧ RelV x v ∧ (ItZ X.K k1 k2 n).yld i H x H' ∧ (IsZip s2.heap z TI TO .none ∧ IsTupOf2 s2.heap TI (.ref i1) (.ref i2) ∧ (∃ a1 a2, IsTupOf2 s2.heap TO a1 a2) ∧ k1.own i1 (i + 1) s2.heap ∧ k2.own i2 (i + 1) s2.heap) ∧ ∀ b ∈ [z, TI, TO, i1, i2], H' b = none) E
      (by rw [m1, m2]; omega) ⟨hz, hTI, hTO, ⟨h1, p1⟩, ⟨h2, p2⟩⟩ ?_) (fun r s1 q => q) fun _ _ q => q
    rintro v h' tk ⟨T, u, u2, rfl, hT, gu, gu2, hTup⟩ ⟨z', TI', TO', ⟨o1, _⟩, ⟨o2, _⟩⟩ hk htk
    obtain ⟨x, hx, rx⟩ := g1 i u gu
    obtain ⟨y, hy, ry⟩ := g2 i u2 gu2
    have new : ObjOk X.prog X.w (upd H T (.tup [x, y])) h' T (.tup [x, y]) := ⟨by show 2 ≤ sizeLine; decide, [u, u2], .cons rx (.cons ry .nil), hTup⟩
    have I1 : Inv X pins σ (upd H T (.tup [x, y])) { s with heap := h', toks := tk } :=
      I.turnedNew (ch := [z, TI, TO, i1, i2]) (fun c o hb q => hk c o (fun q' => hb (by simp at q' ⊢; rcases q' with q' | q' | q' | q' <;> simp [q'])) q) hf hT new
    refine ⟨.ref T, _, I1, rfl, ⟨T, x, y, rfl, I.hok.fresh hT, rfl, fun l hl => by rw [k1.inj I hl hqx]; exact hx, fun l hl => by rw [k2.inj I hl hqy]; exact hy⟩, ⟨z', TI', TO', o1, o2⟩, fun b hb => ?_⟩
    rw [upd_ne (Nat.ne_of_lt (Nat.lt_of_lt_of_le (lt b hb) hT))]
    exact (hf b hb).1
  done := by
    intro X hP hw hK hc i pins s σ H E I hf st hg
    subst hP hw hK
    obtain ⟨hi, xs, ys, hqx, hqy, hn⟩ := hg
    obtain ⟨its, p1, m1, g1⟩ := k1.read I hqx
    obtain ⟨its2, p2, m2, g2⟩ := k2.read I hqy
    have hd : X.A.in1.handled = none := I.ok.hd hc
    have W := GoesN.zip2 (A := X.A) (elts := elts) (x1 := kk) (pos := tpos) D (k1.draws (prog := X.prog) (w := X.w) hd i1 n1 its) (k2.draws (prog := X.prog) (w := X.w) hd i2 n2 its2)
    obtain ⟨hz, hTI, hTO, h1, h2⟩ := st
    have en : min (k1.num its) (k2.num its2) = i := by rw [m1, m2, hi, hn]
    refine W.stops s (fun s1 => Inv X pins σ H s1) E (by rw [en]; exact ⟨hz, hTI, hTO, ⟨h1, p1⟩, ⟨h2, p2⟩⟩) fun h' tk hk htk => ?_
    exact I.turnedL (ch := [z, TI, TO, i1, i2]) (fun c o hb q => hk c o (fun q' => hb (by simp at q' ⊢; rcases q' with q' | q' | q' | q' <;> simp [q'])) q) hf
  self := fun A i s Q E st h => wpAny_pyIter_zip st.1 h

/-! ### enumerate(a) -/
def ItE (K : PySem.W.Frag) (k1 : Sk) (n : Nat) : It :=
  ⟨fun i H => i < n ∧ ∃ xs, k1.hold K H xs ∧ n = xs.length,
    fun i H v H' => ∃ T x, v = .ref T ∧ H T = none ∧ H' = upd H T (.tup [.int (i : Nat), x]) ∧ (∀ xs, k1.hold K H xs → xs[i]? = some x),
    fun i H => i = n ∧ ∃ xs, k1.hold K H xs ∧ n = xs.length⟩
theorem turn_enumM {P : Program} {w : World} {K : PySem.W.Frag} {elts : List Expr} {kk : Nat} {tpos : Pos} {k1 : Sk} {n : Nat} {e i1 : Addr} (hne : e ≠ i1) (hef : e ∉ i1 :: k1.src) (n1 : i1 ∉ k1.src) :
    Turn P w K (.Tuple elts kk tpos) (ItE K k1 n) [e, i1] e (fun i h => (∃ old, IsEnum h e i1 (0 + (i : Int)) old) ∧ k1.own i1 i h) where
  mem := by simp
  obj := fun i h st c hc => by
    obtain ⟨⟨old, he⟩, h1⟩ := st
    have e' : c = e ∨ c = i1 := by simpa using hc
    rcases e' with q | q
    · rw [q]; exact ⟨_, he, fun v q => nomatch q⟩
    · rw [q]; exact k1.ownObj h1
  keep := fun i h h' st k => by
    obtain ⟨⟨old, he⟩, h1⟩ := st
    exact ⟨⟨old, k e (by simp) _ he⟩, k1.ownAt h1 fun o q => k i1 (by simp) o q⟩
  item := by
    intro X hP hw hK hc i pins s σ H E I hf st hg
    subst hP hw hK
    obtain ⟨hi, xs, hqx, hn⟩ := hg
    obtain ⟨its, p1, m1, g1⟩ := k1.read I hqx
    have hd : X.A.in1.handled = none := I.ok.hd hc
    have W := GoesN.enumFrom (A := X.A) (elts := elts) (x1 := kk) (pos := tpos) 0 (k1.draws (prog := X.prog) (w := X.w) hd i1 n1 its) e hne hef (by simp)
    obtain ⟨he, h1⟩ := st
    have lt : ∀ c, c ∈ [e, i1] → c < s.heap.objs.size := fun c hcm => by
      have e' : c = e ∨ c = i1 := by simpa using hcm
      rcases e' with q | q
      · rw [q]; obtain ⟨_, he⟩ := he; exact Heap.lt_size he
      · rw [q]; obtain ⟨_, e1, _⟩ := k1.ownObj h1; exact Heap.lt_size e1
    refine wpAny_mono (W.goes i s (fun v s2 => ∃ x H', Inv X pins σ H' s2 ∧ RelV x v ∧ (ItE X.K k1 n).yld i H x H' ∧ ((∃ old, IsEnum s2.heap e i1 (0 + ((i + 1 : Nat) : Int)) old) ∧ k1.own i1 (i + 1) s2.heap) ∧ ∀ b ∈ [e, i1], H' b = none) E
      (by rw [m1]; omega) ⟨he, h1, p1⟩ ?_) (fun r s1 q => q) fun _ _ q => q
    rintro v h' tk ⟨T, t, u, rfl, hT, gu, hTup⟩ ⟨he', o1, _⟩ hk htk
    obtain ⟨x, hx, rx⟩ := g1 i u gu
    have new : ObjOk X.prog X.w (upd H T (.tup [.int (i : Nat), x])) h' T (.tup [.int (i : Nat), x]) := by
      refine ⟨by show 2 ≤ sizeLine; decide, [.int (0 + (i : Int)) t, u], .cons ⟨t, ?_⟩ (.cons rx .nil), hTup⟩
      rw [Int.zero_add]
    have I1 : Inv X pins σ (upd H T (.tup [.int (i : Nat), x])) { s with heap := h', toks := tk } :=
      I.turnedNew (ch := [e, i1]) (fun c o hb q => hk c o (fun q' => hb (by simpa using q')) q) hf hT new
    refine ⟨.ref T, _, I1, rfl, ⟨T, x, rfl, I.hok.fresh hT, rfl, fun l hl => by rw [k1.inj I hl hqx]; exact hx⟩, ⟨he', o1⟩, fun b hb => ?_⟩
    rw [upd_ne (Nat.ne_of_lt (Nat.lt_of_lt_of_le (lt b hb) hT))]
    exact (hf b hb).1
  done := by
    intro X hP hw hK hc i pins s σ H E I hf st hg
    subst hP hw hK
    obtain ⟨hi, xs, hqx, hn⟩ := hg
    obtain ⟨its, p1, m1, g1⟩ := k1.read I hqx
    have hd : X.A.in1.handled = none := I.ok.hd hc
    have W := GoesN.enumFrom (A := X.A) (elts := elts) (x1 := kk) (pos := tpos) 0 (k1.draws (prog := X.prog) (w := X.w) hd i1 n1 its) e hne hef (by simp)
    obtain ⟨he, h1⟩ := st
    have en : k1.num its = i := by rw [m1, hi, hn]
    refine W.stops s (fun s1 => Inv X pins σ H s1) E (by rw [en]; exact ⟨he, h1, p1⟩) fun h' tk hk htk => ?_
    exact I.turnedL (ch := [e, i1]) (fun c o hb q => hk c o (fun q' => hb (by simpa using q')) q) hf
  self := fun A i s Q E st h => let ⟨⟨_, he⟩, _⟩ := st; wpAny_pyIter_enum he h

/-! ### their calls -/
/-- what the value is drawn from -/
def SkOf (v : V) (u : Value) : Sk → Prop
  | .l a => v = .ref a ∧ u = .ref a
  | .t a => v = .ref a ∧ u = .ref a
  | .s z tk => v = .str z ∧ u = .str z tk
def iZM (K : PySem.W.Frag) (ta : TA) : TI := fun σ H R => ta σ H fun vs H1 => ∃ v1 v2, vs = [v1, v2] ∧ ∀ u1 u2, RelV v1 u1 → RelV v2 u2 → ∃ (k1 k2 : Sk) (xs ys : List V), k1.val = u1 ∧ k2.val = u2 ∧ k1.hold K H1 xs ∧ k2.hold K H1 ys ∧ R (ItZ K k1 k2 (min xs.length ys.length)) H1
theorem src_lt {X : Cx} {pins : List (Addr × Obj)} {σ : L2.St} {H : Hp} {s : Shared} (I : Inv X pins σ H s) (k : Sk) {xs : List V} (h : k.hold X.K H xs) : ∀ b ∈ k.src, b < s.heap.objs.size := fun b hb => by
  cases k with
  | l a =>
    obtain ⟨its, r, p, hz⟩ := I.list h
    have e : b = a := by simpa [Sk.src] using hb
    rw [e]
    obtain ⟨o, ho, _⟩ := p.isList
    exact Heap.lt_size ho
  | t a =>
    obtain ⟨its, r, p, hz⟩ := I.tuple h
    have e : b = a := by simpa [Sk.src] using hb
    rw [e]
    exact p.lt
  | s z tk => cases hb
theorem pi_zipM {X : Cx} {e e2 : Expr} {ta : TA} {p pos tpos : Pos} {elts : List Expr} {kk : Nat} (hg : Gl X "zip") (hm : X.mg "zip" = none) (ha : PA X [e, e2] ta)
    (hs : starEach [e, e2] X.env = (false, eval e X.env) :: starEach [e2] X.env) (hpl : (backTo pos (starEach [e2] X.env)).any (·.1) = false) :
    PI X (.Tuple elts kk tpos) (.Call (.Name "zip" p) [e, e2] [] pos) (iZM X.K ta) := by
  refine ⟨fun pins s σ H R I h => ?_⟩
  refine Call_ (ld_blt I hg hm PyProof.Rows.boot_zip (PyProof.Rows.callWith_type1 (thn (ha.run pos pins s σ H _ I h) fun us s1 ⟨vs, H1, I1, r1, q1⟩ => ?_) hs hpl))
  obtain ⟨v1, v2, ex, q1⟩ := q1
  subst ex
  cases r1 with
  | cons r rr =>
    cases rr with
    | cons r' rr =>
      cases rr
      obtain ⟨k1, k2, xs, ys, rfl, rfl, hx, hy, q⟩ := q1 _ _ r r'
      obtain ⟨its, p1, m1, g1⟩ := k1.read I1 hx
      obtain ⟨its2, p2, m2, g2⟩ := k2.read I1 hy
      refine zip_begins2 (k1.begins its) (k2.begins its2) p1 p2 fun h' hz hTI hTO h1 h2 hsz hk => wpAny_pyIter_zip hz ?_
      have I2 : Inv X pins σ H1 { s1 with heap := h' } := I1.kept (t' := s1.toks) hk
      have l1 := src_lt I1 k1 hx
      have l2 := src_lt I1 k2 hy
      have S := zip_sep2 (N := s1.heap.objs.size) l1 l2
      refine ⟨s1.heap.objs.size + 4, [s1.heap.objs.size + 4, s1.heap.objs.size + 2, s1.heap.objs.size + 3, s1.heap.objs.size, s1.heap.objs.size + 1], _, _, H1, rfl, I2, turn_zipM S (fun hm => Nat.lt_irrefl _ (l1 _ hm)) (fun hm => absurd (l2 _ hm) (Nat.not_lt.mpr (Nat.le_add_right _ _))), ⟨hz, hTI, ⟨_, _, hTO⟩, k1.born h1, k2.born h2⟩, fun c hcm => ?_, q⟩
      have e' : c = s1.heap.objs.size + 4 ∨ c = s1.heap.objs.size + 2 ∨ c = s1.heap.objs.size + 3 ∨ c = s1.heap.objs.size ∨ c = s1.heap.objs.size + 1 := by simpa using hcm
      have hle : s1.heap.objs.size ≤ c := by
        rcases e' with z | z | z | z | z
        · rw [z]; exact Nat.le_add_right _ _
        · rw [z]; exact Nat.le_add_right _ _
        · rw [z]; exact Nat.le_add_right _ _
        · rw [z]; exact Nat.le_refl _
        · rw [z]; exact Nat.le_add_right _ _
      exact I1.fpOk hle (I1.hok.fresh hle)

set_option maxHeartbeats 4000000 in
theorem meets_enumerate_newB1 {v : Value} {o : Obj} {H : Heap → Prop} (B : Begins v o H) :
    Meets (Builtin.«enumerate.__new__» ⟨[.type "enumerate", v], []⟩) (fun _ R s => H s.heap ∧
      R (.ok (.ret (.ref (s.heap.push o).objs.size))) { s with heap := (s.heap.push o).push { cls := .type "enumerate", data := .fields #[.none, .bool false, .ref s.heap.objs.size, rawInt 0, .none, .none] } }) :=
  .of_wp fun prog w A R s h => by
    obtain ⟨hp, g, d, tk, os⟩ := s; obtain ⟨h1, h⟩ := h
    have hsub := sub_enumerate
    have q1 : ∀ {A' : Around} {E : Value → Shared → Prop} {Q : Value → Shared → Prop}, Q (.ref hp.objs.size) ⟨hp.push o, g, d, tk, os⟩ → wpAny (model prog w) A' (pyIter v) Q E ⟨hp, g, d, tk, os⟩ :=
      fun q => B.iter prog w _ _ ⟨hp, g, d, tk, os⟩ _ h1 q
    wp_walk using q1
    refine wpAny_stack_any fun st => wpAny_pure ?_
    split
    · rename_i c _ _ _ _ _
      cases (c == Value.type "enumerate")
      · wp_walk using q1
        exact ⟨_, rfl, h⟩
      · wp_walk using q1
        exact ⟨_, rfl, h⟩
    · wp_walk using q1
      exact ⟨_, rfl, h⟩
theorem enum_begins1 {prog : Program} {w : World} {A : Around} {E : Value → Shared → Prop} {s : Shared} {v : Value} {o : Obj} {H : Heap → Prop} {Q : Value → Shared → Prop} (B : Begins v o H) (h1 : H s.heap)
    (h : ∀ h', IsEnum h' (s.heap.objs.size + 1) s.heap.objs.size 0 .none → h'.get? s.heap.objs.size = some o → h'.objs.size = s.heap.objs.size + 2 →
      (∀ b o, s.heap.get? b = some o → h'.get? b = some o) → Q (.ref (s.heap.objs.size + 1)) { s with heap := h' }) :
    wpAny (model prog w) A (call (.type "enumerate") [v]) Q E s := by
  refine callType_new F.called_enumerate (by decide) (F.typeCall_enumerate_1 _) (F.newCall_enumerate_1 _) (fun obj => F.args_object_init_2 obj _) F.entry_enumerate_new
    (meets_enumerate_newB1 B) ⟨h1, ?_⟩
  have hz : (s.heap.push o).objs.size = s.heap.objs.size + 1 := Heap.size_push ..
  show _ ∧ _
  rw [hz]
  have he : IsEnum ((s.heap.push o).push { cls := .type "enumerate", data := .fields #[.none, .bool false, .ref s.heap.objs.size, rawInt 0, .none, .none] }) (s.heap.objs.size + 1) s.heap.objs.size 0 .none := by
    have := Heap.get?_push_size (s.heap.push o) (o := { cls := .type "enumerate", data := .fields #[.none, .bool false, .ref s.heap.objs.size, rawInt 0, .none, .none] }) rfl
    rw [hz] at this; exact this
  refine ⟨⟨_, he, rfl⟩, h _ he (Heap.get?_push_of_some _ (Heap.get?_push_size _ B.free)) (by rw [Heap.size_push, hz]) fun b o x => Heap.get?_push_of_some _ (Heap.get?_push_of_some _ x)⟩
def iEM (K : PySem.W.Frag) (ta : TA) : TI := fun σ H R => ta σ H fun vs H1 => ∃ v1, vs = [v1] ∧ ∀ u1, RelV v1 u1 → ∃ (k1 : Sk) (xs : List V), k1.val = u1 ∧ k1.hold K H1 xs ∧ R (ItE K k1 xs.length) H1
theorem pi_enumM {X : Cx} {e : Expr} {ta : TA} {p pos tpos : Pos} {elts : List Expr} {kk : Nat} (hg : Gl X "enumerate") (hm : X.mg "enumerate" = none) (ha : PA X [e] ta) (hs : starEach [e] X.env = [(false, eval e X.env)]) :
    PI X (.Tuple elts kk tpos) (.Call (.Name "enumerate" p) [e] [] pos) (iEM X.K ta) := by
  refine ⟨fun pins s σ H R I h => ?_⟩
  refine Call_ (ld_blt I hg hm PyProof.Rows.boot_enumerate (PyProof.Rows.callWith_type1 (thn (ha.run pos pins s σ H _ I h) fun us s1 ⟨vs, H1, I1, r1, q1⟩ => ?_) hs rfl))
  obtain ⟨v1, ex, q1⟩ := q1
  subst ex
  cases r1 with
  | cons r rr =>
    cases rr
    obtain ⟨k1, xs, rfl, hx, q⟩ := q1 _ r
    obtain ⟨its, p1, m1, g1⟩ := k1.read I1 hx
    refine enum_begins1 (k1.begins its) p1 fun h' he h1 hsz hk => wpAny_pyIter_enum he ?_
    have I2 : Inv X pins σ H1 { s1 with heap := h' } := I1.kept (t' := s1.toks) hk
    have l1 := src_lt I1 k1 hx
    have ne : s1.heap.objs.size + 1 ∉ s1.heap.objs.size :: k1.src := fun hm => by
      rcases List.mem_cons.mp hm with q | q
      · exact Nat.succ_ne_self _ q
      · exact absurd (l1 _ q) (Nat.not_lt.mpr (Nat.le_add_right _ _))
    refine ⟨s1.heap.objs.size + 1, [s1.heap.objs.size + 1, s1.heap.objs.size], _, _, H1, rfl, I2, turn_enumM (Nat.succ_ne_self _) ne (fun hm => Nat.lt_irrefl _ (l1 _ hm)), ⟨⟨.none, he⟩, k1.born h1⟩, fun b hb => ?_, q⟩
    have e' : b = s1.heap.objs.size + 1 ∨ b = s1.heap.objs.size := by simpa using hb
    have hle : s1.heap.objs.size ≤ b := by
      rcases e' with z | z
      · rw [z]; exact Nat.le_add_right _ _
      · rw [z]; exact Nat.le_refl _
    exact I1.fpOk hle (I1.hok.fresh hle)

/-! ### what is walked, by plain values: the items, and which lists of the store must stay as they are -/
abbrev Guard := List (Nat × List PV)
def gOk (gs : Guard) (S : Store) : Prop := ∀ g ∈ gs, lstAt S g.1 = some g.2
theorem gOk_nil (S : Store) : gOk [] S := fun _ h => by cases h
abbrev CI := Ls → Store → Out (List PV × Guard)
/-- the turns J give the items -/
def Conf (G : Env1) (m : List Addr) (H : Hp) (src : List PV × Guard) (J : It) : Prop :=
  ∀ m' H' S', Ext G m H m' H' → Rep G m' H' S' → gOk src.2 S' → ∀ i, (i = src.1.length → J.stop i H') ∧
    ∀ p, src.1[i]? = some p → J.go i H' ∧ ∀ x H2, J.yld i H' x H2 → Ext G m' H' m' H2 ∧ Rep G m' H2 S' ∧ VR G m' H2 p x
def IvT (G : Env1) (W : WX) (c : CI) : TI := fun σ H R => ∃ m ls S, Rep G m H S ∧ LR G m H ls σ ∧ Fin G m H (Conf G) R (fun cls d H' => W cls d σ H') (c ls S)
abbrev PIv (X : Cx) (G : Env1) (W : WX) (tg e : Expr) (c : CI) : Prop := PI X tg e (IvT G W c)
theorem PIimp {X : Cx} {tg e : Expr} {t t' : TI} (h : PI X tg e t) (i : ∀ σ H R, t' σ H R → t σ H R) : PI X tg e t' := ⟨fun pins s σ H R I q => h.run pins s σ H R I (i σ H R q)⟩
theorem PI.or {X : Cx} {tg e : Expr} {t t' : TI} (h : PI X tg e t) (h' : PI X tg e t') : PI X tg e (fun σ H R => t σ H R ∨ t' σ H R) := ⟨fun pins s σ H R I q => q.elim (h.run pins s σ H R I) (h'.run pins s σ H R I)⟩
/-- the items of a value -/
def seqOf (p : PV) (S : Store) : Option (List PV × Guard) := match p with
  | .tup l => some (l, [])
  | .str s => some (s.map fun c => .str [c], [])
  | .loc a => match lstAt S a with
    | some xs => some (xs, [(a, xs)])
    | none => none
  | _ => none
def iSeq (p : PV) (S : Store) : Out (List PV × Guard) := match seqOf p S with
  | some x => .ok x S
  | none => .bad
def cSeq (a : CE) : CI := fun ls S => (a ls S).bind iSeq
def rng (lo : Int) (n : Nat) : List PV := (List.range n).map fun i => .int (lo + (i : Nat))
def iRng (ps : List PV) (S : Store) : Out (List PV × Guard) := match ps with
  | [.int j] => if -(2 ^ 62) ≤ j ∧ j < 2 ^ 62 then .ok (rng 0 j.toNat, []) S else .bad
  | [.int i, .int j] => if -(2 ^ 62) ≤ i ∧ i < 2 ^ 62 ∧ -(2 ^ 62) ≤ j ∧ j < 2 ^ 62 then .ok (rng i (j - i).toNat, []) S else .bad
  | _ => .bad
def cRng (r : CA) : CI := fun ls S => (r ls S).bind iRng
def pairUp : List PV → List PV → List PV
  | x :: xs, y :: ys => .tup [x, y] :: pairUp xs ys
  | _, _ => []
def numUp : Nat → List PV → List PV
  | _, [] => []
  | i, x :: xs => .tup [.int (i : Nat), x] :: numUp (i + 1) xs
def iZip (ps : List PV) (S : Store) : Out (List PV × Guard) := match ps with
  | [p, q] => match seqOf p S, seqOf q S with
    | some x, some y => .ok (pairUp x.1 y.1, x.2 ++ y.2) S
    | _, _ => .bad
  | _ => .bad
def iEnum (ps : List PV) (S : Store) : Out (List PV × Guard) := match ps with
  | [p] => match seqOf p S with
    | some x => .ok (numUp 0 x.1, x.2) S
    | none => .bad
  | _ => .bad
def cZip (r : CA) : CI := fun ls S => (r ls S).bind iZip
def cEnum (r : CA) : CI := fun ls S => (r ls S).bind iEnum
section
variable {X : Cx} {G : Env1} {W : WX} {tg a b : Expr} {ca cb : CE} {cr : CA} {p pos tpos : Pos} {elts : List Expr} {kk : Nat}
theorem pairUp_len : ∀ (xs ys : List PV), (pairUp xs ys).length = min xs.length ys.length
  | [], _ => by simp [pairUp]
  | _ :: _, [] => by simp [pairUp]
  | x :: xs, y :: ys => by rw [pairUp, List.length_cons, pairUp_len xs ys, List.length_cons, List.length_cons]; omega
theorem pairUp_get : ∀ {xs ys : List PV} {i : Nat} {p : PV}, (pairUp xs ys)[i]? = some p → ∃ x y, xs[i]? = some x ∧ ys[i]? = some y ∧ p = .tup [x, y]
  | [], _, i, p, h => by simp [pairUp] at h
  | _ :: _, [], i, p, h => by simp [pairUp] at h
  | x :: xs, y :: ys, 0, p, h => by
    simp [pairUp] at h
    exact ⟨x, y, rfl, rfl, h.symm⟩
  | x :: xs, y :: ys, i + 1, p, h => by
    obtain ⟨u, v, h1, h2, h3⟩ := pairUp_get (xs := xs) (ys := ys) (i := i) (by simpa [pairUp] using h)
    exact ⟨u, v, by simpa using h1, by simpa using h2, h3⟩
theorem numUp_len : ∀ (k : Nat) (xs : List PV), (numUp k xs).length = xs.length
  | _, [] => rfl
  | k, x :: xs => by rw [numUp, List.length_cons, numUp_len (k + 1) xs, List.length_cons]
theorem numUp_get : ∀ {k : Nat} {xs : List PV} {i : Nat} {p : PV}, (numUp k xs)[i]? = some p → ∃ x, xs[i]? = some x ∧ p = .tup [.int ((k + i : Nat) : Int), x]
  | _, [], i, p, h => by simp [numUp] at h
  | k, x :: xs, 0, p, h => by
    simp [numUp] at h
    exact ⟨x, rfl, h.symm⟩
  | k, x :: xs, i + 1, p, h => by
    obtain ⟨u, h1, h2⟩ := numUp_get (k := k + 1) (xs := xs) (i := i) (by simpa [numUp] using h)
    exact ⟨u, by simpa using h1, by rw [h2]; congr 3; omega⟩
theorem Conf.pure {m : List Addr} {H : Hp} {xs : List PV} {gs : Guard} {J : It} (h : ∀ m' H' S', Ext G m H m' H' → Rep G m' H' S' → gOk gs S' → ∀ i, (i = xs.length → J.stop i H') ∧ ∀ p, xs[i]? = some p → J.go i H' ∧ ∀ x H2, J.yld i H' x H2 → H2 = H' ∧ VR G m' H' p x) : Conf G m H (xs, gs) J := by
  intro m' H' S' e R g i
  obtain ⟨h1, h2⟩ := h m' H' S' e R g i
  refine ⟨h1, fun p hp => ?_⟩
  obtain ⟨h3, h4⟩ := h2 p hp
  refine ⟨h3, fun x H2 hy => ?_⟩
  obtain ⟨rfl, h5⟩ := h4 x H2 hy
  exact ⟨.refl, R, h5⟩
/-- what a value is walked as -/
theorem seq_conf {m : List Addr} {H : Hp} {S : Store} {q : PV} {v : V} {x : List PV × Guard} (R : Rep G m H S) (r : VR G m H q v) (h : seqOf q S = some x) :
    (∃ a vs, v = .ref a ∧ SqL G.K H a vs ∧ Conf G m H x (Itl G.K a)) ∨ (∃ a vs, v = .ref a ∧ SqT G.K H a vs ∧ Conf G m H x (Itt G.K a)) ∨ ∃ s, v = .str (mkS s) ∧ Conf G m H x (Its (mkS s)) := by
  cases q with
  | loc n =>
    unfold seqOf at h
    simp only [] at h
    split at h
    · rename_i xs hx
      cases h
      obtain ⟨a, rfl, hm⟩ := r
      obtain ⟨vs, g1, g2⟩ := R.seq (lstAt_is hx) hm
      refine .inl ⟨a, vs, rfl, g1, Conf.pure fun m' H' S' e R' g i => ?_⟩
      have hx' : lstAt S' n = some xs := g (n, xs) (List.mem_singleton.mpr rfl)
      obtain ⟨vs', g1', g2'⟩ := R'.seq (lstAt_is hx') (e.get hm)
      refine ⟨fun hi => ⟨vs', g1', by rw [← g2'.length, hi]; exact Nat.le_refl _⟩, fun p hp => ?_⟩
      obtain ⟨u, h1, h2⟩ := g2'.get hp
      exact ⟨⟨vs', u, g1', h1⟩, fun x H2 hy => ⟨hy.1, by
        have := hy.2 vs' g1'
        rw [h1] at this; cases this; exact h2⟩⟩
    · cases h
  | tup l =>
    cases h
    obtain ⟨a, vs, rfl, h1, h2⟩ := r
    refine .inr (.inl ⟨a, vs, rfl, h1, Conf.pure fun m' H' S' e R' g i => ?_⟩)
    have h1' := e.tups _ _ h1
    have h2' := h2.mono e
    refine ⟨fun hi => ⟨vs, h1', by rw [← h2'.length, hi]; exact Nat.le_refl _⟩, fun p hp => ?_⟩
    obtain ⟨u, h3, h4⟩ := h2'.get hp
    exact ⟨⟨vs, u, h1', h3⟩, fun x H2 hy => ⟨hy.1, by
      have := hy.2 vs h1'
      rw [h3] at this; cases this; exact h4⟩⟩
  | str s =>
    cases h
    obtain ⟨rfl, k⟩ := r
    refine .inr (.inr ⟨s, rfl, Conf.pure fun m' H' S' e R' g i => ?_⟩)
    refine ⟨fun hi => ?_, fun p hp => ?_⟩
    · show (mkS s).cps.size ≤ i
      rw [hi]; simp
    · rw [List.getElem?_map] at hp
      cases hc : s[i]? with
      | none => rw [hc] at hp; cases hp
      | some c =>
        rw [hc] at hp; cases hp
        refine ⟨?_, fun x H2 hy => ⟨hy.1, ?_⟩⟩
        · show i < (mkS s).cps.size
          have := (List.getElem?_eq_some_iff.mp hc).1
          simpa using this
        · obtain ⟨d, h1, h2⟩ := hy.2
          have h1' : s[i]? = some d := by simpa using h1
          rw [hc] at h1'; cases h1'
          refine ⟨h2, k.sub (fun e he => ?_) ?_⟩
          · rw [List.mem_singleton.mp he]; exact List.mem_of_getElem? hc
          · exact List.length_pos_of_mem (List.mem_of_getElem? hc)
  | _ => cases h
theorem pv_seq (hK : X.K = G.K) (ha : PEv X G W a ca) : PIv X G W tg a (cSeq ca) := by
  refine PIimp (PI.or (pi_list ha) (PI.or (pi_tup ha) (pi_str ha))) ?_
  rintro σ H R ⟨m, ls, S, Re, L, F⟩
  unfold cSeq at F
  have none_of : ∀ {q S1}, ca ls S = .ok q S1 → seqOf q S1 = none → False := fun {q S1} hca h => by
    rw [hca] at F
    unfold iSeq at F
    simp only [Out.bind_ok, h] at F
    exact F.elim
  have some_of : ∀ {q S1}, ca ls S = .ok q S1 → ∀ {x}, seqOf q S1 = some x → Fin G m H (Conf G) R (fun cls d H' => W cls d σ H') (.ok x S1) := fun {q S1} hca {x} h => by
    rw [hca] at F
    unfold iSeq at F
    simp only [Out.bind_ok, h] at F
    exact F
  cases hca : ca ls S with
  | bad => rw [hca] at F; exact F.elim
  | exn x S1 => exact .inl ⟨m, ls, S, Re, L, by rw [hca] at F ⊢; exact F⟩
  | ok q S1 =>
    cases hx : seqOf q S1 with
    | none => exact (none_of hca hx).elim
    | some x =>
      have F1 := some_of hca hx
      have key : ∀ m1 H1 v, Ext G m H m1 H1 → Rep G m1 H1 S1 → VR G m1 H1 q v → ∀ J, Conf G m1 H1 x J → R J H1 := fun m1 H1 v e1 R1 v1 J c => F1 m1 H1 J e1 R1 c
      cases q with
      | loc n =>
        refine .inl ⟨m, ls, S, Re, L, ?_⟩
        rw [hca]
        intro m1 H1 v e1 R1 v1
        have := key m1 H1 v e1 R1 v1
        rcases seq_conf R1 v1 hx with ⟨a, vs, rfl, h1, h2⟩ | ⟨a, vs, rfl, h1, h2⟩ | ⟨s, rfl, h2⟩
        · exact ⟨a, rfl, ⟨vs, by rw [hK]; exact h1⟩, by rw [hK]; exact this _ h2⟩
        · obtain ⟨b, e, hm⟩ := v1
          cases e
          obtain ⟨u, hu⟩ := R1.there (List.mem_of_getElem? hm)
          have hl : n < S1.length := by rw [← R1.len]; exact (List.getElem?_eq_some_iff.mp hm).1
          have hat := R1.ok n S1[n] a (List.getElem?_eq_getElem hl) hm
          unfold seqOf at hx
          simp only [] at hx
          split at hx
          · rename_i xs hxs
            obtain ⟨vs', g1, g2⟩ := R1.seq (lstAt_is hxs) hm
            exact ⟨a, rfl, ⟨vs', by rw [hK]; exact g1⟩, by
              rw [hK]
              refine this _ (Conf.pure fun m' H' S' e R' g i => ?_)
              cases hx
              have hx' : lstAt S' n = some xs := g (n, xs) (List.mem_singleton.mpr rfl)
              obtain ⟨vs', g1', g2'⟩ := R'.seq (lstAt_is hx') (e.get hm)
              refine ⟨fun hi => ⟨vs', g1', by rw [← g2'.length, hi]; exact Nat.le_refl _⟩, fun p hp => ?_⟩
              obtain ⟨u, h1, h2⟩ := g2'.get hp
              exact ⟨⟨vs', u, g1', h1⟩, fun x H2 hy => ⟨hy.1, by
                have := hy.2 vs' g1'
                rw [h1] at this; cases this; exact h2⟩⟩⟩
          · cases hx
        · obtain ⟨b, e, hm⟩ := v1
          cases e
      | tup l =>
        refine .inr (.inl ⟨m, ls, S, Re, L, ?_⟩)
        rw [hca]
        intro m1 H1 v e1 R1 v1
        have := key m1 H1 v e1 R1 v1
        obtain ⟨a, vs, rfl, h1, h2⟩ := id v1
        refine ⟨a, rfl, ⟨vs, by rw [hK]; exact h1⟩, ?_⟩
        rw [hK]
        refine this _ (Conf.pure fun m' H' S' e R' g i => ?_)
        cases hx
        have h1' := e.tups _ _ h1
        have h2' := h2.mono e
        refine ⟨fun hi => ⟨vs, h1', by rw [← h2'.length, hi]; exact Nat.le_refl _⟩, fun p hp => ?_⟩
        obtain ⟨u, h3, h4⟩ := h2'.get hp
        exact ⟨⟨vs, u, h1', h3⟩, fun x H2 hy => ⟨hy.1, by
          have := hy.2 vs h1'
          rw [h3] at this; cases this; exact h4⟩⟩
      | str s =>
        refine .inr (.inr ⟨m, ls, S, Re, L, ?_⟩)
        rw [hca]
        intro m1 H1 v e1 R1 v1
        have := key m1 H1 v e1 R1 v1
        rcases seq_conf R1 v1 hx with ⟨a, vs, e, h1, h2⟩ | ⟨a, vs, e, h1, h2⟩ | ⟨z, rfl, h2⟩
        · obtain ⟨e2, _⟩ := v1; rw [e] at e2; cases e2
        · obtain ⟨e2, _⟩ := v1; rw [e] at e2; cases e2
        · exact ⟨_, rfl, this _ h2⟩
      | _ => cases hx
theorem rng_get {lo : Int} {n i : Nat} {p : PV} (h : (rng lo n)[i]? = some p) : i < n ∧ p = .int (lo + (i : Nat)) := by
  unfold rng at h
  rw [List.getElem?_map] at h
  cases e : (List.range n)[i]? with
  | none => rw [e] at h; cases h
  | some j =>
    rw [e] at h; cases h
    obtain ⟨h1, h2⟩ := List.getElem?_eq_some_iff.mp e
    rw [List.length_range] at h1
    rw [List.getElem_range] at h2
    subst h2
    exact ⟨h1, rfl⟩
theorem rng_conf {m : List Addr} {H : Hp} {lo : Int} {n : Nat} : Conf G m H (rng lo n, []) (Itr lo n) := Conf.pure fun m' H' S' e R' g i => by
  refine ⟨fun hi => ?_, fun p hp => ?_⟩
  · show n ≤ i
    rw [hi]; unfold rng; simp
  · obtain ⟨h1, rfl⟩ := rng_get hp
    exact ⟨h1, fun x H2 hy => hy⟩
theorem pv_rng1 (hg : Gl X "range") (hm : X.mg "range" = none) (ha : PAv X G W [a] cr) (hs : starEach [a] X.env = [(false, eval a X.env)]) : PIv X G W tg (.Call (.Name "range" p) [a] [] pos) (fun ls S => (cr ls S).bind fun ps S1 => match ps with | [.int j] => iRng [.int j] S1 | _ => .bad) := by
  refine PIimp (pi_range1 hg hm ha hs) ?_
  rintro σ H R ⟨m, ls, S, Re, L, F⟩
  refine ⟨m, ls, S, Re, L, Fin.step L F fun q S1 m1 H1 v e1 L1 R1 v1 F1 => ?_⟩
  split at F1
  · rename_i j
    obtain ⟨u, rfl, rfl⟩ := VRs.one' v1
    simp only [iRng] at F1
    split at F1
    · rename_i hj
      exact ⟨j, rfl, hj.1, hj.2, F1.here R1 rng_conf⟩
    · exact F1.elim
  · exact F1.elim
theorem pv_rng2 (hg : Gl X "range") (hm : X.mg "range" = none) (ha : PAv X G W [a, b] cr) (hs : starEach [a, b] X.env = [(false, eval a X.env), (false, eval b X.env)]) (hs2 : starEach [b] X.env = [(false, eval b X.env)]) :
    PIv X G W tg (.Call (.Name "range" p) [a, b] [] pos) (fun ls S => (cr ls S).bind fun ps S1 => match ps with | [.int i, .int j] => iRng [.int i, .int j] S1 | _ => .bad) := by
  refine PIimp (pi_range2 hg hm ha hs hs2) ?_
  rintro σ H R ⟨m, ls, S, Re, L, F⟩
  refine ⟨m, ls, S, Re, L, Fin.step L F fun q S1 m1 H1 v e1 L1 R1 v1 F1 => ?_⟩
  split at F1
  · rename_i i j
    obtain ⟨u, w, rfl, rfl, rfl⟩ := VRs.two' v1
    simp only [iRng] at F1
    split at F1
    · rename_i hj
      exact ⟨i, j, rfl, hj, F1.here R1 rng_conf⟩
    · exact F1.elim
  · exact F1.elim
/-- a value as a source of zip, enumerate -/
theorem sk_of {m : List Addr} {H : Hp} {S : Store} {q : PV} {v : V} {u : Value} {x : List PV × Guard} (R : Rep G m H S) (r : VR G m H q v) (h : seqOf q S = some x) (ru : RelV v u) :
    ∃ k : Sk, k.val = u ∧ (∃ vs, k.hold G.K H vs ∧ VRs G m H x.1 vs) ∧ ∀ m' H' S', Ext G m H m' H' → Rep G m' H' S' → gOk x.2 S' → ∃ vs, k.hold G.K H' vs ∧ VRs G m' H' x.1 vs := by
  cases q with
  | loc n =>
    unfold seqOf at h
    simp only [] at h
    split at h
    · rename_i xs hx
      cases h
      obtain ⟨a, rfl, hm⟩ := r
      cases ru
      obtain ⟨vs, g1, g2⟩ := R.seq (lstAt_is hx) hm
      refine ⟨.l a, rfl, ⟨vs, g1, g2⟩, fun m' H' S' e R' g => ?_⟩
      have hx' : lstAt S' n = some xs := g (n, xs) (List.mem_singleton.mpr rfl)
      obtain ⟨vs', g1', g2'⟩ := R'.seq (lstAt_is hx') (e.get hm)
      exact ⟨vs', g1', g2'⟩
    · cases h
  | tup l =>
    cases h
    obtain ⟨a, vs, rfl, h1, h2⟩ := r
    cases ru
    exact ⟨.t a, rfl, ⟨vs, h1, h2⟩, fun m' H' S' e R' g => ⟨vs, e.tups _ _ h1, h2.mono e⟩⟩
  | str s =>
    cases h
    obtain ⟨rfl, k⟩ := r
    obtain ⟨t, rfl⟩ := ru
    have key : ∀ m' H', VRs G m' H' (s.map fun c => PV.str [c]) (sgs (mkS s)) := fun m' H' => by
      have : ∀ l : List Nat, (∀ c ∈ l, c ∈ s) → VRs G m' H' (l.map fun c => PV.str [c]) (l.map fun c => V.str ⟨#[c]⟩) := by
        intro l
        induction l with
        | nil => exact fun _ => rfl
        | cons c r ih => exact fun hl => ⟨_, _, rfl, ⟨rfl, k.sub (fun e he => by rw [List.mem_singleton.mp he]; exact hl c List.mem_cons_self) (List.length_pos_of_mem (hl c List.mem_cons_self))⟩, ih fun d hd => hl d (List.mem_cons_of_mem _ hd)⟩
      exact this s fun _ h => h
    exact ⟨.s (mkS s) t, rfl, ⟨_, rfl, key _ _⟩, fun m' H' S' e R' g => ⟨_, rfl, key _ _⟩⟩
  | _ => cases h
theorem zip_conf {m : List Addr} {H : Hp} {k1 k2 : Sk} {x y : List PV × Guard}
    (h1 : ∀ m' H' S', Ext G m H m' H' → Rep G m' H' S' → gOk x.2 S' → ∃ vs, k1.hold G.K H' vs ∧ VRs G m' H' x.1 vs) (h2 : ∀ m' H' S', Ext G m H m' H' → Rep G m' H' S' → gOk y.2 S' → ∃ vs, k2.hold G.K H' vs ∧ VRs G m' H' y.1 vs) :
    Conf G m H (pairUp x.1 y.1, x.2 ++ y.2) (ItZ G.K k1 k2 (min x.1.length y.1.length)) := by
  intro m' H' S' e R g i
  obtain ⟨vs, a1, a2⟩ := h1 m' H' S' e R fun z hz => g z (List.mem_append_left _ hz)
  obtain ⟨ws, b1, b2⟩ := h2 m' H' S' e R fun z hz => g z (List.mem_append_right _ hz)
  refine ⟨fun hi => ⟨by rw [hi]; exact pairUp_len _ _, vs, ws, a1, b1, by rw [a2.length, b2.length]⟩, fun p hp => ?_⟩
  obtain ⟨u, v, c1, c2, rfl⟩ := pairUp_get hp
  have hlt : i < min x.1.length y.1.length := by
    have d1 := (List.getElem?_eq_some_iff.mp c1).1
    have d2 := (List.getElem?_eq_some_iff.mp c2).1
    omega
  refine ⟨⟨hlt, vs, ws, a1, b1, by rw [a2.length, b2.length]⟩, fun z H2 hy => ?_⟩
  obtain ⟨T, x', y', rfl, hT, rfl, e1, e2⟩ := hy
  obtain ⟨u', f1, f2⟩ := a2.get c1
  obtain ⟨v', f3, f4⟩ := b2.get c2
  have g1 := e1 vs a1
  rw [f1] at g1
  obtain rfl : u' = x' := Option.some.inj g1
  have g2 := e2 ws b1
  rw [f3] at g2
  obtain rfl : v' = y' := Option.some.inj g2
  exact ⟨ext_side hT, R.side hT, T, [u', v'], rfl, SqT.of upd_same, ⟨u', [v'], rfl, f2.mono (ext_side hT), VRs.one (f4.mono (ext_side hT))⟩⟩
theorem pv_zip (hK : X.K = G.K) (hg : Gl X "zip") (hm : X.mg "zip" = none) (ha : PAv X G W [a, b] cr) (hs : starEach [a, b] X.env = (false, eval a X.env) :: starEach [b] X.env) (hpl : (backTo pos (starEach [b] X.env)).any (·.1) = false) :
    PIv X G W (.Tuple elts kk tpos) (.Call (.Name "zip" p) [a, b] [] pos) (cZip cr) := by
  refine PIimp (pi_zipM hg hm ha hs hpl) ?_
  rintro σ H R ⟨m, ls, S, Re, L, F⟩
  refine ⟨m, ls, S, Re, L, Fin.step L F fun q S1 m1 H1 vs e1 L1 R1 v1 F1 => ?_⟩
  unfold iZip at F1
  split at F1
  · rename_i p q
    obtain ⟨v, w, rfl, r1, r2⟩ := VRs.two' v1
    split at F1
    · rename_i x y hx hy
      refine ⟨v, w, rfl, fun u1 u2 ru1 ru2 => ?_⟩
      obtain ⟨k1, e1', ⟨ws1, f1, f2⟩, f3⟩ := sk_of R1 r1 hx ru1
      obtain ⟨k2, e2', ⟨ws2, f4, f5⟩, f6⟩ := sk_of R1 r2 hy ru2
      refine ⟨k1, k2, ws1, ws2, e1', e2', by rw [hK]; exact f1, by rw [hK]; exact f4, ?_⟩
      rw [hK, ← f2.length, ← f5.length]
      exact F1.here R1 (zip_conf f3 f6)
    · exact F1.elim
  · exact F1.elim
theorem enum_conf {m : List Addr} {H : Hp} {k1 : Sk} {x : List PV × Guard}
    (h1 : ∀ m' H' S', Ext G m H m' H' → Rep G m' H' S' → gOk x.2 S' → ∃ vs, k1.hold G.K H' vs ∧ VRs G m' H' x.1 vs) :
    Conf G m H (numUp 0 x.1, x.2) (ItE G.K k1 x.1.length) := by
  intro m' H' S' e R g i
  obtain ⟨vs, a1, a2⟩ := h1 m' H' S' e R g
  refine ⟨fun hi => ⟨by rw [hi]; exact numUp_len _ _, vs, a1, a2.length⟩, fun p hp => ?_⟩
  obtain ⟨u, c1, rfl⟩ := numUp_get hp
  have hlt : i < x.1.length := (List.getElem?_eq_some_iff.mp c1).1
  refine ⟨⟨hlt, vs, a1, a2.length⟩, fun z H2 hy => ?_⟩
  obtain ⟨T, x', rfl, hT, rfl, e1⟩ := hy
  obtain ⟨u', f1, f2⟩ := a2.get c1
  have g1 := e1 vs a1
  rw [f1] at g1
  obtain rfl : u' = x' := Option.some.inj g1
  rw [Nat.zero_add]
  exact ⟨ext_side hT, R.side hT, T, [.int (i : Nat), u'], rfl, SqT.of upd_same, ⟨.int (i : Nat), [u'], rfl, rfl, VRs.one (f2.mono (ext_side hT))⟩⟩
theorem pv_enum (hK : X.K = G.K) (hg : Gl X "enumerate") (hm : X.mg "enumerate" = none) (ha : PAv X G W [a] cr) (hs : starEach [a] X.env = [(false, eval a X.env)]) :
    PIv X G W (.Tuple elts kk tpos) (.Call (.Name "enumerate" p) [a] [] pos) (cEnum cr) := by
  refine PIimp (pi_enumM hg hm ha hs) ?_
  rintro σ H R ⟨m, ls, S, Re, L, F⟩
  refine ⟨m, ls, S, Re, L, Fin.step L F fun q S1 m1 H1 vs e1 L1 R1 v1 F1 => ?_⟩
  unfold iEnum at F1
  split at F1
  · rename_i p
    obtain ⟨v, rfl, r1⟩ := VRs.one' v1
    split at F1
    · rename_i x hx
      refine ⟨v, rfl, fun u1 ru1 => ?_⟩
      obtain ⟨k1, e1', ⟨ws1, f1, f2⟩, f3⟩ := sk_of R1 r1 hx ru1
      refine ⟨k1, ws1, e1', by rw [hK]; exact f1, ?_⟩
      rw [hK, ← f2.length]
      exact F1.here R1 (enum_conf f3)
    · exact F1.elim
  · exact F1.elim
end
end Bm

/-! Bm, part G: targets, statements, loops, comprehensions. -/
namespace Bm
open PySem PySem.Spec PyProof.Rows L2
open Classical

/-! ### targets -/
abbrev CT := PV → Ls → Store → Out Ls
def GvT (G : Env1) (W : WX) (c : CT) : TG := fun v σ H Q => ∃ m ls S p, Rep G m H S ∧ LR G m H ls σ ∧ VR G m H p v ∧ Fin G m H (LR G) Q (fun cls d H' => W cls d σ H') (c p ls S)
abbrev CTs := List PV → Ls → Store → Out Ls
def GvTs (G : Env1) (W : WX) (c : CTs) : TGs := fun v σ H Q => ∃ m ls S p, Rep G m H S ∧ LR G m H ls σ ∧ VRs G m H p v ∧ Fin G m H (LR G) Q (fun cls d H' => W cls d σ H') (c p ls S)
abbrev PGv (X : Cx) (G : Env1) (W : WX) (e : Expr) (c : CT) : Prop := PG X e (GvT G W c)
abbrev PGsv (X : Cx) (G : Env1) (W : WX) (e : List Expr) (c : CTs) : Prop := PGs X e (GvTs G W c)
theorem PGimp {X : Cx} {e : Expr} {t t' : TG} (h : PG X e t) (i : ∀ v σ H Q, t' v σ H Q → t v σ H Q) : PG X e t' := ⟨fun pins s σ H v u Q I r q => h.run pins s σ H v u Q I r (i v σ H Q q)⟩
theorem PGsimp {X : Cx} {e : List Expr} {t t' : TGs} (h : PGs X e t) (i : ∀ v σ H Q, t' v σ H Q → t v σ H Q) : PGs X e t' := ⟨fun pins s σ H v u Q I r q => h.run pins s σ H v u Q I r (i v σ H Q q)⟩
theorem PG.or {X : Cx} {e : Expr} {t t' : TG} (h : PG X e t) (h' : PG X e t') : PG X e (fun v σ H Q => t v σ H Q ∨ t' v σ H Q) := ⟨fun pins s σ H v u Q I r q => q.elim (h.run pins s σ H v u Q I r) (h'.run pins s σ H v u Q I r)⟩
def tName (i : Nat) : CT := fun p ls S => .ok (ls.set i (some p)) S
def tgNil : CTs := fun ps ls S => match ps with
  | [] => .ok ls S
  | _ => .bad
/-- targets that are names: nothing is raised in between -/
def tgCons (t : CT) (u : CTs) : CTs := fun ps ls S => match ps with
  | p :: r => match t p ls S with
    | .ok ls1 S1 => match u r ls1 S1 with
      | .ok ls2 S2 => .ok ls2 S2
      | _ => .bad
    | _ => .bad
  | _ => .bad
def tTup (n : Nat) (t : CTs) : CT := fun p ls S => match p with
  | .tup l => if l.length = n then t l ls S else .bad
  | .loc a => match lstAt S a with
    | some l => if l.length = n then t l ls S else .bad
    | none => .bad
  | _ => .bad
def setAt (o i p : PV) (S : Store) : Out PV := match o, i with
  | .loc a, .int k => match S[a]? with
    | some (.lst xs) => match ixN xs.length k with
      | some j => .ok .non (S.set a (.lst (xs.set j p)))
      | none => .bad
    | _ => .bad
  | _, _ => .bad
def tSub (o i : CE) : CT := fun p ls S => (o ls S).bind fun q S1 => (i ls S1).bind fun k S2 => (setAt q k p S2).bind fun _ S3 => .ok ls S3
section
variable {X : Cx} {G : Env1} {W : WX} {e a b : Expr} {es : List Expr} {ca cb : CE} {ct : CT} {cts : CTs} {pos : Pos}
theorem gv_name {i : Nat} {x : Str} (hN : X.N.Nodup) (hi : X.N[i]? = some x) (hx : Loc X.env.scope x) (hf : X.fn x = true ∨ X.env.scope.names.lookup x = some .local) : PGv X G W (.Name x pos) (tName i) := by
  refine PGimp (pg_name hN hi hx hf) ?_
  rintro v σ H Q ⟨m, ls, S, p, R, L, r, F⟩
  exact F.here R (L.set r i)
theorem gvs_nil : PGsv X G W [] tgNil := by
  refine PGsimp pgs_nil ?_
  rintro v σ H Q ⟨m, ls, S, p, R, L, r, F⟩
  cases p with
  | nil => cases r; exact ⟨rfl, F.here R L⟩
  | cons p ps => exact F.elim
theorem tgCons_ok {t : CT} {u : CTs} {m : List Addr} {H : Hp} {ps : List PV} {ls : Ls} {S : Store} {Q : L2.St → Hp → Prop} {E : XK} (F : Fin G m H (LR G) Q E (tgCons t u ps ls S)) :
    ∃ p r ls1 S1 ls2 S2, ps = p :: r ∧ t p ls S = .ok ls1 S1 ∧ u r ls1 S1 = .ok ls2 S2 ∧ Fin G m H (LR G) Q E (.ok ls2 S2) := by
  unfold tgCons at F
  split at F
  · rename_i p r
    split at F
    · rename_i ls1 S1 h1
      split at F
      · rename_i ls2 S2 h2
        exact ⟨p, r, ls1, S1, ls2, S2, rfl, h1, h2, F⟩
      · exact F.elim
    · exact F.elim
  · exact F.elim
theorem gvs_cons (h1 : PGv X G W e ct) (h2 : PGsv X G W es cts) (hs : (assignEach (e :: es) X.env).map (·.2) = assign e X.env :: (assignEach es X.env).map (·.2)) : PGsv X G W (e :: es) (tgCons ct cts) := by
  refine PGsimp (pgs_cons h1 h2 hs) ?_
  rintro v σ H Q ⟨m, ls, S, p, R, L, r, F⟩
  obtain ⟨p, rp, ls1, S1, ls2, S2, rfl, e1, e2, F2⟩ := tgCons_ok F
  obtain ⟨v, u, rfl, r1, r2⟩ := r
  refine ⟨v, u, rfl, m, ls, S, p, R, L, r1, ?_⟩
  rw [e1]
  intro m1 H1 σ1 x1 R1 L1
  refine ⟨m1, ls1, S1, rp, R1, L1, r2.mono x1, ?_⟩
  rw [e2]
  exact F2.mono x1
theorem gv_tup {k n : Nat} (hK : X.K = G.K) (hc : X.calm = true) (h : PGsv X G W es cts) (hn : (assignEach es X.env).length = n) (hi : (assignEach es X.env).findIdx? (·.1) = none) :
    PGv X G W (.Tuple es k pos) (tTup n cts) := by
  refine PGimp (PG.or (pg_tup (n := n) hc h hn hi) (pg_lst (n := n) hc h hn hi)) ?_
  rintro v σ H Q ⟨m, ls, S, p, R, L, r, F⟩
  unfold tTup at F
  split at F
  · rename_i l
    split at F
    · rename_i hl
      obtain ⟨a, vs, rfl, h1, h2⟩ := r
      exact .inl ⟨a, vs, rfl, by rw [hK]; exact h1, by rw [← h2.length]; exact hl, m, ls, S, l, R, L, h2, F⟩
    · exact F.elim
  · rename_i a
    split at F
    · rename_i l hl0
      split at F
      · rename_i hl
        obtain ⟨a, rfl, hm⟩ := r
        obtain ⟨vs, g1, g2⟩ := R.seq (lstAt_is hl0) hm
        exact .inr ⟨a, vs, rfl, by rw [hK]; exact g1, by rw [← g2.length]; exact hl, m, ls, S, l, R, L, g2, F⟩
      · exact F.elim
    · exact F.elim
  · exact F.elim
theorem gv_sub (ho : PEv X G W a ca) (hi : PEv X G W b cb)
    (hsl : ∀ v, assign (.Subscript a b pos) X.env v = (do
      let ov ← holding [v] (eval a X.env)
      let iv ← holding [v, ov] (eval b X.env)
      standAt pos
      holding [v, ov, iv] (setItem ov iv v)
      release [v, ov, iv] [])) : PGv X G W (.Subscript a b pos) (tSub ca cb) := by
  refine PGimp (pg_sub ho hi set_list hsl) ?_
  rintro v σ H Q ⟨m, ls, S, p, R, L, r, F⟩
  refine ⟨m, ls, S, R, L, Fin.step L F fun q S1 m1 H1 vo e1 L1 R1 v1 F1 => ⟨m1, ls, S1, R1, L1, Fin.step L1 F1 fun k S2 m2 H2 vi e2 L2' R2 v2 F2 => ?_⟩⟩
  replace v1 := v1.mono e2
  have r2 := (r.mono e1).mono e2
  unfold setAt at F2
  split at F2
  · rename_i n k
    obtain ⟨a1, rfl, hm⟩ := v1
    obtain rfl : vi = .int k := v2
    split at F2
    · rename_i xs hx
      split at F2
      · rename_i j hj
        obtain ⟨vs, g1, g2⟩ := R2.at hx hm
        have F3 : Fin G m2 H2 (LR G) Q (fun cls d H' => W cls d σ H') (.ok ls (S2.set n (.lst (xs.set j p)))) := F2
        have ex := ext_set (o := .lst (vs.set j v)) R2 (List.mem_of_getElem? hm) g1 (lst_noRd g1)
        exact ⟨a1, vs, k, j, rfl, rfl, g1, by rw [← g2.length]; exact hj, fin_set F3 R2 hm g1 (g2.set r2 j) (L2'.mono ex)⟩
      · exact F2.elim
    · exact F2.elim
  · exact F2.elim
end

/-! ### statements -/
inductive SOut where
  | nx (ls : Ls) (S : Store)
  | rt (p : PV) (S : Store)
  | bk (ls : Ls) (S : Store)
  | ct (ls : Ls) (S : Store)
  | exn (x : Exn) (ls : Ls) (S : Store)
  | bad
abbrev CS := Ls → Store → SOut
def SFin (G : Env1) (m : List Addr) (H : Hp) (D : Ends) (W : WX) : SOut → Prop
  | .nx ls S => ∀ m' H' σ', Ext G m H m' H' → Rep G m' H' S → LR G m' H' ls σ' → D.nx σ' H'
  | .rt p S => ∀ m' H' v, Ext G m H m' H' → Rep G m' H' S → VR G m' H' p v → D.rt v H'
  | .bk ls S => ∀ m' H' σ', Ext G m H m' H' → Rep G m' H' S → LR G m' H' ls σ' → D.bk σ' H'
  | .ct ls S => ∀ m' H' σ', Ext G m H m' H' → Rep G m' H' S → LR G m' H' ls σ' → D.ct σ' H'
  | .exn x ls S => ∀ m' H' σ' cls d, Ext G m H m' H' → Rep G m' H' S → LR G m' H' ls σ' → XR G m' H' x cls d → W cls d σ' H'
  | .bad => False
def SvT (G : Env1) (W : WX) (c : CS) : TS := fun D σ H => ∃ m ls S, Rep G m H S ∧ LR G m H ls σ ∧ SFin G m H D W (c ls S)
abbrev PSv (X : Cx) (G : Env1) (W : WX) (st : Stmt) (c : CS) : Prop := PS X st (SvT G W c)
abbrev PSsv (X : Cx) (G : Env1) (W : WX) (st : List Stmt) (c : CS) : Prop := PSs X st (SvT G W c)
/-- an expression's outcome, then a statement's -/
def lift {α : Type} (o : Out α) (ls : Ls) (k : α → Store → SOut) : SOut := match o with
  | .ok a S => k a S
  | .exn x S => .exn x ls S
  | .bad => .bad
@[simp] theorem lift_ok {α : Type} (a : α) (S : Store) (ls : Ls) (k : α → Store → SOut) : lift (.ok a S) ls k = k a S := nd rfl
@[simp] theorem lift_exn {α : Type} (x : Exn) (S : Store) (ls : Ls) (k : α → Store → SOut) : lift (.exn x S : Out α) ls k = .exn x ls S := nd rfl
@[simp] theorem lift_bad {α : Type} (ls : Ls) (k : α → Store → SOut) : lift (.bad : Out α) ls k = .bad := nd rfl
section
variable {X : Cx} {G : Env1} {W : WX} {m m' : List Addr} {H H' : Hp} {S : Store} {ls : Ls} {σ : L2.St} {D : Ends}
theorem SFin.mono (e : Ext G m H m' H') {o : SOut} (h : SFin G m H D W o) : SFin G m' H' D W o := by
  cases o with
  | nx l s => exact fun m2 H2 σ2 e2 => h m2 H2 σ2 (e.trans e2)
  | rt l s => exact fun m2 H2 σ2 e2 => h m2 H2 σ2 (e.trans e2)
  | bk l s => exact fun m2 H2 σ2 e2 => h m2 H2 σ2 (e.trans e2)
  | ct l s => exact fun m2 H2 σ2 e2 => h m2 H2 σ2 (e.trans e2)
  | exn x l s => exact fun m2 H2 σ2 c d e2 => h m2 H2 σ2 c d (e.trans e2)
  | bad => exact h
theorem SFin.elim {P : Prop} (h : SFin G m H D W .bad) : P := False.elim h
theorem SFin.step {α β : Type} {r : List Addr → Hp → α → β → Prop} {o : Out α} {k : α → Store → SOut} {Q : β → Hp → Prop} (L : LR G m H ls σ) (h : SFin G m H D W (lift o ls k))
    (hk : ∀ p S1 m1 H1 v, Ext G m H m1 H1 → LR G m1 H1 ls σ → Rep G m1 H1 S1 → r m1 H1 p v → SFin G m1 H1 D W (k p S1) → Q v H1) : Fin G m H r Q (fun cls d H' => W cls d σ H') o := by
  cases o with
  | ok p S1 => exact fun m1 H1 v e R q => hk p S1 m1 H1 v e (L.mono e) R q (SFin.mono e h)
  | exn x S1 => exact fun m1 H1 c d e R q => h m1 H1 σ c d e R (L.mono e) q
  | bad => exact h
theorem SFin.imp {o : SOut} {D' : Ends} {W' : WX} (h : SFin G m H D W o) (h1 : ∀ σ H, D.nx σ H → D'.nx σ H) (h2 : ∀ v H, D.rt v H → D'.rt v H) (h3 : ∀ σ H, D.bk σ H → D'.bk σ H) (h4 : ∀ σ H, D.ct σ H → D'.ct σ H) (h5 : ∀ c d σ H, W c d σ H → W' c d σ H) : SFin G m H D' W' o := by
  cases o with
  | nx l s => exact fun m2 H2 σ2 e R L => h1 _ _ (h m2 H2 σ2 e R L)
  | rt l s => exact fun m2 H2 σ2 e R L => h2 _ _ (h m2 H2 σ2 e R L)
  | bk l s => exact fun m2 H2 σ2 e R L => h3 _ _ (h m2 H2 σ2 e R L)
  | ct l s => exact fun m2 H2 σ2 e R L => h4 _ _ (h m2 H2 σ2 e R L)
  | exn x l s => exact fun m2 H2 σ2 c d e R L q => h5 _ _ _ _ (h m2 H2 σ2 c d e R L q)
  | bad => exact h
theorem SFin.nxt {l : Ls} (h : SFin G m H D W (.nx l S)) (R : Rep G m H S) (L : LR G m H l σ) : D.nx σ H := h m H σ .refl R L
theorem SFin.ret {p : PV} {v : V} (h : SFin G m H D W (.rt p S)) (R : Rep G m H S) (r : VR G m H p v) : D.rt v H := h m H v .refl R r
end

def sNext : CS := fun ls S => .nx ls S
def sBrk : CS := fun ls S => .bk ls S
def sCont : CS := fun ls S => .ct ls S
def sSeq (a b : CS) : CS := fun ls S => match a ls S with
  | .nx ls1 S1 => b ls1 S1
  | o => o
def sExpr (a : CE) : CS := fun ls S => lift (a ls S) ls fun _ S1 => .nx ls S1
def sAsg (t : CT) (a : CE) : CS := fun ls S => lift (a ls S) ls fun p S1 => lift (t p ls S1) ls fun ls1 S2 => .nx ls1 S2
def sRet (a : CE) : CS := fun ls S => lift (a ls S) ls fun p S1 => .rt p S1
def sRet0 : CS := fun _ S => .rt .non S
def sIf (c : CB) (a b : CS) : CS := fun ls S => lift (c ls S) ls fun k S1 => if k then a ls S1 else b ls S1
def sAug (i : Nat) (g : Op2) (a : CE) : CS := fun ls S => match ls[i]? with
  | some (some q) => lift (a ls S) ls fun p S1 => lift (g q p S1) ls fun r S2 => .nx (ls.set i (some r)) S2
  | _ => .bad
section
variable {X : Cx} {G : Env1} {W : WX} {e a b c : Expr} {st : Stmt} {sts : List Stmt} {ca cb : CE} {ct : CT} {kc : CB} {c1 c2 : CS} {pos : Pos}
theorem sv_nil : PSsv X G W [] sNext := PSsimp pss_nil fun D σ H ⟨_, _, _, R, L, F⟩ => F.nxt R L
theorem sv_cons (h1 : PSv X G W st c1) (h2 : PSsv X G W sts c2) : PSsv X G W (st :: sts) (sSeq c1 c2) := by
  refine PSsimp (pss_cons h1 h2) ?_
  rintro D σ H ⟨m, ls, S, R, L, F⟩
  refine ⟨m, ls, S, R, L, ?_⟩
  unfold sSeq at F
  cases h : c1 ls S with
  | nx ls1 S1 =>
    rw [h] at F
    exact fun m1 H1 σ1 e1 R1 L1 => ⟨m1, ls1, S1, R1, L1, F.mono e1⟩
  | rt p S1 => rw [h] at F; exact F
  | bk p S1 => rw [h] at F; exact F
  | ct p S1 => rw [h] at F; exact F
  | exn x p S1 => rw [h] at F; exact F
  | bad => rw [h] at F; exact F
theorem sv_pass : PSv X G W (.Pass pos) sNext := PSimp ps_pass fun D σ H ⟨_, _, _, R, L, F⟩ => F.nxt R L
theorem sv_break : PSv X G W (.Break pos) sBrk := PSimp ps_break fun D σ H ⟨_, _, _, R, L, F⟩ => F _ _ _ .refl R L
theorem sv_continue : PSv X G W (.Continue pos) sCont := PSimp ps_continue fun D σ H ⟨_, _, _, R, L, F⟩ => F _ _ _ .refl R L
theorem sv_doc {x : Str} {j : Nat} {pos' : Pos} : PSv X G W (.Expr (.Constant (.str x) j pos) pos') sNext := PSimp ps_doc fun D σ H ⟨_, _, _, R, L, F⟩ => F.nxt R L
theorem sv_expr (he : PEv X G W e ca) (hs : swapsWith e none pos.line X.env = pure false) : PSv X G W (.Expr e pos) (sExpr ca) := by
  refine PSimp (ps_expr he hs) ?_
  rintro D σ H ⟨m, ls, S, R, L, F⟩
  exact ⟨m, ls, S, R, L, SFin.step L F fun p S1 m1 H1 v e1 L1 R1 v1 F1 => F1.nxt R1 L1⟩
theorem sv_ret (he : PEv X G W e ca) : PSv X G W (.Return (some e) pos) (sRet ca) := by
  refine PSimp (ps_ret he) ?_
  rintro D σ H ⟨m, ls, S, R, L, F⟩
  exact ⟨m, ls, S, R, L, SFin.step L F fun p S1 m1 H1 v e1 L1 R1 v1 F1 => F1.ret R1 v1⟩
theorem sv_ret0 : PSv X G W (.Return none pos) sRet0 := PSimp ps_retN fun D σ H ⟨_, _, _, R, L, F⟩ => F.ret R rfl
theorem sv_asg {tg : Expr} (he : PEv X G W e ca) (hg : PGv X G W tg ct) (hs : swapsWithSole [tg] e pos.line X.env = pure false) (hw : swappedStores [tg] e X.env = pure none) (h1 : (assignEach [tg] X.env).map (·.2) = [assign tg X.env]) : PSv X G W (.Assign [tg] e pos) (sAsg ct ca) := by
  refine PSimp (ps_asg he hg hs hw h1) ?_
  rintro D σ H ⟨m, ls, S, R, L, F⟩
  refine ⟨m, ls, S, R, L, SFin.step L F fun p S1 m1 H1 v e1 L1 R1 v1 F1 => ⟨m1, ls, S1, p, R1, L1, v1, SFin.step L1 F1 fun ls2 S2 m2 H2 σ2 e2 L2' R2 v2 F2 => F2.nxt R2 v2⟩⟩
theorem sv_set {i : Nat} {x : Str} {pos' : Pos} (hN : X.N.Nodup) (hi : X.N[i]? = some x) (hx : Loc X.env.scope x) (hf : X.fn x = true ∨ X.env.scope.names.lookup x = some .local) (he : PEv X G W e ca) (hs : swapsWith e (some (.Name x pos')) pos.line X.env = pure false) :
    PSv X G W (.Assign [.Name x pos'] e pos) (sAsg (tName i) ca) := by
  refine PSimp (ps_set hN hi hx he hs hf) ?_
  rintro D σ H ⟨m, ls, S, R, L, F⟩
  exact ⟨m, ls, S, R, L, SFin.step L F fun p S1 m1 H1 v e1 L1 R1 v1 F1 => SFin.nxt F1 R1 (L1.set v1 i)⟩
theorem sv_if {th el : List Stmt} (hc : PTv X G W c kc) (ha : PSsv X G W th c1) (hb : PSsv X G W el c2) : PSv X G W (.If c th el pos) (sIf kc c1 c2) := by
  refine PSimp (ps_if hc ha hb) ?_
  rintro D σ H ⟨m, ls, S, R, L, F⟩
  refine ⟨m, ls, S, R, L, SFin.step L F fun p S1 m1 H1 v e1 L1 R1 v1 F1 => ?_⟩
  obtain rfl : p = v := v1
  cases p with
  | true => exact ⟨m1, ls, S1, R1, L1, F1⟩
  | false => exact ⟨m1, ls, S1, R1, L1, F1⟩
/-- x += e at a name -/
theorem PIimp2 {op : Operator} {t t' : TIp} (h : PIp X op t) (i : ∀ x y H Q, t' x y H Q → t x y H Q) : PIp X op t' := fun pins s σ H x y v u Q I rx ry q => h pins s σ H x y v u Q I rx ry (i x y H Q q)
theorem sv_aug {i : Nat} {x : Str} {op : Operator} {g : Op2} {pos' : Pos} (hN : X.N.Nodup) (hi : X.N[i]? = some x) (hx : Loc X.env.scope x) (he : PEv X G W e ca) (ho : OpS X G (inplaceOp op) g) (hf : X.fn x = true ∨ X.env.scope.names.lookup x = some .local) :
    PSv X G W (.AugAssign (.Name x pos') op e pos) (sAug i g ca) := by
  refine PSimp (ps_aug hN hi hx he (show PIp X op (tO2 G g) from ho) hf) ?_
  rintro D σ H ⟨m, ls, S, R, L, F⟩
  unfold sAug at F
  split at F
  · rename_i q hq
    obtain ⟨v, h1, h2⟩ := L.ok i q hq
    refine ⟨v, h1, m, ls, S, R, L, SFin.step L F fun p S1 m1 H1 u e1 L1 R1 v1 F1 => ⟨m1, S1, q, p, _, R1, h2.mono e1, v1, SFin.step L1 F1 fun r S2 m2 H2 w e2 L2' R2 v2 F2 => F2.nxt R2 (L2'.set v2 i)⟩⟩
  · exact F.elim
end

/-! ### while -/
def whileN (k : CB) (b : CS) : Nat → Ls → Store → SOut
  | 0, _, _ => .bad
  | n + 1, ls, S => lift (k ls S) ls fun t S1 => if t then (match b ls S1 with
      | .nx ls2 S2 => whileN k b n ls2 S2
      | .ct ls2 S2 => whileN k b n ls2 S2
      | .bk ls2 S2 => .nx ls2 S2
      | o => o) else .nx ls S1
theorem whileN_up {k : CB} {b : CS} : ∀ (n : Nat) (ls : Ls) (S : Store), whileN k b n ls S ≠ .bad → whileN k b (n + 1) ls S = whileN k b n ls S
  | 0, ls, S, h => absurd rfl h
  | n + 1, ls, S, h => by
    rw [whileN]
    conv => rhs; rw [whileN]
    rw [whileN] at h
    cases hk : k ls S with
    | exn x S1 => rfl
    | bad => rfl
    | ok t S1 =>
      rw [hk] at h
      simp only [lift_ok] at h ⊢
      cases t with
      | false => rfl
      | true =>
        simp only [if_true] at h ⊢
        cases hb : b ls S1 with
        | nx ls2 S2 =>
          rw [hb] at h
          exact whileN_up n ls2 S2 h
        | ct ls2 S2 =>
          rw [hb] at h
          exact whileN_up n ls2 S2 h
        | bk ls2 S2 => rfl
        | rt p S2 => rfl
        | exn x l S2 => rfl
        | bad => rfl
theorem whileN_le {k : CB} {b : CS} {n : Nat} {ls : Ls} {S : Store} (h : whileN k b n ls S ≠ .bad) : ∀ j, whileN k b (n + j) ls S = whileN k b n ls S
  | 0 => rfl
  | j + 1 => by
    have ih := whileN_le h j
    rw [show n + (j + 1) = (n + j) + 1 from rfl, whileN_up (n + j) ls S (by rw [ih]; exact h), ih]
noncomputable def sWhile (k : CB) (b : CS) : CS := fun ls S => if h : ∃ n, whileN k b n ls S ≠ .bad then whileN k b (Classical.choose h) ls S else .bad
theorem sWhile_of {k : CB} {b : CS} {n : Nat} {ls : Ls} {S : Store} (h : whileN k b n ls S ≠ .bad) : sWhile k b ls S = whileN k b n ls S := by
  unfold sWhile
  have hx : ∃ n, whileN k b n ls S ≠ .bad := ⟨n, h⟩
  rw [dif_pos hx]
  have h2 := Classical.choose_spec hx
  generalize Classical.choose hx = j at h2
  rcases Nat.le_total n j with q | q
  · obtain ⟨d, rfl⟩ := Nat.exists_eq_add_of_le q
    exact whileN_le h d
  · obtain ⟨d, rfl⟩ := Nat.exists_eq_add_of_le q
    exact (whileN_le h2 d).symm
/-- a while, by its first turn -/
theorem sWhile_eq (k : CB) (b : CS) (ls : Ls) (S : Store) : sWhile k b ls S = lift (k ls S) ls fun t S1 => if t then (match b ls S1 with
      | .nx ls2 S2 => sWhile k b ls2 S2
      | .ct ls2 S2 => sWhile k b ls2 S2
      | .bk ls2 S2 => .nx ls2 S2
      | o => o) else .nx ls S1 := by
  have key : ∀ ls2 S2, sWhile k b ls2 S2 ≠ .bad → ∃ n, whileN k b n ls2 S2 ≠ .bad := fun ls2 S2 h => by
    by_cases hx : ∃ n, whileN k b n ls2 S2 ≠ .bad
    · exact hx
    · exact absurd (by unfold sWhile; rw [dif_neg hx]) h
  by_cases hx : ∃ n, whileN k b n ls S ≠ .bad
  · obtain ⟨n, hn⟩ := hx
    rw [sWhile_of hn]
    cases n with
    | zero => exact absurd rfl hn
    | succ n =>
      rw [whileN] at hn ⊢
      cases hk : k ls S with
      | exn x S1 => rfl
      | bad => rfl
      | ok t S1 =>
        rw [hk] at hn
        simp only [lift_ok] at hn ⊢
        cases t with
        | false => rfl
        | true =>
          simp only [if_true] at hn ⊢
          cases hb : b ls S1 with
          | nx ls2 S2 => rw [hb] at hn; exact (sWhile_of hn).symm
          | ct ls2 S2 => rw [hb] at hn; exact (sWhile_of hn).symm
          | bk ls2 S2 => rfl
          | rt p S2 => rfl
          | exn x l S2 => rfl
          | bad => rfl
  · have h0 : sWhile k b ls S = .bad := by unfold sWhile; rw [dif_neg hx]
    rw [h0]
    have no : ∀ n, whileN k b n ls S = .bad := fun n => Classical.byContradiction fun h => hx ⟨n, h⟩
    have n1 := no 1
    rw [whileN] at n1
    cases hk : k ls S with
    | exn x S1 => rw [hk] at n1; cases n1
    | bad => rfl
    | ok t S1 =>
      rw [hk] at n1
      simp only [lift_ok] at n1 ⊢
      cases t with
      | false => cases n1
      | true =>
        simp only [if_true] at n1 ⊢
        have rest : ∀ ls2 S2, (b ls S1 = .nx ls2 S2 ∨ b ls S1 = .ct ls2 S2) → sWhile k b ls2 S2 = .bad := by
          intro ls2 S2 hb
          refine Classical.byContradiction fun h => ?_
          obtain ⟨n, hn⟩ := key ls2 S2 h
          have q := no (n + 1)
          rw [whileN, hk] at q
          simp only [lift_ok, if_true] at q
          rcases hb with hb | hb <;> (rw [hb] at q; exact hn q)
        cases hb : b ls S1 with
        | nx ls2 S2 => exact (rest ls2 S2 (.inl hb)).symm
        | ct ls2 S2 => exact (rest ls2 S2 (.inr hb)).symm
        | bk ls2 S2 => rw [hb] at n1; cases n1
        | rt p S2 => rw [hb] at n1; cases n1
        | exn x l S2 => rw [hb] at n1; cases n1
        | bad => rfl
section
variable {X : Cx} {G : Env1} {W : WX} {c : Expr} {kc : CB} {c1 : CS} {pos : Pos} {body : List Stmt}
theorem sv_while (hp : PassesOwn (model X.prog X.w) X.A X.env X.xe) (hc : PTv X G W c kc) (hb : PSsv X G W body c1) : PSv X G W (.While c body [] pos) (sWhile kc c1) := by
  refine PSimp (ps_while hp hc hb) ?_
  rintro D σ H ⟨m, ls, S, R, L, F⟩
  have hx : ∃ n, sWhile kc c1 ls S = whileN kc c1 n ls S := by
    by_cases h : ∃ n, whileN kc c1 n ls S ≠ .bad
    · obtain ⟨n, hn⟩ := h; exact ⟨n, sWhile_of hn⟩
    · exact ⟨0, by unfold sWhile; rw [dif_neg h]; rfl⟩
  obtain ⟨n, hn⟩ := hx
  rw [hn] at F
  refine ⟨fun j σ1 H1 => ∃ m1 ls1 S1, Rep G m1 H1 S1 ∧ LR G m1 H1 ls1 σ1 ∧ SFin G m1 H1 D W (whileN kc c1 j ls1 S1), ⟨n, m, ls, S, R, L, F⟩, ?_⟩
  rintro j σ1 H1 ⟨m1, ls1, S1, R1, L1, F1⟩
  cases j with
  | zero => exact F1.elim
  | succ j =>
    rw [whileN] at F1
    refine ⟨m1, ls1, S1, R1, L1, SFin.step L1 F1 fun t S2 m2 H2 v e2 L2' R2 v2 F2 => ?_⟩
    obtain rfl : t = v := v2
    cases t with
    | false => exact F2.nxt R2 L2'
    | true =>
      refine ⟨fun σ3 H3 => ∃ m3 ls3 S3, Rep G m3 H3 S3 ∧ LR G m3 H3 ls3 σ3 ∧ SFin G m3 H3 D W (whileN kc c1 j ls3 S3), fun σ3 H3 h => ⟨j, Nat.lt_succ_self j, h⟩, m2, ls1, S2, R2, L2', ?_⟩
      simp only [if_true] at F2
      cases hb : c1 ls1 S2 with
      | nx ls3 S3 => rw [hb] at F2; exact fun m3 H3 σ3 e3 R3 L3 => ⟨m3, ls3, S3, R3, L3, SFin.mono e3 F2⟩
      | ct ls3 S3 => rw [hb] at F2; exact fun m3 H3 σ3 e3 R3 L3 => ⟨m3, ls3, S3, R3, L3, SFin.mono e3 F2⟩
      | bk ls3 S3 => rw [hb] at F2; exact F2
      | rt p S3 => rw [hb] at F2; exact F2
      | exn x l S3 => rw [hb] at F2; exact F2
      | bad => rw [hb] at F2; exact F2
end

/-! ### for -/
/-- the turns over the items, one by one; the lists that are walked must stay as they are -/
noncomputable def forL (gs : Guard) (t : CT) (b : CS) : List PV → Ls → Store → SOut
  | [], ls, S => if gOk gs S then .nx ls S else .bad
  | p :: r, ls, S => if gOk gs S then lift (t p ls S) ls fun ls1 S1 => match b ls1 S1 with
      | .nx ls2 S2 => forL gs t b r ls2 S2
      | .ct ls2 S2 => forL gs t b r ls2 S2
      | .bk ls2 S2 => .nx ls2 S2
      | o => o
    else .bad
noncomputable def sFor (i : CI) (t : CT) (b : CS) : CS := fun ls S => lift (i ls S) ls fun src S1 => forL src.2 t b src.1 ls S1
section
variable {X : Cx} {G : Env1} {W : WX} {tg it : Expr} {ci : CI} {ct : CT} {c1 : CS} {pos : Pos} {body : List Stmt}
theorem sv_for (hp : PassesOwn (model X.prog X.w) X.A X.env X.xe) (hc : X.calm = true) (hi : PIv X G W tg it ci) (hg : PGv X G W tg ct) (hb : PSsv X G W body c1) (hs : ∀ x, foldedSetIterable it X.env x = pure x) : PSv X G W (.For tg it body [] pos) (sFor ci ct c1) := by
  refine PSimp (ps_for hp hc hi hg hb hs) ?_
  rintro D σ H ⟨m, ls, S, R, L, F⟩
  refine ⟨m, ls, S, R, L, SFin.step L F fun src S1 m1 H1 J e1 L1 R1 cf F1 => ?_⟩
  refine ⟨fun i j σ2 H2 => ∃ m2 ls2 S2, Ext G m1 H1 m2 H2 ∧ Rep G m2 H2 S2 ∧ LR G m2 H2 ls2 σ2 ∧ i + j = src.1.length ∧ SFin G m2 H2 D W (forL src.2 ct c1 (src.1.drop i) ls2 S2),
    ⟨src.1.length, m1, ls, S1, .refl, R1, L1, Nat.zero_add _, F1⟩, ?_⟩
  rintro i j σ2 H2 ⟨m2, ls2, S2, e2, R2, L2', hij, F2⟩
  cases hd : src.1.drop i with
  | nil =>
    rw [hd, forL] at F2
    split at F2
    · rename_i hg0
      have hi' : i = src.1.length := by
        have := List.drop_eq_nil_iff.mp hd
        omega
      exact .inl ⟨(cf m2 H2 S2 e2 R2 hg0 i).1 hi', F2.nxt R2 L2'⟩
    · exact F2.elim
  | cons p r =>
    rw [hd, forL] at F2
    split at F2
    · rename_i hg0
      have hlt : i < src.1.length := by
        rcases Nat.lt_or_ge i src.1.length with q | q
        · exact q
        · rw [List.drop_eq_nil_of_le q] at hd; cases hd
      have hp0 : src.1[i]? = some p := by
        rw [List.drop_eq_getElem_cons hlt] at hd
        injection hd with h1 _
        rw [List.getElem?_eq_getElem hlt, h1]
      have hr0 : src.1.drop (i + 1) = r := by
        rw [List.drop_eq_getElem_cons hlt] at hd
        injection hd
      obtain ⟨hgo, hy⟩ := (cf m2 H2 S2 e2 R2 hg0 i).2 p hp0
      obtain ⟨j', rfl⟩ : ∃ j', j = j' + 1 := ⟨j - 1, by omega⟩
      refine .inr ⟨hgo, fun σ3 H3 => ∃ m3 ls3 S3, Ext G m1 H1 m3 H3 ∧ Rep G m3 H3 S3 ∧ LR G m3 H3 ls3 σ3 ∧ SFin G m3 H3 D W (forL src.2 ct c1 r ls3 S3), fun σ3 H3 ⟨m3, ls3, S3, e3, R3, L3, F3⟩ => ⟨j', Nat.lt_succ_self _, m3, ls3, S3, e3, R3, L3, by omega, by rw [hr0]; exact F3⟩, fun x H3 hx => ?_⟩
      obtain ⟨e3, R3, v3⟩ := hy x H3 hx
      refine ⟨m2, ls2, S2, p, R3, L2'.mono e3, v3, SFin.step (L2'.mono e3) (F2.mono e3) fun ls4 S4 m4 H4 σ4 e4 L4' R4 L4 F4 => ⟨m4, ls4, S4, R4, L4, ?_⟩⟩
      have e14 := (e2.trans e3).trans e4
      cases hb : c1 ls4 S4 with
      | nx ls5 S5 => rw [hb] at F4; exact fun m5 H5 σ5 e5 R5 L5 => ⟨m5, ls5, S5, e14.trans e5, R5, L5, SFin.mono e5 F4⟩
      | ct ls5 S5 => rw [hb] at F4; exact fun m5 H5 σ5 e5 R5 L5 => ⟨m5, ls5, S5, e14.trans e5, R5, L5, SFin.mono e5 F4⟩
      | bk ls5 S5 => rw [hb] at F4; exact F4
      | rt q S5 => rw [hb] at F4; exact F4
      | exn x l S5 => rw [hb] at F4; exact F4
      | bad => rw [hb] at F4; exact F4
    · exact F2.elim
end
end Bm

/-! Bm, part H: list comprehensions. -/
namespace Bm
open PySem PySem.Spec PyProof.Rows L2
open Classical

section
variable {G : Env1} {m m' : List Addr} {H H' : Hp} {S : Store}
mutual
theorem VR.weak (hm : ∀ (n : Nat) (a : Addr), m[n]? = some a → m'[n]? = some a) (ht : ∀ a vs, SqT G.K H a vs → SqT G.K H' a vs) : ∀ {p : PV} {v : V}, VR G m H p v → VR G m' H' p v
  | .non, _, h => h
  | .bl _, _, h => h
  | .int _, _, h => h
  | .str _, _, h => h
  | .loc n, _, h => by
    obtain ⟨a, h1, h2⟩ := h
    exact ⟨a, h1, hm _ _ h2⟩
  | .tup l, _, h => by
    obtain ⟨a, vs, h1, h2, h3⟩ := h
    exact ⟨a, vs, h1, ht _ _ h2, VRs.weak hm ht h3⟩
theorem VRs.weak (hm : ∀ (n : Nat) (a : Addr), m[n]? = some a → m'[n]? = some a) (ht : ∀ a vs, SqT G.K H a vs → SqT G.K H' a vs) : ∀ {p : List PV} {v : List V}, VRs G m H p v → VRs G m' H' p v
  | [], _, h => h
  | p :: ps, _, h => by
    obtain ⟨v, r, h1, h2, h3⟩ := h
    exact ⟨v, r, h1, VR.weak hm ht h2, VRs.weak hm ht h3⟩
end
theorem FR.weak (hm : ∀ (n : Nat) (a : Addr), m[n]? = some a → m'[n]? = some a) (ht : ∀ a vs, SqT G.K H a vs → SqT G.K H' a vs) : ∀ {p : List (Str × PV)} {v : List (Str × V)}, FR G m H p v → FR G m' H' p v
  | [], _, h => h
  | p :: ps, _, h => by
    obtain ⟨v, r, h1, h2, h3⟩ := h
    exact ⟨v, r, h1, VR.weak hm ht h2, FR.weak hm ht h3⟩
theorem MR.weak (hm : ∀ (n : Nat) (a : Addr), m[n]? = some a → m'[n]? = some a) (ht : ∀ a vs, SqT G.K H a vs → SqT G.K H' a vs) {o : MO} {a : Addr} (ha : ∀ u, H a = some u → H' a = some u) (h : MR G m H o a) : MR G m' H' o a := by
  cases o with
  | lst xs =>
    obtain ⟨vs, h1, h2⟩ := h
    exact ⟨vs, ha _ h1, h2.weak hm ht⟩
  | frz xs =>
    obtain ⟨vs, o, h1, h2⟩ := h
    exact ⟨vs, o, ha _ h1, h2.weak hm ht⟩
  | obj c fs =>
    obtain ⟨dx, fv, h1, h2⟩ := h
    exact ⟨dx, fv, ha _ h1, h2.weak hm ht⟩
theorem LR.weak (hm : ∀ (n : Nat) (a : Addr), m[n]? = some a → m'[n]? = some a) (ht : ∀ a vs, SqT G.K H a vs → SqT G.K H' a vs) {ls : Ls} {σ : L2.St} (h : LR G m H ls σ) : LR G m' H' ls σ :=
  ⟨h.len, fun i p hp => let ⟨v, h1, h2⟩ := h.ok i p hp; ⟨v, h1, h2.weak hm ht⟩⟩
/-- a list beside the store is written -/
theorem side_tups {D : Addr} {vs ws : List V} (h : H D = some (.lst vs)) : ∀ a us, SqT G.K H a us → SqT G.K (upd H D (.lst ws)) a us := fun _ _ => SqT.upd (lst_noRd h)
theorem Rep.beside (R : Rep G m H S) {D : Addr} {vs ws : List V} (hD : D ∉ m) (h : H D = some (.lst vs)) : Rep G m (upd H D (.lst ws)) S :=
  ⟨R.len, R.nd, fun i x a h1 h2 => (R.ok i x a h1 h2).weak (fun _ _ h => h) (side_tups h) fun u e => by rw [upd_ne (show a ≠ D from fun z => hD (z ▸ List.mem_of_getElem? h2))]; exact e⟩
theorem Ext.beside (e : Ext G m H m' H') {D : Addr} {vs ws : List V} (h0 : H D = none) (h : H' D = some (.lst vs)) : Ext G m H m' (upd H' D (.lst ws)) :=
  ⟨e.more, fun a o hm ha => by rw [upd_ne (ne_of_none ha h0)]; exact e.keep a o hm ha, e.new, fun a us q => side_tups h _ _ (e.tups _ _ q)⟩
/-- a list beside the store becomes one of it -/
theorem Rep.adopt (R : Rep G m H S) {D : Addr} {vs : List V} {xs : List PV} (hD : D ∉ m) (h : H D = some (.lst vs)) (r : VRs G m H xs vs) : Rep G (m ++ [D]) H (S ++ [.lst xs]) := by
  have hm : ∀ (n : Nat) (a : Addr), m[n]? = some a → (m ++ [D])[n]? = some a := fun n a q => by
    rw [List.getElem?_append_left (List.getElem?_eq_some_iff.mp q).1]; exact q
  refine ⟨by simp [R.len], ?_, fun i y a h1 h2 => ?_⟩
  · refine List.nodup_append.mpr ⟨R.nd, by simp, fun a ha b hb e => ?_⟩
    rw [List.mem_singleton.mp hb] at e
    subst e
    exact hD ha
  · by_cases hi : i < m.length
    · rw [List.getElem?_append_left (by rw [← R.len]; exact hi)] at h1
      rw [List.getElem?_append_left hi] at h2
      exact (R.ok i y a h1 h2).weak hm (fun _ _ h => h) fun _ e => e
    · have hi' : i = m.length := by
        have := (List.getElem?_eq_some_iff.mp h2).1
        simp at this; omega
      subst hi'
      rw [List.getElem?_append_right (Nat.le_refl _)] at h2
      rw [R.len, List.getElem?_append_right (Nat.le_refl _)] at h1
      simp at h1 h2
      subst h1; subst h2
      exact ⟨vs, h, r.weak hm fun _ _ h => h⟩
theorem Ext.adopt (e : Ext G m H m' H') {D : Addr} (h0 : H D = none) : Ext G m H (m' ++ [D]) H' :=
  ⟨by obtain ⟨t, rfl⟩ := e.more; exact ⟨t ++ [D], by simp⟩, e.keep, fun a ha n => by
    rcases List.mem_append.mp ha with q | q
    · exact e.new a q n
    · rw [List.mem_singleton.mp q]; exact h0, e.tups⟩
end

/-! ### targets of a comprehension: names -/
def setAll : L2.St → List Nat → List V → L2.St
  | σ, i :: is, v :: vs => setAll (σ.set i (some v)) is vs
  | σ, _, _ => σ
def setAllP : Ls → List Nat → List PV → Ls
  | σ, i :: is, v :: vs => setAllP (σ.set i (some v)) is vs
  | σ, _, _ => σ
def gSets : List Nat → TGs
  | [] => gNil
  | i :: r => gCons (gName i) (gSets r)
theorem gSets_of : ∀ (is : List Nat) (vs : List V) (σ : L2.St) (H : Hp) (Q : L2.St → Hp → Prop), vs.length = is.length → Q (setAll σ is vs) H → gSets is vs σ H Q
  | [], [], σ, H, Q, _, h => ⟨rfl, h⟩
  | i :: is, v :: vs, σ, H, Q, hl, h => ⟨v, vs, rfl, gSets_of is vs _ H Q (by simpa using hl) h⟩
  | [], _ :: _, _, _, _, hl, _ => by simp at hl
  | _ :: _, [], _, _, _, hl, _ => by simp at hl
theorem wipe_get (σ : L2.St) : ∀ (vs : List Nat) (j : Nat), (wipe σ vs)[j]? = if j ∈ vs ∧ j < σ.length then some none else σ[j]?
  | [], j => by simp [wipe]
  | v :: vs, j => by
    unfold wipe
    by_cases hj : v = j
    · subst hj
      by_cases hl : v < σ.length
      · rw [List.getElem?_set_self (by rw [wipe_length]; exact hl), if_pos ⟨List.mem_cons_self, hl⟩]
      · rw [if_neg (fun h => hl h.2), List.getElem?_eq_none (by simpa [wipe_length] using hl), List.getElem?_eq_none (by omega)]
    · rw [List.getElem?_set_ne hj, wipe_get σ vs j]
      have : (j ∈ v :: vs ∧ j < σ.length) ↔ (j ∈ vs ∧ j < σ.length) := by
        simp only [List.mem_cons]
        constructor
        · rintro ⟨h1 | h1, h2⟩
          · exact absurd h1.symm hj
          · exact ⟨h1, h2⟩
        · rintro ⟨h1, h2⟩
          exact ⟨.inr h1, h2⟩
      by_cases q : j ∈ vs ∧ j < σ.length
      · rw [if_pos q, if_pos (this.mpr q)]
      · rw [if_neg q, if_neg (fun z => q (this.mp z))]
theorem wipe_set (σ : L2.St) (vs : List Nat) (i : Nat) (x : Option V) (h : i ∈ vs) : wipe (σ.set i x) vs = wipe σ vs := by
  apply List.ext_getElem?
  intro j
  rw [wipe_get, wipe_get, List.length_set]
  by_cases q : j ∈ vs ∧ j < σ.length
  · rw [if_pos q, if_pos q]
  · rw [if_neg q, if_neg q]
    by_cases hj : i = j
    · subst hj
      have : ¬ i < σ.length := fun z => q ⟨h, z⟩
      rw [List.getElem?_eq_none (by simpa using this), List.getElem?_eq_none (by omega)]
    · rw [List.getElem?_set_ne hj]
theorem wipe_wipe (σ : L2.St) (vs : List Nat) : wipe (wipe σ vs) vs = wipe σ vs := by
  apply List.ext_getElem?
  intro j
  rw [wipe_get, wipe_length, wipe_get]
  by_cases q : j ∈ vs ∧ j < σ.length
  · simp only [if_pos q]
  · simp only [if_neg q]
theorem wipe_setAll (vs : List Nat) : ∀ (is : List Nat) (us : List V) (σ : L2.St), (∀ i ∈ is, i ∈ vs) → wipe (setAll σ is us) vs = wipe σ vs
  | [], us, σ, _ => by cases us <;> rfl
  | i :: is, [], σ, _ => rfl
  | i :: is, u :: us, σ, h => by
    rw [setAll, wipe_setAll vs is us _ fun j hj => h j (List.mem_cons_of_mem _ hj), wipe_set σ vs i _ (h i List.mem_cons_self)]
def wipeL (ls : Ls) : List Nat → Ls
  | [] => ls
  | v :: vs => (wipeL ls vs).set v none
section
variable {G : Env1} {m : List Addr} {H : Hp} {ls : Ls} {σ : L2.St}
theorem LR.wipe (L : LR G m H ls σ) : ∀ vs : List Nat, LR G m H (wipeL ls vs) (wipe σ vs)
  | [] => L
  | v :: vs => (LR.wipe L vs).unset v none
end
theorem LR.setAll {G : Env1} {m : List Addr} {H : Hp} : ∀ {is : List Nat} {ps : List PV} {vs : List V} {ls : Ls} {σ : L2.St}, LR G m H ls σ → VRs G m H ps vs → LR G m H (setAllP ls is ps) (Bm.setAll σ is vs)
  | [], ps, vs, ls, σ, L, r => by cases ps <;> cases vs <;> exact L
  | i :: is, [], vs, ls, σ, L, r => by cases r; exact L
  | i :: is, p :: ps, vs, ls, σ, L, r => by
    obtain ⟨v, u, rfl, h1, h2⟩ := r
    show LR G m H (setAllP (ls.set i (some p)) is ps) (Bm.setAll (σ.set i (some v)) is u)
    exact LR.setAll (L.set h1 i) h2
/-- one name, or a tuple of names -/
inductive NT where
  | one (i : Nat) | many (is : List Nat)
  deriving DecidableEq
def NT.slots : NT → List Nat
  | .one i => [i] | .many is => is
def NT.set (t : NT) : CT := fun p ls S => match t with
  | .one i => .ok (ls.set i (some p)) S
  | .many is => match p with
    | .tup l => if l.length = is.length then .ok (setAllP ls is l) S else .bad
    | .loc a => match lstAt S a with
      | some l => if l.length = is.length then .ok (setAllP ls is l) S else .bad
      | none => .bad
    | _ => .bad
def NT.g (K : PySem.W.Frag) : NT → TG
  | .one i => gName i
  | .many is => fun v σ H Q => gTup K is.length (gSets is) v σ H Q ∨ gLst K is.length (gSets is) v σ H Q
theorem NT.g_of {G : Env1} {K : PySem.W.Frag} {t : NT} {m : List Addr} {H : Hp} {S S1 : Store} {p : PV} {v : V} {ls ls1 : Ls} {σ : L2.St} {Q : L2.St → Hp → Prop} {vs : List Nat} (hK : K = G.K) (R : Rep G m H S) (L : LR G m H ls σ) (r : VR G m H p v) (h : t.set p ls S = .ok ls1 S1)
    (hs : ∀ i ∈ t.slots, i ∈ vs) (hq : ∀ σ2, wipe σ2 vs = wipe σ vs → LR G m H ls1 σ2 → S1 = S → Q σ2 H) : t.g K v σ H Q := by
  cases t with
  | one i =>
    cases h
    exact hq _ (wipe_set σ vs i _ (hs i (List.mem_singleton.mpr rfl))) (L.set r i) rfl
  | many is =>
    cases p with
    | tup l =>
      simp only [NT.set] at h
      split at h
      · rename_i hl
        cases h
        obtain ⟨a, us, rfl, h1, h2⟩ := r
        refine .inl ⟨a, us, rfl, by rw [hK]; exact h1, by rw [← h2.length]; exact hl, gSets_of is us σ H Q (by rw [← h2.length]; exact hl) ?_⟩
        exact hq _ (wipe_setAll vs is us σ hs) (L.setAll h2) rfl
      · cases h
    | loc n =>
      simp only [NT.set] at h
      split at h
      · rename_i l hl0
        split at h
        · rename_i hl
          cases h
          obtain ⟨a, rfl, hm⟩ := r
          obtain ⟨us, g1, g2⟩ := R.seq (lstAt_is hl0) hm
          refine .inr ⟨a, us, rfl, by rw [hK]; exact g1, by rw [← g2.length]; exact hl, gSets_of is us σ H Q (by rw [← g2.length]; exact hl) ?_⟩
          exact hq _ (wipe_setAll vs is us σ hs) (L.setAll g2) rfl
        · cases h
      · cases h
    | _ => cases h

/-! ### [e for t in i if k] -/
noncomputable def lcL (gs : Guard) (t : NT) (k : CB) (e : CE) : List PV → List PV → Ls → Store → Out PV
  | [], acc, _, S => if gOk gs S then .ok (.loc S.length) (S ++ [.lst acc]) else .bad
  | p :: r, acc, ls, S => if gOk gs S then match t.set p ls S with
      | .ok ls1 S1 => match k ls1 S1 with
        | .ok true S2 => match e ls1 S2 with
          | .ok q S3 => if acc.length < sizeLine then lcL gs t k e r (acc ++ [q]) ls S3 else .bad
          | _ => .bad
        | .ok false S2 => lcL gs t k e r acc ls S2
        | _ => .bad
      | _ => .bad
    else .bad
noncomputable def cLc (i : CI) (t : NT) (k : CB) (e : CE) (own : List Nat) : CE := fun ls S => (i ls S).bind fun src S1 => lcL src.2 t k e src.1 [] (wipeL ls own) S1
def kYes : CB := fun _ S => .ok true S
/-- no exception leaves a block -/
abbrev W0 : WX := fun _ _ _ _ => False
abbrev PTsv (X : Cx) (G : Env1) (W : WX) (e : List Expr) (c : CB) : Prop := PTs X e (EvB G W c)
section
variable {X : Cx} {G : Env1} {W : WX} {ci : CI} {t : NT} {k : CB} {e : CE} {own : List Nat}
theorem PTsimp {e : List Expr} {t t' : TT} (h : PTs X e t) (i : ∀ σ H Q, t' σ H Q → t σ H Q) : PTs X e t' := ⟨fun pins s σ H Q I q => h.run pins s σ H Q I (i σ H Q q)⟩
theorem ks_nil : PTsv X G W [] kYes := by
  refine PTsimp pts_nil ?_
  rintro σ H Q ⟨m, ls, S, R, L, F⟩
  exact F.here R rfl
theorem ks_one {c : Expr} (h : PTv X G W c k) : PTsv X G W [c] k := pts_one h
theorem lc_imp {K : PySem.W.Frag} (hK : K = G.K) (hs : ∀ i ∈ t.slots, i ∈ own) {σ : L2.St} {H : Hp} {Q : VK} (h : EvT G W (cLc ci t k e own) σ H Q) : tLc (IvT G W ci) (t.g K) (EvB G W0 k) (EvT G W0 e) own σ H Q := by
  obtain ⟨m, ls, S, R, L, F⟩ := h
  refine ⟨m, ls, S, R, L, Fin.step L F fun src S1 m1 H1 J e1 L1 R1 cf F1 => fun D hD => ?_⟩
  have L1w := L1.wipe own
  refine ⟨fun i j H2 => ∃ m2 S2 acc vs, Ext G m1 H1 m2 H2 ∧ Rep G m2 H2 S2 ∧ D ∉ m2 ∧ H2 D = some (.lst vs) ∧ VRs G m2 H2 acc vs ∧ i + j = src.1.length ∧
    Fin G m1 H1 (VR G) Q (fun cls d H' => W cls d σ H') (lcL src.2 t k e (src.1.drop i) acc (wipeL ls own) S2), ?_, ?_⟩
  · exact ⟨src.1.length, m1, S1, [], [], ext_side hD, R1.side hD, R1.fresh hD, upd_same, rfl, Nat.zero_add _, F1⟩
  rintro i j H2 ⟨m2, S2, acc, vs, e2, R2, hDm, hDH, ra, hij, F2⟩
  cases hd : src.1.drop i with
  | nil =>
    rw [hd, lcL] at F2
    split at F2
    · rename_i hg0
      have hi' : i = src.1.length := by
        have := List.drop_eq_nil_iff.mp hd
        omega
      refine .inl ⟨(cf m2 H2 S2 e2 R2 hg0 i).1 hi', ?_⟩
      exact F2 (m2 ++ [D]) H2 (.ref D) (e2.adopt hD) (R2.adopt hDm hDH ra) ⟨D, rfl, new_loc R2⟩
    · exact F2.elim
  | cons p r =>
    rw [hd, lcL] at F2
    split at F2
    · rename_i hg0
      have hlt : i < src.1.length := by
        rcases Nat.lt_or_ge i src.1.length with q | q
        · exact q
        · rw [List.drop_eq_nil_of_le q] at hd; cases hd
      have hp0 : src.1[i]? = some p := by
        rw [List.drop_eq_getElem_cons hlt] at hd
        injection hd with h1 _
        rw [List.getElem?_eq_getElem hlt, h1]
      have hr0 : src.1.drop (i + 1) = r := by
        rw [List.drop_eq_getElem_cons hlt] at hd
        injection hd
      obtain ⟨hgo, hy⟩ := (cf m2 H2 S2 e2 R2 hg0 i).2 p hp0
      obtain ⟨j', rfl⟩ : ∃ j', j = j' + 1 := ⟨j - 1, by omega⟩
      refine .inr ⟨hgo, fun H3 => ∃ m3 S3 acc vs, Ext G m1 H1 m3 H3 ∧ Rep G m3 H3 S3 ∧ D ∉ m3 ∧ H3 D = some (.lst vs) ∧ VRs G m3 H3 acc vs ∧ Fin G m1 H1 (VR G) Q (fun cls d H' => W cls d σ H') (lcL src.2 t k e r acc (wipeL ls own) S3),
        fun H3 ⟨m3, S3, acc, vs, e3, R3, a1, a2, a3, F3⟩ => ⟨j', Nat.lt_succ_self _, m3, S3, acc, vs, e3, R3, a1, a2, a3, by omega, by rw [hr0]; exact F3⟩, fun x H3 hx => ?_⟩
      obtain ⟨e3, R3, v3⟩ := hy x H3 hx
      have L3 := (L1w.mono e2).mono e3
      have hDH3 : H3 D = some (.lst vs) := e3.keep D _ hDm hDH
      cases ht : t.set p (wipeL ls own) S2 with
      | bad => rw [ht] at F2; exact F2.elim
      | exn x S3 => rw [ht] at F2; exact F2.elim
      | ok ls1 S3 =>
        rw [ht] at F2
        refine NT.g_of hK R3 L3 v3 ht hs fun σ2 hw L4 hS => ⟨by rw [hw]; exact wipe_wipe σ own, ?_⟩
        subst hS
        refine ⟨m2, ls1, S3, R3, L4, ?_⟩
        simp only [] at F2
        cases hk : k ls1 S3 with
        | bad => rw [hk] at F2; exact F2.elim
        | exn x S4 => rw [hk] at F2; exact F2.elim
        | ok b S4 =>
          intro m4 H4 b' e4 R4 hb
          obtain rfl : b = b' := hb
          have e24 := e3.trans e4
          have hD4 : H4 D = some (.lst vs) := e24.keep D _ hDm hDH
          have hDm4 : D ∉ m4 := fun hm => by
            have := e24.new D hm hDm
            rw [hDH] at this; cases this
          rw [hk] at F2
          cases b with
          | false => exact ⟨m4, S4, acc, vs, e2.trans e24, R4, hDm4, hD4, ra.mono e24, F2⟩
          | true =>
            simp only [] at F2
            refine ⟨m4, ls1, S4, R4, L4.mono e4, ?_⟩
            cases he : e ls1 S4 with
            | bad => rw [he] at F2; exact F2.elim
            | exn x S5 => rw [he] at F2; exact F2.elim
            | ok q S5 =>
              intro m5 H5 y e5 R5 rq
              have e25 := e24.trans e5
              have hD5 : H5 D = some (.lst vs) := e25.keep D _ hDm hDH
              have hDm5 : D ∉ m5 := fun hm => by
                have := e25.new D hm hDm
                rw [hDH] at this; cases this
              rw [he] at F2
              simp only [] at F2
              split at F2
              · rename_i hl
                have ra5 := ra.mono e25
                refine ⟨vs, hD5, by rw [← ra5.length]; exact hl, m5, S5, acc ++ [q], vs ++ [y], (e2.trans e25).beside hD hD5, R5.beside hDm5 hD5, hDm5, upd_same, ?_, F2⟩
                exact (ra5.append (VRs.one rq)).weak (fun _ _ h => h) (side_tups hD5)
              · exact F2.elim
    · exact F2.elim
variable {elt tg iter : Expr} {ifs : List Expr} {scope : Scope} {ownP : List (Str × Nat)} {pos : Pos}
theorem ev_lc (hK : X.K = G.K) (hc : X.calm = true) (hN : X.N.Nodup) (hi : PIv X G W tg iter ci) (ok : BlkOk X.N X.env.scope scope ownP)
    (hg : ∀ (s : Shared) (H : Hp) (C : Addr) (cl : List (Str × Addr)) (fp : List Addr), PG (X.blk s H scope (compEnvC scope cl C X.env) fp) tg (t.g X.K))
    (ht : ∀ (s : Shared) (H : Hp) (C : Addr) (cl : List (Str × Addr)) (fp : List Addr), PTsv (X.blk s H scope (compEnvC scope cl C X.env) fp) G W0 ifs k)
    (he : ∀ (s : Shared) (H : Hp) (C : Addr) (cl : List (Str × Addr)) (fp : List Addr), PEv (X.blk s H scope (compEnvC scope cl C X.env) fp) G W0 elt e)
    (hs : ∀ x, foldedSetIterable iter X.env x = pure x) (hsl : ∀ i ∈ t.slots, i ∈ ownP.map (·.2)) :
    PEv X G W (.ListComp elt [⟨tg, iter, ifs, 0⟩] scope pos) (cLc ci t k e (ownP.map (·.2))) :=
  PEimp (pe_lc hc hN hi ok hg ht he hs) fun _ _ _ h => lc_imp hK hsl h
theorem sv_setLc {i : Nat} {y : Str} {py spos : Pos} (hK : X.K = G.K) (hc : X.calm = true) (hN : X.N.Nodup) (hy : X.N[i]? = some y) (hyl : X.env.scope.names.lookup y = some .local)
    (hsw : swapsWith (.ListComp elt [⟨tg, iter, ifs, 0⟩] scope pos) (some (.Name y py)) spos.line X.env = pure true) (hi : PIv X G W tg iter ci) (ok : BlkOk X.N X.env.scope scope ownP)
    (hg : ∀ (s : Shared) (H : Hp) (C : Addr) (cl : List (Str × Addr)) (fp : List Addr), PG (X.blk s H scope (compEnvC scope cl C X.env) fp) tg (t.g X.K))
    (ht : ∀ (s : Shared) (H : Hp) (C : Addr) (cl : List (Str × Addr)) (fp : List Addr), PTsv (X.blk s H scope (compEnvC scope cl C X.env) fp) G W0 ifs k)
    (he : ∀ (s : Shared) (H : Hp) (C : Addr) (cl : List (Str × Addr)) (fp : List Addr), PEv (X.blk s H scope (compEnvC scope cl C X.env) fp) G W0 elt e)
    (hs : ∀ x, foldedSetIterable iter X.env x = pure x) (hsl : ∀ i ∈ t.slots, i ∈ ownP.map (·.2)) :
    PSv X G W (.Assign [.Name y py] (.ListComp elt [⟨tg, iter, ifs, 0⟩] scope pos) spos) (sAsg (tName i) (cLc ci t k e (ownP.map (·.2)))) := by
  refine PSimp (ps_setLc hc hN hy hyl hsw hi ok hg ht he hs) ?_
  rintro D σ H ⟨m, ls, S, R, L, F⟩
  refine lc_imp hK hsl ⟨m, ls, S, R, L, SFin.step L F fun p S1 m1 H1 v e1 L1 R1 v1 F1 => SFin.nxt F1 R1 (L1.set v1 i)⟩
end
end Bm

/-! Bm, part I: a small syntax, what it says, and the reading of the model's syntax into it. -/
namespace Bm
open PySem PySem.Spec PyProof.Rows L2

inductive Cn where
  | non | bl (b : Bool) | int (i : Int) | str (s : List Nat)
  deriving DecidableEq
def Cn.pv : Cn → PV
  | .non => .non | .bl b => .bl b | .int i => .int i | .str s => .str s
inductive BO where
  | add | sub | mul | div | mod | pow | shl | shr
  deriving DecidableEq
def BO.d : BO → Op2
  | .add => bAdd | .sub => bSub | .mul => bMul | .div => bDiv | .mod => bMod | .pow => bPow | .shl => bShl | .shr => bShr
inductive QO where
  | eq | ne | lt | le | gt | ge | is | nis | mem | nmem
  deriving DecidableEq
def QO.d : QO → Op2
  | .eq => bEq | .ne => bNe | .lt => bLt | .le => bLe | .gt => bGt | .ge => bGe | .is => bIs | .nis => bIsNot | .mem => bIn | .nmem => bNotIn
inductive BF where
  | len | int | list | tuple | abs | max | min
  deriving DecidableEq
def BF.d : BF → Fn
  | .len => fLen | .int => fInt | .list => fList | .tuple => fTuple | .abs => fAbs | .max => fMax | .min => fMin
inductive MM where
  | append | extend | pop | strip | lstrip | rstrip | split | join
  deriving DecidableEq
def MM.T : MM → MT
  | .append => .list | .extend => .list | .pop => .list | _ => .str
def MM.d : MM → Mt
  | .append => mAppend | .extend => mExtend | .pop => mPop | .strip => mStrip true true | .lstrip => mStrip true false | .rstrip => mStrip false true | .split => mSplit | .join => mJoin

mutual
inductive E where
  | v (i : Nat) | c (p : Cn)
  | bin (o : BO) (a b : E) | cmp (o : QO) (a b : E) | chn (o o' : QO) (a b c : E)
  | and (a b : E) | or (a b : E) | not (a : E) | neg (a : E) | ite (k : B) (a b : E)
  | tup (l : Es) | lst (l : Es) | idx (a b : E) | sl (a : E) (lo hi : EO) | rev (a : E)
  | bf (f : BF) (l : Es) | isi (t : Ty) (a : E) | mt (m : MM) (o : E) (l : Es)
  | fn (n : Nat) (l : Es) | fnk (n : Nat) (π : List Nat) (np nk : Nat) (l k : Es)
  | lc (it : It) (t : NT) (k : BOp) (e : E) (own : List Nat)
  deriving DecidableEq
inductive B where
  | t (e : E) | and (a b : B) | or (a b : B) | not (a : B)
  deriving DecidableEq
inductive BOp where
  | yes | if_ (b : B)
  deriving DecidableEq
inductive Es where
  | nil | cons (a : E) (r : Es)
  deriving DecidableEq
inductive EO where
  | no | yes (a : E)
  deriving DecidableEq
inductive It where
  | seq (a : E) | r1 (a : E) | r2 (a b : E) | zip (a b : E) | enum (a : E)
  deriving DecidableEq
end
mutual
inductive T where
  | name (i : Nat) | tup (n : Nat) (l : Ts) | sub (a b : E)
  deriving DecidableEq
inductive Ts where
  | nil | cons (a : T) (r : Ts)
  deriving DecidableEq
end
mutual
inductive S where
  | pass | brk | cont | expr (e : E) | asg (t : T) (e : E) | ret (e : E) | ret0
  | ite (k : B) (a b : Ss) | whl (k : B) (b : Ss) | for_ (t : T) (it : It) (b : Ss)
  deriving DecidableEq
inductive Ss where
  | nil | cons (a : S) (r : Ss)
  deriving DecidableEq
end

/-! ### what it says -/
def cRng1 (cr : CA) : CI := fun ls S => (cr ls S).bind fun ps S1 => match ps with | [.int j] => iRng [.int j] S1 | _ => .bad
def cRng2 (cr : CA) : CI := fun ls S => (cr ls S).bind fun ps S1 => match ps with | [.int i, .int j] => iRng [.int i, .int j] S1 | _ => .bad
section
variable (C : Nat → Fn)
mutual
noncomputable def evE : E → CE
  | .v i => cVar i
  | .c p => cCst p.pv
  | .bin o a b => cOp o.d (evE a) (evE b)
  | .cmp o a b => cOp o.d (evE a) (evE b)
  | .chn o o' a b c => cChn o.d o'.d (evE a) (evE b) (evE c)
  | .and a b => cAnd (evE a) (evE b)
  | .or a b => cOr (evE a) (evE b)
  | .not a => cNot (evE a)
  | .neg a => cNeg (evE a)
  | .ite k a b => cIte (evB k) (evE a) (evE b)
  | .tup l => cTup (evEs l)
  | .lst l => cLst (evEs l)
  | .idx a b => cOp bIdx (evE a) (evE b)
  | .sl a lo hi => cSl (evE a) (evO lo) (evO hi)
  | .rev a => cRev (evE a)
  | .bf f l => cCall f.d (evEs l)
  | .isi t a => cIsi t (evE a)
  | .mt m o l => cMt m.T m.d (evE o) (evEs l)
  | .fn n l => cCall (C n) (evEs l)
  | .fnk n π np nk l k => cCallK (C n) π np nk (evEs l) (evEs k)
  | .lc it t k e own => cLc (evI it) t (evK k) (evE e) own
noncomputable def evB : B → CB
  | .t e => kTru (evE e)
  | .and a b => kAnd (evB a) (evB b)
  | .or a b => kOr (evB a) (evB b)
  | .not a => kNot (evB a)
noncomputable def evK : BOp → CB
  | .yes => kYes
  | .if_ b => evB b
noncomputable def evEs : Es → CA
  | .nil => cNil
  | .cons a r => cCons (evE a) (evEs r)
noncomputable def evO : EO → CO
  | .no => cNone
  | .yes a => cSome (evE a)
noncomputable def evI : It → CI
  | .seq a => cSeq (evE a)
  | .r1 a => cRng1 (cCons (evE a) cNil)
  | .r2 a b => cRng2 (cCons (evE a) (cCons (evE b) cNil))
  | .zip a b => cZip (cCons (evE a) (cCons (evE b) cNil))
  | .enum a => cEnum (cCons (evE a) cNil)
end
mutual
noncomputable def evT : T → CT
  | .name i => tName i
  | .tup n l => tTup n (evTs l)
  | .sub a b => tSub (evE C a) (evE C b)
noncomputable def evTs : Ts → CTs
  | .nil => tgNil
  | .cons a r => tgCons (evT a) (evTs r)
end
mutual
noncomputable def evS : S → CS
  | .pass => sNext
  | .brk => sBrk
  | .cont => sCont
  | .expr e => sExpr (evE C e)
  | .asg t e => sAsg (evT C t) (evE C e)
  | .ret e => sRet (evE C e)
  | .ret0 => sRet0
  | .ite k a b => sIf (evB C k) (evSs a) (evSs b)
  | .whl k b => sWhile (evB C k) (evSs b)
  | .for_ t it b => sFor (evI C it) (evT C t) (evSs b)
noncomputable def evSs : Ss → CS
  | .nil => sNext
  | .cons a r => sSeq (evS a) (evSs r)
end
end
/-- a def: how many parameters, how many slots, its body -/
structure DefD where
  np : Nat
  ns : Nat
  body : Ss
def outS : SOut → Out PV
  | .nx _ S => .ok .non S
  | .rt p S => .ok p S
  | .exn x _ S => .exn x S
  | _ => .bad
noncomputable def callF (P : List DefD) : Nat → Nat → Fn
  | 0, _ => fun _ _ => .bad
  | d + 1, i => fun ps S => match P[i]? with
    | some f => if ps.length = f.np then outS (evSs (callF P d) f.body (ps.map some ++ List.replicate (f.ns - f.np) none) S) else .bad
    | none => .bad

/-! ### reading the model's syntax -/
structure Tab where
  fns : List (Str × List Str)
  kbs : List (Nat × List Str × List Nat)
structure St where
  N : List Str
  sc : Scope
  fn : Str → Bool
  tb : Tab
def findI (l : List Str) (x : Str) : Option Nat := (List.range l.length).find? fun i => decide (l[i]? = some x)
def visB (sc : Scope) (x : Str) : Bool := decide (sc.names.lookup x = some .local) || decide (sc.names.lookup x = some .cell) || decide (sc.names.lookup x = some .free)
def locB (sc : Scope) (x : Str) : Bool := decide (sc.names.lookup x = some .local) || decide (sc.names.lookup x = some .cell)
def glB (sc : Scope) (x : Str) : Bool := decide (sc.names.lookup x = some .globalImplicit)
def stoB (st : St) (x : Str) : Bool := st.fn x || decide (st.sc.names.lookup x = some .local)
def sokB (s : List Nat) : Bool := s.all (fun c => decide (c < 1114112)) && decide (s.length ≤ sizeLine)
def trCst : Const → Option E
  | .none => some (.c .non)
  | .bool b => some (.c (.bl b))
  | .int i => some (.c (.int i))
  | .str s => if sokB s.cps.toList then some (.c (.str s.cps.toList)) else none
  | _ => none
def boOf : Operator → Option BO
  | .Add => some .add | .Sub => some .sub | .Mult => some .mul | .FloorDiv => some .div | .Mod => some .mod | .Pow => some .pow | .LShift => some .shl | .RShift => some .shr
  | _ => none
def qoOf : CmpOp → QO
  | .Eq => .eq | .NotEq => .ne | .Lt => .lt | .LtE => .le | .Gt => .gt | .GtE => .ge | .Is => .is | .IsNot => .nis | .In => .mem | .NotIn => .nmem
def nst : Expr → Bool
  | .Starred .. => false
  | _ => true
def trName (st : St) (x : Str) : Option E :=
  if (x == ("__debug__" : Str)) || (x == ("__classdict__" : Str)) then none
  else if visB st.sc x then (findI st.N x).map .v else none
def trL (f : Expr → Option E) : List Expr → Option Es
  | [] => some .nil
  | e :: es => if nst e then match f e, trL f es with
    | some a, some r => some (.cons a r)
    | _, _ => none
    else none
def trKw (f : Expr → Option E) : List Keyword → Option (List Str × Es)
  | [] => some ([], .nil)
  | k :: ks => match k.arg, f k.value, trKw f ks with
    | some x, some a, some (xs, r) => some (x :: xs, .cons a r)
    | _, _, _ => none
def notSet : Expr → Bool
  | .Set .. => false
  | _ => true
def trCmp (f : Expr → Option E) (a : Expr) (ops : List CmpOp) (bs : List Expr) : Option E := match ops, bs with
  | [o], [b] => if notSet b then match f a, f b with
    | some x, some y => some (.cmp (qoOf o) x y)
    | _, _ => none
    else none
  | [o, o'], [b, c] => if notSet c then match f a, f b, f c with
    | some x, some y, some z => some (.chn (qoOf o) (qoOf o') x y z)
    | _, _, _ => none
    else none
  | _, _ => none
def trBool (f : Expr → Option E) (o : BoolOp) : List Expr → Option E
  | [] => none
  | [a] => f a
  | a :: b :: r => match f a, trBool f o (b :: r) with
    | some x, some y => some (match o with | .And => .and x y | .Or => .or x y)
    | _, _ => none
def trBoolT (f : Expr → Option B) (o : BoolOp) : List Expr → Option B
  | [] => none
  | [a] => f a
  | a :: b :: r => match f a, trBoolT f o (b :: r) with
    | some x, some y => some (match o with | .And => .and x y | .Or => .or x y)
    | _, _ => none
def trO (f : Expr → Option E) : Option Expr → Option EO
  | none => some .no
  | some e => (f e).map .yes
def isRev : Expr → Bool
  | .Slice none none (some (.UnaryOp .USub (.Constant (.int 1) _ _) _)) _ => true
  | _ => false
def trSub (f : Expr → Option E) (a b : Expr) : Option E := match b with
  | .Slice lo hi none _ => match f a, trO f lo, trO f hi with
    | some x, some y, some z => some (.sl x y z)
    | _, _, _ => none
  | .Slice none none (some (.UnaryOp .USub (.Constant (.int 1) _ _) _)) _ => (f a).map .rev
  | .Slice .. => none
  | b => match f a, f b with
    | some x, some y => some (.idx x y)
    | _, _ => none
def bfOf (x : Str) : Option BF :=
  if x = "len" then some .len else if x = "int" then some .int else if x = "list" then some .list else if x = "tuple" then some .tuple
  else if x = "abs" then some .abs else if x = "max" then some .max else if x = "min" then some .min else none
def tyOf (x : Str) : Option Ty :=
  if x = "int" then some .int else if x = "str" then some .str else if x = "bool" then some .bool else if x = "tuple" then some .tuple
  else if x = "list" then some .list else none
def mmOf (x : Str) : Option MM :=
  if x = "append" then some .append else if x = "extend" then some .extend else if x = "pop" then some .pop else if x = "strip" then some .strip
  else if x = "lstrip" then some .lstrip else if x = "rstrip" then some .rstrip else if x = "split" then some .split else if x = "join" then some .join else none
def notCall : Expr → Bool
  | .Call .. => false
  | _ => true
def trFn (st : St) (f : Expr → Option E) (x : Str) (as : List Expr) (ks : List Keyword) : Option E :=
  match findI (st.tb.fns.map (·.1)) x with
  | none => none
  | some i => match ks with
    | [] => (trL f as).map (.fn i)
    | k :: ks => match st.tb.fns[i]?, trL f as, trKw f (k :: ks) with
      | some (_, ps), some l, some (xs, m) => match st.tb.kbs.find? fun e => decide (e.1 = i) && decide (e.2.1 = xs) with
        | some e => some (.fnk i e.2.2 ps.length xs.length l m)
        | none => none
      | _, _, _ => none
def trIsi (st : St) (f : Expr → Option E) (as : List Expr) : Option E := match as with
  | [a, .Name t _] => match tyOf t with
    | some T => if nst a && glB st.sc t then (f a).map (.isi T) else none
    | none => none
  | _ => none
def trCallN (st : St) (f : Expr → Option E) (x : Str) (as : List Expr) (ks : List Keyword) : Option E :=
  if glB st.sc x then match ks, bfOf x with
    | [], some g => match as with
      | [] => none
      | a :: as => (trL f (a :: as)).map (.bf g)
    | _, some _ => none
    | _, none => if x = "isinstance" then match ks with
        | [] => trIsi st f as
        | _ => none
      else if x == ("__debug__" : Str) then none
      else trFn st f x as ks
  else none
def trMt (f : Expr → Option E) (o : Expr) (m : Str) (apos : Pos) (as : List Expr) (cpos : Pos) : Option E :=
  if notCall o && (apos.endLine == cpos.line) && decide (as.length < 30) then match mmOf m, f o, trL f as with
    | some m, some x, some l => some (.mt m x l)
    | _, _, _ => none
  else none
def trCall (st : St) (f : Expr → Option E) (g : Expr) (as : List Expr) (ks : List Keyword) (pos : Pos) : Option E := match g with
  | .Name x _ => trCallN st f x as ks
  | .Attribute o m apos => match ks with
    | [] => trMt f o m apos as pos
    | _ => none
  | _ => none
def trNames (st : St) : List Expr → Option (List Nat)
  | [] => some []
  | .Name x _ :: r => if locB st.sc x && stoB st x then match findI st.N x, trNames st r with
    | some i, some l => some (i :: l)
    | _, _ => none
    else none
  | _ => none
def trNT (st : St) : Expr → Option NT
  | .Name x _ => if locB st.sc x && stoB st x then (findI st.N x).map .one else none
  | .Tuple l _ _ => (trNames st l).map .many
  | _ => none
def rngArgs (as : List Expr) : Bool := as.all nst
def trIt (st : St) (f : Expr → Option E) (tup : Bool) (e : Expr) : Option It := match e with
  | .Call (.Name x p) [a] [] pos =>
    if x = "range" then if glB st.sc x && nst a then (f a).map .r1 else none
    else if x = "enumerate" then if glB st.sc x && nst a && tup then (f a).map .enum else none
    else (f (.Call (.Name x p) [a] [] pos)).map .seq
  | .Call (.Name x p) [a, b] [] pos =>
    if x = "range" then if glB st.sc x && nst a && nst b then match f a, f b with
      | some y, some z => some (.r2 y z)
      | _, _ => none
      else none
    else if x = "zip" then if glB st.sc x && nst a && nst b && tup then match f a, f b with
      | some y, some z => some (.zip y z)
      | _, _ => none
      else none
    else (f (.Call (.Name x p) [a, b] [] pos)).map .seq
  | e => if notSet e then (f e).map .seq else none
def isTup : Expr → Bool
  | .Tuple .. => true
  | _ => false
def ownOf (st : St) (sc : Scope) : List (Str × Nat) := sc.names.filterMap fun y => if y.2 = .local ∨ y.2 = .cell then (findI st.N y.1).map fun i => (y.1, i) else none
def St.blk (st : St) (sc : Scope) : St := { st with sc := relS sc st.sc, fn := fun x => sc.names.lookup x == some .cell }
mutual
def trE : Nat → St → Expr → Option E
  | 0, _, _ => none
  | n + 1, st, e => match e with
    | .Name x _ => trName st x
    | .Constant c _ _ => trCst c
    | .BinOp a o b _ => match boOf o, trE n st a, trE n st b with
      | some o, some x, some y => some (.bin o x y)
      | _, _, _ => none
    | .Compare a os bs _ => trCmp (trE n st) a os bs
    | .BoolOp o l _ => trBool (trE n st) o l
    | .UnaryOp o a _ => match o with
      | .Not => (trE n st a).map .not
      | .USub => (trE n st a).map .neg
      | _ => none
    | .IfExp k a b _ => match trB n st k, trE n st a, trE n st b with
      | some k, some x, some y => some (.ite k x y)
      | _, _, _ => none
    | .Tuple l _ _ => (trL (trE n st) l).map .tup
    | .List l _ => (trL (trE n st) l).map .lst
    | .Subscript a b _ => trSub (trE n st) a b
    | .Call g as ks pos => trCall st (trE n st) g as ks pos
    | .ListComp e gs sc _ => match gs with
      | [⟨tg, it, ifs, z⟩] => if z = 0 ∧ notSet it = true ∧ blkC st.N st.sc sc (ownOf st sc) = true then
          match trNT (st.blk sc) tg, trIt st (trE n st) (isTup tg) it, trE n (st.blk sc) e with
          | some t, some i, some c => if t.slots.all (fun j => decide (j ∈ (ownOf st sc).map (·.2))) then match ifs with
              | [] => some (.lc i t .yes c ((ownOf st sc).map (·.2)))
              | [k] => (trB n (st.blk sc) k).map fun k => .lc i t (.if_ k) c ((ownOf st sc).map (·.2))
              | _ => none
            else none
          | _, _, _ => none
        else none
      | _ => none
    | _ => none
def trB : Nat → St → Expr → Option B
  | 0, _, _ => none
  | n + 1, st, e => match e with
    | .BoolOp o l _ => trBoolT (trB n st) o l
    | .UnaryOp .Not a _ => (trB n st a).map .not
    | .IfExp .. => none
    | e => (trE n st e).map .t
end
def nslB : Expr → Bool
  | .Slice .. => false
  | _ => true
def trT (n : Nat) (st : St) : Expr → Option T
  | .Name x _ => if locB st.sc x && stoB st x then (findI st.N x).map .name else none
  | .Tuple l _ _ => (trNames st l).map fun is => .tup is.length (is.foldr (fun i r => .cons (.name i) r) .nil)
  | .Subscript a b _ => if nslB b then match trE n st a, trE n st b with
    | some x, some y => some (.sub x y)
    | _, _ => none
    else none
  | _ => none
def isComp : Expr → Bool
  | .ListComp .. => true
  | .SetComp .. => true
  | .DictComp .. => true
  | _ => false
/-- the value is swapped in -/
def swB (st : St) (x : Str) (pos : Pos) (e : Expr) : Bool := match e with
  | .ListComp _ _ s p => (if st.sc.kind.isAnnotationScope then .function else st.sc.kind) == .function && st.sc.names.lookup x == some .local && pos.line == p.line && !(s.names.any fun (n, k) => n == x && (k == .local || k == .cell))
  | _ => false
def isLC : Expr → Bool
  | .ListComp .. => true
  | _ => false
def trAsg (n : Nat) (st : St) (tg e : Expr) : Option S := match tg with
  | .Name x pos => if locB st.sc x && stoB st x && (!isComp e || isLC e) then match findI st.N x, trE n st e with
      | some i, some c => some (.asg (.name i) c)
      | _, _ => none
    else none
  | .Tuple .. => if isComp e || isTup e then none else match trT n st tg, trE n st e with
    | some t, some c => some (.asg t c)
    | _, _ => none
  | .Subscript .. => if isComp e then none else match trT n st tg, trE n st e with
    | some t, some c => some (.asg t c)
    | _, _ => none
  | _ => none
def isDoc : Expr → Bool
  | .Constant (.str _) _ _ => true
  | _ => false
def trSL (f : Stmt → Option S) : List Stmt → Option Ss
  | [] => some .nil
  | s :: r => match f s, trSL f r with
    | some a, some b => some (.cons a b)
    | _, _ => none
def trS : Nat → St → Stmt → Option S
  | 0, _, _ => none
  | n + 1, st, s => match s with
    | .Pass _ => some .pass
    | .Break _ => some .brk
    | .Continue _ => some .cont
    | .Expr e _ => if isDoc e then some .pass else if isComp e then none else (trE n st e).map .expr
    | .Return none _ => some .ret0
    | .Return (some e) _ => (trE n st e).map .ret
    | .Assign [tg] e _ => trAsg n st tg e
    | .If k a b _ => match trB n st k, trSL (trS n st) a, trSL (trS n st) b with
      | some k, some a, some b => some (.ite k a b)
      | _, _, _ => none
    | .While k a [] _ => match trB n st k, trSL (trS n st) a with
      | some k, some a => some (.whl k a)
      | _, _ => none
    | .For tg it a [] _ => if notSet it then match trT n st tg, trIt st (trE n st) (isTup tg) it, trSL (trS n st) a with
      | some t, some i, some a => some (.for_ t i a)
      | _, _, _ => none
      else none
    | _ => none
end Bm

/-! Bm, part J: the reading is sound. -/
namespace Bm
open PySem PySem.Spec PyProof.Rows L2

def bltNames : List Str := ["len", "int", "list", "tuple", "abs", "max", "min", "str", "bool", "isinstance", "range", "zip", "enumerate"]
/-- a def of the table, as a context has it -/
def FnF (X : Cx) (G : Env1) (tb : Tab) (C : Nat → Fn) (i : Nat) (x : Str) (ps : List Str) : Prop :=
  ∃ (k : Nat) (f : Addr) (fd : FuncData), FnOk X.prog X.w X.K X.mg X.base (L2.CX X.prog X.w) k f fd ps (spOf G (C i)) ∧ Room k X.A ∧ X.mg x = some (.ref f) ∧ PySem.W.keepIn X.K (.ref f) = true ∧ Binds X.K fd ps [] ∧
    ∀ ks π, (i, ks, π) ∈ tb.kbs → KB X.K fd ps ks π
structure XOk (X : Cx) (G : Env1) (W : WX) (C : Nat → Fn) (st : St) : Prop where
  hK : X.K = G.K
  calm : X.calm = true
  N : X.N = st.N
  nd : st.N.Nodup
  sc : X.env.scope = st.sc
  fn : ∀ x, X.fn x = st.fn x
  hu : X.A.units + 216 < cLine
  tk : Takes X W
  fns : ∀ i x ps, st.tb.fns[i]? = some (x, ps) → FnF X G st.tb C i x ps
  bl : ∀ x ∈ bltNames, X.mg x = none

section
variable {X : Cx} {G : Env1} {W : WX} {C : Nat → Fn} {st : St}
theorem findI_get {l : List Str} {x : Str} {i : Nat} (h : findI l x = some i) : l[i]? = some x := by
  unfold findI at h
  have := List.find?_some h
  simpa using this
theorem XOk.ix (ok : XOk X G W C st) {x : Str} {i : Nat} (h : findI st.N x = some i) : X.N[i]? = some x := by rw [ok.N]; exact findI_get h
theorem XOk.ndX (ok : XOk X G W C st) : X.N.Nodup := by rw [ok.N]; exact ok.nd
theorem XOk.vis (ok : XOk X G W C st) {x : Str} (h : visB st.sc x = true) : Vis X.env.scope x := by
  rw [ok.sc]
  unfold visB at h
  simp only [Bool.or_eq_true, decide_eq_true_eq] at h
  rcases h with (h | h) | h
  · exact .inl h
  · exact .inr (.inl h)
  · exact .inr (.inr h)
theorem XOk.loc (ok : XOk X G W C st) {x : Str} (h : locB st.sc x = true) : Loc X.env.scope x := by
  rw [ok.sc]
  unfold locB at h
  simp only [Bool.or_eq_true, decide_eq_true_eq] at h
  exact h
theorem XOk.gl (ok : XOk X G W C st) {x : Str} (h : glB st.sc x = true) : Gl X x := by
  show X.env.scope.names.lookup x = _
  rw [ok.sc]
  unfold glB at h
  simpa using h
theorem XOk.sto (ok : XOk X G W C st) {x : Str} (h : stoB st x = true) : X.fn x = true ∨ X.env.scope.names.lookup x = some .local := by
  rw [ok.sc, ok.fn]
  unfold stoB at h
  simpa using h
theorem nst_star {e : Expr} (h : nst e = true) (es : List Expr) (env : Env) : starEach (e :: es) env = (false, eval e env) :: starEach es env := by
  cases e <;> first | rfl | cases h
theorem trName_ok (ok : XOk X G W C st) {x : Str} {pos : Pos} {c : E} (h : trName st x = some c) : PEv X G W (.Name x pos) (evE C c) := by
  unfold trName at h
  split at h
  · cases h
  · rename_i hd
    split at h
    · rename_i hv
      cases hf : findI st.N x with
      | none => rw [hf] at h; cases h
      | some i =>
        rw [hf] at h
        cases h
        simp only [Bool.or_eq_true, not_or, Bool.not_eq_true] at hd
        exact ev_var (ok.ix hf) (ok.vis hv) hd.1 hd.2
    · cases h
theorem str_mk (s : Str) : mkS s.cps.toList = s := by
  obtain ⟨⟨l⟩⟩ := s
  rfl
theorem trCst_ok {k : Const} {j : Nat} {pos : Pos} {c : E} (h : trCst k = some c) : PEv X G W (.Constant k j pos) (evE C c) := by
  cases k with
  | none => cases h; exact ev_cst pe_non fun _ _ => rfl
  | bool b => cases h; exact ev_cst pe_bl fun _ _ => rfl
  | int i => cases h; exact ev_cst pe_int fun _ _ => rfl
  | str s =>
    unfold trCst at h
    simp only at h
    split at h
    · rename_i hs
      cases h
      refine ev_cst pe_str fun _ _ => ⟨by rw [str_mk], ?_⟩
      unfold sokB at hs
      simp only [Bool.and_eq_true, List.all_eq_true, decide_eq_true_eq] at hs
      exact ⟨hs.1, hs.2⟩
    · cases h
  | _ => cases h
theorem bo_ok (ok : XOk X G W C st) {op : Operator} {o : BO} (h : boOf op = some o) : OpS X G (binaryOp op) o.d := by
  cases op <;> first | (cases h; done) | (cases h; first | exact os_add ok.hK | exact os_sub | exact os_mul | exact os_div | exact os_mod | exact os_pow | exact os_shl | exact os_shr)
theorem qo_ok (ok : XOk X G W C st) (op : CmpOp) : OpS X G (compareOp op) (qoOf op).d := by
  have hu := ok.hu
  cases op
  · exact os_eq ok.hK (by omega)
  · exact os_ne ok.hK (by omega)
  · exact os_lt
  · exact os_le
  · exact os_gt
  · exact os_ge
  · exact os_is
  · exact os_isnot
  · exact os_in ok.hK hu
  · exact os_notin ok.hK hu
theorem qo_bl (o : QO) : ∀ (p q : PV) (S : Store) (z : PV) (S' : Store), o.d p q S = .ok z S' → ∃ b, z = .bl b := by
  intro p q S z S' h
  cases o <;> simp only [QO.d, bEq, bNe, bLt, bLe, bGt, bGe, bIs, bIsNot, bIn, bNotIn] at h <;> first
    | (unfold bEq0 at h; (repeat' split at h) <;> (cases h; try exact ⟨_, rfl⟩))
    | (unfold bCmp at h; (repeat' split at h) <;> (cases h; try exact ⟨_, rfl⟩))
    | (unfold bIs0 at h; (repeat' split at h) <;> (cases h; try exact ⟨_, rfl⟩))
    | (unfold bIn0 at h; (repeat' split at h) <;> (cases h; try exact ⟨_, rfl⟩))
theorem behind_ok {e : Expr} (op : CmpOp) (h : notSet e = true) : behindInMarks op e = false := by
  cases e <;> first | rfl | cases h
theorem last_ok {b c : Expr} (o o' : CmpOp) (h : notSet c = true) : lastMarks [o, o'] [b, c] = false := by
  show behindInMarks o' c = false
  exact behind_ok o' h
theorem folded_ok {e : Expr} {env : Env} (h : notSet e = true) : ∀ x, foldedSetIterable e env x = pure x := by
  intro x
  cases e <;> first | rfl | cases h

theorem plain_of {es : List Expr} {env : Env} {pos : Pos} (h : starEach es env = es.map fun e => (false, eval e env)) : (backTo pos (starEach es env)).any (·.1) = false := by
  rw [h]
  unfold backTo
  rw [List.map_map]
  clear h
  induction es with
  | nil => rfl
  | cons e es ih => rw [List.map_cons, List.any_cons, ih]; rfl
theorem plain_all {es : List Expr} {env : Env} {pos : Pos} (h : starEach es env = es.map fun e => (false, eval e env)) : (backTo pos (starEach es env)).all (fun x => !x.1) = true := by
  rw [h]
  unfold backTo
  rw [List.map_map]
  clear h
  induction es with
  | nil => rfl
  | cons e es ih => rw [List.map_cons, List.all_cons, ih]; rfl
section
variable {f : Expr → Option E} {fb : Expr → Option B} (IH : ∀ e c, f e = some c → PEv X G W e (evE C c)) (IB : ∀ e c, fb e = some c → PTv X G W e (evB C c))
include IH
theorem trL_ok : ∀ {es : List Expr} {l : Es}, trL f es = some l → PAv X G W es (evEs C l) ∧ starEach es X.env = es.map fun e => (false, eval e X.env)
  | [], l, h => by cases h; exact ⟨ev_nil, rfl⟩
  | e :: es, l, h => by
    unfold trL at h
    split at h
    · rename_i hn
      split at h
      · rename_i a r ha hr
        cases h
        obtain ⟨h1, h2⟩ := trL_ok hr
        have hs := nst_star hn es X.env
        exact ⟨ev_cons (IH _ _ ha) h1 hs, by rw [hs, h2]; rfl⟩
      · cases h
    · cases h
theorem trKw_ok : ∀ {ks : List Keyword} {xs : List Str} {l : Es}, trKw f ks = some (xs, l) → PKv X G W ks (evEs C l) ∧ (∀ pos, (backToKw pos (keywordEach ks X.env)).all (·.1.isSome) = true) ∧ (∀ pos, (backToKw pos (keywordEach ks X.env)).filterMap (·.1) = xs) ∧
    ∀ pos, (backToKw pos (keywordEach ks X.env)).any (·.1.isNone) = false
  | [], xs, l, h => by cases h; exact ⟨evk_nil, fun _ => rfl, fun _ => rfl, fun _ => rfl⟩
  | ⟨nm, e, kp⟩ :: ks, xs, l, h => by
    unfold trKw at h
    split at h
    · rename_i x a xs' r h1 h2 h3
      cases h
      obtain ⟨g1, g2, g3, g4⟩ := trKw_ok h3
      have h1' : nm = some x := h1
      subst h1'
      have e0 : ∀ pos, backToKw pos (keywordEach (⟨some x, e, kp⟩ :: ks) X.env) = (some x, do let v ← eval e X.env; standAt pos; pure v) :: backToKw pos (keywordEach ks X.env) := fun _ => rfl
      refine ⟨evk_cons (IH _ _ h2) g1, fun pos => ?_, fun pos => ?_, fun pos => ?_⟩
      · rw [e0, List.all_cons, g2 pos]; rfl
      · rw [e0, List.filterMap_cons, g3 pos]
      · rw [e0, List.any_cons, g4 pos]; rfl
    · cases h
theorem trCmp_ok (ok : XOk X G W C st) {a : Expr} {ops : List CmpOp} {bs : List Expr} {pos : Pos} {c : E} (h : trCmp f a ops bs = some c) : PEv X G W (.Compare a ops bs pos) (evE C c) ∧ PTv X G W (.Compare a ops bs pos) (evB C (.t c)) := by
  unfold trCmp at h
  split at h
  · rename_i o b
    split at h
    · rename_i hn
      split at h
      · rename_i x y hx hy
        cases h
        exact ⟨ev_cmp (qo_ok ok o) (IH _ _ hx) (IH _ _ hy) (behind_ok o hn), kv_cmp (qo_ok ok o) (qo_bl _) (IH _ _ hx) (IH _ _ hy) (behind_ok o hn)⟩
      · cases h
    · cases h
  · rename_i o o' b d
    split at h
    · rename_i hn
      split at h
      · rename_i x y z hx hy hz
        cases h
        exact ⟨ev_chn (qo_ok ok o) (qo_ok ok o') (IH _ _ hx) (IH _ _ hy) (IH _ _ hz) (last_ok o o' hn), kv_chn (qo_ok ok o) (qo_ok ok o') (qo_bl _) (IH _ _ hx) (IH _ _ hy) (IH _ _ hz) (last_ok o o' hn)⟩
      · cases h
    · cases h
  · cases h
theorem trBool_ok (ok : XOk X G W C st) {o : BoolOp} {pos : Pos} : ∀ {l : List Expr} {c : E}, trBool f o l = some c → PEv X G W (.BoolOp o l pos) (evE C c)
  | [], c, h => by cases h
  | [a], c, h => ev_one (IH _ _ h)
  | a :: b :: r, c, h => by
    unfold trBool at h
    split at h
    · rename_i x y hx hy
      cases h
      have ih := trBool_ok ok hy (pos := pos)
      cases o with
      | And => exact ev_and ok.hK (IH _ _ hx) ih
      | Or => exact ev_or ok.hK (IH _ _ hx) ih
    · cases h
omit IH in
theorem trBoolT_ok {fb : Expr → Option B} (IB : ∀ e c, fb e = some c → PTv X G W e (evB C c)) {o : BoolOp} {pos : Pos} : ∀ {l : List Expr} {c : B}, trBoolT fb o l = some c → PWv X G W (.BoolOp o l pos) (evB C c)
  | [], c, h => by cases h
  | [a], c, h => by
    cases o with
    | And => exact kw_and1 (IB _ _ h)
    | Or => exact kw_or1 (IB _ _ h)
  | a :: b :: r, c, h => by
    unfold trBoolT at h
    split at h
    · rename_i x y hx hy
      cases h
      have ih := trBoolT_ok IB hy (pos := pos)
      cases o with
      | And => exact kw_and (IB _ _ hx) ih
      | Or => exact kw_or (IB _ _ hx) ih
    · cases h
theorem trO_ok {o : Option Expr} {c : EO} (h : trO f o = some c) : PO X o (EvO G W (evO C c)) := by
  cases o with
  | none => cases h; exact evo_none
  | some e =>
    unfold trO at h
    simp only at h
    cases hf : f e with
    | none => rw [hf] at h; cases h
    | some a => rw [hf] at h; cases h; exact evo_some (IH _ _ hf)
theorem trSub_ok (ok : XOk X G W C st) {a b : Expr} {pos : Pos} {c : E} (h : trSub f a b = some c) : PEv X G W (.Subscript a b pos) (evE C c) := by
  unfold trSub at h
  split at h
  · split at h
    · rename_i x y z hx hy hz
      cases h
      exact ev_sl ok.hK (IH _ _ hx) (trO_ok IH hy) (trO_ok IH hz)
    · cases h
  · cases hf : f a with
    | none => rw [hf] at h; cases h
    | some x => rw [hf] at h; cases h; exact ev_rev ok.hK (IH _ _ hf)
  · cases h
  · rename_i h3
    split at h
    · rename_i x y hx hy
      cases h
      refine ev_idx ok.hK (IH _ _ hx) (IH _ _ hy) ?_
      intro o i
      cases b <;> first | rfl | exact False.elim (h3 _ _ _ _ rfl)
    · cases h
omit IH in
theorem bfOf_ok {x : Str} {g : BF} (ok : XOk X G W C st) (h : bfOf x = some g) : X.mg x = none ∧ x ≠ "__name__" ∧ (x == ("__debug__" : Str)) = false ∧
    ((∃ id, bootBuiltins x = some (.builtin id) ∧ CallS X G (.builtin id) g.d) ∨ ∃ T, bootBuiltins x = some (.type T) ∧ CallS X G (.type T) g.d) := by
  unfold bfOf at h
  repeat' split at h
  all_goals first
    | (cases h; done)
    | (rename_i hx; cases h; subst hx; refine ⟨ok.bl _ (by decide +kernel), by decide +kernel, by decide +kernel, ?_⟩; first
        | exact .inl ⟨_, boot_len, cs_len ok.hK⟩
        | exact .inr ⟨_, boot_int, cs_int⟩
        | exact .inr ⟨_, boot_list, cs_list ok.hK⟩
        | exact .inr ⟨_, boot_tuple, cs_tuple ok.hK⟩
        | exact .inl ⟨_, boot_abs, cs_abs⟩
        | exact .inl ⟨_, boot_max, cs_max ok.calm⟩
        | exact .inl ⟨_, boot_min, cs_min ok.calm⟩)
omit IH in
theorem tyOf_ok {x : Str} {T : Ty} (ok : XOk X G W C st) (h : tyOf x = some T) (hg : Gl X x) {pos : Pos} : PE X (.Name x pos) (tC (.ty T.name)) := by
  unfold tyOf at h
  repeat' split at h
  all_goals first
    | (cases h; done)
    | (rename_i hx; cases h; subst hx; exact pe_bltn (u := .type _) hg (ok.bl _ (by decide +kernel)) (by decide +kernel) rfl (by decide +kernel) (by decide +kernel))
omit IH in
theorem mmOf_ok {x : Str} {g : MM} (ok : XOk X G W C st) (h : mmOf x = some g) : PlainAttrs g.T.name ∧ ∃ id, Slot g.T.name x id ∧ typeOf (.builtin id) = pure (.type "method_descriptor") ∧ MtG X G id g.d := by
  unfold mmOf at h
  repeat' split at h
  all_goals first
    | (cases h; done)
    | (rename_i hx; cases h; subst hx; first
        | exact ⟨PySem.F.plainAttrs_list, _, PySem.F.slot_list_append, PySem.F.type_list_append, mg_append⟩
        | exact ⟨PySem.F.plainAttrs_list, _, PySem.F.slot_list_extend, PySem.F.type_list_extend, mg_extend⟩
        | exact ⟨PySem.F.plainAttrs_list, _, PySem.F.slot_list_pop, PySem.F.type_list_pop, mg_pop⟩
        | exact ⟨PySem.F.plainAttrs_str, _, PySem.F.slot_str_strip, PySem.F.type_str_strip, mg_strip⟩
        | exact ⟨PySem.F.plainAttrs_str, _, PySem.F.slot_str_lstrip, PySem.F.type_str_lstrip, mg_lstrip⟩
        | exact ⟨PySem.F.plainAttrs_str, _, PySem.F.slot_str_rstrip, PySem.F.type_str_rstrip, mg_rstrip⟩
        | exact ⟨PySem.F.plainAttrs_str, _, PySem.F.slot_str_split, PySem.F.type_str_split, mg_split⟩
        | exact ⟨PySem.F.plainAttrs_str, _, PySem.F.slot_str_join, PySem.F.type_str_join, mg_join ok.hK⟩)
end
end
end Bm

/-! Bm, part K: the reading is sound (calls, blocks, statements), the table of defs. -/
namespace Bm
open PySem PySem.Spec PyProof.Rows L2

section
variable {X : Cx} {G : Env1} {W : WX} {C : Nat → Fn} {st : St}
theorem trL_cons {f : Expr → Option E} {a : Expr} {es : List Expr} {l : Es} (h : trL f (a :: es) = some l) : ∃ x r, nst a = true ∧ f a = some x ∧ trL f es = some r ∧ l = .cons x r := by
  unfold trL at h
  split at h
  · rename_i hn
    split at h
    · rename_i x r hx hr
      cases h
      exact ⟨x, r, hn, hx, hr, rfl⟩
    · cases h
  · cases h
section
variable {f : Expr → Option E} (IH : ∀ e c, f e = some c → PEv X G W e (evE C c))
include IH
theorem trFn_ok (ok : XOk X G W C st) {x : Str} {as : List Expr} {ks : List Keyword} {p pos : Pos} {c : E} (hg : Gl X x) (hdb : (x == ("__debug__" : Str)) = false) (h : trFn st f x as ks = some c) : PEv X G W (.Call (.Name x p) as ks pos) (evE C c) := by
  unfold trFn at h
  split at h
  · cases h
  · rename_i i hi
    have hi' := findI_get hi
    rw [List.getElem?_map] at hi'
    cases hf : st.tb.fns[i]? with
    | none => rw [hf] at hi'; cases hi'
    | some e =>
      obtain ⟨y, ps⟩ := e
      rw [hf] at hi'
      have hy : y = x := Option.some.inj hi'
      subst hy
      obtain ⟨k, fa, fd, F, hr, hm, hk, hb, hkb⟩ := ok.fns i y ps hf
      split at h
      · cases as with
        | nil =>
          cases h
          exact ev_call0 F hr hg hm hk hb ok.tk hdb
        | cons a es =>
          cases hl : trL f (a :: es) with
          | none => rw [hl] at h; cases h
          | some l =>
            rw [hl] at h
            cases h
            obtain ⟨x', r, h1, h2, h3, rfl⟩ := trL_cons hl
            obtain ⟨g1, g2⟩ := trL_ok IH hl
            exact ev_call F hr hg hm hk hb ok.tk g1 hdb (nst_star h1 es X.env) (plain_of (trL_ok IH h3).2)
      · rename_i kw kws
        split at h
        · rename_i z ps' l xs m h1 h2 h3
          rw [hf] at h1
          cases h1
          split at h
          · rename_i e he
            cases h
            have hmem := List.mem_of_find?_eq_some he
            have hp := List.find?_some he
            simp only [Bool.and_eq_true, decide_eq_true_eq] at hp
            obtain ⟨e1, e2, π⟩ := e
            obtain ⟨rfl, rfl⟩ := hp
            obtain ⟨k1, k2, k3, k4⟩ := trKw_ok IH h3
            have KBf := hkb _ _ hmem
            cases as with
            | nil =>
              cases h2
              exact ev_callK0 F hr hg hm hk KBf ok.tk k1 hdb (k2 pos) (k3 pos) (by rw [k4 pos]; rfl)
            | cons a es =>
              obtain ⟨x', r, q1, q2, q3, rfl⟩ := trL_cons h2
              obtain ⟨g1, g2⟩ := trL_ok IH h2
              exact ev_callK F hr hg hm hk KBf ok.tk k1 g1 hdb (k2 pos) (k3 pos) (nst_star q1 es X.env) (by rw [k4 pos, plain_of g2]; rfl)
          · cases h
        · cases h
theorem trIsi_ok (ok : XOk X G W C st) {as : List Expr} {p pos : Pos} {c : E} (hg : Gl X "isinstance") (h : trIsi st f as = some c) : PEv X G W (.Call (.Name "isinstance" p) as [] pos) (evE C c) := by
  unfold trIsi at h
  split at h
  · rename_i a t p2
    split at h
    · rename_i T hT
      split at h
      · rename_i hc
        rw [Bool.and_eq_true] at hc
        cases hf : f a with
        | none => rw [hf] at h; cases h
        | some x =>
          rw [hf] at h
          cases h
          refine ev_isi (x := t) (p2 := p2) ok.hK hg (ok.bl _ (by decide +kernel)) (IH _ _ hf) (tyOf_ok ok hT (ok.gl hc.2)) ?_ rfl
          rw [nst_star hc.1]; rfl
      · cases h
    · cases h
  · cases h
theorem trCallN_ok (ok : XOk X G W C st) {x : Str} {as : List Expr} {ks : List Keyword} {p pos : Pos} {c : E} (h : trCallN st f x as ks = some c) : PEv X G W (.Call (.Name x p) as ks pos) (evE C c) := by
  unfold trCallN at h
  split at h
  · rename_i hg0
    have hg := ok.gl hg0
    split at h
    · rename_i g hgf
      split at h
      · cases h
      · rename_i a es
        cases hl : trL f (a :: es) with
        | none => rw [hl] at h; cases h
        | some l =>
          rw [hl] at h
          cases h
          obtain ⟨x', r, h1, h2, h3, rfl⟩ := trL_cons hl
          obtain ⟨g1, g2⟩ := trL_ok IH hl
          obtain ⟨m1, m2, m3, m4⟩ := bfOf_ok ok hgf
          rcases m4 with ⟨id, b1, b2⟩ | ⟨T, b1, b2⟩
          · exact ev_callB b2 hg m1 b1 g1 m2 m3 (nst_star h1 es X.env) (plain_of (trL_ok IH h3).2)
          · exact ev_callTy b2 hg m1 b1 g1 m2 m3 (nst_star h1 es X.env) (plain_of (trL_ok IH h3).2)
    · cases h
    · split at h
      · rename_i hx
        subst hx
        split at h
        · exact trIsi_ok IH ok hg h
        · cases h
      · split at h
        · cases h
        · rename_i hdb
          exact trFn_ok IH ok hg (by simpa using hdb) h
  · cases h
omit IH in
theorem base_ok {o : Expr} {name : Str} {env : Env} (h : notCall o = true) : attributeBase o name env (eval o env) = eval o env := by
  cases o <;> first | rfl | cases h
theorem trMt_ok (ok : XOk X G W C st) {o : Expr} {m : Str} {apos cpos : Pos} {as : List Expr} {c : E} (h : trMt f o m apos as cpos = some c) : PEv X G W (.Call (.Attribute o m apos) as [] cpos) (evE C c) := by
  unfold trMt at h
  split at h
  · rename_i hc
    simp only [Bool.and_eq_true, decide_eq_true_eq] at hc
    split at h
    · rename_i g x l h1 h2 h3
      cases h
      obtain ⟨pa, id, sl, hty, hm⟩ := mmOf_ok ok h1
      cases as with
      | nil =>
        cases h3
        exact ev_mt0 ok.hK pa sl hty hm (IH _ _ h2) (base_ok hc.1.1) hc.1.2
      | cons a es =>
        obtain ⟨x', r, q1, q2, q3, rfl⟩ := trL_cons h3
        obtain ⟨g1, g2⟩ := trL_ok IH h3
        refine ev_mt ok.hK pa sl hty hm (IH _ _ h2) g1 (base_ok hc.1.1) ?_ hc.1.2 (nst_star q1 es X.env) (plain_of (trL_ok IH q3).2)
        rw [plain_all g2]
        have hl : (a :: es).length < 30 := hc.2
        show (true && ([] : List (Option Str × Sem Value)).all _ && decide ((a :: es).length + 0 + 0 < 30)) = true
        rw [Nat.add_zero, decide_eq_true hl]
        rfl
    · cases h
  · cases h
theorem trCall_ok (ok : XOk X G W C st) {g : Expr} {as : List Expr} {ks : List Keyword} {pos : Pos} {c : E} (h : trCall st f g as ks pos = some c) : PEv X G W (.Call g as ks pos) (evE C c) := by
  unfold trCall at h
  split at h
  · exact trCallN_ok IH ok h
  · split at h
    · exact trMt_ok IH ok h
    · cases h
  · cases h
theorem trIt_ok (ok : XOk X G W C st) {tup : Bool} {tg e : Expr} {c : It} (htg : tup = true → ∃ l k p, tg = .Tuple l k p) (h : trIt st f tup e = some c) : PIv X G W tg e (evI C c) := by
  unfold trIt at h
  split at h
  · rename_i x p a pos
    split at h
    · rename_i hx
      subst hx
      split at h
      · rename_i hc
        rw [Bool.and_eq_true] at hc
        cases hf : f a with
        | none => rw [hf] at h; cases h
        | some y =>
          rw [hf] at h
          cases h
          exact pv_rng1 (ok.gl hc.1) (ok.bl _ (by decide +kernel)) (ev_cons (IH _ _ hf) ev_nil (nst_star hc.2 [] X.env)) (nst_star hc.2 [] X.env)
      · cases h
    · split at h
      · rename_i hx
        subst hx
        split at h
        · rename_i hc
          simp only [Bool.and_eq_true] at hc
          obtain ⟨l, k, tp, rfl⟩ := htg hc.2
          cases hf : f a with
          | none => rw [hf] at h; cases h
          | some y =>
            rw [hf] at h
            cases h
            exact pv_enum ok.hK (ok.gl hc.1.1) (ok.bl _ (by decide +kernel)) (ev_cons (IH _ _ hf) ev_nil (nst_star hc.1.2 [] X.env)) (nst_star hc.1.2 [] X.env)
        · cases h
      · cases hf : f (.Call (.Name x p) [a] [] pos) with
        | none => rw [hf] at h; cases h
        | some y => rw [hf] at h; cases h; exact pv_seq ok.hK (IH _ _ hf)
  · rename_i x p a b pos
    split at h
    · rename_i hx
      subst hx
      split at h
      · rename_i hc
        simp only [Bool.and_eq_true] at hc
        split at h
        · rename_i y z hy hz
          cases h
          have s1 := nst_star hc.2 [] X.env
          have s2 := nst_star hc.1.2 [b] X.env
          exact pv_rng2 (ok.gl hc.1.1) (ok.bl _ (by decide +kernel)) (ev_cons (IH _ _ hy) (ev_cons (IH _ _ hz) ev_nil s1) s2) (by rw [s2, s1]; rfl) s1
        · cases h
      · cases h
    · split at h
      · rename_i hx
        subst hx
        split at h
        · rename_i hc
          simp only [Bool.and_eq_true] at hc
          obtain ⟨l, k, tp, rfl⟩ := htg hc.2
          split at h
          · rename_i y z hy hz
            cases h
            have s1 := nst_star hc.1.2 [] X.env
            have s2 := nst_star hc.1.1.2 [b] X.env
            exact pv_zip ok.hK (ok.gl hc.1.1.1) (ok.bl _ (by decide +kernel)) (ev_cons (IH _ _ hy) (ev_cons (IH _ _ hz) ev_nil s1) s2) s2 (by rw [s1]; rfl)
          · cases h
        · cases h
      · cases hf : f (.Call (.Name x p) [a, b] [] pos) with
        | none => rw [hf] at h; cases h
        | some y => rw [hf] at h; cases h; exact pv_seq ok.hK (IH _ _ hf)
  · split at h
    · cases hf : f e with
      | none => rw [hf] at h; cases h
      | some y => rw [hf] at h; cases h; exact pv_seq ok.hK (IH _ _ hf)
    · cases h
end
/-! ### targets -/
theorem trNames_ok (ok : XOk X G W C st) : ∀ {l : List Expr} {is : List Nat}, trNames st l = some is → PGs X l (gSets is) ∧ PGsv X G W l (evTs C (is.foldr (fun i r => .cons (.name i) r) .nil)) ∧ (assignEach l X.env).length = is.length ∧ (assignEach l X.env).findIdx? (·.1) = none
  | [], is, h => by cases h; exact ⟨pgs_nil, gvs_nil, rfl, rfl⟩
  | e :: r, is, h => by
    unfold trNames at h
    split at h
    · rename_i hh
      cases hh
    · rename_i x p r' hh
      injection hh with hh1 hh2
      subst hh1
      subst hh2
      split at h
      · rename_i hc
        rw [Bool.and_eq_true] at hc
        split at h
        · rename_i i l hi hl
          cases h
          obtain ⟨a1, a2, a3, a4⟩ := trNames_ok ok hl
          refine ⟨pgs_cons (pg_name ok.ndX (ok.ix hi) (ok.loc hc.1) (ok.sto hc.2)) a1 rfl, gvs_cons (gv_name ok.ndX (ok.ix hi) (ok.loc hc.1) (ok.sto hc.2)) a2 rfl, ?_, ?_⟩
          · show (assignEach r X.env).length + 1 = l.length + 1
            rw [a3]
          · show ((false, assign (.Name x p) X.env) :: assignEach r X.env).findIdx? (·.1) = none
            rw [List.findIdx?_cons, a4]
            rfl
        · cases h
      · cases h
    · cases h
theorem trNT_ok (ok : XOk X G W C st) {tg : Expr} {t : NT} (h : trNT st tg = some t) : PG X tg (t.g X.K) := by
  unfold trNT at h
  split at h
  · rename_i x p
    split at h
    · rename_i hc
      rw [Bool.and_eq_true] at hc
      cases hi : findI st.N x with
      | none => rw [hi] at h; cases h
      | some i => rw [hi] at h; cases h; exact pg_name ok.ndX (ok.ix hi) (ok.loc hc.1) (ok.sto hc.2)
    · cases h
  · rename_i l k p
    cases hl : trNames st l with
    | none => rw [hl] at h; cases h
    | some is =>
      rw [hl] at h
      cases h
      obtain ⟨a1, a2, a3, a4⟩ := trNames_ok ok hl
      exact PG.or (pg_tup ok.calm a1 a3 a4) (pg_lst ok.calm a1 a3 a4)
  · cases h
theorem isTup_is {tg : Expr} (h : isTup tg = true) : ∃ l k p, tg = .Tuple l k p := by
  cases tg <;> first | exact ⟨_, _, _, rfl⟩ | cases h
/-- in a block -/
theorem XOk.blk (ok : XOk X G W C st) {sc : Scope} (s : Shared) (H : Hp) (C' : Addr) (cl : List (Str × Addr)) (fp : List Addr) : XOk (X.blk s H sc (compEnvC sc cl C' X.env) fp) G W0 C (st.blk sc) where
  hK := ok.hK
  calm := ok.calm
  N := ok.N
  nd := ok.nd
  sc := by
    show relS sc X.env.scope = relS sc st.sc
    rw [ok.sc]
  fn := fun _ => rfl
  hu := ok.hu
  tk := takes0
  fns := ok.fns
  bl := ok.bl
end
section
variable {G : Env1} {C : Nat → Fn}
theorem tr_ok : ∀ n : Nat, (∀ (X : Cx) (W : WX) (st : St) (e : Expr) (c : E), XOk X G W C st → trE n st e = some c → PEv X G W e (evE C c)) ∧
    (∀ (X : Cx) (W : WX) (st : St) (e : Expr) (c : B), XOk X G W C st → trB n st e = some c → PTv X G W e (evB C c)) ∧
    (∀ (X : Cx) (W : WX) (st : St) (a : Expr) (os : List CmpOp) (bs : List Expr) (p : Pos) (c : E), XOk X G W C st → trE n st (.Compare a os bs p) = some c → PTv X G W (.Compare a os bs p) (evB C (.t c)))
  | 0 => ⟨fun _ _ _ _ _ _ h => (by unfold trE at h; cases h), fun _ _ _ _ _ _ h => (by unfold trB at h; cases h), fun _ _ _ _ _ _ _ _ _ h => (by unfold trE at h; cases h)⟩
  | n + 1 => by
    obtain ⟨ihE, ihB, ihC⟩ := tr_ok n
    have hE : ∀ (X : Cx) (W : WX) (st : St) (e : Expr) (c : E), XOk X G W C st → trE (n + 1) st e = some c → PEv X G W e (evE C c) := by
      intro X W st e c ok h
      have IH : ∀ e c, trE n st e = some c → PEv X G W e (evE C c) := fun e c => ihE X W st e c ok
      unfold trE at h
      split at h
      · exact trName_ok ok h
      · exact trCst_ok h
      · split at h
        · rename_i h1 h2 h3
          cases h
          exact ev_op (bo_ok ok h1) (IH _ _ h2) (IH _ _ h3)
        · cases h
      · exact (trCmp_ok IH ok h).1
      · exact trBool_ok IH ok h
      · rename_i o a pos
        split at h
        · cases hf : trE n st a with
          | none => rw [hf] at h; cases h
          | some x => rw [hf] at h; cases h; exact ev_not ok.hK (IH _ _ hf)
        · cases hf : trE n st a with
          | none => rw [hf] at h; cases h
          | some x => rw [hf] at h; cases h; exact ev_neg (IH _ _ hf)
        · cases h
      · split at h
        · rename_i h1 h2 h3
          cases h
          exact ev_ite (ihB _ _ _ _ _ ok h1) (IH _ _ h2) (IH _ _ h3)
        · cases h
      · rename_i l k pos
        cases hf : trL (trE n st) l with
        | none => rw [hf] at h; cases h
        | some x => rw [hf] at h; cases h; exact ev_tup (trL_ok IH hf).1
      · rename_i l pos
        cases hf : trL (trE n st) l with
        | none => rw [hf] at h; cases h
        | some x => rw [hf] at h; cases h; exact ev_lst (trL_ok IH hf).1
      · exact trSub_ok IH ok h
      · exact trCall_ok IH ok h
      · rename_i e gs sc pos
        split at h
        · rename_i tg it ifs z
          split at h
          · rename_i hc
            obtain ⟨rfl, hns, hbk⟩ := hc
            split at h
            · rename_i t i c' h1 h2 h3
              split at h
              · rename_i hsl
                have hsl' : ∀ j ∈ t.slots, j ∈ (ownOf st sc).map (·.2) := by simpa using hsl
                have okB : BlkOk X.N X.env.scope sc (ownOf st sc) := by rw [ok.N, ok.sc]; exact blkOk_by hbk
                split at h
                · cases h
                  exact ev_lc ok.hK ok.calm ok.ndX (trIt_ok IH ok isTup_is h2) okB (fun s H C' cl fp => trNT_ok (ok.blk s H C' cl fp) h1) (fun s H C' cl fp => ks_nil)
                    (fun s H C' cl fp => ihE _ _ _ _ _ (ok.blk s H C' cl fp) h3) (folded_ok hns) hsl'
                · rename_i k
                  cases hk : trB n (st.blk sc) k with
                  | none => rw [hk] at h; cases h
                  | some kb =>
                    rw [hk] at h
                    cases h
                    exact ev_lc ok.hK ok.calm ok.ndX (trIt_ok IH ok isTup_is h2) okB (fun s H C' cl fp => trNT_ok (ok.blk s H C' cl fp) h1) (fun s H C' cl fp => ks_one (ihB _ _ _ _ _ (ok.blk s H C' cl fp) hk))
                      (fun s H C' cl fp => ihE _ _ _ _ _ (ok.blk s H C' cl fp) h3) (folded_ok hns) hsl'
                · cases h
              · cases h
            · cases h
          · cases h
        · cases h
      · cases h
    refine ⟨hE, fun X W st e c ok h => ?_, fun X W st a os bs p c ok h => ?_⟩
    rotate_left
    · unfold trE at h
      exact (trCmp_ok (fun e c => ihE X W st e c ok) ok h).2
    have IB : ∀ e c, trB n st e = some c → PTv X G W e (evB C c) := fun e c => ihB X W st e c ok
    have IE : ∀ e c, trE n st e = some c → PEv X G W e (evE C c) := fun e c => ihE X W st e c ok
    unfold trB at h
    split at h
    · exact (trBoolT_ok IB h).pt
    · rename_i a pos
      cases hf : trB n st a with
      | none => rw [hf] at h; cases h
      | some x => rw [hf] at h; cases h; exact kv_not (IB _ _ hf)
    · cases h
    · rename_i h1 h2 h3
      cases hf : trE n st e with
      | none => rw [hf] at h; cases h
      | some x =>
        rw [hf] at h
        cases h
        have he := IE _ _ hf
        cases e with
        | BoolOp o l p => exact absurd rfl (h1 _ _ _)
        | UnaryOp o a p =>
          cases o with
          | Not => exact absurd rfl (h2 _ _)
          | _ => exact kv_tru ok.hK he fun _ => rfl
        | IfExp a b c p => exact absurd rfl (h3 _ _ _ _)
        | Compare a os bs p => exact ihC X W st a os bs p x ok hf
        | _ => exact kv_tru ok.hK he fun _ => rfl
end
end Bm

/-! Bm, part L: statements; the table of defs. -/
namespace Bm
open PySem PySem.Spec PyProof.Rows L2

section
variable {X : Cx} {G : Env1} {W : WX} {C : Nat → Fn} {st : St}
theorem trT_ok (ok : XOk X G W C st) {n : Nat} {tg : Expr} {c : T} (h : trT n st tg = some c) : PGv X G W tg (evT C c) := by
  have IH : ∀ e c, trE n st e = some c → PEv X G W e (evE C c) := fun e c => (tr_ok n).1 X W st e c ok
  unfold trT at h
  split at h
  · rename_i x p
    split at h
    · rename_i hc
      rw [Bool.and_eq_true] at hc
      cases hi : findI st.N x with
      | none => rw [hi] at h; cases h
      | some i => rw [hi] at h; cases h; exact gv_name ok.ndX (ok.ix hi) (ok.loc hc.1) (ok.sto hc.2)
    · cases h
  · rename_i l k p
    cases hl : trNames st l with
    | none => rw [hl] at h; cases h
    | some is =>
      rw [hl] at h
      cases h
      obtain ⟨a1, a2, a3, a4⟩ := trNames_ok ok hl
      exact gv_tup ok.hK ok.calm a2 a3 a4
  · rename_i a b p
    split at h
    · rename_i hb
      split at h
      · rename_i x y hx hy
        cases h
        refine gv_sub (IH _ _ hx) (IH _ _ hy) fun v => ?_
        cases b <;> first | rfl | cases hb
      · cases h
    · cases h
  · cases h
theorem swaps_false {e : Expr} {t : Option Expr} {k : Nat} {env : Env} (h : isComp e = false) : swapsWith e t k env = pure false := by
  cases e <;> first | rfl | cases h
theorem swaps_lc {e : Expr} {gs : List Comprehension} {s : Scope} {p pos : Pos} {x : Str} {k : Nat} {env : Env} : swapsWith (.ListComp e gs s p) (some (.Name x pos)) k env =
    pure (env.blockKind == .function && env.kindOf x == some .local && pos.line == p.line && !(s.names.any fun (n, k) => n == x && (k == .local || k == .cell))) := rfl
theorem swaps1_false {e t : Expr} {k : Nat} {env : Env} (h : isComp e = false) : swapsWithSole [t] e k env = pure false := by
  show swapsWith e (some t) k env = pure false
  exact swaps_false h
theorem trAsg_ok (ok : XOk X G W C st) {n : Nat} {tg e : Expr} {pos : Pos} {c : S} (h : trAsg n st tg e = some c) : PSv X G W (.Assign [tg] e pos) (evS C c) := by
  have IH : ∀ e c, trE n st e = some c → PEv X G W e (evE C c) := fun e c => (tr_ok n).1 X W st e c ok
  unfold trAsg at h
  split at h
  · rename_i x p
    split at h
    · rename_i hc
      simp only [Bool.and_eq_true, Bool.or_eq_true, decide_eq_true_eq] at hc
      split at h
      · rename_i i c' hi he
        cases h
        rcases hc.2 with hq | hq
        · exact sv_set ok.ndX (ok.ix hi) (ok.loc hc.1.1) (ok.sto hc.1.2) (IH _ _ he) (swaps_false (by simpa using hq))
        · cases e with
          | ListComp elt gs sc p2 =>
            cases hsw : (X.env.blockKind == .function && X.env.kindOf x == some .local && p.line == p2.line && !(sc.names.any fun (n, k) => n == x && (k == .local || k == .cell))) with
            | false => exact sv_set ok.ndX (ok.ix hi) (ok.loc hc.1.1) (ok.sto hc.1.2) (IH _ _ he) (by rw [swaps_lc, hsw])
            | true =>
              have hyl : X.env.scope.names.lookup x = some .local := by
                simp only [Bool.and_eq_true] at hsw
                have := hsw.1.1.2
                exact eq_of_beq this
              cases n with
              | zero => unfold trE at he; cases he
              | succ n =>
                have IH : ∀ e c, trE n st e = some c → PEv X G W e (evE C c) := fun e c => (tr_ok n).1 X W st e c ok
                unfold trE at he
                simp only at he
                split at he
                · rename_i tg it ifs z
                  split at he
                  · rename_i hc'
                    obtain ⟨rfl, hns, hbk⟩ := hc'
                    split at he
                    · rename_i t i' c'' h1 h2 h3
                      split at he
                      · rename_i hsl
                        have hsl' : ∀ j ∈ t.slots, j ∈ (ownOf st sc).map (·.2) := by simpa using hsl
                        have okB : BlkOk X.N X.env.scope sc (ownOf st sc) := by rw [ok.N, ok.sc]; exact blkOk_by hbk
                        split at he
                        · cases he
                          exact sv_setLc ok.hK ok.calm ok.ndX (ok.ix hi) hyl (by rw [swaps_lc, hsw]) (trIt_ok IH ok isTup_is h2) okB (fun s H C' cl fp => trNT_ok (ok.blk s H C' cl fp) h1) (fun s H C' cl fp => ks_nil)
                            (fun s H C' cl fp => (tr_ok n).1 _ _ _ _ _ (ok.blk s H C' cl fp) h3) (folded_ok hns) hsl'
                        · rename_i k
                          cases hk : trB n (st.blk sc) k with
                          | none => rw [hk] at he; cases he
                          | some kb =>
                            rw [hk] at he
                            cases he
                            exact sv_setLc ok.hK ok.calm ok.ndX (ok.ix hi) hyl (by rw [swaps_lc, hsw]) (trIt_ok IH ok isTup_is h2) okB (fun s H C' cl fp => trNT_ok (ok.blk s H C' cl fp) h1) (fun s H C' cl fp => ks_one ((tr_ok n).2.1 _ _ _ _ _ (ok.blk s H C' cl fp) hk))
                              (fun s H C' cl fp => (tr_ok n).1 _ _ _ _ _ (ok.blk s H C' cl fp) h3) (folded_ok hns) hsl'
                        · cases he
                      · cases he
                    · cases he
                  · cases he
                · cases he
          | _ => cases hq
      · cases h
    · cases h
  · rename_i l k p
    split at h
    · cases h
    · rename_i hc
      simp only [Bool.or_eq_true, not_or, Bool.not_eq_true] at hc
      split at h
      · rename_i t c' ht he
        cases h
        refine sv_asg (IH _ _ he) (trT_ok ok ht) (swaps1_false hc.1) ?_ rfl
        have h2 := hc.2
        cases e <;> first | rfl | cases h2
      · cases h
  · rename_i a b p
    split at h
    · cases h
    · rename_i hc
      rw [Bool.not_eq_true] at hc
      split at h
      · rename_i t c' ht he
        cases h
        exact sv_asg (IH _ _ he) (trT_ok ok ht) (swaps1_false hc) rfl rfl
      · cases h
  · cases h
theorem trSL_ok {f : Stmt → Option S} (IH : ∀ s c, f s = some c → PSv X G W s (evS C c)) : ∀ {l : List Stmt} {c : Ss}, trSL f l = some c → PSsv X G W l (evSs C c)
  | [], c, h => by cases h; exact sv_nil
  | s :: r, c, h => by
    unfold trSL at h
    split at h
    · rename_i a b h1 h2
      cases h
      exact sv_cons (IH _ _ h1) (trSL_ok IH h2)
    · cases h
theorem trS_ok (ok : XOk X G W C st) (hp : PassesOwn (model X.prog X.w) X.A X.env X.xe) : ∀ {n : Nat} {s : Stmt} {c : S}, trS n st s = some c → PSv X G W s (evS C c)
  | 0, s, c, h => by unfold trS at h; cases h
  | n + 1, s, c, h => by
    have IH : ∀ e c, trE n st e = some c → PEv X G W e (evE C c) := fun e c => (tr_ok n).1 X W st e c ok
    have IB : ∀ e c, trB n st e = some c → PTv X G W e (evB C c) := fun e c => (tr_ok n).2.1 X W st e c ok
    have IS : ∀ s c, trS n st s = some c → PSv X G W s (evS C c) := fun s c => trS_ok ok hp
    unfold trS at h
    split at h
    · cases h; exact sv_pass
    · cases h; exact sv_break
    · cases h; exact sv_continue
    · rename_i e p
      split at h
      · rename_i hd
        cases h
        cases e with
        | Constant k j q => cases k <;> first | exact sv_doc | cases hd
        | _ => cases hd
      · split at h
        · cases h
        · rename_i hc
          rw [Bool.not_eq_true] at hc
          cases hf : trE n st e with
          | none => rw [hf] at h; cases h
          | some x => rw [hf] at h; cases h; exact sv_expr (IH _ _ hf) (swaps_false hc)
    · cases h; exact sv_ret0
    · rename_i e p
      cases hf : trE n st e with
      | none => rw [hf] at h; cases h
      | some x => rw [hf] at h; cases h; exact sv_ret (IH _ _ hf)
    · exact trAsg_ok ok h
    · split at h
      · rename_i h1 h2 h3
        cases h
        exact sv_if (IB _ _ h1) (trSL_ok IS h2) (trSL_ok IS h3)
      · cases h
    · split at h
      · rename_i h1 h2
        cases h
        exact sv_while hp (IB _ _ h1) (trSL_ok IS h2)
      · cases h
    · split at h
      · rename_i hn
        split at h
        · rename_i h1 h2 h3
          cases h
          exact sv_for hp ok.calm (trIt_ok IH ok isTup_is h2) (trT_ok ok h1) (trSL_ok IS h3) (folded_ok hn)
        · cases h
      · cases h
    · cases h
end

/-! ### the table -/
structure DefI where
  name : Str
  st : Stmt
  ps : List Str
  N : List Str
  D : DefD
def fsB (N P : List Str) (sc : Scope) : Bool := decide (sc.kind = .function) && decide (sc.isCoroutine = false) && decide (sc.isGenerator = false) && decide N.Nodup && decide (N.take P.length = P) &&
  P.all (fun x => decide (sc.names.lookup x = some .local) || decide (sc.names.lookup x = some .cell)) && sc.names.all fun y => decide (y.2 ≠ .free)
theorem fsB_ok {N P : List Str} {sc : Scope} (h : fsB N P sc = true) : FnScope N P sc := by
  unfold fsB at h
  simp only [Bool.and_eq_true, Bool.or_eq_true, List.all_eq_true, decide_eq_true_eq] at h
  obtain ⟨⟨⟨⟨⟨⟨h1, h2⟩, h3⟩, h4⟩, h5⟩, h6⟩, h7⟩ := h
  exact ⟨h1, h2, h3, h4, h5, h6, h7⟩
def DefI.chk (tb : Tab) (d : DefI) : Bool :=
  decide (trSL (trS 60 ⟨d.N, defScope d.st, fun _ => true, tb⟩) (defBody d.st) = some d.D.body) && decide (d.D.np = d.ps.length) && decide (d.D.ns = d.N.length) && fsB d.N d.ps (defScope d.st)
/-- what the written part has of a def -/
structure DefOk (K : PySem.W.Frag) (mg : Str → Option Value) (tb : Tab) (i : Nat) (d : DefI) (f : Addr) (fd : FuncData) : Prop where
  mg : mg d.name = some (.ref f)
  fn : Fun K d.name d.name d.st f fd
  bd : ∀ us : List Value, us.length = d.ps.length → bindArgs fd ⟨us, []⟩ = pure (d.ps.zip us)
  kb : ∀ ks π, (i, ks, π) ∈ tb.kbs → KB K fd d.ps ks π
section
variable {P : Program} {w : World} {K : PySem.W.Frag} {mg : Str → Option Value} {base : Heap}
theorem sfin_of {G : Env1} {m : List Addr} {H : Hp} {Q : VK} {E : XK} {o : SOut} (h : Fin G m H (VR G) Q E (outS o)) : SFin G m H { nx := fun _ H' => Q .non H', rt := Q } (fun cls d _ H => E cls d H) o := by
  cases o with
  | nx ls S => exact fun m' H' σ' e R L => h m' H' .non e R rfl
  | rt p S => exact fun m' H' v e R r => h m' H' v e R r
  | bk ls S => exact h.elim
  | ct ls S => exact h.elim
  | exn x ls S => exact fun m' H' σ' cls d e R L r => h m' H' cls d e R r
  | bad => exact h.elim
theorem lr_start {G : Env1} {m : List Addr} {H : Hp} {ps : List PV} {vs : List V} {N : List Str} {np : Nat} (r : VRs G m H ps vs) (hl : ps.length = np) : LR G m H (ps.map some ++ List.replicate (N.length - np) none) (L2.start N vs) := by
  have e := r.length
  refine ⟨by unfold L2.start; simp [e, ← hl], fun i p hp => ?_⟩
  have hi : i < ps.length := by
    by_cases hi : i < ps.length
    · exact hi
    · rw [List.getElem?_append_right (by simpa using hi), List.getElem?_replicate] at hp
      split at hp <;> cases hp
  rw [List.getElem?_append_left (by simpa using hi), List.getElem?_map] at hp
  cases hq : ps[i]? with
  | none => rw [hq] at hp; cases hp
  | some q =>
    rw [hq] at hp
    cases hp
    obtain ⟨u, h1, h2⟩ := r.get hq
    refine ⟨u, ?_, h2⟩
    unfold L2.start
    rw [List.getElem?_append_left (by rw [List.length_map, ← e]; exact hi), List.getElem?_map, h1]
    rfl
theorem table_ok {cls : Nat → Addr} {tb : Tab} {ds : List DefI} (hbl : ∀ x ∈ bltNames, mg x = none) (htb : tb.fns = ds.map fun d => (d.name, d.ps)) (hchk : ds.all (DefI.chk tb) = true)
    (hK : ∀ i d, ds[i]? = some d → ∃ f fd, DefOk K mg tb i d f fd) : ∀ (n i : Nat) (d : DefI) (f : Addr) (fd : FuncData), ds[i]? = some d → DefOk K mg tb i d f fd →
      FnOk P w K mg base (L2.CX P w) (n + 1) f fd d.ps (spOf ⟨K, cls⟩ (callF (ds.map (·.D)) n i))
  | 0, i, d, f, fd, hi, D => ⟨fun vs H Q E ⟨m, S, ps, R, r, F⟩ => F.elim, fun A outer s H args us vs Q E hr he hb hv ⟨m, S, ps, R, r, F⟩ => F.elim⟩
  | n + 1, i, d, f, fd, hi, D => by
    have hd := List.all_eq_true.mp hchk d (List.mem_of_getElem? hi)
    unfold DefI.chk at hd
    simp only [Bool.and_eq_true, decide_eq_true_eq] at hd
    obtain ⟨⟨⟨h1, h2⟩, h3⟩, h4⟩ := hd
    have FS := fsB_ok h4
    have hP : (ds.map (·.D))[i]? = some d.D := by rw [List.getElem?_map, hi]; rfl
    refine D.fn.okX FS (fun vs H Q E ⟨m, S, ps, R, r, F⟩ => ?_) (fun cdv A outer s H vs Q E hr ⟨m, S, ps, R, r, F⟩ => ?_)
    · unfold callF at F
      rw [hP] at F
      simp only at F
      split at F
      · rename_i hl
        rw [← r.length, hl, h2]
      · exact F.elim
    · unfold callF at F
      rw [hP] at F
      simp only at F
      split at F
      · rename_i hl
        refine ⟨SvT ⟨K, cls⟩ (fun cls d _ H => E cls d H) (evSs (callF (ds.map (·.D)) n) d.D.body), ?_, m, _, S, R, ?_, sfin_of F⟩
        · have ok : XOk (cxOf (L2.CX P w) P w K mg base d.N d.name (defScope d.st) f cdv A outer s H E) ⟨K, cls⟩ (fun cls d _ H => E cls d H) (callF (ds.map (·.D)) n) ⟨d.N, defScope d.st, fun _ => true, tb⟩ := {
            hK := rfl
            calm := rfl
            N := rfl
            nd := FS.nd
            sc := rfl
            fn := fun _ => rfl
            hu := by
              have h := hr.un
              have e : (cxOf (L2.CX P w) P w K mg base d.N d.name (defScope d.st) f cdv A outer s H E).A = A.deeper (envOfC d.name (defScope d.st) s.heap.objs.size f cdv) := rfl
              rw [e]
              omega
            tk := takes_of rfl rfl rfl rfl
            fns := fun j x ps' hj => by
              have hj' : tb.fns[j]? = some (x, ps') := hj
              rw [htb, List.getElem?_map] at hj'
              cases hq : ds[j]? with
              | none => rw [hq] at hj'; cases hj'
              | some d' =>
                rw [hq] at hj'
                cases hj'
                obtain ⟨f', fd', D'⟩ := hK j d' hq
                exact ⟨n + 1, f', fd', table_ok hbl htb hchk hK n j d' f' fd' hq D', hr, D'.mg, D'.fn.kp, .all D'.bd, D'.kb⟩
            bl := hbl }
          exact trSL_ok (fun s c => trS_ok ok (passes_of rfl)) h1
        · rw [h3]
          exact lr_start r hl
      · exact F.elim
end
end Bm

/-! Bm, part M: the end of a law. -/
namespace Bm
open PySem PySem.Spec PyProof.Rows L2

def kbsOf (tb : Tab) (i : Nat) : List (List Str × List Nat) := tb.kbs.filterMap fun e => if e.1 = i then some e.2 else none
/-- a def, as the top has written it -/
def Wr (K : PySem.W.Frag) (mg : Str → Option Value) (x : Str) (st : Stmt) : Prop := ∃ (f : Addr) (oc : Value) (od an : Option Addr) (osl : Array (Option Value)) (kV doc pm cdv ct : Value), mg x = some (.ref f) ∧
  K.lookup f = some ⟨oc, od, .func (PySem.W.fnOf x x (defArgs st) (defBody st) (defScope st) .none kV doc pm an cdv ct), osl⟩ ∧ PySem.W.codeIn K cdv x = true ∧ PySem.W.keepIn K (.ref f) = true
theorem wr_mk {K : PySem.W.Frag} {h : Heap} {mg : Str → Option Value} {x : Str} {st : Stmt} {f : Addr} {oc : Value} {od an : Option Addr} {osl : Array (Option Value)} {kV doc pm cdv ct : Value} (X : K.In h) (G : h.Ns mainGlobals mg)
    (a : PySem.W.nsIn K mainGlobals x = some (some (.ref f))) (l : K.lookup f = some ⟨oc, od, .func (PySem.W.fnOf x x (defArgs st) (defBody st) (defScope st) .none kV doc pm an cdv ct), osl⟩)
    (c : PySem.W.codeIn K cdv x = true) (k : PySem.W.keepIn K (.ref f) = true) : Wr K mg x st := ⟨f, oc, od, an, osl, kV, doc, pm, cdv, ct, PySem.W.mg_of X G a, l, c, k⟩
/-- how its arguments bind -/
abbrev Bd (x : Str) (st : Stmt) (ps : List Str) : Prop := ∀ (kV doc pm : Value) (an : Option Addr) (cdv ct : Value) (us : List Value), us.length = ps.length →
  bindArgs (PySem.W.fnOf x x (defArgs st) (defBody st) (defScope st) .none kV doc pm an cdv ct) ⟨us, []⟩ = pure (ps.zip us)
abbrev Kbd (x : Str) (st : Stmt) (ps ks : List Str) (π : List Nat) : Prop := ∀ (kV doc pm : Value) (an : Option Addr) (cdv ct : Value) (us ws : List Value), (us ++ ws).length = ps.length → ws.length = ks.length →
  bindArgs (PySem.W.fnOf x x (defArgs st) (defBody st) (defScope st) .none kV doc pm an cdv ct) ⟨us, ks.zip ws⟩ = pure (ps.zip (π.filterMap ((us ++ ws)[·]?)))
theorem def_ok {K : PySem.W.Frag} {mg : Str → Option Value} {tb : Tab} {i : Nat} {d : DefI} (w : Wr K mg d.name d.st) (b : Bd d.name d.st d.ps) (kb : ∀ e ∈ kbsOf tb i, Kbd d.name d.st d.ps e.1 e.2) : ∃ f fd, DefOk K mg tb i d f fd := by
  obtain ⟨f, oc, od, an, osl, kV, doc, pm, cdv, ct, h1, h2, h3, h4⟩ := w
  refine ⟨f, _, h1, fun_mk h2 h3 h4, fun us hl => b kV doc pm an cdv ct us hl, fun ks π hm => ⟨fun s us ws l1 l2 => ?_⟩⟩
  have hm' : (ks, π) ∈ kbsOf tb i := List.mem_filterMap.mpr ⟨_, hm, by simp⟩
  exact .of_eq (kb _ hm' kV doc pm an cdv ct us ws l1 l2)
/-- no list stands in the written part -/
def noL (K : PySem.W.Frag) : Bool := K.all fun p => match p.2.cls with
  | .type n => !(n == "list")
  | _ => true
theorem look_mem : ∀ {K : PySem.W.Frag} {a : Addr} {o : Obj}, K.lookup a = some o → (a, o) ∈ K
  | [], _, _, h => by cases h
  | (b, x) :: r, a, o, h => by
    rw [List.lookup_cons] at h
    split at h
    · rename_i he
      cases h
      rw [show a = b from by simpa using he]
      exact List.mem_cons_self
    · exact List.mem_cons_of_mem _ (look_mem h)
theorem noL_ok {K : PySem.W.Frag} {a : Addr} {o : Obj} (h : noL K = true) (hl : K.lookup a = some o) : o.cls ≠ .type "list" := fun e => by
  have := List.all_eq_true.mp h _ (look_mem hl)
  simp only [e] at this
  cases this
theorem end_ok {l : PySem.W.OpenLaw} {w : World} {K : PySem.W.Frag} {h : Heap} {mg : Str → Option Value} {fa : Addr} {cls : Nat → Addr} {ds : List DefI} {tb : Tab} {n i : Nat} {d : DefI} (X : K.In h) (G : h.Ns mainGlobals mg) (hfa : mg "law" = some (.ref fa))
    (hbl : ∀ x ∈ bltNames, PySem.W.nsIn K mainGlobals x = some none) (htb : tb.fns = ds.map fun d => (d.name, d.ps)) (hchk : ds.all (DefI.chk tb) = true) (hK : ∀ i d, ds[i]? = some d → ∃ f fd, DefOk K mg tb i d f fd)
    (hi : ds[i]? = some d) (hn : d.name = "law") (hp : d.ps = (["script"] : List Str)) :
    ∃ fd : FuncData, (∀ (s : Shared) (v : Value), BindsTo s fd ⟨[v], []⟩ [("script", v)]) ∧ ∀ base : Heap, K.In base → base.Ns mainGlobals mg → FnOk l.prog w K mg base (L2.CX l.prog w) (n + 1) fa fd ["script"] (spOf ⟨K, cls⟩ (callF (ds.map (·.D)) n i)) := by
  obtain ⟨f, fd, D⟩ := hK i d hi
  have e := D.mg
  rw [hn] at e
  rw [hfa] at e
  cases e
  refine ⟨fd, fun s v => .of_eq ?_, fun base _ _ => ?_⟩
  · have := D.bd [v] (by rw [hp]; rfl)
    rw [this, hp]
    rfl
  · have q := table_ok (P := l.prog) (w := w) (base := base) (cls := cls) (fun x hx => PySem.W.mg_none_of X G (hbl x hx)) htb hchk hK n i d fa fd hi D
    rw [hp] at q
    exact q
theorem walk {l : PySem.W.OpenLaw} {q : Program} {loose : List Str} {XP : (Str → Option Value) → Heap → Prop} {YP : World → Heap → Prop} {d : DefRec} {K : Params → PySem.W.Frag} {cls : Nat → Addr} {D : List DefD} {n i : Nat} (hn : l.most = some 63) (hdf : d.params.defaults = [])
    (hr : Room (n + 1) callerA) (hY : ∀ (w : World) (h : Heap), YP w h → (K w.params).In h) (hL : ∀ w : World, noL (K w.params) = true)
    (hlaw : ∀ ns : List Int, ns.length ≤ 63 → (∀ z ∈ ns, Builtin.Int.intBits z ≤ 1048576) → ∃ S', callF D n i [.loc 0] [.frz (ns.map .int)] = .ok (.bl true) S')
    (F : ∀ (w : World) (mg : Str → Option Value) (fa : Addr) (h : Heap), (K w.params).In h → h.Ns mainGlobals mg → mg d.name = some (.ref fa) →
      ∃ fd : FuncData, (∀ (s : Shared) (u : Value), BindsTo s fd ⟨[u], []⟩ [("script", u)]) ∧ ∀ base : Heap, (K w.params).In base → base.Ns mainGlobals mg → FnOk l.prog w (K w.params) mg base (L2.CX l.prog w) (n + 1) fa fd ["script"] (spOf ⟨K w.params, cls⟩ (callF D n i))) :
    PySem.W.WalkO q loose XP YP l.row.toRowW d [] (fun f vs => PySem.call f vs) := by
  refine L2.walk_ofB (n := 63) (k := n + 1) (x := "script") (CX := fun w => L2.CX l.prog w) (sp := fun w => spOf ⟨K w.params, cls⟩ (callF D n i)) hn (by decide) hdf hr hY F (fun w H a ns hl hb hO hS => ?_) (fun w H s e s' z => ?_)
  · obtain ⟨S', hc⟩ := hlaw ns hl hb
    have hf : ∃ o, H a = some (.frz o (.lst (ns.map V.int))) := by
      rcases hS with (hS | hS) | ⟨o, its, k, h1, h2, _⟩
      · rcases hO a with z | ⟨o, xs, z⟩ <;> (rw [hS] at z; cases z)
      · exact hS
      · exact absurd h2 (noL_ok (hL w) h1)
    obtain ⟨o, hf⟩ := hf
    refine ⟨[a], [.frz (ns.map .int)], [.loc 0], ⟨rfl, by simp, fun j x b h1 h2 => ?_⟩, ⟨_, _, rfl, ⟨a, rfl, rfl⟩, rfl⟩, ?_⟩
    · cases j with
      | zero =>
        cases h1
        cases h2
        exact ⟨_, o, hf, VRs.of_ints⟩
      | succ j => simp at h1
    · rw [hc]
      exact fun m' H' v e R r => r
  · obtain ⟨_, _, _, _, _, _, _, _, _, _, _, _, z⟩ := z
    exact z.elim
end Bm

/-! Bm, part N: what it says, step by step (for simp). -/
namespace Bm
open PySem PySem.Spec PyProof.Rows L2

section
variable (C : Nat → Fn)
@[simp] theorem evE_v (i : Nat) : evE C (.v i) = cVar i := nd rfl
@[simp] theorem evE_c (p : Cn) : evE C (.c p) = cCst p.pv := nd rfl
@[simp] theorem evE_bin (o : BO) (a b : E) : evE C (.bin o a b) = cOp o.d (evE C a) (evE C b) := nd rfl
@[simp] theorem evE_cmp (o : QO) (a b : E) : evE C (.cmp o a b) = cOp o.d (evE C a) (evE C b) := nd rfl
@[simp] theorem evE_chn (o o' : QO) (a b c : E) : evE C (.chn o o' a b c) = cChn o.d o'.d (evE C a) (evE C b) (evE C c) := nd rfl
@[simp] theorem evE_and (a b : E) : evE C (.and a b) = cAnd (evE C a) (evE C b) := nd rfl
@[simp] theorem evE_or (a b : E) : evE C (.or a b) = cOr (evE C a) (evE C b) := nd rfl
@[simp] theorem evE_not (a : E) : evE C (.not a) = cNot (evE C a) := nd rfl
@[simp] theorem evE_neg (a : E) : evE C (.neg a) = cNeg (evE C a) := nd rfl
@[simp] theorem evE_ite (k : B) (a b : E) : evE C (.ite k a b) = cIte (evB C k) (evE C a) (evE C b) := nd rfl
@[simp] theorem evE_tup (l : Es) : evE C (.tup l) = cTup (evEs C l) := nd rfl
@[simp] theorem evE_lst (l : Es) : evE C (.lst l) = cLst (evEs C l) := nd rfl
@[simp] theorem evE_idx (a b : E) : evE C (.idx a b) = cOp bIdx (evE C a) (evE C b) := nd rfl
@[simp] theorem evE_sl (a : E) (lo hi : EO) : evE C (.sl a lo hi) = cSl (evE C a) (evO C lo) (evO C hi) := nd rfl
@[simp] theorem evE_rev (a : E) : evE C (.rev a) = cRev (evE C a) := nd rfl
@[simp] theorem evE_bf (f : BF) (l : Es) : evE C (.bf f l) = cCall f.d (evEs C l) := nd rfl
@[simp] theorem evE_isi (t : Ty) (a : E) : evE C (.isi t a) = cIsi t (evE C a) := nd rfl
@[simp] theorem evE_mt (m : MM) (o : E) (l : Es) : evE C (.mt m o l) = cMt m.T m.d (evE C o) (evEs C l) := nd rfl
@[simp] theorem evE_fn (n : Nat) (l : Es) : evE C (.fn n l) = cCall (C n) (evEs C l) := nd rfl
@[simp] theorem evE_fnk (n : Nat) (π : List Nat) (np nk : Nat) (l k : Es) : evE C (.fnk n π np nk l k) = cCallK (C n) π np nk (evEs C l) (evEs C k) := nd rfl
@[simp] theorem evE_lc (it : It) (t : NT) (k : BOp) (e : E) (own : List Nat) : evE C (.lc it t k e own) = cLc (evI C it) t (evK C k) (evE C e) own := nd rfl
@[simp] theorem evB_t (e : E) : evB C (.t e) = kTru (evE C e) := nd rfl
@[simp] theorem evB_and (a b : B) : evB C (.and a b) = kAnd (evB C a) (evB C b) := nd rfl
@[simp] theorem evB_or (a b : B) : evB C (.or a b) = kOr (evB C a) (evB C b) := nd rfl
@[simp] theorem evB_not (a : B) : evB C (.not a) = kNot (evB C a) := nd rfl
@[simp] theorem evK_yes : evK C .yes = kYes := nd rfl
@[simp] theorem evK_if (b : B) : evK C (.if_ b) = evB C b := nd rfl
@[simp] theorem evEs_nil : evEs C .nil = cNil := nd rfl
@[simp] theorem evEs_cons (a : E) (r : Es) : evEs C (.cons a r) = cCons (evE C a) (evEs C r) := nd rfl
@[simp] theorem evO_no : evO C .no = cNone := nd rfl
@[simp] theorem evO_yes (a : E) : evO C (.yes a) = cSome (evE C a) := nd rfl
@[simp] theorem evI_seq (a : E) : evI C (.seq a) = cSeq (evE C a) := nd rfl
@[simp] theorem evI_r1 (a : E) : evI C (.r1 a) = cRng1 (cCons (evE C a) cNil) := nd rfl
@[simp] theorem evI_r2 (a b : E) : evI C (.r2 a b) = cRng2 (cCons (evE C a) (cCons (evE C b) cNil)) := nd rfl
@[simp] theorem evI_zip (a b : E) : evI C (.zip a b) = cZip (cCons (evE C a) (cCons (evE C b) cNil)) := nd rfl
@[simp] theorem evI_enum (a : E) : evI C (.enum a) = cEnum (cCons (evE C a) cNil) := nd rfl
@[simp] theorem evT_name (i : Nat) : evT C (.name i) = tName i := nd rfl
@[simp] theorem evT_tup (n : Nat) (l : Ts) : evT C (.tup n l) = tTup n (evTs C l) := nd rfl
@[simp] theorem evT_sub (a b : E) : evT C (.sub a b) = tSub (evE C a) (evE C b) := nd rfl
@[simp] theorem evTs_nil : evTs C .nil = tgNil := nd rfl
@[simp] theorem evTs_cons (a : T) (r : Ts) : evTs C (.cons a r) = tgCons (evT C a) (evTs C r) := nd rfl
@[simp] theorem evS_pass : evS C .pass = sNext := nd rfl
@[simp] theorem evS_brk : evS C .brk = sBrk := nd rfl
@[simp] theorem evS_cont : evS C .cont = sCont := nd rfl
@[simp] theorem evS_expr (e : E) : evS C (.expr e) = sExpr (evE C e) := nd rfl
@[simp] theorem evS_asg (t : T) (e : E) : evS C (.asg t e) = sAsg (evT C t) (evE C e) := nd rfl
@[simp] theorem evS_ret (e : E) : evS C (.ret e) = sRet (evE C e) := nd rfl
@[simp] theorem evS_ret0 : evS C .ret0 = sRet0 := nd rfl
@[simp] theorem evS_ite (k : B) (a b : Ss) : evS C (.ite k a b) = sIf (evB C k) (evSs C a) (evSs C b) := nd rfl
@[simp] theorem evS_whl (k : B) (b : Ss) : evS C (.whl k b) = sWhile (evB C k) (evSs C b) := nd rfl
@[simp] theorem evS_for (t : T) (it : It) (b : Ss) : evS C (.for_ t it b) = sFor (evI C it) (evT C t) (evSs C b) := nd rfl
@[simp] theorem evSs_nil : evSs C .nil = sNext := nd rfl
@[simp] theorem evSs_cons (a : S) (r : Ss) : evSs C (.cons a r) = sSeq (evS C a) (evSs C r) := nd rfl
end
def seqK (o : SOut) (b : CS) : SOut := match o with
  | .nx ls1 S1 => b ls1 S1
  | o => o
def chnK (z : PV) (S : Store) (o : Out PV) : Out PV := match z with
  | .bl true => o
  | .bl false => .ok (.bl false) S
  | _ => .bad
section
variable (ls : Ls) (S : Store) (b : CS)
@[simp] theorem seqK_nx : seqK (.nx ls S) b = b ls S := nd rfl
@[simp] theorem seqK_rt (p : PV) : seqK (.rt p S) b = .rt p S := nd rfl
@[simp] theorem seqK_bk : seqK (.bk ls S) b = .bk ls S := nd rfl
@[simp] theorem seqK_ct : seqK (.ct ls S) b = .ct ls S := nd rfl
@[simp] theorem seqK_exn (x : Exn) : seqK (.exn x ls S) b = .exn x ls S := nd rfl
@[simp] theorem seqK_bad : seqK .bad b = .bad := nd rfl
@[simp] theorem seqK_ite (c : Prop) [Decidable c] (x y : SOut) : seqK (if c then x else y) b = if c then seqK x b else seqK y b := by split <;> rfl
@[simp] theorem chnK_bl (k : Bool) (o : Out PV) : chnK (.bl k) S o = if k = true then o else .ok (.bl false) S := by cases k <;> rfl
@[simp] theorem bind_ite {α β : Type} (c : Prop) [Decidable c] (x y : Out α) (k : α → Store → Out β) : (if c then x else y).bind k = if c then x.bind k else y.bind k := by split <;> rfl
@[simp] theorem lift_ite {α : Type} (c : Prop) [Decidable c] (x y : Out α) (k : α → Store → SOut) : lift (if c then x else y) ls k = if c then lift x ls k else lift y ls k := by split <;> rfl
@[simp] theorem outS_ite (c : Prop) [Decidable c] (x y : SOut) : outS (if c then x else y) = if c then outS x else outS y := by split <;> rfl
end
section
variable (ls : Ls) (S : Store)
@[simp] theorem cVar_is (i : Nat) : cVar i ls S = match ls[i]? with | some (some p) => .ok p S | _ => .bad := nd rfl
@[simp] theorem cCst_is (p : PV) : cCst p ls S = .ok p S := nd rfl
@[simp] theorem cOp_is (g : Op2) (a b : CE) : cOp g a b ls S = (a ls S).bind fun p S1 => (b ls S1).bind fun q S2 => g p q S2 := nd rfl
@[simp] theorem cAnd_is (a b : CE) : cAnd a b ls S = (a ls S).bind fun p S1 => (toB p S1).bind fun k S2 => if k then b ls S2 else .ok p S2 := nd rfl
@[simp] theorem cOr_is (a b : CE) : cOr a b ls S = (a ls S).bind fun p S1 => (toB p S1).bind fun k S2 => if k then .ok p S2 else b ls S2 := nd rfl
@[simp] theorem cNot_is (a : CE) : cNot a ls S = (a ls S).bind fun p S1 => (toB p S1).bind fun k S2 => .ok (.bl (!k)) S2 := nd rfl
@[simp] theorem cNeg_is (a : CE) : cNeg a ls S = (a ls S).bind fun p S1 => uNeg p S1 := nd rfl
@[simp] theorem uNeg_int (i : Int) : uNeg (.int i) S = .ok (.int (-i)) S := nd rfl
@[simp] theorem cIte_is (c : CB) (a b : CE) : cIte c a b ls S = (c ls S).bind fun k S1 => if k then a ls S1 else b ls S1 := nd rfl
@[simp] theorem cNil_is : cNil ls S = .ok [] S := nd rfl
@[simp] theorem cCons_is (a : CE) (r : CA) : cCons a r ls S = (a ls S).bind fun p S1 => (r ls S1).bind fun ps S2 => .ok (p :: ps) S2 := nd rfl
@[simp] theorem cTup_is (r : CA) : cTup r ls S = (r ls S).bind fun ps S1 => if ps.length ≤ sizeLine then .ok (.tup ps) S1 else .bad := nd rfl
@[simp] theorem cLst_is (r : CA) : cLst r ls S = (r ls S).bind fun ps S1 => if ps.length ≤ sizeLine then .ok (.loc S1.length) (S1 ++ [.lst ps]) else .bad := nd rfl
@[simp] theorem kTru_is (a : CE) : kTru a ls S = (a ls S).bind toB := nd rfl
@[simp] theorem kNot_is (a : CB) : kNot a ls S = (a ls S).bind fun k S1 => .ok (!k) S1 := nd rfl
@[simp] theorem kAnd_is (a b : CB) : kAnd a b ls S = (a ls S).bind fun k S1 => if k then b ls S1 else .ok false S1 := nd rfl
@[simp] theorem kOr_is (a b : CB) : kOr a b ls S = (a ls S).bind fun k S1 => if k then .ok true S1 else b ls S1 := nd rfl
@[simp] theorem kYes_is : kYes ls S = .ok true S := nd rfl
@[simp] theorem cSl_is (a : CE) (lo hi : CO) : cSl a lo hi ls S = (a ls S).bind fun p S1 => (lo ls S1).bind fun l S2 => (hi ls S2).bind fun h S3 => bSl p l h S3 := nd rfl
@[simp] theorem cRev_is (a : CE) : cRev a ls S = (a ls S).bind bRev := nd rfl
@[simp] theorem cNone_is : cNone ls S = .ok none S := nd rfl
@[simp] theorem cSome_is (a : CE) : cSome a ls S = (a ls S).bind toI := nd rfl
@[simp] theorem toI_int (i : Int) : toI (.int i) S = .ok (some i) S := nd rfl
@[simp] theorem cCall_is (g : Fn) (r : CA) : cCall g r ls S = (r ls S).bind g := nd rfl
@[simp] theorem cCallK_is (g : Fn) (π : List Nat) (np nk : Nat) (r rk : CA) : cCallK g π np nk r rk ls S = (r ls S).bind fun ps S1 => (rk ls S1).bind fun qs S2 => if ps.length + qs.length = np ∧ qs.length = nk then g (π.filterMap ((ps ++ qs)[·]?)) S2 else .bad := nd rfl
@[simp] theorem cIsi_is (T : Ty) (a : CE) : cIsi T a ls S = (a ls S).bind fun p S1 => fIsi T p S1 := nd rfl
@[simp] theorem cMt_is (T : MT) (g : Mt) (o : CE) (r : CA) : cMt T g o r ls S = (o ls S).bind fun p S1 => if isMT T p S1 then (r ls S1).bind fun ps S2 => g p ps S2 else .bad := nd rfl
@[simp] theorem cSeq_is (a : CE) : cSeq a ls S = (a ls S).bind iSeq := nd rfl
@[simp] theorem cRng1_is (cr : CA) : cRng1 cr ls S = (cr ls S).bind fun ps S1 => match ps with | [.int j] => iRng [.int j] S1 | _ => .bad := nd rfl
@[simp] theorem cRng2_is (cr : CA) : cRng2 cr ls S = (cr ls S).bind fun ps S1 => match ps with | [.int i, .int j] => iRng [.int i, .int j] S1 | _ => .bad := nd rfl
@[simp] theorem cZip_is (r : CA) : cZip r ls S = (r ls S).bind iZip := nd rfl
@[simp] theorem cEnum_is (r : CA) : cEnum r ls S = (r ls S).bind iEnum := nd rfl
@[simp] theorem tName_is (i : Nat) (p : PV) : tName i p ls S = .ok (ls.set i (some p)) S := nd rfl
@[simp] theorem tSub_is (o i : CE) (p : PV) : tSub o i p ls S = (o ls S).bind fun q S1 => (i ls S1).bind fun k S2 => (setAt q k p S2).bind fun _ S3 => .ok ls S3 := nd rfl
@[simp] theorem sNext_is : sNext ls S = .nx ls S := nd rfl
@[simp] theorem sBrk_is : sBrk ls S = .bk ls S := nd rfl
@[simp] theorem sCont_is : sCont ls S = .ct ls S := nd rfl
@[simp] theorem sSeq_is (a b : CS) : sSeq a b ls S = seqK (a ls S) b := nd rfl
@[simp] theorem cChn_is (g h : Op2) (a b c : CE) : cChn g h a b c ls S = (a ls S).bind fun p S1 => (b ls S1).bind fun q S2 => (g p q S2).bind fun z S3 => chnK z S3 ((c ls S3).bind fun r S4 => h q r S4) := nd rfl
@[simp] theorem sExpr_is (a : CE) : sExpr a ls S = lift (a ls S) ls fun _ S1 => .nx ls S1 := nd rfl
@[simp] theorem sAsg_is (t : CT) (a : CE) : sAsg t a ls S = lift (a ls S) ls fun p S1 => lift (t p ls S1) ls fun ls1 S2 => .nx ls1 S2 := nd rfl
@[simp] theorem sRet_is (a : CE) : sRet a ls S = lift (a ls S) ls fun p S1 => .rt p S1 := nd rfl
@[simp] theorem sRet0_is : sRet0 ls S = .rt .non S := nd rfl
@[simp] theorem sIf_is (c : CB) (a b : CS) : sIf c a b ls S = lift (c ls S) ls fun k S1 => if k then a ls S1 else b ls S1 := nd rfl
@[simp] theorem sFor_is (i : CI) (t : CT) (b : CS) : sFor i t b ls S = lift (i ls S) ls fun src S1 => forL src.2 t b src.1 ls S1 := nd rfl
@[simp] theorem cLc_is (i : CI) (t : NT) (k : CB) (e : CE) (own : List Nat) : cLc i t k e own ls S = (i ls S).bind fun src S1 => lcL src.2 t k e src.1 [] (wipeL ls own) S1 := nd rfl
@[simp] theorem tru_non : toB .non S = .ok false S := nd rfl
@[simp] theorem tru_bl (b : Bool) : toB (.bl b) S = .ok b S := nd rfl
@[simp] theorem tru_int (i : Int) : toB (.int i) S = .ok (i != 0) S := nd rfl
@[simp] theorem tru_str (s : List Nat) : toB (.str s) S = .ok (!s.isEmpty) S := nd rfl
@[simp] theorem tru_tup (s : List PV) : toB (.tup s) S = .ok (!s.isEmpty) S := nd rfl
@[simp] theorem outS_nx : outS (.nx ls S) = .ok .non S := nd rfl
@[simp] theorem outS_rt (p : PV) : outS (.rt p S) = .ok p S := nd rfl
@[simp] theorem outS_exn (x : Exn) : outS (.exn x ls S) = .exn x S := nd rfl
@[simp] theorem outS_bad : outS .bad = .bad := nd rfl
@[simp] theorem Cn_non : Cn.pv .non = .non := nd rfl
@[simp] theorem Cn_bl (b : Bool) : Cn.pv (.bl b) = .bl b := nd rfl
@[simp] theorem Cn_int (i : Int) : Cn.pv (.int i) = .int i := nd rfl
@[simp] theorem Cn_str (s : List Nat) : Cn.pv (.str s) = .str s := nd rfl
@[simp] theorem BO_add : BO.d .add = bAdd := nd rfl
@[simp] theorem BO_sub : BO.d .sub = bSub := nd rfl
@[simp] theorem BO_mul : BO.d .mul = bMul := nd rfl
@[simp] theorem BO_div : BO.d .div = bDiv := nd rfl
@[simp] theorem BO_mod : BO.d .mod = bMod := nd rfl
@[simp] theorem BO_pow : BO.d .pow = bPow := nd rfl
@[simp] theorem BO_shl : BO.d .shl = bShl := nd rfl
@[simp] theorem BO_shr : BO.d .shr = bShr := nd rfl
@[simp] theorem QO_eq : QO.d .eq = bEq0 fun b => b := nd rfl
@[simp] theorem QO_ne : QO.d .ne = bEq0 fun b => !b := nd rfl
@[simp] theorem QO_lt : QO.d .lt = bCmp (fun i j => decide (i < j)) fun s t => decide (s < t) := nd rfl
@[simp] theorem QO_le : QO.d .le = bCmp (fun i j => decide (i ≤ j)) fun s t => !decide (t < s) := nd rfl
@[simp] theorem QO_gt : QO.d .gt = bCmp (fun i j => decide (j < i)) fun s t => decide (t < s) := nd rfl
@[simp] theorem QO_ge : QO.d .ge = bCmp (fun i j => decide (j ≤ i)) fun s t => !decide (s < t) := nd rfl
@[simp] theorem QO_is : QO.d .is = bIs0 fun b => b := nd rfl
@[simp] theorem QO_nis : QO.d .nis = bIs0 fun b => !b := nd rfl
@[simp] theorem QO_mem : QO.d .mem = bIn0 fun b => b := nd rfl
@[simp] theorem QO_nmem : QO.d .nmem = bIn0 fun b => !b := nd rfl
@[simp] theorem BF_len : BF.d .len = fLen := nd rfl
@[simp] theorem BF_int : BF.d .int = fInt := nd rfl
@[simp] theorem BF_list : BF.d .list = fList := nd rfl
@[simp] theorem BF_tuple : BF.d .tuple = fTuple := nd rfl
@[simp] theorem BF_abs : BF.d .abs = fAbs := nd rfl
@[simp] theorem BF_max : BF.d .max = fMax := nd rfl
@[simp] theorem BF_min : BF.d .min = fMin := nd rfl
@[simp] theorem MM_d_append : MM.d .append = mAppend := nd rfl
@[simp] theorem MM_d_extend : MM.d .extend = mExtend := nd rfl
@[simp] theorem MM_d_pop : MM.d .pop = mPop := nd rfl
@[simp] theorem MM_d_strip : MM.d .strip = mStrip true true := nd rfl
@[simp] theorem MM_d_lstrip : MM.d .lstrip = mStrip true false := nd rfl
@[simp] theorem MM_d_rstrip : MM.d .rstrip = mStrip false true := nd rfl
@[simp] theorem MM_d_split : MM.d .split = mSplit := nd rfl
@[simp] theorem MM_d_join : MM.d .join = mJoin := nd rfl
@[simp] theorem MM_T_append : MM.T .append = .list := nd rfl
@[simp] theorem MM_T_extend : MM.T .extend = .list := nd rfl
@[simp] theorem MM_T_pop : MM.T .pop = .list := nd rfl
@[simp] theorem MM_T_strip : MM.T .strip = .str := nd rfl
@[simp] theorem MM_T_lstrip : MM.T .lstrip = .str := nd rfl
@[simp] theorem MM_T_rstrip : MM.T .rstrip = .str := nd rfl
@[simp] theorem MM_T_split : MM.T .split = .str := nd rfl
@[simp] theorem MM_T_join : MM.T .join = .str := nd rfl
/-! operations -/
@[simp] theorem bAdd_int (i j : Int) : bAdd (.int i) (.int j) S = .ok (.int (i + j)) S := nd rfl
theorem bAdd_str {s t : List Nat} (h : s.length + t.length ≤ sizeLine) : bAdd (.str s) (.str t) S = .ok (.str (s ++ t)) S := if_pos h
@[simp] theorem bSub_int (i j : Int) : bSub (.int i) (.int j) S = .ok (.int (i - j)) S := nd rfl
theorem bMul_int {i j : Int} (h : (-(2 ^ 64) < i ∧ i < 2 ^ 64) ∨ (-(2 ^ 64) < j ∧ j < 2 ^ 64)) : bMul (.int i) (.int j) S = .ok (.int (i * j)) S := if_pos h
theorem bMul_str {s : List Nat} {j : Int} (h : -(2 ^ 63) ≤ j ∧ j < 2 ^ 63 ∧ s.length * j.toNat ≤ sizeLine) : bMul (.str s) (.int j) S = .ok (.str (List.replicate j.toNat s).flatten) S := if_pos h
theorem bDiv_int {i j : Int} (h : 0 < j ∧ j < 1073741824) : bDiv (.int i) (.int j) S = .ok (.int (i / j)) S := if_pos h
theorem bMod_int {i j : Int} (h : 0 < j) : bMod (.int i) (.int j) S = .ok (.int (i % j)) S := if_pos h
@[simp] theorem bCmp_int (fi : Int → Int → Bool) (fs : List Nat → List Nat → Bool) (i j : Int) : bCmp fi fs (.int i) (.int j) S = .ok (.bl (fi i j)) S := nd rfl
@[simp] theorem bCmp_str (fi : Int → Int → Bool) (fs : List Nat → List Nat → Bool) (i j : List Nat) : bCmp fi fs (.str i) (.str j) S = .ok (.bl (fs i j)) S := nd rfl
@[simp] theorem bEq_int (f : Bool → Bool) (i j : Int) : bEq0 f (.int i) (.int j) S = .ok (.bl (f (i == j))) S := nd rfl
@[simp] theorem bEq_str (f : Bool → Bool) (i j : List Nat) : bEq0 f (.str i) (.str j) S = .ok (.bl (f (i == j))) S := nd rfl
@[simp] theorem bEq_bl (f : Bool → Bool) (i j : Bool) : bEq0 f (.bl i) (.bl j) S = .ok (.bl (f (i == j))) S := nd rfl
@[simp] theorem bIn_sign (f : Bool → Bool) (c : Nat) (t : List Nat) : bIn0 f (.str [c]) (.str t) S = .ok (.bl (f (decide (c ∈ t)))) S := nd rfl
theorem toD_str (n : Nat) (s : List Nat) : toD n S (.str s) = some (.str (mkS s)) := by cases n <;> rfl
theorem mapO_strs (n : Nat) : ∀ l : List (List Nat), mapO (toD n S) (l.map .str) = some (l.map fun s => PyData.str (mkS s))
  | [] => rfl
  | s :: r => by rw [List.map_cons, mapO, toD_str, mapO_strs n r]; rfl
theorem bIn_strs (f : Bool → Bool) (s : List Nat) (l : List (List Nat)) : bIn0 f (.str s) (.tup (l.map .str)) S = .ok (.bl (f (decide (s ∈ l)))) S := by
  have h : bIn0 f (.str s) (.tup (l.map .str)) S = match toD 200 S (.str s), mapO (toD 200 S) (l.map .str) with
    | some d, some ds => .ok (.bl (f (ds.any fun z => PyData.eqv z d))) S
    | _, _ => .bad := by rcases s with _ | ⟨c, _ | ⟨d, r⟩⟩ <;> rfl
  rw [h, toD_str, mapO_strs]
  simp only []
  congr 3
  clear h
  induction l with
  | nil => rfl
  | cons t r ih =>
    rw [List.map_cons, List.any_cons, ih]
    have e : PyData.eqv (.str (mkS t)) (.str (mkS s)) = (t == s) := by
      rw [← str_beq]
      simp only [PyData.eqv]
    rw [e, Bool.eq_iff_iff]
    simp only [Bool.or_eq_true, beq_iff_eq, decide_eq_true_eq, List.mem_cons]
    exact or_congr_left ⟨Eq.symm, Eq.symm⟩
@[simp] theorem fLen_str (s : List Nat) : fLen [.str s] S = .ok (.int s.length) S := nd rfl
@[simp] theorem fLen_tup (s : List PV) : fLen [.tup s] S = .ok (.int s.length) S := nd rfl
theorem fLen_loc {S : Store} {a : Nat} {xs : List PV} (h : lstAt S a = some xs) : fLen [.loc a] S = .ok (.int xs.length) S := by simp only [fLen, h]
@[simp] theorem fInt_int (i : Int) : fInt [.int i] S = .ok (.int i) S := nd rfl
@[simp] theorem fIsi_is (T : Ty) (p : PV) : fIsi T p S = match isTy T p S with | some b => .ok (.bl b) S | none => .bad := nd rfl
theorem bIdx_loc {a : Nat} {xs : List PV} {i : Nat} {p : PV} (h : lstAt S a = some xs) (hi : xs[i]? = some p) (hl : xs.length ≤ sizeLine) : bIdx (.loc a) (.int i) S = .ok p S := by
  simp only [bIdx, h]
  have hlt := (List.getElem?_eq_some_iff.mp hi).1
  have : atI xs (i : Int) = some p := by
    unfold atI ixN
    simp [hlt]
    exact (List.getElem?_eq_some_iff.mp hi).2
  rw [this]
end
theorem callF_is {P : List DefD} {d i : Nat} {ps : List PV} {S : Store} {f : DefD} (h : P[i]? = some f) (hl : ps.length = f.np) : callF P (d + 1) i ps S = outS (evSs (callF P d) f.body (ps.map some ++ List.replicate (f.ns - f.np) none) S) := by
  unfold callF
  rw [h]
  simp only []
  rw [if_pos hl]
@[simp] theorem gOk_none (S : Store) : gOk [] S = True := eq_true (gOk_nil S)
theorem forL_nil {gs : Guard} {t : CT} {b : CS} {ls : Ls} {S : Store} (h : gOk gs S) : forL gs t b [] ls S = .nx ls S := by rw [forL, if_pos h]
theorem forL_cons {gs : Guard} {t : CT} {b : CS} {p : PV} {r : List PV} {ls : Ls} {S : Store} (h : gOk gs S) : forL gs t b (p :: r) ls S = lift (t p ls S) ls fun ls1 S1 => match b ls1 S1 with
      | .nx ls2 S2 => forL gs t b r ls2 S2
      | .ct ls2 S2 => forL gs t b r ls2 S2
      | .bk ls2 S2 => .nx ls2 S2
      | o => o := by rw [forL, if_pos h]; all_goals rfl
theorem lstAt_app {S : Store} {a : Nat} {xs : List PV} (h : lstAt S a = some xs) (X : Store) : lstAt (S ++ X) a = some xs := by
  unfold lstAt at h ⊢
  have hl : a < S.length := by
    rcases Nat.lt_or_ge a S.length with q | q
    · exact q
    · rw [List.getElem?_eq_none q] at h; cases h
  rw [List.getElem?_append_left hl]
  exact h
@[simp] theorem lstAt_new (S : Store) (xs : List PV) : lstAt (S ++ [.lst xs]) S.length = some xs := by
  unfold lstAt
  simp
theorem gOk_one {S : Store} {a : Nat} {xs : List PV} (h : lstAt S a = some xs) : gOk [(a, xs)] S := fun g hg => by
  rw [List.mem_singleton.mp hg]; exact h
theorem cut_from {α : Type} {l : List α} {n : Nat} (h : n ≤ l.length) : cut l (some (n : Int)) none = l.drop n := by
  unfold cut
  rw [HT.sIx_nat, HT.sIx_none, Nat.min_eq_left h, List.take_of_length_le (by rw [List.length_drop]; exact Nat.le_refl _)]
theorem cut_to {α : Type} {l : List α} {n : Nat} (h : n ≤ l.length) : cut l none (some (n : Int)) = l.take n := by
  unfold cut
  rw [HT.sIx_nat, HT.sIx_none, Nat.min_eq_left h, List.drop_zero, Nat.sub_zero]
@[simp] theorem bSl_str (s : List Nat) (lo hi : Option Int) (S : Store) : bSl (.str s) lo hi S = .ok (.str (cut s lo hi)) S := nd rfl
@[simp] theorem bRev_str (s : List Nat) (S : Store) : bRev (.str s) S = .ok (.str s.reverse) S := nd rfl
theorem bMul_strN {s : List Nat} {n : Nat} (S : Store) (h : s.length * n ≤ sizeLine) (h2 : n < 1000000000) : bMul (.str s) (.int (n : Nat)) S = .ok (.str (List.replicate n s).flatten) S := by
  have h3 : -(2 ^ 63) ≤ (n : Int) ∧ (n : Int) < 2 ^ 63 ∧ s.length * (n : Int).toNat ≤ sizeLine := ⟨by omega, by omega, by rw [Int.toNat_natCast]; exact h⟩
  rw [bMul_str S h3, Int.toNat_natCast]
theorem rep_one (c n : Nat) : (List.replicate n [c]).flatten = List.replicate n c := by
  induction n with
  | zero => rfl
  | succ n ih => rw [List.replicate_succ, List.flatten_cons, ih]; rfl
theorem bMul_sign {c n : Nat} (S : Store) (h : n ≤ 16777216) : bMul (.str [c]) (.int (n : Nat)) S = .ok (.str (List.replicate n c)) S := by
  rw [bMul_strN S (by rw [sizeLine_eq]; simpa using h) (by omega), rep_one]
theorem iRng_nat {n : Nat} (S : Store) (h : n < 1000000000) : iRng [.int (n : Nat)] S = .ok (rng 0 n, []) S := by
  have h3 : -(2 ^ 62) ≤ (n : Int) ∧ (n : Int) < 2 ^ 62 := ⟨by omega, by omega⟩
  unfold iRng
  simp only []
  rw [if_pos h3, Int.toNat_natCast]
theorem rng_succ (lo : Int) (n : Nat) : rng lo (n + 1) = .int lo :: rng (lo + 1) n := by
  unfold rng
  rw [List.range_succ_eq_map, List.map_cons, List.map_map]
  congr 1
  · simp
  · apply List.map_congr_left
    intro k _
    simp
    omega
@[simp] theorem tTup_tup (n : Nat) (t : CTs) (l : List PV) (ls : Ls) (S : Store) : Bm.tTup n t (.tup l) ls S = if l.length = n then t l ls S else .bad := nd rfl
@[simp] theorem tg2 (i j : Nat) (p q : PV) (ls : Ls) (S : Store) : tgCons (tName i) (tgCons (tName j) tgNil) [p, q] ls S = .ok ((ls.set i (some p)).set j (some q)) S := nd rfl
@[simp] theorem tg3 (i j k : Nat) (p q r : PV) (ls : Ls) (S : Store) : tgCons (tName i) (tgCons (tName j) (tgCons (tName k) tgNil)) [p, q, r] ls S = .ok (((ls.set i (some p)).set j (some q)).set k (some r)) S := nd rfl
@[simp] theorem iSeq_str (s : List Nat) (S : Store) : iSeq (.str s) S = .ok (s.map fun c => .str [c], []) S := nd rfl
@[simp] theorem iSeq_tup (l : List PV) (S : Store) : iSeq (.tup l) S = .ok (l, []) S := nd rfl
theorem iSeq_loc {a : Nat} {xs : List PV} {S : Store} (h : lstAt S a = some xs) : iSeq (.loc a) S = .ok (xs, [(a, xs)]) S := by
  simp only [iSeq, seqOf, h]
theorem iEnum_loc {a : Nat} {xs : List PV} {S : Store} (h : lstAt S a = some xs) : Bm.iEnum [.loc a] S = .ok (numUp 0 xs, [(a, xs)]) S := by
  simp only [Bm.iEnum, seqOf, h]
@[simp] theorem iEnum_tup (l : List PV) (S : Store) : Bm.iEnum [.tup l] S = .ok (numUp 0 l, []) S := nd rfl
@[simp] theorem iEnum_str (s : List Nat) (S : Store) : Bm.iEnum [.str s] S = .ok (numUp 0 (s.map fun c => .str [c]), []) S := nd rfl
theorem iZip_tl {a : Nat} {l xs : List PV} {S : Store} (h : lstAt S a = some xs) : Bm.iZip [.tup l, .loc a] S = .ok (pairUp l xs, [(a, xs)]) S := by
  simp only [Bm.iZip, seqOf, h, List.nil_append]
@[simp] theorem iZip_tt (l xs : List PV) (S : Store) : Bm.iZip [.tup l, .tup xs] S = .ok (pairUp l xs, []) S := nd rfl
@[simp] theorem isTy_str (T : Ty) (s : List Nat) (S : Store) : isTy T (.str s) S = some (match T with | .str => true | _ => false) := by cases T <;> rfl
@[simp] theorem isTy_int (T : Ty) (s : Int) (S : Store) : isTy T (.int s) S = some (match T with | .int => true | _ => false) := by cases T <;> rfl
@[simp] theorem isTy_tup (T : Ty) (s : List PV) (S : Store) : isTy T (.tup s) S = some (match T with | .tuple => true | _ => false) := by cases T <;> rfl
@[simp] theorem isTy_bl (T : Ty) (s : Bool) (S : Store) : isTy T (.bl s) S = some (match T with | .bool => true | .int => true | _ => false) := by cases T <;> rfl
theorem bRev_loc {a : Nat} {xs : List PV} {S : Store} (h : lstAt S a = some xs) : bRev (.loc a) S = .ok (.loc S.length) (S ++ [.lst xs.reverse]) := by
  simp only [bRev, h]
theorem fTuple_loc {a : Nat} {xs : List PV} {S : Store} (h : lstAt S a = some xs) : fTuple [.loc a] S = .ok (.tup xs) S := by
  simp only [fTuple, h]
@[simp] theorem bIdx_tup (l : List PV) (i : Int) (S : Store) : bIdx (.tup l) (.int i) S = match atI l i with | some p => .ok p S | none => .bad := nd rfl
@[simp] theorem bIdx_str (l : List Nat) (i : Int) (S : Store) : bIdx (.str l) (.int i) S = match atI l i with | some p => .ok (.str [p]) S | none => .bad := nd rfl
@[simp] theorem bIs_non (f : Bool → Bool) (p : PV) (S : Store) : bIs0 f p .non S = .ok (.bl (f (match p with | .non => true | _ => false))) S := by cases p <;> rfl
section
variable {α : Type} (a b c e f g : α) (l : List α)
@[simp] theorem at0 : atI (a :: l) 0 = some a := by simp [atI, ixN]
@[simp] theorem at1 : atI (a :: b :: l) 1 = some b := by
  have : (1 : Int) < (l.length : Int) + 1 + 1 := by omega
  simp [atI, ixN, this]
@[simp] theorem at2 : atI (a :: b :: c :: l) 2 = some c := by
  have : (2 : Int) < (l.length : Int) + 1 + 1 + 1 := by omega
  simp [atI, ixN, this]
@[simp] theorem at3 : atI (a :: b :: c :: e :: l) 3 = some e := by
  have : (3 : Int) < (l.length : Int) + 1 + 1 + 1 + 1 := by omega
  simp [atI, ixN, this]
@[simp] theorem at4 : atI (a :: b :: c :: e :: f :: l) 4 = some f := by
  have : (4 : Int) < (l.length : Int) + 1 + 1 + 1 + 1 + 1 := by omega
  simp [atI, ixN, this]
@[simp] theorem at5 : atI (a :: b :: c :: e :: f :: g :: l) 5 = some g := by
  have : (5 : Int) < (l.length : Int) + 1 + 1 + 1 + 1 + 1 + 1 := by omega
  simp [atI, ixN, this]
@[simp] theorem atm1 : atI (l ++ [a]) (-1) = some a := by
  have h : -((l.length : Int) + 1) ≤ -1 := by omega
  have h2 : (-1 + ((l.length : Int) + 1)).toNat = l.length := by omega
  simp [atI, ixN, h, h2]
end
theorem atI_nat {α : Type} {l : List α} {i : Nat} (h : i < l.length) : atI l (i : Int) = some l[i] := by
  have : (i : Int) < (l.length : Int) := by omega
  simp [atI, ixN, this, h]
theorem atI_int {α : Type} {l : List α} {i : Int} (h0 : 0 ≤ i) (h : i.toNat < l.length) : atI l i = some l[i.toNat] := by
  have : i < (l.length : Int) := by omega
  simp [atI, ixN, this, h, h0]
@[simp] theorem lt_one (a b : Nat) : ([a] < [b]) ↔ a < b := by
  rw [List.cons_lt_cons_iff]
  simp
end Bm

namespace K00
open PySem PySem.Spec L2 Bm
def top (i : Nat) : Stmt := PySem.Challenge.pw_baremarks_k00_classes_lines.main.body.getD i (.Pass ⟨0, 0, 0, 0⟩)
/-- 0 lines_of(text); slots 0:text -/
def b_lines_of : Ss := (.cons (.ret (.bf .tuple (.cons (.mt .split (.v 0) (.cons (.c (.str [10])) .nil)) .nil))) .nil)
def d_lines_of : DefI := ⟨"lines_of", top 1, ["text"], ["text"], ⟨1, 1, b_lines_of⟩⟩
/-- 1 joined_lines(lines); slots 0:lines -/
def b_joined_lines : Ss := (.cons (.ret (.mt .join (.c (.str [10])) (.cons (.v 0) .nil))) .nil)
def d_joined_lines : DefI := ⟨"joined_lines", top 2, ["lines"], ["lines"], ⟨1, 1, b_joined_lines⟩⟩
/-- 2 trimmed(line); slots 0:line -/
def b_trimmed : Ss := (.cons (.ret (.mt .strip (.v 0) (.cons (.c (.str [32])) .nil))) .nil)
def d_trimmed : DefI := ⟨"trimmed", top 3, ["line"], ["line"], ⟨1, 1, b_trimmed⟩⟩
/-- 3 body_of(line); slots 0:line 1:body -/
def b_body_of : Ss := (.cons (.asg (.name 1) (.mt .lstrip (.v 0) (.cons (.c (.str [32])) .nil))) (.cons (.ret (.tup (.cons (.bin .sub (.bf .len (.cons (.v 0) .nil)) (.bf .len (.cons (.v 1) .nil))) (.cons (.v 1) .nil)))) .nil))
def d_body_of : DefI := ⟨"body_of", top 4, ["line"], ["line", "body"], ⟨1, 2, b_body_of⟩⟩
/-- 4 is_word_character(character); slots 0:character -/
def b_is_word_character : Ss := (.cons (.ret (.or (.chn .le .le (.c (.str [97])) (.v 0) (.c (.str [122]))) (.or (.chn .le .le (.c (.str [65])) (.v 0) (.c (.str [90]))) (.chn .le .le (.c (.str [48])) (.v 0) (.c (.str [57])))))) .nil)
def d_is_word_character : DefI := ⟨"is_word_character", top 6, ["character"], ["character"], ⟨1, 1, b_is_word_character⟩⟩
/-- 5 class_of(character); slots 0:character -/
def b_class_of : Ss := (.cons (.ite (.t (.cmp .mem (.v 0) (.tup (.cons (.c (.str [32])) (.cons (.c (.str [10])) .nil))))) (.cons (.ret (.c (.str [98, 108, 97, 110, 107]))) .nil) .nil) (.cons (.ret (.ite (.t (.fn 4 (.cons (.v 0) .nil))) (.c (.str [119, 111, 114, 100])) (.c (.str [109, 97, 114, 107])))) .nil))
def d_class_of : DefI := ⟨"class_of", top 7, ["character"], ["character"], ⟨1, 1, b_class_of⟩⟩
/-- 6 _law_draw(jar, many); slots 0:jar 1:many 2:cells 3:at 4:fresh 5:told -/
def b__law_draw : Ss := (.cons (.ite (.t (.cmp .lt (.idx (.v 0) (.c (.int 2))) (.v 1))) (.cons (.asg (.name 2) (.idx (.v 0) (.c (.int 0)))) (.cons (.asg (.name 3) (.idx (.v 0) (.c (.int 1)))) (.cons (.asg (.sub (.v 0) (.c (.int 1))) (.bin .add (.v 3) (.c (.int 1)))) (.cons (.asg (.name 4) (.c (.int 0))) (.cons (.ite (.t (.cmp .gt (.bf .len (.cons (.v 2) .nil)) (.c (.int 0)))) (.cons (.asg (.name 4) (.bf .int (.cons (.idx (.v 2) (.bin .mod (.bf .int (.cons (.v 3) .nil)) (.bf .len (.cons (.v 2) .nil)))) .nil))) .nil) .nil) (.cons (.ite (.t (.cmp .ge (.v 3) (.bf .len (.cons (.v 2) .nil)))) (.cons (.asg (.name 4) (.bin .add (.bin .add (.bin .mul (.v 4) (.c (.int 48271))) (.bin .mul (.bin .mul (.bin .add (.v 3) (.c (.int 1))) (.bin .add (.v 3) (.c (.int 3)))) (.c (.int 7919)))) (.c (.int 11)))) .nil) .nil) (.cons (.asg (.sub (.v 0) (.c (.int 2))) (.bf .int (.cons (.v 4) .nil))) .nil))))))) .nil) (.cons (.asg (.name 5) (.bin .mod (.bf .int (.cons (.idx (.v 0) (.c (.int 2))) .nil)) (.v 1))) (.cons (.asg (.sub (.v 0) (.c (.int 2))) (.bin .div (.bf .int (.cons (.idx (.v 0) (.c (.int 2))) .nil)) (.v 1))) (.cons (.ret (.v 5)) .nil))))
def d__law_draw : DefI := ⟨"_law_draw", top 9, ["jar", "many"], ["jar", "many", "cells", "at", "fresh", "told"], ⟨2, 6, b__law_draw⟩⟩
/-- 7 _law_signs(); slots 0:told -/
def b__law_signs : Ss := (.cons (.asg (.name 0) (.c (.str [32, 33, 34, 35, 36, 38, 39, 40, 41, 42, 43, 44, 45, 46, 47, 48, 49, 50, 51, 52, 53, 54, 55, 56, 57, 58, 59, 60, 61, 62, 63, 64, 65, 66, 67, 68, 69, 70, 71, 72, 73, 74, 75, 76, 77, 78, 79, 80, 81, 82, 83, 84, 85, 86, 87, 88, 89, 90, 91, 92, 93, 94, 95, 96]))) (.cons (.ret (.bin .add (.v 0) (.c (.str [97, 98, 99, 100, 101, 102, 103, 104, 105, 106, 107, 108, 109, 110, 111, 112, 113, 114, 115, 116, 117, 118, 119, 120, 121, 122, 123, 124, 125, 126])))) .nil))
def d__law_signs : DefI := ⟨"_law_signs", top 10, [], ["told"], ⟨0, 1, b__law_signs⟩⟩
/-- 8 _law_class(sign); slots 0:sign -/
def b__law_class : Ss := (.cons (.ite (.or (.t (.cmp .eq (.v 0) (.c (.str [32])))) (.t (.cmp .eq (.v 0) (.c (.str [10]))))) (.cons (.ret (.c (.str [98, 108, 97, 110, 107]))) .nil) .nil) (.cons (.ite (.t (.cmp .mem (.v 0) (.c (.str [48, 49, 50, 51, 52, 53, 54, 55, 56, 57, 65, 66, 67, 68, 69, 70, 71, 72, 73, 74, 75, 76, 77, 78, 79, 80, 81, 82, 83, 84, 85, 86, 87, 88, 89, 90, 97, 98, 99, 100, 101, 102, 103, 104, 105, 106, 107, 108, 109, 110, 111, 112, 113, 114, 115, 116, 117, 118, 119, 120, 121, 122])))) (.cons (.ret (.c (.str [119, 111, 114, 100]))) .nil) .nil) (.cons (.ret (.c (.str [109, 97, 114, 107]))) .nil)))
def d__law_class : DefI := ⟨"_law_class", top 11, ["sign"], ["sign"], ⟨1, 1, b__law_class⟩⟩
/-- 9 _law_classes_hold(signs, named); slots 0:signs 1:named 2:sign 3:told -/
def b__law_classes_hold_0 : Ss := (.cons (.asg (.name 3) (.ite (.t (.v 1)) (.fnk 5 [0] 1 1 .nil (.cons (.v 2) .nil)) (.fn 5 (.cons (.v 2) .nil)))) (.cons (.ite (.or (.not (.t (.isi .str (.v 3)))) (.t (.cmp .ne (.v 3) (.fn 8 (.cons (.v 2) .nil))))) (.cons (.ret (.c (.bl false))) .nil) .nil) .nil))
def b__law_classes_hold : Ss := (.cons (.for_ (.name 2) (.seq (.v 0)) b__law_classes_hold_0) (.cons (.ret (.c (.bl true))) .nil))
def d__law_classes_hold : DefI := ⟨"_law_classes_hold", top 12, ["signs", "named"], ["signs", "named", "sign", "told"], ⟨2, 4, b__law_classes_hold⟩⟩
/-- 10 _law_line(jar, signs); slots 0:jar 1:signs 2:line 3:k -/
def b__law_line_0 : Ss := (.cons (.asg (.name 2) (.bin .add (.v 2) (.idx (.v 1) (.fn 6 (.cons (.v 0) (.cons (.c (.int 94)) .nil)))))) .nil)
def b__law_line : Ss := (.cons (.asg (.name 2) (.bin .mul (.c (.str [32])) (.fn 6 (.cons (.v 0) (.cons (.c (.int 6)) .nil))))) (.cons (.for_ (.name 3) (.r1 (.fn 6 (.cons (.v 0) (.cons (.c (.int 15)) .nil)))) b__law_line_0) (.cons (.ret (.bin .add (.v 2) (.bin .mul (.c (.str [32])) (.fn 6 (.cons (.v 0) (.cons (.c (.int 4)) .nil)))))) .nil)))
def d__law_line : DefI := ⟨"_law_line", top 13, ["jar", "signs"], ["jar", "signs", "line", "k"], ⟨2, 4, b__law_line⟩⟩
/-- 11 _law_joined(lines); slots 0:lines 1:text 2:at 3:line -/
def b__law_joined_0 : Ss := (.cons (.ite (.t (.cmp .gt (.v 2) (.c (.int 0)))) (.cons (.asg (.name 1) (.bin .add (.v 1) (.c (.str [10])))) .nil) .nil) (.cons (.asg (.name 1) (.bin .add (.v 1) (.v 3))) .nil))
def b__law_joined : Ss := (.cons (.asg (.name 1) (.c (.str []))) (.cons (.for_ (.tup 2 (.cons (.name 2) (.cons (.name 3) .nil))) (.enum (.v 0)) b__law_joined_0) (.cons (.ret (.v 1)) .nil)))
def d__law_joined : DefI := ⟨"_law_joined", top 14, ["lines"], ["lines", "text", "at", "line"], ⟨1, 4, b__law_joined⟩⟩
/-- 12 _law_row_is(told, due); slots 0:told 1:due 2:one 3:other -/
def b__law_row_is_0 : Ss := (.cons (.ite (.or (.not (.t (.isi .str (.v 2)))) (.t (.cmp .ne (.v 2) (.v 3)))) (.cons (.ret (.c (.bl false))) .nil) .nil) .nil)
def b__law_row_is : Ss := (.cons (.ite (.or (.not (.t (.isi .tuple (.v 0)))) (.t (.cmp .ne (.bf .len (.cons (.v 0) .nil)) (.bf .len (.cons (.v 1) .nil))))) (.cons (.ret (.c (.bl false))) .nil) .nil) (.cons (.for_ (.tup 2 (.cons (.name 2) (.cons (.name 3) .nil))) (.zip (.v 0) (.v 1)) b__law_row_is_0) (.cons (.ret (.c (.bl true))) .nil)))
def d__law_row_is : DefI := ⟨"_law_row_is", top 15, ["told", "due"], ["told", "due", "one", "other"], ⟨2, 4, b__law_row_is⟩⟩
/-- 13 _law_text_holds(lines, named); slots 0:lines 1:named 2:text 3:other 4:turned 5:told 6:made -/
def b__law_text_holds : Ss := (.cons (.asg (.name 2) (.fn 11 (.cons (.v 0) .nil))) (.cons (.asg (.name 3) (.fn 11 (.cons (.rev (.v 0)) .nil))) (.cons (.asg (.name 4) (.bf .tuple (.cons (.rev (.v 0)) .nil))) (.cons (.asg (.name 5) (.ite (.t (.v 1)) (.fnk 0 [0] 1 1 .nil (.cons (.v 2) .nil)) (.fn 0 (.cons (.v 2) .nil)))) (.cons (.asg (.name 6) (.ite (.t (.v 1)) (.fnk 1 [0] 1 1 .nil (.cons (.v 4) .nil)) (.fn 1 (.cons (.v 4) .nil)))) (.cons (.ret (.and (.fn 12 (.cons (.v 5) (.cons (.v 0) .nil))) (.and (.isi .str (.v 6)) (.cmp .eq (.v 6) (.v 3))))) .nil))))))
def d__law_text_holds : DefI := ⟨"_law_text_holds", top 16, ["lines", "named"], ["lines", "named", "text", "other", "turned", "told", "made"], ⟨2, 7, b__law_text_holds⟩⟩
/-- 14 _law_spaces(line); slots 0:line 1:many 2:sign -/
def b__law_spaces_0 : Ss := (.cons (.ite (.t (.cmp .ne (.v 2) (.c (.str [32])))) (.cons (.ret (.v 1)) .nil) .nil) (.cons (.asg (.name 1) (.bin .add (.v 1) (.c (.int 1)))) .nil))
def b__law_spaces : Ss := (.cons (.asg (.name 1) (.c (.int 0))) (.cons (.for_ (.name 2) (.seq (.v 0)) b__law_spaces_0) (.cons (.ret (.v 1)) .nil)))
def d__law_spaces : DefI := ⟨"_law_spaces", top 17, ["line"], ["line", "many", "sign"], ⟨1, 3, b__law_spaces⟩⟩
/-- 15 _law_line_holds(line, named); slots 0:line 1:named 2:many 3:body 4:rest 5:told 6:cut -/
def s__law_line_holds_0 : S := (.asg (.name 2) (.fn 14 (.cons (.v 0) .nil)))
def s__law_line_holds_1 : S := (.asg (.name 3) (.sl (.v 0) (.yes (.v 2)) .no))
def s__law_line_holds_2 : S := (.asg (.name 4) (.sl (.v 3) .no (.yes (.bin .sub (.bf .len (.cons (.v 3) .nil)) (.fn 14 (.cons (.rev (.v 3)) .nil))))))
def s__law_line_holds_3 : S := (.asg (.name 5) (.ite (.t (.v 1)) (.fnk 3 [0] 1 1 .nil (.cons (.v 0) .nil)) (.fn 3 (.cons (.v 0) .nil))))
def s__law_line_holds_4 : S := (.ite (.or (.not (.t (.isi .tuple (.v 5)))) (.t (.cmp .ne (.bf .len (.cons (.v 5) .nil)) (.c (.int 2))))) (.cons (.ret (.c (.bl false))) .nil) .nil)
def s__law_line_holds_5 : S := (.ite (.or (.not (.t (.isi .int (.idx (.v 5) (.c (.int 0)))))) (.or (.t (.isi .bool (.idx (.v 5) (.c (.int 0))))) (.t (.cmp .ne (.idx (.v 5) (.c (.int 0))) (.v 2))))) (.cons (.ret (.c (.bl false))) .nil) .nil)
def s__law_line_holds_6 : S := (.ite (.or (.not (.t (.isi .str (.idx (.v 5) (.c (.int 1)))))) (.t (.cmp .ne (.idx (.v 5) (.c (.int 1))) (.v 3)))) (.cons (.ret (.c (.bl false))) .nil) .nil)
def s__law_line_holds_7 : S := (.asg (.name 6) (.ite (.t (.v 1)) (.fnk 2 [0] 1 1 .nil (.cons (.v 0) .nil)) (.fn 2 (.cons (.v 0) .nil))))
def s__law_line_holds_8 : S := (.ret (.and (.isi .str (.v 6)) (.cmp .eq (.v 6) (.v 4))))
def b__law_line_holds : Ss := (.cons s__law_line_holds_0 (.cons s__law_line_holds_1 (.cons s__law_line_holds_2 (.cons s__law_line_holds_3 (.cons s__law_line_holds_4 (.cons s__law_line_holds_5 (.cons s__law_line_holds_6 (.cons s__law_line_holds_7 (.cons s__law_line_holds_8 .nil)))))))))
def d__law_line_holds : DefI := ⟨"_law_line_holds", top 18, ["line", "named"], ["line", "named", "many", "body", "rest", "told", "cut"], ⟨2, 7, b__law_line_holds⟩⟩
/-- 16 law(script); slots 0:script 1:jar 2:signs 3:named 4:great 5:long 6:lines 7:k 8:line 9:none -/
def s_law_0 : S := (.asg (.name 1) (.lst (.cons (.bf .list (.cons (.v 0) .nil)) (.cons (.c (.int 0)) (.cons (.c (.int 0)) .nil)))))
def s_law_1 : S := (.asg (.name 2) (.fn 7 .nil))
def s_law_2 : S := (.asg (.name 3) (.cmp .eq (.fn 6 (.cons (.v 1) (.cons (.c (.int 2)) .nil))) (.c (.int 1))))
def s_law_3 : S := (.ite (.not (.t (.fn 9 (.cons (.bin .add (.v 2) (.c (.str [10]))) (.cons (.v 3) .nil))))) (.cons (.ret (.c (.bl false))) .nil) .nil)
def s_law_4 : S := (.asg (.name 4) (.cmp .eq (.fn 6 (.cons (.v 1) (.cons (.c (.int 7)) .nil))) (.c (.int 6))))
def s_law_5 : S := (.asg (.name 5) (.cmp .eq (.fn 6 (.cons (.v 1) (.cons (.c (.int 11)) .nil))) (.c (.int 10))))
def s_law_6 : S := (.asg (.name 6) (.lst .nil))
def b_law_7 : Ss := (.cons (.expr (.mt .append (.v 6) (.cons (.fn 10 (.cons (.v 1) (.cons (.v 2) .nil))) .nil))) .nil)
def s_law_8 : S := (.for_ (.name 7) (.r1 (.bin .add (.c (.int 1)) (.fn 6 (.cons (.v 1) (.cons (.c (.int 30)) .nil))))) b_law_7)
def e_law_9 : E := (.idx (.v 6) (.bin .mod (.v 7) (.bf .len (.cons (.v 6) .nil))))
def s_law_10 : S := (.ite (.t (.v 4)) (.cons (.asg (.name 6) (.lc (.r1 (.c (.int 2000))) (.one 7) .yes e_law_9 [7])) .nil) .nil)
def s_law_11 : S := (.ite (.t (.v 5)) (.cons (.asg (.sub (.v 6) (.fn 6 (.cons (.v 1) (.cons (.bf .len (.cons (.v 6) .nil)) .nil)))) (.bin .add (.bin .add (.c (.str [32, 32, 32, 32])) (.sl (.bin .mul (.v 2) (.c (.int 22))) .no (.yes (.c (.int 1990))))) (.c (.str [32, 32, 32, 32, 32, 32])))) .nil) .nil)
def s_law_12 : S := (.ite (.not (.t (.fn 13 (.cons (.v 6) (.cons (.v 3) .nil))))) (.cons (.ret (.c (.bl false))) .nil) .nil)
def b_law_13 : Ss := (.cons (.ite (.not (.t (.fn 15 (.cons (.v 8) (.cons (.v 3) .nil))))) (.cons (.ret (.c (.bl false))) .nil) .nil) .nil)
def s_law_14 : S := (.for_ (.name 8) (.seq (.bin .add (.v 6) (.lst (.cons (.c (.str [])) (.cons (.c (.str [32])) (.cons (.c (.str [32, 32, 32, 32, 32])) (.cons (.c (.str [32, 97])) (.cons (.c (.str [126, 32])) (.cons (.c (.str [32, 32, 97, 32, 98, 32, 32])) .nil))))))))) b_law_13)
def s_law_15 : S := (.ite (.or (.not (.t (.fn 13 (.cons (.lst (.cons (.c (.str [])) .nil)) (.cons (.v 3) .nil))))) (.not (.t (.fn 13 (.cons (.lst (.cons (.c (.str [])) (.cons (.c (.str [])) .nil))) (.cons (.v 3) .nil)))))) (.cons (.ret (.c (.bl false))) .nil) .nil)
def s_law_16 : S := (.asg (.name 9) (.fn 1 (.cons (.tup .nil) .nil)))
def s_law_17 : S := (.ret (.and (.isi .str (.v 9)) (.cmp .eq (.v 9) (.c (.str [])))))
def b_law : Ss := (.cons s_law_0 (.cons s_law_1 (.cons s_law_2 (.cons s_law_3 (.cons s_law_4 (.cons s_law_5 (.cons s_law_6 (.cons s_law_8 (.cons s_law_10 (.cons s_law_11 (.cons s_law_12 (.cons s_law_14 (.cons s_law_15 (.cons s_law_16 (.cons s_law_17 .nil)))))))))))))))
def d_law : DefI := ⟨"law", top 19, ["script"], ["script", "jar", "signs", "named", "great", "long", "lines", "k", "line", "none"], ⟨1, 10, b_law⟩⟩
def ds : List DefI := [d_lines_of, d_joined_lines, d_trimmed, d_body_of, d_is_word_character, d_class_of, d__law_draw, d__law_signs, d__law_class, d__law_classes_hold, d__law_line, d__law_joined, d__law_row_is, d__law_text_holds, d__law_spaces, d__law_line_holds, d_law]
def tb : Tab := ⟨[("lines_of", ["text"]), ("joined_lines", ["lines"]), ("trimmed", ["line"]), ("body_of", ["line"]), ("is_word_character", ["character"]), ("class_of", ["character"]), ("_law_draw", ["jar", "many"]), ("_law_signs", []), ("_law_class", ["sign"]), ("_law_classes_hold", ["signs", "named"]), ("_law_line", ["jar", "signs"]), ("_law_joined", ["lines"]), ("_law_row_is", ["told", "due"]), ("_law_text_holds", ["lines", "named"]), ("_law_spaces", ["line"]), ("_law_line_holds", ["line", "named"]), ("law", ["script"])], [(5, ["character"], [0]), (0, ["text"], [0]), (1, ["lines"], [0]), (3, ["line"], [0]), (2, ["line"], [0])]⟩
def prog : List DefD := ds.map (·.D)
end K00
namespace K00
open PySem PySem.Spec L2 Bm
theorem tb_ds : tb.fns = ds.map fun d => (d.name, d.ps) := by rfl
theorem chk_ds : ds.all (DefI.chk tb) = true := by decide +kernel
theorem bd_lines_of : Bd d_lines_of.name d_lines_of.st d_lines_of.ps := fun _ _ _ _ _ _ us hl => match us, hl with | [_], _ => rfl
theorem kbs_lines_of : kbsOf tb 0 = ([(["text"], [0])] : List (List Str × List Nat)) := by decide +kernel
theorem kb_lines_of_0 : Kbd d_lines_of.name d_lines_of.st d_lines_of.ps ["text"] [0] := by
  intro kV doc pm an cdv ct us ws h1 h2
  have h0 : us.length = 0 := by
    have h1' : us.length + ws.length = 1 := by rw [← List.length_append]; exact h1
    have h2' : ws.length = 1 := h2
    omega
  exact match us, ws, h0, h2 with | [], [_], _, _ => rfl
theorem ok_lines_of {K : PySem.W.Frag} {mg : Str → Option Value} (w : Wr K mg d_lines_of.name d_lines_of.st) : ∃ f fd, DefOk K mg tb 0 d_lines_of f fd := by
  refine def_ok w bd_lines_of fun e he => ?_
  rw [kbs_lines_of] at he
  rcases List.mem_cons.mp he with rfl | he
  · exact kb_lines_of_0
  cases he
theorem bd_joined_lines : Bd d_joined_lines.name d_joined_lines.st d_joined_lines.ps := fun _ _ _ _ _ _ us hl => match us, hl with | [_], _ => rfl
theorem kbs_joined_lines : kbsOf tb 1 = ([(["lines"], [0])] : List (List Str × List Nat)) := by decide +kernel
theorem kb_joined_lines_0 : Kbd d_joined_lines.name d_joined_lines.st d_joined_lines.ps ["lines"] [0] := by
  intro kV doc pm an cdv ct us ws h1 h2
  have h0 : us.length = 0 := by
    have h1' : us.length + ws.length = 1 := by rw [← List.length_append]; exact h1
    have h2' : ws.length = 1 := h2
    omega
  exact match us, ws, h0, h2 with | [], [_], _, _ => rfl
theorem ok_joined_lines {K : PySem.W.Frag} {mg : Str → Option Value} (w : Wr K mg d_joined_lines.name d_joined_lines.st) : ∃ f fd, DefOk K mg tb 1 d_joined_lines f fd := by
  refine def_ok w bd_joined_lines fun e he => ?_
  rw [kbs_joined_lines] at he
  rcases List.mem_cons.mp he with rfl | he
  · exact kb_joined_lines_0
  cases he
theorem bd_trimmed : Bd d_trimmed.name d_trimmed.st d_trimmed.ps := fun _ _ _ _ _ _ us hl => match us, hl with | [_], _ => rfl
theorem kbs_trimmed : kbsOf tb 2 = ([(["line"], [0])] : List (List Str × List Nat)) := by decide +kernel
theorem kb_trimmed_0 : Kbd d_trimmed.name d_trimmed.st d_trimmed.ps ["line"] [0] := by
  intro kV doc pm an cdv ct us ws h1 h2
  have h0 : us.length = 0 := by
    have h1' : us.length + ws.length = 1 := by rw [← List.length_append]; exact h1
    have h2' : ws.length = 1 := h2
    omega
  exact match us, ws, h0, h2 with | [], [_], _, _ => rfl
theorem ok_trimmed {K : PySem.W.Frag} {mg : Str → Option Value} (w : Wr K mg d_trimmed.name d_trimmed.st) : ∃ f fd, DefOk K mg tb 2 d_trimmed f fd := by
  refine def_ok w bd_trimmed fun e he => ?_
  rw [kbs_trimmed] at he
  rcases List.mem_cons.mp he with rfl | he
  · exact kb_trimmed_0
  cases he
theorem bd_body_of : Bd d_body_of.name d_body_of.st d_body_of.ps := fun _ _ _ _ _ _ us hl => match us, hl with | [_], _ => rfl
theorem kbs_body_of : kbsOf tb 3 = ([(["line"], [0])] : List (List Str × List Nat)) := by decide +kernel
theorem kb_body_of_0 : Kbd d_body_of.name d_body_of.st d_body_of.ps ["line"] [0] := by
  intro kV doc pm an cdv ct us ws h1 h2
  have h0 : us.length = 0 := by
    have h1' : us.length + ws.length = 1 := by rw [← List.length_append]; exact h1
    have h2' : ws.length = 1 := h2
    omega
  exact match us, ws, h0, h2 with | [], [_], _, _ => rfl
theorem ok_body_of {K : PySem.W.Frag} {mg : Str → Option Value} (w : Wr K mg d_body_of.name d_body_of.st) : ∃ f fd, DefOk K mg tb 3 d_body_of f fd := by
  refine def_ok w bd_body_of fun e he => ?_
  rw [kbs_body_of] at he
  rcases List.mem_cons.mp he with rfl | he
  · exact kb_body_of_0
  cases he
theorem bd_is_word_character : Bd d_is_word_character.name d_is_word_character.st d_is_word_character.ps := fun _ _ _ _ _ _ us hl => match us, hl with | [_], _ => rfl
theorem kbs_is_word_character : kbsOf tb 4 = ([] : List (List Str × List Nat)) := by decide +kernel
theorem ok_is_word_character {K : PySem.W.Frag} {mg : Str → Option Value} (w : Wr K mg d_is_word_character.name d_is_word_character.st) : ∃ f fd, DefOk K mg tb 4 d_is_word_character f fd := by
  refine def_ok w bd_is_word_character fun e he => ?_
  rw [kbs_is_word_character] at he
  cases he
theorem bd_class_of : Bd d_class_of.name d_class_of.st d_class_of.ps := fun _ _ _ _ _ _ us hl => match us, hl with | [_], _ => rfl
theorem kbs_class_of : kbsOf tb 5 = ([(["character"], [0])] : List (List Str × List Nat)) := by decide +kernel
theorem kb_class_of_0 : Kbd d_class_of.name d_class_of.st d_class_of.ps ["character"] [0] := by
  intro kV doc pm an cdv ct us ws h1 h2
  have h0 : us.length = 0 := by
    have h1' : us.length + ws.length = 1 := by rw [← List.length_append]; exact h1
    have h2' : ws.length = 1 := h2
    omega
  exact match us, ws, h0, h2 with | [], [_], _, _ => rfl
theorem ok_class_of {K : PySem.W.Frag} {mg : Str → Option Value} (w : Wr K mg d_class_of.name d_class_of.st) : ∃ f fd, DefOk K mg tb 5 d_class_of f fd := by
  refine def_ok w bd_class_of fun e he => ?_
  rw [kbs_class_of] at he
  rcases List.mem_cons.mp he with rfl | he
  · exact kb_class_of_0
  cases he
theorem bd__law_draw : Bd d__law_draw.name d__law_draw.st d__law_draw.ps := fun _ _ _ _ _ _ us hl => match us, hl with | [_, _], _ => rfl
theorem kbs__law_draw : kbsOf tb 6 = ([] : List (List Str × List Nat)) := by decide +kernel
theorem ok__law_draw {K : PySem.W.Frag} {mg : Str → Option Value} (w : Wr K mg d__law_draw.name d__law_draw.st) : ∃ f fd, DefOk K mg tb 6 d__law_draw f fd := by
  refine def_ok w bd__law_draw fun e he => ?_
  rw [kbs__law_draw] at he
  cases he
theorem bd__law_signs : Bd d__law_signs.name d__law_signs.st d__law_signs.ps := fun _ _ _ _ _ _ us hl => match us, hl with | [], _ => rfl
theorem kbs__law_signs : kbsOf tb 7 = ([] : List (List Str × List Nat)) := by decide +kernel
theorem ok__law_signs {K : PySem.W.Frag} {mg : Str → Option Value} (w : Wr K mg d__law_signs.name d__law_signs.st) : ∃ f fd, DefOk K mg tb 7 d__law_signs f fd := by
  refine def_ok w bd__law_signs fun e he => ?_
  rw [kbs__law_signs] at he
  cases he
theorem bd__law_class : Bd d__law_class.name d__law_class.st d__law_class.ps := fun _ _ _ _ _ _ us hl => match us, hl with | [_], _ => rfl
theorem kbs__law_class : kbsOf tb 8 = ([] : List (List Str × List Nat)) := by decide +kernel
theorem ok__law_class {K : PySem.W.Frag} {mg : Str → Option Value} (w : Wr K mg d__law_class.name d__law_class.st) : ∃ f fd, DefOk K mg tb 8 d__law_class f fd := by
  refine def_ok w bd__law_class fun e he => ?_
  rw [kbs__law_class] at he
  cases he
theorem bd__law_classes_hold : Bd d__law_classes_hold.name d__law_classes_hold.st d__law_classes_hold.ps := fun _ _ _ _ _ _ us hl => match us, hl with | [_, _], _ => rfl
theorem kbs__law_classes_hold : kbsOf tb 9 = ([] : List (List Str × List Nat)) := by decide +kernel
theorem ok__law_classes_hold {K : PySem.W.Frag} {mg : Str → Option Value} (w : Wr K mg d__law_classes_hold.name d__law_classes_hold.st) : ∃ f fd, DefOk K mg tb 9 d__law_classes_hold f fd := by
  refine def_ok w bd__law_classes_hold fun e he => ?_
  rw [kbs__law_classes_hold] at he
  cases he
theorem bd__law_line : Bd d__law_line.name d__law_line.st d__law_line.ps := fun _ _ _ _ _ _ us hl => match us, hl with | [_, _], _ => rfl
theorem kbs__law_line : kbsOf tb 10 = ([] : List (List Str × List Nat)) := by decide +kernel
theorem ok__law_line {K : PySem.W.Frag} {mg : Str → Option Value} (w : Wr K mg d__law_line.name d__law_line.st) : ∃ f fd, DefOk K mg tb 10 d__law_line f fd := by
  refine def_ok w bd__law_line fun e he => ?_
  rw [kbs__law_line] at he
  cases he
theorem bd__law_joined : Bd d__law_joined.name d__law_joined.st d__law_joined.ps := fun _ _ _ _ _ _ us hl => match us, hl with | [_], _ => rfl
theorem kbs__law_joined : kbsOf tb 11 = ([] : List (List Str × List Nat)) := by decide +kernel
theorem ok__law_joined {K : PySem.W.Frag} {mg : Str → Option Value} (w : Wr K mg d__law_joined.name d__law_joined.st) : ∃ f fd, DefOk K mg tb 11 d__law_joined f fd := by
  refine def_ok w bd__law_joined fun e he => ?_
  rw [kbs__law_joined] at he
  cases he
theorem bd__law_row_is : Bd d__law_row_is.name d__law_row_is.st d__law_row_is.ps := fun _ _ _ _ _ _ us hl => match us, hl with | [_, _], _ => rfl
theorem kbs__law_row_is : kbsOf tb 12 = ([] : List (List Str × List Nat)) := by decide +kernel
theorem ok__law_row_is {K : PySem.W.Frag} {mg : Str → Option Value} (w : Wr K mg d__law_row_is.name d__law_row_is.st) : ∃ f fd, DefOk K mg tb 12 d__law_row_is f fd := by
  refine def_ok w bd__law_row_is fun e he => ?_
  rw [kbs__law_row_is] at he
  cases he
theorem bd__law_text_holds : Bd d__law_text_holds.name d__law_text_holds.st d__law_text_holds.ps := fun _ _ _ _ _ _ us hl => match us, hl with | [_, _], _ => rfl
theorem kbs__law_text_holds : kbsOf tb 13 = ([] : List (List Str × List Nat)) := by decide +kernel
theorem ok__law_text_holds {K : PySem.W.Frag} {mg : Str → Option Value} (w : Wr K mg d__law_text_holds.name d__law_text_holds.st) : ∃ f fd, DefOk K mg tb 13 d__law_text_holds f fd := by
  refine def_ok w bd__law_text_holds fun e he => ?_
  rw [kbs__law_text_holds] at he
  cases he
theorem bd__law_spaces : Bd d__law_spaces.name d__law_spaces.st d__law_spaces.ps := fun _ _ _ _ _ _ us hl => match us, hl with | [_], _ => rfl
theorem kbs__law_spaces : kbsOf tb 14 = ([] : List (List Str × List Nat)) := by decide +kernel
theorem ok__law_spaces {K : PySem.W.Frag} {mg : Str → Option Value} (w : Wr K mg d__law_spaces.name d__law_spaces.st) : ∃ f fd, DefOk K mg tb 14 d__law_spaces f fd := by
  refine def_ok w bd__law_spaces fun e he => ?_
  rw [kbs__law_spaces] at he
  cases he
theorem bd__law_line_holds : Bd d__law_line_holds.name d__law_line_holds.st d__law_line_holds.ps := fun _ _ _ _ _ _ us hl => match us, hl with | [_, _], _ => rfl
theorem kbs__law_line_holds : kbsOf tb 15 = ([] : List (List Str × List Nat)) := by decide +kernel
theorem ok__law_line_holds {K : PySem.W.Frag} {mg : Str → Option Value} (w : Wr K mg d__law_line_holds.name d__law_line_holds.st) : ∃ f fd, DefOk K mg tb 15 d__law_line_holds f fd := by
  refine def_ok w bd__law_line_holds fun e he => ?_
  rw [kbs__law_line_holds] at he
  cases he
theorem bd_law : Bd d_law.name d_law.st d_law.ps := fun _ _ _ _ _ _ us hl => match us, hl with | [_], _ => rfl
theorem kbs_law : kbsOf tb 16 = ([] : List (List Str × List Nat)) := by decide +kernel
theorem ok_law {K : PySem.W.Frag} {mg : Str → Option Value} (w : Wr K mg d_law.name d_law.st) : ∃ f fd, DefOk K mg tb 16 d_law f fd := by
  refine def_ok w bd_law fun e he => ?_
  rw [kbs_law] at he
  cases he
theorem all_mk {l : PySem.W.OpenLaw} {w : World} {K : PySem.W.Frag} {h : Heap} {mg : Str → Option Value} {fa : Addr} {cls : Nat → Addr} {n : Nat} (X : K.In h) (G : h.Ns mainGlobals mg) (hfa : mg "law" = some (.ref fa))
    (w_lines_of : Wr K mg "lines_of" d_lines_of.st)
    (w_joined_lines : Wr K mg "joined_lines" d_joined_lines.st)
    (w_trimmed : Wr K mg "trimmed" d_trimmed.st)
    (w_body_of : Wr K mg "body_of" d_body_of.st)
    (w_is_word_character : Wr K mg "is_word_character" d_is_word_character.st)
    (w_class_of : Wr K mg "class_of" d_class_of.st)
    (w__law_draw : Wr K mg "_law_draw" d__law_draw.st)
    (w__law_signs : Wr K mg "_law_signs" d__law_signs.st)
    (w__law_class : Wr K mg "_law_class" d__law_class.st)
    (w__law_classes_hold : Wr K mg "_law_classes_hold" d__law_classes_hold.st)
    (w__law_line : Wr K mg "_law_line" d__law_line.st)
    (w__law_joined : Wr K mg "_law_joined" d__law_joined.st)
    (w__law_row_is : Wr K mg "_law_row_is" d__law_row_is.st)
    (w__law_text_holds : Wr K mg "_law_text_holds" d__law_text_holds.st)
    (w__law_spaces : Wr K mg "_law_spaces" d__law_spaces.st)
    (w__law_line_holds : Wr K mg "_law_line_holds" d__law_line_holds.st)
    (w_law : Wr K mg "law" d_law.st)
    (z_len : PySem.W.nsIn K mainGlobals "len" = some none)
    (z_int : PySem.W.nsIn K mainGlobals "int" = some none)
    (z_list : PySem.W.nsIn K mainGlobals "list" = some none)
    (z_tuple : PySem.W.nsIn K mainGlobals "tuple" = some none)
    (z_abs : PySem.W.nsIn K mainGlobals "abs" = some none)
    (z_max : PySem.W.nsIn K mainGlobals "max" = some none)
    (z_min : PySem.W.nsIn K mainGlobals "min" = some none)
    (z_str : PySem.W.nsIn K mainGlobals "str" = some none)
    (z_bool : PySem.W.nsIn K mainGlobals "bool" = some none)
    (z_isinstance : PySem.W.nsIn K mainGlobals "isinstance" = some none)
    (z_range : PySem.W.nsIn K mainGlobals "range" = some none)
    (z_zip : PySem.W.nsIn K mainGlobals "zip" = some none)
    (z_enumerate : PySem.W.nsIn K mainGlobals "enumerate" = some none)
    : ∃ fd : FuncData, (∀ (s : Shared) (v : Value), BindsTo s fd ⟨[v], []⟩ [("script", v)]) ∧ ∀ base : Heap, K.In base → base.Ns mainGlobals mg → FnOk l.prog w K mg base (L2.CX l.prog w) (n + 1) fa fd ["script"] (spOf ⟨K, cls⟩ (callF prog n 16)) := by
  refine end_ok (tb := tb) (d := d_law) X G hfa ?_ tb_ds chk_ds ?_ rfl rfl rfl
  · intro x hx
    rcases List.mem_cons.mp hx with rfl | hx
    · exact z_len
    rcases List.mem_cons.mp hx with rfl | hx
    · exact z_int
    rcases List.mem_cons.mp hx with rfl | hx
    · exact z_list
    rcases List.mem_cons.mp hx with rfl | hx
    · exact z_tuple
    rcases List.mem_cons.mp hx with rfl | hx
    · exact z_abs
    rcases List.mem_cons.mp hx with rfl | hx
    · exact z_max
    rcases List.mem_cons.mp hx with rfl | hx
    · exact z_min
    rcases List.mem_cons.mp hx with rfl | hx
    · exact z_str
    rcases List.mem_cons.mp hx with rfl | hx
    · exact z_bool
    rcases List.mem_cons.mp hx with rfl | hx
    · exact z_isinstance
    rcases List.mem_cons.mp hx with rfl | hx
    · exact z_range
    rcases List.mem_cons.mp hx with rfl | hx
    · exact z_zip
    rcases List.mem_cons.mp hx with rfl | hx
    · exact z_enumerate
    cases hx
  · intro i d hi
    match i, hi with
    | 0, hi => cases hi; exact ok_lines_of w_lines_of
    | 1, hi => cases hi; exact ok_joined_lines w_joined_lines
    | 2, hi => cases hi; exact ok_trimmed w_trimmed
    | 3, hi => cases hi; exact ok_body_of w_body_of
    | 4, hi => cases hi; exact ok_is_word_character w_is_word_character
    | 5, hi => cases hi; exact ok_class_of w_class_of
    | 6, hi => cases hi; exact ok__law_draw w__law_draw
    | 7, hi => cases hi; exact ok__law_signs w__law_signs
    | 8, hi => cases hi; exact ok__law_class w__law_class
    | 9, hi => cases hi; exact ok__law_classes_hold w__law_classes_hold
    | 10, hi => cases hi; exact ok__law_line w__law_line
    | 11, hi => cases hi; exact ok__law_joined w__law_joined
    | 12, hi => cases hi; exact ok__law_row_is w__law_row_is
    | 13, hi => cases hi; exact ok__law_text_holds w__law_text_holds
    | 14, hi => cases hi; exact ok__law_spaces w__law_spaces
    | 15, hi => cases hi; exact ok__law_line_holds w__law_line_holds
    | 16, hi => cases hi; exact ok_law w_law
    | i + 17, hi => cases hi
end K00
namespace K00
open PySem PySem.Spec L2 Bm
variable {d : Nat} {S : Store}
theorem sz : sizeLine = 16777216 := sizeLine_eq

/-! the program's functions -/
theorem c_lines_of {t : List Nat} (h : t.length ≤ 16000000) : callF prog (d + 1) 0 [.str t] S = .ok (.tup ((TL.spl [10] 0 [] t).map .str)) (S ++ [.lst ((TL.spl [10] 0 [] t).map .str)]) := by
  rw [callF_is (f := d_lines_of.D) rfl rfl]
  have h2 : t.length + 2 ≤ sizeLine := by rw [sz]; omega
  simp [d_lines_of, b_lines_of, isMT, mSplit, h2, fTuple, lstAt]
theorem c_joined {l : List (List Nat)} (h : (l.map List.length).sum + l.length ≤ 16777216) : callF prog (d + 1) 1 [.tup (l.map .str)] S = .ok (.str (TL.joinL [10] l)) S := by
  rw [callF_is (f := d_joined_lines.D) rfl rfl]
  simp [d_joined_lines, b_joined_lines, isMT, mJoin, joinV, allStr_map, h]
theorem h32 : [32].contains = fun c => decide (c = 32) := by
  funext c
  simp
abbrev sp : Nat → Bool := fun c => decide (c = 32)
theorem c_trimmed {s : List Nat} : callF prog (d + 1) 2 [.str s] S = .ok (.str (rstripL sp (lstripL sp s))) S := by
  rw [callF_is (f := d_trimmed.D) rfl rfl]
  simp [d_trimmed, b_trimmed, isMT, mStrip, h32]
theorem c_body_of {s : List Nat} : callF prog (d + 1) 3 [.str s] S = .ok (.tup [.int (s.length - (lstripL sp s).length), .str (lstripL sp s)]) S := by
  rw [callF_is (f := d_body_of.D) rfl rfl]
  simp [d_body_of, b_body_of, isMT, mStrip, sz, h32]
def wordB (c : Nat) : Bool := (97 ≤ c ∧ c ≤ 122) ∨ (65 ≤ c ∧ c ≤ 90) ∨ (48 ≤ c ∧ c ≤ 57)
theorem c_is_word {c : Nat} : callF prog (d + 1) 4 [.str [c]] S = .ok (.bl (wordB c)) S := by
  rw [callF_is (f := d_is_word_character.D) rfl rfl]
  simp [d_is_word_character, b_is_word_character, wordB]
  repeat' split
  all_goals first | (congr 2; rw [Bool.eq_iff_iff]; simp; omega) | (simp; omega) | simp_all
def cls (c : Nat) : List Nat := if c = 32 ∨ c = 10 then [98, 108, 97, 110, 107] else if wordB c then [119, 111, 114, 100] else [109, 97, 114, 107]
theorem c_class_of {c : Nat} : callF prog (d + 2) 5 [.str [c]] S = .ok (.str (cls c)) S := by
  rw [callF_is (f := d_class_of.D) rfl rfl]
  have h := bIn_strs (S := S) (fun b => b) [c] [[32], [10]]
  simp at h
  simp [d_class_of, b_class_of, sz, c_is_word, h, cls]
  repeat' split
  all_goals first | rfl | simp_all

/-! the law's own -/
/-- the store: the script, the cells, the jar, the rest -/
abbrev ST (A : MO) (cs : List Int) (p b : Int) (R : Store) : Store := A :: .lst (cs.map .int) :: .lst [.loc 1, .int p, .int b] :: R
theorem atI_mod {cs : List Int} {p : Int} (h : cs ≠ []) (h0 : 0 ≤ p) : ∃ z, atI (cs.map PV.int) (p % (cs.length : Int)) = some (.int z) := by
  have hl : 0 < cs.length := List.length_pos_iff.mpr h
  have h1 : 0 ≤ p % (cs.length : Int) := Int.emod_nonneg _ (by omega)
  have h2 : p % (cs.length : Int) < cs.length := Int.emod_lt_of_pos _ (by omega)
  unfold atI ixN
  rw [if_pos h1, List.length_map, if_pos h2]
  simp only [Option.bind_some, List.getElem?_map]
  have h3 : (p % (cs.length : Int)).toNat < cs.length := by omega
  exact ⟨cs[(p % (cs.length : Int)).toNat], by rw [List.getElem?_eq_getElem h3]; rfl⟩
theorem c_draw0 {A : MO} {cs : List Int} {R : Store} {p b m : Int} (h0 : 0 ≤ p) (h1 : p < 1000000000) (hm : 0 < m) (hm2 : m < 1000000) :
    ∃ x p', callF prog (d + 1) 6 [.loc 2, .int m] (ST A cs p b R) = .ok (.int (x % m)) (ST A cs p' (x / m) R) ∧ 0 ≤ p' ∧ p' ≤ p + 1 := by
  rw [callF_is (f := d__law_draw.D) rfl rfl]
  have k1 : -18446744073709551616 < p + 1 ∧ p + 1 < 18446744073709551616 := by omega
  have k2 : m < 1073741824 := by omega
  by_cases hb : b < m
  · by_cases hc : cs = []
    · subst hc
      refine ⟨0 * 48271 + (p + 1) * (p + 3) * 7919 + 11, p + 1, ?_, by omega, by omega⟩
      simp [d__law_draw, b__law_draw, bIdx, lstAt, ixN, hb, setAt, fLen, bMul, bMod, bDiv, hm, k2, h0, k1]
    · obtain ⟨z, hz⟩ := atI_mod hc h0
      have hl : 0 < (cs.length : Int) := by
        have := List.length_pos_iff.mpr hc
        omega
      have hl' : 0 < cs.length := List.length_pos_iff.mpr hc
      by_cases hg : (cs.length : Int) ≤ p
      · refine ⟨z * 48271 + (p + 1) * (p + 3) * 7919 + 11, p + 1, ?_, by omega, by omega⟩
        simp [d__law_draw, b__law_draw, bIdx, lstAt, ixN, hb, setAt, fLen, bMul, bMod, bDiv, hm, k2, h0, k1, hl, hl', hz, hg]
      · refine ⟨z, p + 1, ?_, by omega, by omega⟩
        simp [d__law_draw, b__law_draw, bIdx, lstAt, ixN, hb, setAt, fLen, bMul, bMod, bDiv, hm, k2, h0, k1, hl, hl', hz, hg]
  · refine ⟨b, p, ?_, by omega, by omega⟩
    simp [d__law_draw, b__law_draw, bIdx, lstAt, ixN, hb, setAt, fLen, bMul, bMod, bDiv, hm, k2, h0, k1]

theorem c_draw {A : MO} {cs : List Int} {R : Store} {p b m : Int} (h0 : 0 ≤ p) (h1 : p < 1000000000) (hm : 0 < m) (hm2 : m < 1000000) :
    ∃ (t : Nat) (p' b' : Int), callF prog (d + 1) 6 [.loc 2, .int m] (ST A cs p b R) = .ok (.int t) (ST A cs p' b' R) ∧ (t : Int) < m ∧ 0 ≤ p' ∧ p' ≤ p + 1 := by
  obtain ⟨x, p', h, h2, h3⟩ := c_draw0 (d := d) (A := A) (cs := cs) (R := R) (b := b) h0 h1 hm hm2
  have e1 : 0 ≤ x % m := Int.emod_nonneg _ (by omega)
  have e2 : x % m < m := Int.emod_lt_of_pos _ hm
  refine ⟨(x % m).toNat, p', x / m, ?_, by omega, h2, h3⟩
  rw [h, Int.toNat_of_nonneg e1]
def sig : List Nat := [32, 33, 34, 35, 36, 38, 39, 40, 41, 42, 43, 44, 45, 46, 47, 48, 49, 50, 51, 52, 53, 54, 55, 56, 57, 58, 59, 60, 61, 62, 63, 64, 65, 66, 67, 68, 69, 70, 71, 72, 73, 74, 75, 76, 77, 78, 79, 80, 81, 82, 83, 84, 85, 86, 87, 88, 89, 90, 91, 92, 93, 94, 95, 96, 97, 98, 99, 100, 101, 102, 103, 104, 105, 106, 107, 108, 109, 110, 111, 112, 113, 114, 115, 116, 117, 118, 119, 120, 121, 122, 123, 124, 125, 126]
theorem c_signs : callF prog (d + 1) 7 [] S = .ok (.str sig) S := by
  rw [callF_is (f := d__law_signs.D) rfl rfl]
  simp [d__law_signs, b__law_signs, bAdd, sz, sig]
theorem c_class {c : Nat} (h : c ∈ sig ++ [10]) : callF prog (d + 1) 8 [.str [c]] S = .ok (.str (cls c)) S := by
  rw [callF_is (f := d__law_class.D) rfl rfl]
  have hw : ∀ c ∈ sig ++ [10], decide (c ∈ [48, 49, 50, 51, 52, 53, 54, 55, 56, 57, 65, 66, 67, 68, 69, 70, 71, 72, 73, 74, 75, 76, 77, 78, 79, 80, 81, 82, 83, 84, 85, 86, 87, 88, 89, 90, 97, 98, 99, 100, 101, 102, 103, 104, 105, 106, 107, 108, 109, 110, 111, 112, 113, 114, 115, 116, 117, 118, 119, 120, 121, 122]) = wordB c := by decide +kernel
  have hw := hw c h
  simp only [d__law_class, b__law_class, evSs_cons, evS_ite, evB_or, evB_t, evE_cmp, QO_eq, evE_v, evE_c, Cn_str, evSs_nil, evS_ret, QO_mem]
  generalize [48, 49, 50, 51, 52, 53, 54, 55, 56, 57, 65, 66, 67, 68, 69, 70, 71, 72, 73, 74, 75, 76, 77, 78, 79, 80, 81, 82, 83, 84, 85, 86, 87, 88, 89, 90, 97, 98, 99, 100, 101, 102, 103, 104, 105, 106, 107, 108, 109, 110, 111, 112, 113, 114, 115, 116, 117, 118, 119, 120, 121, 122] = ws at hw ⊢
  simp [cls, ← hw]
  repeat' split
  all_goals simp_all
theorem s_classes {n : Bool} {c : Nat} (h : c ∈ sig ++ [10]) (x : List Nat) (u v : Option PV) : evSs (callF prog (d + 2)) b__law_classes_hold_0 [some (.str x), some (.bl n), some (.str [c]), v] S = .nx [some (.str x), some (.bl n), some (.str [c]), some (.str (cls c))] S := by
  have hc := c_class (d := d + 1) (S := S) h
  have hc2 := c_class_of (d := d) (S := S) (c := c)
  cases n <;> simp [b__law_classes_hold_0, hc, hc2]
theorem l_classes {n : Bool} : ∀ (l : List Nat), (∀ c ∈ l, c ∈ sig ++ [10]) → ∀ (x : List Nat) (u v : Option PV), ∃ u' v', forL [] (tName 2) (evSs (callF prog (d + 2)) b__law_classes_hold_0) (l.map fun c => .str [c]) [some (.str x), some (.bl n), u, v] S = .nx [some (.str x), some (.bl n), u', v'] S
  | [], _, x, u, v => ⟨u, v, by rw [List.map_nil, forL_nil (gOk_nil S)]⟩
  | c :: r, h, x, u, v => by
    obtain ⟨u', v', ih⟩ := l_classes (n := n) r (fun e he => h e (List.mem_cons_of_mem _ he)) x (some (.str [c])) (some (.str (cls c)))
    refine ⟨u', v', ?_⟩
    rw [List.map_cons, forL_cons (gOk_nil S)]
    simp [s_classes (d := d) (S := S) (n := n) (h c List.mem_cons_self) x u v, ih]
theorem c_classes {n : Bool} : callF prog (d + 3) 9 [.str (sig ++ [10]), .bl n] S = .ok (.bl true) S := by
  rw [callF_is (f := d__law_classes_hold.D) rfl rfl]
  obtain ⟨u', v', h⟩ := l_classes (d := d) (S := S) (n := n) (sig ++ [10]) (fun _ h => h) (sig ++ [10]) none none
  simp [d__law_classes_hold, b__law_classes_hold] at h ⊢
  simp [h]
/-! one line -/
def sigL (s : List Nat) : Prop := ∀ c ∈ s, c ∈ sig
theorem rep_sp (n : Nat) : (List.replicate n [32]).flatten = List.replicate n 32 := by
  induction n with
  | zero => rfl
  | succ n ih => rw [List.replicate_succ, List.flatten_cons, ih]; rfl
theorem sig_len : sig.length = 94 := by decide +kernel
theorem sig_sp : 32 ∈ sig := by decide +kernel
theorem sigL_rep (n : Nat) : sigL (List.replicate n 32) := fun c h => by
  rw [(List.mem_replicate.mp h).2]; exact sig_sp
theorem sigL_app {s t : List Nat} (h : sigL s) (k : sigL t) : sigL (s ++ t) := fun c hc => (List.mem_append.mp hc).elim (h c) (k c)
theorem s_line {A : MO} {cs : List Int} {R : Store} {p b : Int} (h0 : 0 ≤ p) (h1 : p < 1000000000) {t : List Nat} (ht : t.length ≤ 1000) (v : Option PV) (i : Int) :
    ∃ (c : Nat) (p' b' : Int), evSs (callF prog (d + 1)) b__law_line_0 [some (.loc 2), some (.str sig), some (.str t), some (.int i)] (ST A cs p b R) = .nx [some (.loc 2), some (.str sig), some (.str (t ++ [c])), some (.int i)] (ST A cs p' b' R) ∧ c ∈ sig ∧ 0 ≤ p' ∧ p' ≤ p + 1 := by
  obtain ⟨j, p', b', h, h2, h3, h4⟩ := c_draw (d := d) (A := A) (cs := cs) (R := R) (b := b) (m := 94) h0 h1 (by decide) (by decide)
  have hj : j < sig.length := by rw [sig_len]; omega
  refine ⟨sig[j], p', b', ?_, List.getElem_mem _, h3, h4⟩
  have hl : t.length + 1 ≤ sizeLine := by rw [sz]; omega
  simp [b__law_line_0, h, bIdx, atI_nat hj, bAdd, hl]
theorem l_line {A : MO} {cs : List Int} {R : Store} : ∀ (n : Nat) (lo : Int) (p b : Int) (t : List Nat) (v : Option PV), 0 ≤ p → p + n < 1000000000 → t.length + n ≤ 1000 → sigL t →
    ∃ (t' : List Nat) (v' : Option PV) (p' b' : Int), forL [] (tName 3) (evSs (callF prog (d + 1)) b__law_line_0) (rng lo n) [some (.loc 2), some (.str sig), some (.str t), v] (ST A cs p b R) = .nx [some (.loc 2), some (.str sig), some (.str t'), v'] (ST A cs p' b' R) ∧
      sigL t' ∧ t'.length = t.length + n ∧ 0 ≤ p' ∧ p' ≤ p + n
  | 0, lo, p, b, t, v, h0, h1, h2, h3 => ⟨t, v, p, b, by rw [show rng lo 0 = [] from rfl, forL_nil (gOk_nil _)], h3, rfl, h0, by omega⟩
  | n + 1, lo, p, b, t, v, h0, h1, h2, h3 => by
    obtain ⟨c, p1, b1, e1, g1, g2, g3⟩ := s_line (d := d) (A := A) (cs := cs) (R := R) (p := p) (b := b) (t := t) h0 (by omega) (by omega) v lo
    obtain ⟨t', v', p', b', e2, g4, g5, g6, g7⟩ := l_line (A := A) (cs := cs) (R := R) n (lo + 1) p1 b1 (t ++ [c]) (some (.int lo)) g2 (by omega) (by simp; omega) (sigL_app h3 fun e he => by rw [List.mem_singleton.mp he]; exact g1)
    refine ⟨t', v', p', b', ?_, g4, by rw [g5]; simp; omega, g6, by omega⟩
    have er : rng lo (n + 1) = .int lo :: rng (lo + 1) n := by
      unfold rng
      rw [List.range_succ_eq_map, List.map_cons, List.map_map]
      congr 1
      · simp
      · apply List.map_congr_left
        intro k _
        simp
        omega
    rw [er, forL_cons (gOk_nil _)]
    simp [e1, e2]
end K00

namespace K00
open PySem PySem.Spec L2 Bm
variable {d : Nat} {S : Store}
theorem c_line {A : MO} {cs : List Int} {R : Store} {p b : Int} (h0 : 0 ≤ p) (h1 : p < 100000000) : ∃ (t : List Nat) (p' b' : Int), callF prog (d + 2) 10 [.loc 2, .str sig] (ST A cs p b R) = .ok (.str t) (ST A cs p' b' R) ∧ sigL t ∧ t.length ≤ 22 ∧ 0 ≤ p' ∧ p' ≤ p + 17 := by
  obtain ⟨a1, p1, b1, e1, g1, g2, g3⟩ := c_draw (d := d) (A := A) (cs := cs) (R := R) (p := p) (b := b) (m := 6) h0 (by omega) (by decide) (by decide)
  obtain ⟨a2, p2, b2, e2, g4, g5, g6⟩ := c_draw (d := d) (A := A) (cs := cs) (R := R) (p := p1) (b := b1) (m := 15) g2 (by omega) (by decide) (by decide)
  obtain ⟨t', v', p3, b3, e3, g7, g8, g9, g10⟩ := l_line (d := d) (A := A) (cs := cs) (R := R) a2 0 p2 b2 (List.replicate a1 32) none g5 (by omega) (by rw [List.length_replicate]; omega) (sigL_rep _)
  obtain ⟨a4, p4, b4, e4, g11, g12, g13⟩ := c_draw (d := d) (A := A) (cs := cs) (R := R) (p := p3) (b := b3) (m := 4) g9 (by omega) (by decide) (by decide)
  rw [List.length_replicate] at g8
  refine ⟨t' ++ List.replicate a4 32, p4, b4, ?_, sigL_app g7 (sigL_rep _), by rw [List.length_append, List.length_replicate]; omega, g12, by omega⟩
  rw [callF_is (f := d__law_line.D) rfl rfl]
  have k1 := bMul_sign (c := 32) (n := a1) (S := ST A cs p1 b1 R) (by omega)
  have k2 := iRng_nat (n := a2) (S := ST A cs p2 b2 R) (by omega)
  have k3 := bMul_sign (c := 32) (n := a4) (S := ST A cs p4 b4 R) (by omega)
  have k4 := bAdd_str (S := ST A cs p4 b4 R) (s := t') (t := List.replicate a4 32) (by rw [List.length_replicate, sz]; omega)
  simp [d__law_line, b__law_line, e1, e2, e3, e4, k1, k2, k3, k4]
/-! joined -/
def tot (l : List (List Nat)) : Nat := (l.map fun s => s.length + 1).sum
@[simp] theorem tot_cons (s : List Nat) (r : List (List Nat)) : tot (s :: r) = s.length + 1 + tot r := by simp [tot]
def glue (r : List (List Nat)) : List Nat := (r.map (10 :: ·)).flatten
theorem joinL_glue (s : List Nat) : ∀ r : List (List Nat), TL.joinL [10] (s :: r) = s ++ glue r
  | [] => by simp [TL.joinL, glue]
  | t :: r => by
    rw [TL.joinL, joinL_glue t r]
    simp [glue]
theorem s_joined {x : PV} {k : Nat} {t s : List Nat} (u v : Option PV) (h : t.length + s.length + 1 ≤ 16777216) : evSs (callF prog d) b__law_joined_0 [some x, some (.str t), some (.int k), some (.str s)] S = .nx [some x, some (.str (t ++ (if 0 < k then 10 :: s else s))), some (.int k), some (.str s)] S := by
  have k1 := bAdd_str (S := S) (s := t) (t := [10]) (by rw [sz]; simp; omega)
  have k2 := bAdd_str (S := S) (s := t ++ [10]) (t := s) (by rw [sz]; simp; omega)
  have k3 := bAdd_str (S := S) (s := t) (t := s) (by rw [sz]; omega)
  by_cases hk : 0 < k
  · simp [b__law_joined_0, k1, k2, hk]
  · obtain rfl : k = 0 := by omega
    simp [b__law_joined_0, k3]
theorem l_joined {a : Nat} {xs : List PV} (hx : lstAt S a = some xs) {x : PV} : ∀ (r : List (List Nat)) (k : Nat) (t : List Nat) (u v : Option PV), t.length + tot r ≤ 16777216 →
    ∃ u' v', forL [(a, xs)] (Bm.tTup 2 (tgCons (tName 2) (tgCons (tName 3) tgNil))) (evSs (callF prog d) b__law_joined_0) (numUp k (r.map .str)) [some x, some (.str t), u, v] S = .nx [some x, some (.str (t ++ (if 0 < k then glue r else TL.joinL [10] r))), u', v'] S
  | [], k, t, u, v, h => ⟨u, v, by
    rw [List.map_nil, numUp, forL_nil (gOk_one hx)]
    simp [glue, TL.joinL]⟩
  | s :: r, k, t, u, v, h => by
    rw [tot_cons] at h
    obtain ⟨u', v', ih⟩ := l_joined hx (x := x) r (k + 1) (t ++ (if 0 < k then 10 :: s else s)) (some (.int k)) (some (.str s)) (by split <;> simp <;> omega)
    refine ⟨u', v', ?_⟩
    rw [List.map_cons, numUp, forL_cons (gOk_one hx)]
    have e := s_joined (d := d) (S := S) (x := x) (k := k) (t := t) (s := s) u v (by omega)
    simp [e, ih]
    by_cases hk : 0 < k
    · simp [hk, glue]
    · simp [hk, joinL_glue]
theorem c_ljoined {a : Nat} {l : List (List Nat)} (hx : lstAt S a = some (l.map .str)) (h : tot l ≤ 16777216) : callF prog (d + 1) 11 [.loc a] S = .ok (.str (TL.joinL [10] l)) S := by
  rw [callF_is (f := d__law_joined.D) rfl rfl]
  obtain ⟨u', v', e⟩ := l_joined (d := d) hx (x := .loc a) l 0 [] none none (by simpa using h)
  simp at e
  simp [d__law_joined, b__law_joined, iEnum_loc hx, e]
/-! a row is -/
theorem l_row {a : Nat} {xs : List PV} (hx : lstAt S a = some xs) {x y : PV} : ∀ (r : List (List Nat)) (u v : Option PV),
    ∃ u' v', forL [(a, xs)] (Bm.tTup 2 (tgCons (tName 2) (tgCons (tName 3) tgNil))) (evSs (callF prog d) b__law_row_is_0) (pairUp (r.map .str) (r.map .str)) [some x, some y, u, v] S = .nx [some x, some y, u', v'] S
  | [], u, v => ⟨u, v, by rw [List.map_nil, pairUp, forL_nil (gOk_one hx)]; all_goals simp⟩
  | s :: r, u, v => by
    obtain ⟨u', v', ih⟩ := l_row hx (x := x) (y := y) r (some (.str s)) (some (.str s))
    refine ⟨u', v', ?_⟩
    rw [List.map_cons, pairUp, forL_cons (gOk_one hx)]
    have e : evSs (callF prog d) b__law_row_is_0 [some x, some y, some (.str s), some (.str s)] S = .nx [some x, some y, some (.str s), some (.str s)] S := by
      simp [b__law_row_is_0]
    simp [e, ih]
theorem c_row {a : Nat} {l : List (List Nat)} (hx : lstAt S a = some (l.map .str)) : callF prog (d + 1) 12 [.tup (l.map .str), .loc a] S = .ok (.bl true) S := by
  rw [callF_is (f := d__law_row_is.D) rfl rfl]
  obtain ⟨u', v', e⟩ := l_row (d := d) hx (x := .tup (l.map .str)) (y := .loc a) l none none
  have k := fLen_loc hx
  simp [d__law_row_is, b__law_row_is, iZip_tl hx, e, k]
end K00

namespace K00
open PySem PySem.Spec L2 Bm
variable {d : Nat} {S : Store}
theorem glue_len : ∀ r : List (List Nat), (glue r).length = tot r
  | [] => rfl
  | s :: r => by
    have := glue_len r
    simp [glue] at this ⊢
    omega
theorem joinL_len' (l : List (List Nat)) : (TL.joinL [10] l).length ≤ tot l := by
  cases l with
  | nil => simp [TL.joinL]
  | cons s r => rw [joinL_glue, List.length_append, glue_len, tot_cons]; omega
theorem tot_rev (l : List (List Nat)) : tot l.reverse = tot l := by
  unfold tot
  rw [List.map_reverse, List.sum_reverse]
theorem sum_tot (l : List (List Nat)) : (l.map List.length).sum + l.length = tot l := by
  induction l with
  | nil => rfl
  | cons s r ih => rw [tot_cons, List.map_cons, List.sum_cons, List.length_cons]; omega
theorem rev_ex {a : Nat} {l : List (List Nat)} (hx : lstAt S a = some (l.map .str)) : ∃ b S1 X, bRev (.loc a) S = .ok (.loc b) S1 ∧ lstAt S1 b = some (l.reverse.map .str) ∧ S1 = S ++ X :=
  ⟨_, _, _, bRev_loc hx, by rw [lstAt_new, List.map_reverse], rfl⟩
theorem c_text {n : Bool} {a : Nat} {l : List (List Nat)} (hx : lstAt S a = some (l.map .str)) (hne : l ≠ []) (h10 : ∀ s ∈ l, 10 ∉ s) (ht : tot l ≤ 16000000) : ∃ X, callF prog (d + 2) 13 [.loc a, .bl n] S = .ok (.bl true) (S ++ X) := by
  rw [callF_is (f := d__law_text_holds.D) rfl rfl]
  have e1 := c_ljoined (d := d) hx (by omega)
  obtain ⟨b1, S1, X1, e2, hx1, hS1⟩ := rev_ex hx
  have hxa : lstAt S1 a = some (l.map .str) := by rw [hS1]; exact lstAt_app hx _
  have e3 := c_ljoined (d := d) hx1 (by rw [tot_rev]; omega)
  obtain ⟨b2, S2, X2, e4, hx2, hS2⟩ := rev_ex hxa
  have e5 := fTuple_loc hx2
  have hxa2 : lstAt S2 a = some (l.map .str) := by rw [hS2]; exact lstAt_app hxa _
  have e6 := c_lines_of (d := d) (S := S2) (t := TL.joinL [10] l) (by have := joinL_len' l; omega)
  rw [TL.spl_join hne h10] at e6
  generalize hS3 : S2 ++ [MO.lst (l.map .str)] = S3 at e6
  have hxa3 : lstAt S3 a = some (l.map .str) := by rw [← hS3]; exact lstAt_app hxa2 _
  have e7 := c_joined (d := d) (S := S3) (l := l.reverse) (by rw [sum_tot, tot_rev]; omega)
  have e8 := c_row (d := d) hxa3
  refine ⟨X1 ++ (X2 ++ [MO.lst (l.map .str)]), ?_⟩
  rw [show S ++ (X1 ++ (X2 ++ [MO.lst (l.map .str)])) = S3 from by rw [← hS3, hS2, hS1]; simp]
  clear hS3 hS2 hS1
  generalize List.map PV.str l.reverse = rv at *
  generalize TL.joinL [10] l.reverse = jr at *
  cases n <;> simp [d__law_text_holds, b__law_text_holds, e1, e2, e3, e4, e5, e6, e7, e8]
/-! spaces -/
theorem l_spaces {x : PV} : ∀ (s : List Nat) (k : Nat) (u : Option PV), seqK (forL [] (tName 2) (evSs (callF prog d) b__law_spaces_0) (s.map fun c => .str [c]) [some x, some (.int k), u] S) (sSeq (sRet (cVar 1)) sNext) = .rt (.int ((k + (s.takeWhile sp).length : Nat) : Int)) S
  | [], k, u => by
    rw [List.map_nil, forL_nil (gOk_nil S)]
    simp
  | c :: r, k, u => by
    rw [List.map_cons, forL_cons (gOk_nil S)]
    by_cases hc : c = 32
    · subst hc
      have e : evSs (callF prog d) b__law_spaces_0 [some x, some (.int k), some (.str [32])] S = .nx [some x, some (.int ((k + 1 : Nat) : Int)), some (.str [32])] S := by simp [b__law_spaces_0]
      have ih := l_spaces (x := x) r (k + 1) (some (.str [32]))
      simp [e] at ih ⊢
      rw [ih]
      congr 2
      omega
    · have e : evSs (callF prog d) b__law_spaces_0 [some x, some (.int k), some (.str [c])] S = .rt (.int k) S := by simp [b__law_spaces_0, hc]
      simp [e, hc]
theorem c_spaces {s : List Nat} : callF prog (d + 1) 14 [.str s] S = .ok (.int ((s.takeWhile sp).length : Nat)) S := by
  rw [callF_is (f := d__law_spaces.D) rfl rfl]
  have h := l_spaces (d := d) (S := S) (x := .str s) s 0 none
  simp at h
  simp [d__law_spaces, b__law_spaces, h]
theorem tw_len (s : List Nat) (p : Nat → Bool) : (s.takeWhile p).length ≤ s.length := (List.takeWhile_sublist p).length_le
theorem c_lineh {n : Bool} {s : List Nat} : callF prog (d + 2) 15 [.str s, .bl n] S = .ok (.bl true) S := by
  rw [callF_is (f := d__law_line_holds.D) rfl rfl]
  have e1 := c_spaces (d := d) (S := S) (s := s)
  have e2 : cut s (some ((s.takeWhile sp).length : Int)) none = lstripL sp s := by
    rw [cut_from (tw_len s sp), drop_takeWhile]; rfl
  have e3 := c_spaces (d := d) (S := S) (s := (lstripL sp s).reverse)
  have e4 : cut (lstripL sp s) none (some (((lstripL sp s).length : Int) - (((lstripL sp s).reverse.takeWhile sp).length : Int))) = rstripL sp (lstripL sp s) := by
    have h := tw_len (lstripL sp s).reverse sp
    rw [List.length_reverse] at h
    rw [← Int.ofNat_sub h, cut_to (by omega), rstrip_take]
  have e5 := c_body_of (d := d) (S := S) (s := s)
  have e6 := c_trimmed (d := d) (S := S) (s := s)
  have e7 : (s.length : Int) - ((lstripL sp s).length : Int) = ((s.takeWhile sp).length : Int) := by
    have : (lstripL sp s).length = s.length - (s.takeWhile sp).length := by
      show (s.dropWhile sp).length = _
      rw [← drop_takeWhile, List.length_drop]
    have := tw_len s sp
    omega
  rw [e7] at e5
  generalize (s.takeWhile sp).length = many at *
  generalize lstripL sp s = body at *
  generalize rstripL sp body = rest at *
  generalize (body.reverse.takeWhile sp).length = k at *
  cases n <;> simp [d__law_line_holds, b__law_line_holds, s__law_line_holds_0, s__law_line_holds_1, s__law_line_holds_2, s__law_line_holds_3, s__law_line_holds_4, s__law_line_holds_5, s__law_line_holds_6, s__law_line_holds_7, s__law_line_holds_8, e1, e2, e3, e4, e5, e6]
end K00

namespace K00
open PySem PySem.Spec L2 Bm
variable {d : Nat} {S : Store}
def good (s : List Nat) : Prop := sigL s ∧ s.length ≤ 2000
theorem sig10 : 10 ∉ sig := by decide +kernel
theorem good.no10 {s : List Nat} (h : good s) : 10 ∉ s := fun hc => sig10 (h.1 10 hc)
theorem tot_good : ∀ {l : List (List Nat)}, (∀ s ∈ l, good s) → tot l ≤ 2001 * l.length
  | [], _ => Nat.zero_le _
  | s :: r, h => by
    have h1 := (h s List.mem_cons_self).2
    have h2 := tot_good (l := r) fun t ht => h t (List.mem_cons_of_mem _ ht)
    rw [tot_cons, List.length_cons]
    omega
/-! the lines are drawn -/
abbrev ls8 (n g o : PV) (a : Nat) (k x y : Option PV) : Ls := [some (.loc 0), some (.loc 2), some (.str sig), some n, some g, some o, some (.loc a), k, x, y]
theorem s_lines {A : MO} {cs : List Int} {l : List (List Nat)} {p b : Int} (h0 : 0 ≤ p) (h1 : p < 100000000) (hl : l.length < 1000) (n g o : PV) (k x y : Option PV) : ∃ (t : List Nat) (p' b' : Int),
    evSs (callF prog (d + 2)) b_law_7 (ls8 n g o 3 k x y) (ST A cs p b [.lst (l.map .str)]) = .nx (ls8 n g o 3 k x y) (ST A cs p' b' [.lst ((l ++ [t]).map .str)]) ∧ good t ∧ 0 ≤ p' ∧ p' ≤ p + 17 := by
  obtain ⟨t, p', b', e, g1, g2, g3, g4⟩ := c_line (d := d) (A := A) (cs := cs) (R := [.lst (l.map .str)]) (p := p) (b := b) h0 h1
  refine ⟨t, p', b', ?_, ⟨g1, by omega⟩, g3, g4⟩
  have hl' : l.length < sizeLine := by rw [sz]; omega
  simp [b_law_7, e, isMT, lstAt, mAppend, hl']
theorem l_lines {A : MO} {cs : List Int} (n g o : PV) (x y : Option PV) : ∀ (m : Nat) (lo p b : Int) (l : List (List Nat)) (k : Option PV), 0 ≤ p → p + 17 * m < 100000000 → l.length + m < 1000 →
    ∃ (l' : List (List Nat)) (k' : Option PV) (p' b' : Int), forL [] (tName 7) (evSs (callF prog (d + 2)) b_law_7) (rng lo m) (ls8 n g o 3 k x y) (ST A cs p b [.lst (l.map .str)]) = .nx (ls8 n g o 3 k' x y) (ST A cs p' b' [.lst ((l ++ l').map .str)]) ∧
      (∀ s ∈ l', good s) ∧ l'.length = m ∧ 0 ≤ p' ∧ p' ≤ p + 17 * m
  | 0, lo, p, b, l, k, h0, h1, h2 => ⟨[], k, p, b, by rw [show rng lo 0 = [] from rfl, forL_nil (gOk_nil _), List.append_nil], by simp, rfl, h0, by omega⟩
  | m + 1, lo, p, b, l, k, h0, h1, h2 => by
    obtain ⟨t, p1, b1, e1, g1, g2, g3⟩ := s_lines (d := d) (A := A) (cs := cs) (l := l) (p := p) (b := b) h0 (by omega) (by omega) n g o (some (.int lo)) x y
    obtain ⟨l', k', p', b', e2, g4, g5, g6, g7⟩ := l_lines (A := A) (cs := cs) n g o x y m (lo + 1) p1 b1 (l ++ [t]) (some (.int lo)) g2 (by omega) (by simp; omega)
    refine ⟨t :: l', k', p', b', ?_, ?_, by simp [g5], g6, by omega⟩
    · rw [rng_succ, forL_cons (gOk_nil _)]
      simp only [tName_is, lift_ok, List.set_cons_succ, List.set_cons_zero, e1, e2]
      simp
    · intro s hs
      rcases List.mem_cons.mp hs with rfl | hs
      · exact g1
      · exact g4 s hs
/-! 2000 lines -/
theorem s_great {A : MO} {cs : List Int} {l : List (List Nat)} {p b : Int} (hne : l ≠ []) (n g o : PV) (i : Nat) (x y : Option PV) : ∃ t, t ∈ l ∧ evE (callF prog d) e_law_9 (ls8 n g o 3 (some (.int i)) x y) (ST A cs p b [.lst (l.map .str)]) = .ok (.str t) (ST A cs p b [.lst (l.map .str)]) := by
  have hl : 0 < l.length := List.length_pos_iff.mpr hne
  have hm : i % l.length < l.length := Nat.mod_lt _ hl
  refine ⟨l[i % l.length], List.getElem_mem _, ?_⟩
  have e1 := bMod_int (S := ST A cs p b [.lst (l.map .str)]) (i := (i : Int)) (j := (l.length : Int)) (by omega)
  have e2 : lstAt (ST A cs p b [.lst (l.map .str)]) 3 = some (l.map .str) := rfl
  have e3 := fLen_loc e2
  rw [List.length_map] at e3
  have e4 : bIdx (.loc 3) (.int ((i : Int) % (l.length : Int))) (ST A cs p b [.lst (l.map .str)]) = .ok (.str l[i % l.length]) (ST A cs p b [.lst (l.map .str)]) := by
    have : ((i : Int) % (l.length : Int)) = ((i % l.length : Nat) : Int) := by omega
    rw [this]
    simp only [bIdx, e2]
    rw [atI_nat (by rw [List.length_map]; exact hm)]
    simp
  simp only [e_law_9, evE_idx, evE_v, evE_bin, evE_bf, evEs_cons, evEs_nil, BO_mod, BF_len, cOp_is, cVar_is, cCall_is, cCons_is, cNil_is, Out.bind_ok, List.getElem?_cons_succ, List.getElem?_cons_zero, e3, e1, e4]
theorem l_great {A : MO} {cs : List Int} {l : List (List Nat)} {p b : Int} (hne : l ≠ []) (n g o : PV) (x y : Option PV) (own : Option PV) : ∀ (m lo : Nat) (acc : List (List Nat)), acc.length + m ≤ 1000000 → (∀ t ∈ acc, t ∈ l) →
    ∃ l2 : List (List Nat), (∀ t ∈ l2, t ∈ l) ∧ l2.length = acc.length + m ∧ lcL [] (.one 7) kYes (evE (callF prog d) e_law_9) (rng lo m) (acc.map .str) (ls8 n g o 3 own x y) (ST A cs p b [.lst (l.map .str)]) =
      .ok (.loc 4) (ST A cs p b [.lst (l.map .str), .lst (l2.map .str)])
  | 0, lo, acc, h, ha => ⟨acc, ha, rfl, by
    rw [show rng lo 0 = [] from rfl, lcL, if_pos (gOk_nil _)]
    rfl⟩
  | m + 1, lo, acc, h, ha => by
    obtain ⟨t, ht, e⟩ := s_great (d := d) (A := A) (cs := cs) (p := p) (b := b) hne n g o lo x y
    obtain ⟨l2, g1, g2, g3⟩ := l_great (A := A) (cs := cs) (p := p) (b := b) hne n g o x y own m (lo + 1) (acc ++ [t]) (by simp; omega) (fun s hs => by
      rcases List.mem_append.mp hs with q | q
      · exact ha s q
      · rw [List.mem_singleton.mp q]; exact ht)
    refine ⟨l2, g1, by rw [g2]; simp; omega, ?_⟩
    rw [rng_succ, lcL, if_pos (gOk_nil _)]
    have hl : acc.length < sizeLine := by rw [sz]; omega
    have e0 : NT.set (.one 7) (.int lo) (ls8 n g o 3 own x y) (ST A cs p b [.lst (l.map .str)]) = .ok (ls8 n g o 3 (some (.int lo)) x y) (ST A cs p b [.lst (l.map .str)]) := rfl
    rw [e0]
    simp only [kYes_is, e, List.length_map, hl, if_true]
    rw [← g3]
    congr 1
    simp
end K00

namespace K00
open PySem PySem.Spec L2 Bm
variable {d : Nat} {S : Store}
theorem gOk_list {S : Store} {a : Nat} {xs : List PV} (h : lstAt S a = some xs) : gOk [(a, xs)] S := gOk_one h
/-- the lines are held -/
theorem l_holds {n : Bool} {a : Nat} {xs : List PV} (hx : lstAt S a = some xs) (g o : PV) (c : Nat) (k y : Option PV) : ∀ (l : List (List Nat)) (x : Option PV), ∃ x', forL [(a, xs)] (tName 8) (evSs (callF prog (d + 2)) b_law_13) (l.map .str) (ls8 (.bl n) g o c k x y) S = .nx (ls8 (.bl n) g o c k x' y) S
  | [], x => ⟨x, by rw [List.map_nil, forL_nil (gOk_one hx)]⟩
  | s :: r, x => by
    obtain ⟨x', ih⟩ := l_holds (n := n) hx g o c k y r (some (.str s))
    refine ⟨x', ?_⟩
    rw [List.map_cons, forL_cons (gOk_one hx)]
    have e := c_lineh (d := d) (S := S) (n := n) (s := s)
    have e2 : evSs (callF prog (d + 2)) b_law_13 (ls8 (.bl n) g o c k (some (.str s)) y) S = .nx (ls8 (.bl n) g o c k (some (.str s)) y) S := by
      simp [b_law_13, e]
    simp only [tName_is, lift_ok, List.set_cons_succ, List.set_cons_zero, e2, ih]
/-- the long line -/
def longL : List Nat := [32, 32, 32, 32] ++ ((List.replicate 22 sig).flatten.take 1990) ++ [32, 32, 32, 32, 32, 32]
theorem long_good : good longL := by
  refine ⟨fun c hc => ?_, ?_⟩
  · unfold longL at hc
    rcases List.mem_append.mp hc with q | q
    · rcases List.mem_append.mp q with q | q
      · have : c = 32 := by simpa using q
        rw [this]; exact sig_sp
      · have q := List.mem_of_mem_take q
        obtain ⟨t, ht, hc⟩ := List.mem_flatten.mp q
        rw [(List.mem_replicate.mp ht).2] at hc
        exact hc
    · have : c = 32 := by simpa using q
      rw [this]; exact sig_sp
  · unfold longL
    rw [List.length_append, List.length_append, List.length_take]
    have := Nat.min_le_left 1990 (List.replicate 22 sig).flatten.length
    simp only [List.length_cons, List.length_nil]
    omega
theorem flat_len : (List.replicate 22 sig).flatten.length = 2068 := by
  rw [List.length_flatten, List.map_replicate, List.sum_replicate_nat, sig_len]
theorem s_long {A : MO} {cs : List Int} {l : List (List Nat)} {R : Store} {j : Nat} {p b : Int} (hR : R[j]? = some (.lst (l.map .str))) (hne : l ≠ []) (hl : l.length ≤ 2000) (hg : ∀ s ∈ l, good s) (h0 : 0 ≤ p) (h1 : p < 100000000) (n g : PV) (o : Bool) (k x y : Option PV) :
    ∃ (l' : List (List Nat)) (p' b' : Int) (R' : Store), evS (callF prog (d + 1)) s_law_11 (ls8 n g (.bl o) (j + 3) k x y) (ST A cs p b R) = .nx (ls8 n g (.bl o) (j + 3) k x y) (ST A cs p' b' R') ∧ R'[j]? = some (.lst (l'.map .str)) ∧ l' ≠ [] ∧ l'.length = l.length ∧ ∀ s ∈ l', good s := by
  cases o with
  | false => exact ⟨l, p, b, R, by simp [s_law_11], hR, hne, rfl, hg⟩
  | true =>
    have hlp : 0 < l.length := List.length_pos_iff.mpr hne
    obtain ⟨t, p', b', e1, g1, g2, g3⟩ := c_draw (d := d) (A := A) (cs := cs) (R := R) (b := b) (m := (l.length : Int)) h0 (by omega) (by omega) (by omega)
    have ht : t < l.length := by omega
    have e2 : lstAt (ST A cs p b R) (j + 3) = some (l.map .str) := by
      unfold lstAt
      simp [hR]
    have e3 := fLen_loc e2
    rw [List.length_map] at e3
    have e4 := bMul_strN (s := sig) (n := 22) (ST A cs p b R) (by rw [sig_len, sz]; decide) (by decide)
    have e5 : cut (List.replicate 22 sig).flatten none (some (1990 : Int)) = (List.replicate 22 sig).flatten.take 1990 := cut_to (n := 1990) (by rw [flat_len]; decide)
    have hz : ((List.replicate 22 sig).flatten.take 1990).length = 1990 := by rw [List.length_take, flat_len]; rfl
    have e6 := bAdd_str (S := ST A cs p b R) (s := [32, 32, 32, 32]) (t := (List.replicate 22 sig).flatten.take 1990) (by rw [hz, sz]; decide)
    have e7 := bAdd_str (S := ST A cs p b R) (s := [32, 32, 32, 32] ++ (List.replicate 22 sig).flatten.take 1990) (t := [32, 32, 32, 32, 32, 32]) (by rw [List.length_append, hz, sz]; decide)
    have hj : j < R.length := (List.getElem?_eq_some_iff.mp hR).1
    have e8 : setAt (.loc (j + 3)) (.int t) (.str longL) (ST A cs p' b' R) = .ok .non (ST A cs p' b' (R.set j (.lst ((l.set t longL).map .str)))) := by
      have hi : ixN l.length (t : Int) = some t := by
        unfold ixN
        rw [if_pos (by omega), if_pos (by omega), Int.toNat_natCast]
      simp [setAt, hR, hi, List.map_set]
    refine ⟨l.set t longL, p', b', R.set j (.lst ((l.set t longL).map .str)), ?_, by simp [hj], fun q => hne (by simpa using q), by simp, fun s hs => ?_⟩
    · generalize hLL : ([32, 32, 32, 32] : List Nat) ++ (List.replicate 22 sig).flatten.take 1990 = half at e6 e7
      have hL : longL = half ++ [32, 32, 32, 32, 32, 32] := by rw [← hLL]; rfl
      generalize (List.map PV.str (l.set t longL)) = xs at *
      rw [hL] at e8
      generalize (List.replicate 22 sig).flatten = big at *
      have e4' : bMul (.str sig) (.int 22) (ST A cs p b R) = .ok (.str big) (ST A cs p b R) := e4
      simp only [s_law_11, evS_ite, evB_t, evE_v, evE_c, evE_bin, evE_sl, evE_fn, evE_bf, evEs_cons, evEs_nil, evO_no, evO_yes, evSs_cons, evSs_nil, evS_asg, evT_sub, sIf_is, kTru_is, cVar_is, cCst_is, cOp_is, cSl_is, cCall_is, cCons_is, cNil_is, cNone_is, cSome_is, toI_int, Cn_str, Cn_int, BO_add, BO_mul, BF_len, Out.bind_ok, lift_ok, tru_bl, if_true, sSeq_is, seqK_nx, sNext_is, sAsg_is, tSub_is,
        List.getElem?_cons_succ, List.getElem?_cons_zero, e4', bSl_str, e5, e6, e7, e3, e1, e8]
    · rcases List.mem_or_eq_of_mem_set hs with q | q
      · exact hg s q
      · rw [q]; exact long_good
end K00

namespace K00
open PySem PySem.Spec L2 Bm
variable {d : Nat} {S : Store}
theorem law_ok (ns : List Int) : ∃ S', callF prog (d + 4) 16 [.loc 0] [.frz (ns.map .int)] = .ok (.bl true) S' := by
  rw [callF_is (f := d_law.D) rfl rfl]
  have z0 : evS (callF prog (d + 3)) s_law_0 [some (.loc 0), none, none, none, none, none, none, none, none, none] [.frz (ns.map .int)] = .nx [some (.loc 0), some (.loc 2), none, none, none, none, none, none, none, none] (ST (.frz (ns.map .int)) ns 0 0 []) := by
    simp [s_law_0, fList, lstAt, sz]
  generalize hA : MO.frz (ns.map .int) = A at *
  have z1 : evS (callF prog (d + 3)) s_law_1 [some (.loc 0), some (.loc 2), none, none, none, none, none, none, none, none] (ST A ns 0 0 []) = .nx [some (.loc 0), some (.loc 2), some (.str sig), none, none, none, none, none, none, none] (ST A ns 0 0 []) := by
    have e := c_signs (d := d + 2) (S := ST A ns 0 0 [])
    simp [s_law_1, e]
  obtain ⟨t1, p1, b1, e2, f1, f2, f3⟩ := c_draw (d := d + 2) (A := A) (cs := ns) (R := []) (p := 0) (b := 0) (m := 2) (by decide) (by decide) (by decide) (by decide)
  obtain ⟨n, hn⟩ : ∃ n, ((t1 : Int) == 1) = n := ⟨_, rfl⟩
  have z2 : evS (callF prog (d + 3)) s_law_2 [some (.loc 0), some (.loc 2), some (.str sig), none, none, none, none, none, none, none] (ST A ns 0 0 []) = .nx [some (.loc 0), some (.loc 2), some (.str sig), some (.bl n), none, none, none, none, none, none] (ST A ns p1 b1 []) := by
    rw [← hn]
    simp only [s_law_2, evS_asg, evT_name, evE_cmp, evE_fn, evE_v, evE_c, evEs_cons, evEs_nil, QO_eq, sAsg_is, cOp_is, cCall_is, cCons_is, cNil_is, cVar_is, cCst_is, Cn_int, List.getElem?_cons_succ, List.getElem?_cons_zero, Out.bind_ok, lift_ok, e2, bEq_int, tName_is, List.set_cons_succ, List.set_cons_zero]
  have z3 : evS (callF prog (d + 3)) s_law_3 [some (.loc 0), some (.loc 2), some (.str sig), some (.bl n), none, none, none, none, none, none] (ST A ns p1 b1 []) = .nx [some (.loc 0), some (.loc 2), some (.str sig), some (.bl n), none, none, none, none, none, none] (ST A ns p1 b1 []) := by
    have e := c_classes (d := d) (S := ST A ns p1 b1 []) (n := n)
    have e' := bAdd_str (S := ST A ns p1 b1 []) (s := sig) (t := [10]) (by rw [sig_len, sz]; decide)
    simp only [s_law_3, evS_ite, evB_not, evB_t, evE_fn, evE_v, evE_c, evE_bin, BO_add, evEs_cons, evEs_nil, evSs_cons, evSs_nil, sIf_is, kNot_is, kTru_is, cCall_is, cCons_is, cOp_is, cNil_is, cVar_is, cCst_is, Cn_str, List.getElem?_cons_succ, List.getElem?_cons_zero, Out.bind_ok, lift_ok, e', e, tru_bl, Bool.not_true, Bool.false_eq_true, if_false, sNext_is]
  obtain ⟨t2, p2, b2, e4, f4, f5, f6⟩ := c_draw (d := d + 2) (A := A) (cs := ns) (R := []) (p := p1) (b := b1) (m := 7) f2 (by omega) (by decide) (by decide)
  obtain ⟨g, hg⟩ : ∃ n, ((t2 : Int) == 6) = n := ⟨_, rfl⟩
  have z4 : evS (callF prog (d + 3)) s_law_4 [some (.loc 0), some (.loc 2), some (.str sig), some (.bl n), none, none, none, none, none, none] (ST A ns p1 b1 []) = .nx [some (.loc 0), some (.loc 2), some (.str sig), some (.bl n), some (.bl g), none, none, none, none, none] (ST A ns p2 b2 []) := by
    rw [← hg]
    simp only [s_law_4, evS_asg, evT_name, evE_cmp, evE_fn, evE_v, evE_c, evEs_cons, evEs_nil, QO_eq, sAsg_is, cOp_is, cCall_is, cCons_is, cNil_is, cVar_is, cCst_is, Cn_int, List.getElem?_cons_succ, List.getElem?_cons_zero, Out.bind_ok, lift_ok, e4, bEq_int, tName_is, List.set_cons_succ, List.set_cons_zero]
  obtain ⟨t3, p3, b3, e5, f7, f8, f9⟩ := c_draw (d := d + 2) (A := A) (cs := ns) (R := []) (p := p2) (b := b2) (m := 11) f5 (by omega) (by decide) (by decide)
  obtain ⟨o, ho⟩ : ∃ n, ((t3 : Int) == 10) = n := ⟨_, rfl⟩
  have z5 : evS (callF prog (d + 3)) s_law_5 [some (.loc 0), some (.loc 2), some (.str sig), some (.bl n), some (.bl g), none, none, none, none, none] (ST A ns p2 b2 []) = .nx [some (.loc 0), some (.loc 2), some (.str sig), some (.bl n), some (.bl g), some (.bl o), none, none, none, none] (ST A ns p3 b3 []) := by
    rw [← ho]
    simp only [s_law_5, evS_asg, evT_name, evE_cmp, evE_fn, evE_v, evE_c, evEs_cons, evEs_nil, QO_eq, sAsg_is, cOp_is, cCall_is, cCons_is, cNil_is, cVar_is, cCst_is, Cn_int, List.getElem?_cons_succ, List.getElem?_cons_zero, Out.bind_ok, lift_ok, e5, bEq_int, tName_is, List.set_cons_succ, List.set_cons_zero]
  have z6 : evS (callF prog (d + 3)) s_law_6 [some (.loc 0), some (.loc 2), some (.str sig), some (.bl n), some (.bl g), some (.bl o), none, none, none, none] (ST A ns p3 b3 []) = .nx (ls8 (.bl n) (.bl g) (.bl o) 3 none none none) (ST A ns p3 b3 [.lst []]) := by
    simp [s_law_6, sz]
  obtain ⟨t4, p4, b4, e8, f10, f11, f12⟩ := c_draw (d := d + 2) (A := A) (cs := ns) (R := [.lst []]) (p := p3) (b := b3) (m := 30) f8 (by omega) (by decide) (by decide)
  obtain ⟨l, k, p5, b5, e9, f13, f14, f15, f16⟩ := l_lines (d := d + 1) (A := A) (cs := ns) (.bl n) (.bl g) (.bl o) none none (1 + t4) 0 p4 b4 [] none f11 (by omega) (by simp; omega)
  have z8 : evS (callF prog (d + 3)) s_law_8 (ls8 (.bl n) (.bl g) (.bl o) 3 none none none) (ST A ns p3 b3 [.lst []]) = .nx (ls8 (.bl n) (.bl g) (.bl o) 3 k none none) (ST A ns p5 b5 [.lst (l.map .str)]) := by
    have e := iRng_nat (n := 1 + t4) (ST A ns p4 b4 [.lst []]) (by omega)
    push_cast at e
    rw [List.map_nil, List.nil_append] at e9
    simp only [s_law_8, evS_for, evI_r1, evT_name, evE_bin, evE_c, evE_v, evE_fn, BO_add, evEs_cons, evEs_nil, sFor_is, cRng1_is, cCons_is, cNil_is, cOp_is, cCall_is, cCst_is, cVar_is, Cn_int, List.getElem?_cons_succ, List.getElem?_cons_zero, Out.bind_ok, lift_ok, e8, bAdd_int, e, e9]
  have hne : l ≠ [] := fun q => by rw [q] at f14; simp at f14; omega
  have hl : l.length ≤ 2000 := by omega
  -- 2000 lines
  have z10 : ∃ (j : Nat) (R : Store) (l2 : List (List Nat)), evS (callF prog (d + 3)) s_law_10 (ls8 (.bl n) (.bl g) (.bl o) 3 k none none) (ST A ns p5 b5 [.lst (l.map .str)]) = .nx (ls8 (.bl n) (.bl g) (.bl o) (j + 3) k none none) (ST A ns p5 b5 R) ∧
      R[j]? = some (.lst (l2.map .str)) ∧ l2 ≠ [] ∧ l2.length ≤ 2000 ∧ ∀ s ∈ l2, good s := by
    cases g with
    | false => exact ⟨0, [.lst (l.map .str)], l, by simp [s_law_10], rfl, hne, hl, f13⟩
    | true =>
      obtain ⟨l2, g1, g2, g3⟩ := l_great (d := d + 3) (A := A) (cs := ns) (p := p5) (b := b5) hne (.bl n) (.bl true) (.bl o) none none none 2000 0 [] (by decide) (by simp)
      refine ⟨1, [.lst (l.map .str), .lst (l2.map .str)], l2, ?_, rfl, fun q => by rw [q] at g2; simp at g2, by rw [g2]; simp, fun s hs => f13 s (g1 s hs)⟩
      have e := iRng_nat (n := 2000) (ST A ns p5 b5 [.lst (l.map .str)]) (by decide)
      have e' : iRng [.int 2000] (ST A ns p5 b5 [.lst (l.map .str)]) = .ok (rng 0 2000, []) (ST A ns p5 b5 [.lst (l.map .str)]) := e
      have g3' : lcL [] (.one 7) kYes (evE (callF prog (d + 3)) e_law_9) (rng 0 2000) [] (ls8 (.bl n) (.bl true) (.bl o) 3 none none none) (ST A ns p5 b5 [.lst (l.map .str)]) = .ok (.loc 4) (ST A ns p5 b5 [.lst (l.map .str), .lst (l2.map .str)]) := g3
      have w : wipeL (ls8 (.bl n) (.bl true) (.bl o) 3 k none none) [7] = ls8 (.bl n) (.bl true) (.bl o) 3 none none none := rfl
      simp only [s_law_10, evS_ite, evB_t, evE_v, evE_lc, evI_r1, evE_c, evK_yes, evSs_cons, evSs_nil, evS_asg, evT_name, sIf_is, kTru_is, cVar_is, List.getElem?_cons_succ, List.getElem?_cons_zero, Out.bind_ok, lift_ok, tru_bl, if_true, sSeq_is, sAsg_is, cLc_is, cRng1_is, cCons_is, cNil_is, cCst_is, Cn_int, e', w, g3', tName_is, seqK_nx, sNext_is, List.set_cons_succ, List.set_cons_zero]
  obtain ⟨j, R, l2, z10, hR, hne2, hl2, hg2⟩ := z10
  obtain ⟨l3, p6, b6, R2, z11, hR3, hne3, hl3, hg3⟩ := s_long (d := d + 2) (A := A) (cs := ns) (p := p5) (b := b5) hR hne2 hl2 hg2 f15 (by omega) (.bl n) (.bl g) o k none none
  have hx : lstAt (ST A ns p6 b6 R2) (j + 3) = some (l3.map .str) := by
    unfold lstAt
    simp [hR3]
  have hS3 : (ST A ns p6 b6 R2)[j + 3]? = some (.lst (l3.map .str)) := by simp [hR3]
  generalize ST A ns p6 b6 R2 = S3 at *
  obtain ⟨X1, e12⟩ := c_text (d := d + 1) (n := n) hx hne3 (fun s hs => (hg3 s hs).no10) (by have := tot_good hg3; omega)
  have z12 : evS (callF prog (d + 3)) s_law_12 (ls8 (.bl n) (.bl g) (.bl o) (j + 3) k none none) S3 = .nx (ls8 (.bl n) (.bl g) (.bl o) (j + 3) k none none) (S3 ++ X1) := by
    simp only [s_law_12, evS_ite, evB_not, evB_t, evE_fn, evE_v, evEs_cons, evEs_nil, evSs_cons, evSs_nil, sIf_is, kNot_is, kTru_is, cCall_is, cCons_is, cNil_is, cVar_is, List.getElem?_cons_succ, List.getElem?_cons_zero, Out.bind_ok, lift_ok, e12, tru_bl, Bool.not_true, Bool.false_eq_true, if_false, sNext_is]
  have hS4 : (S3 ++ X1)[j + 3]? = some (.lst (l3.map .str)) := by
    rw [List.getElem?_append_left (List.getElem?_eq_some_iff.mp hS3).1]
    exact hS3
  generalize S3 ++ X1 = S4 at *
  -- each line
  obtain ⟨six, h6⟩ : ∃ six : List (List Nat), six = [[], [32], [32, 32, 32, 32, 32], [32, 97], [126, 32], [32, 32, 97, 32, 98, 32, 32]] := ⟨_, rfl⟩
  obtain ⟨x14, e14⟩ := l_holds (d := d + 1) (n := n) (S := S4 ++ [.lst (six.map .str), .lst ((l3 ++ six).map .str)]) (a := S4.length + 1) (xs := (l3 ++ six).map .str) (by unfold lstAt; simp) (.bl g) (.bl o) (j + 3) k none (l3 ++ six) none
  have z14 : evS (callF prog (d + 3)) s_law_14 (ls8 (.bl n) (.bl g) (.bl o) (j + 3) k none none) S4 = .nx (ls8 (.bl n) (.bl g) (.bl o) (j + 3) k x14 none) (S4 ++ [.lst (six.map .str), .lst ((l3 ++ six).map .str)]) := by
    have e1 : bAdd (.loc (j + 3)) (.loc S4.length) (S4 ++ [.lst (six.map .str)]) = .ok (.loc (S4.length + 1)) (S4 ++ [.lst (six.map .str), .lst ((l3 ++ six).map .str)]) := by
      have h1 : (S4 ++ [MO.lst (six.map .str)])[j + 3]? = some (.lst (l3.map .str)) := by
        rw [List.getElem?_append_left (List.getElem?_eq_some_iff.mp hS4).1]
        exact hS4
      have h2 : (S4 ++ [MO.lst (six.map .str)])[S4.length]? = some (.lst (six.map .str)) := by simp
      have h3 : (l3.map PV.str).length + (six.map PV.str).length ≤ sizeLine := by rw [List.length_map, List.length_map, h6, sz]; simp; omega
      simp only [bAdd, h1, h2, h3, if_true]
      simp
    have e2 : iSeq (.loc (S4.length + 1)) (S4 ++ [.lst (six.map .str), .lst ((l3 ++ six).map .str)]) = .ok ((l3 ++ six).map .str, [(S4.length + 1, (l3 ++ six).map .str)]) (S4 ++ [.lst (six.map .str), .lst ((l3 ++ six).map .str)]) := iSeq_loc (by unfold lstAt; simp)
    have e3 : ([PV.str [], PV.str [32], PV.str [32, 32, 32, 32, 32], PV.str [32, 97], PV.str [126, 32], PV.str [32, 32, 97, 32, 98, 32, 32]] : List PV) = six.map .str := by rw [h6]; rfl
    have e4 : (six.map PV.str).length ≤ sizeLine := by rw [h6, sz]; decide
    simp only [s_law_14, evS_for, evI_seq, evT_name, evE_bin, evE_v, evE_lst, evE_c, BO_add, evEs_cons, evEs_nil, sFor_is, cSeq_is, cOp_is, cVar_is, cLst_is, cCons_is, cNil_is, cCst_is, Cn_str, List.getElem?_cons_succ, List.getElem?_cons_zero, Out.bind_ok, lift_ok, e3, e4, if_true, e1, e2, e14]
  generalize S4 ++ [MO.lst (six.map .str), MO.lst ((l3 ++ six).map .str)] = S5 at *
  -- two more texts
  obtain ⟨X2, e15⟩ := c_text (d := d + 1) (n := n) (S := S5 ++ [.lst [.str []]]) (a := S5.length) (l := [[]]) (by rw [lstAt_new]; rfl) (by simp) (by simp) (by decide)
  generalize hS6 : S5 ++ [MO.lst [.str []]] ++ X2 = S6 at *
  obtain ⟨X3, e16⟩ := c_text (d := d + 1) (n := n) (S := S6 ++ [.lst [.str [], .str []]]) (a := S6.length) (l := [[], []]) (by rw [lstAt_new]; rfl) (by simp) (by simp) (by decide)
  have z15 : evS (callF prog (d + 3)) s_law_15 (ls8 (.bl n) (.bl g) (.bl o) (j + 3) k x14 none) S5 = .nx (ls8 (.bl n) (.bl g) (.bl o) (j + 3) k x14 none) (S6 ++ [.lst [.str [], .str []]] ++ X3) := by
    have k1 : ([PV.str []] : List PV).length ≤ sizeLine := by rw [sz]; decide
    have k2 : ([PV.str [], PV.str []] : List PV).length ≤ sizeLine := by rw [sz]; decide
    simp only [s_law_15, evS_ite, evB_or, evB_not, evB_t, evE_fn, evE_v, evE_lst, evE_c, evEs_cons, evEs_nil, evSs_cons, evSs_nil, sIf_is, kOr_is, kNot_is, kTru_is, cCall_is, cCons_is, cNil_is, cVar_is, cLst_is, cCst_is, Cn_str, List.getElem?_cons_succ, List.getElem?_cons_zero, Out.bind_ok, lift_ok, k1, k2, if_true, e15, e16, tru_bl, Bool.not_true, Bool.false_eq_true, if_false, sNext_is]
  generalize S6 ++ [MO.lst [.str [], .str []]] ++ X3 = S7 at *
  have e17 := c_joined (d := d + 2) (S := S7) (l := []) (by decide)
  have z16 : evS (callF prog (d + 3)) s_law_16 (ls8 (.bl n) (.bl g) (.bl o) (j + 3) k x14 none) S7 = .nx (ls8 (.bl n) (.bl g) (.bl o) (j + 3) k x14 (some (.str []))) S7 := by
    simp [TL.joinL] at e17
    simp [s_law_16, e17]
  have z17 : evS (callF prog (d + 3)) s_law_17 (ls8 (.bl n) (.bl g) (.bl o) (j + 3) k x14 (some (.str []))) S7 = .rt (.bl true) S7 := by
    simp [s_law_17]
  refine ⟨S7, ?_⟩
  show outS (evSs (callF prog (d + 3)) b_law [some (.loc 0), none, none, none, none, none, none, none, none, none] [A]) = _
  simp only [b_law, evSs_cons, evSs_nil, sSeq_is, z0, z1, z2, z3, z4, z5, z6, z8, z10, z11, z12, z14, z15, z16, z17, seqK_nx, seqK_rt, outS_rt]
theorem hlaw : ∀ ns : List Int, ns.length ≤ 63 → (∀ z ∈ ns, Builtin.Int.intBits z ≤ 1048576) → ∃ S', callF prog 40 16 [.loc 0] [.frz (ns.map .int)] = .ok (.bl true) S' := fun ns _ _ => law_ok (d := 36) ns
end K00

open PySem PySem.W PyProof.Rows in
set_option maxRecDepth 100000 in
set_option maxHeartbeats 0 in
theorem PySem.Challenge.cw_baremarks_k00_classes_lines_holds : PySem.Challenge.rw_baremarks_k00_classes_lines.Holds := by
  w_on; o_law; k_head; (case hw => w_witness2)
  k_fill
  refine Bm.walk (cls := fun _ => 0) (D := K00.prog) (n := 40) (i := 16) (l := PySem.Challenge.rw_baremarks_k00_classes_lines) rfl rfl ⟨rfl, by decide, by decide⟩ (fun w h Y => PySem.W.kIn_of Y) ?hL K00.hlaw ?F
  case hL => intro w; kernel_rfl
  case F =>
    intro w mg fa h KX G hmg
    refine' K00.all_mk KX G hmg (Bm.wr_mk KX G ?a0 ?l0 ?c0 ?k0) (Bm.wr_mk KX G ?a1 ?l1 ?c1 ?k1) (Bm.wr_mk KX G ?a2 ?l2 ?c2 ?k2) (Bm.wr_mk KX G ?a3 ?l3 ?c3 ?k3) (Bm.wr_mk KX G ?a4 ?l4 ?c4 ?k4) (Bm.wr_mk KX G ?a5 ?l5 ?c5 ?k5) (Bm.wr_mk KX G ?a6 ?l6 ?c6 ?k6) (Bm.wr_mk KX G ?a7 ?l7 ?c7 ?k7) (Bm.wr_mk KX G ?a8 ?l8 ?c8 ?k8) (Bm.wr_mk KX G ?a9 ?l9 ?c9 ?k9) (Bm.wr_mk KX G ?a10 ?l10 ?c10 ?k10) (Bm.wr_mk KX G ?a11 ?l11 ?c11 ?k11) (Bm.wr_mk KX G ?a12 ?l12 ?c12 ?k12) (Bm.wr_mk KX G ?a13 ?l13 ?c13 ?k13) (Bm.wr_mk KX G ?a14 ?l14 ?c14 ?k14) (Bm.wr_mk KX G ?a15 ?l15 ?c15 ?k15) (Bm.wr_mk KX G ?a16 ?l16 ?c16 ?k16) ?z0 ?z1 ?z2 ?z3 ?z4 ?z5 ?z6 ?z7 ?z8 ?z9 ?z10 ?z11 ?z12
    (case a0 => k_is)
    (case l0 => k_is)
    (case c0 => k_is)
    (case k0 => k_is)
    (case a1 => k_is)
    (case l1 => k_is)
    (case c1 => k_is)
    (case k1 => k_is)
    (case a2 => k_is)
    (case l2 => k_is)
    (case c2 => k_is)
    (case k2 => k_is)
    (case a3 => k_is)
    (case l3 => k_is)
    (case c3 => k_is)
    (case k3 => k_is)
    (case a4 => k_is)
    (case l4 => k_is)
    (case c4 => k_is)
    (case k4 => k_is)
    (case a5 => k_is)
    (case l5 => k_is)
    (case c5 => k_is)
    (case k5 => k_is)
    (case a6 => k_is)
    (case l6 => k_is)
    (case c6 => k_is)
    (case k6 => k_is)
    (case a7 => k_is)
    (case l7 => k_is)
    (case c7 => k_is)
    (case k7 => k_is)
    (case a8 => k_is)
    (case l8 => k_is)
    (case c8 => k_is)
    (case k8 => k_is)
    (case a9 => k_is)
    (case l9 => k_is)
    (case c9 => k_is)
    (case k9 => k_is)
    (case a10 => k_is)
    (case l10 => k_is)
    (case c10 => k_is)
    (case k10 => k_is)
    (case a11 => k_is)
    (case l11 => k_is)
    (case c11 => k_is)
    (case k11 => k_is)
    (case a12 => k_is)
    (case l12 => k_is)
    (case c12 => k_is)
    (case k12 => k_is)
    (case a13 => k_is)
    (case l13 => k_is)
    (case c13 => k_is)
    (case k13 => k_is)
    (case a14 => k_is)
    (case l14 => k_is)
    (case c14 => k_is)
    (case k14 => k_is)
    (case a15 => k_is)
    (case l15 => k_is)
    (case c15 => k_is)
    (case k15 => k_is)
    (case a16 => k_is)
    (case l16 => k_is)
    (case c16 => k_is)
    (case k16 => k_is)
    (case z0 => k_is)
    (case z1 => k_is)
    (case z2 => k_is)
    (case z3 => k_is)
    (case z4 => k_is)
    (case z5 => k_is)
    (case z6 => k_is)
    (case z7 => k_is)
    (case z8 => k_is)
    (case z9 => k_is)
    (case z10 => k_is)
    (case z11 => k_is)
    (case z12 => k_is)

