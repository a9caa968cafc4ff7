import PyProof.Rows.All
import Wide.All
import OpenK.AllK
import Wide.FinOn
import HandS.ForMost
import PyProof.LongRange
import HandS.SetFor
import HandS.SortInts
import HandS.IsInst
import HandS.Flow
import HandS.Star
import HandS.CallSlots
import HandS.ExcOwn
import HandS.Style
import HandS.Comp
import HandS.TupAny
import HandS.Deep
import HandS.Wide
import HandS.RaiseMore
import HandS.Conv
import KE.KTupSum
import HandS.FStrTup
import HandS.Zip
import HandS.Iter
import HandS.Codes
import HandS.Text
import HandS.Words
import HandS.Ends
import PySem.Challenge.RW_allwidths_k10_least_widths_for_lines
set_option Elab.async false
set_option linter.all false
set_option maxRecDepth 100000
set_option maxHeartbeats 4000000
namespace Mini
open PySem PySem.Spec PyProof.Rows L2

/-! values: immutable data, and trees that one holder owns -/
inductive D where
  | non | bl (b : Bool) | int (i : Int) | str (s : Str)
  | tup (xs : List D) | lst (xs : List D) | frl (xs : List D)
  | dK (ks : List Key) (xs : List D) | dT (ks : List (List Key)) (xs : List D)
  | obj (c : Nat) (ns : List Str) (xs : List D)
inductive M where
  | imm (d : D)
  | lst (ms : List M)
  | dK (ks : List Key) (ms : List M) | dT (ks : List (List Key)) (ms : List M)
  | obj (c : Nat) (ns : List Str) (ms : List M)

mutual
def frz : M → D
  | .imm d => d
  | .lst ms => .lst (frzs ms)
  | .dK ks ms => .dK ks (frzs ms)
  | .dT ks ms => .dT ks (frzs ms)
  | .obj c ns ms => .obj c ns (frzs ms)
def frzs : List M → List D
  | [] => []
  | m :: ms => frz m :: frzs ms
end

/-- what of the world the values lean on: the written part, the classes by number -/
structure Gk where
  K : PySem.W.Frag
  ca : Nat → Addr

mutual
def RepD (G : Gk) (Hf : Hp) : D → V → Prop
  | .non, v => v = .non
  | .bl b, v => v = .bl b
  | .int i, v => v = .int i
  | .str s, v => v = .str s
  | .tup ds, v => ∃ a vs, v = .ref a ∧ SqT G.K Hf a vs ∧ RepDs G Hf ds vs
  | .lst ds, v => ∃ a vs, v = .ref a ∧ Hf a = some (.lst vs) ∧ RepDs G Hf ds vs
  | .frl ds, v => ∃ a vs, v = .ref a ∧ SqL G.K Hf a vs ∧ RepDs G Hf ds vs
  | .dK ks ds, v => ∃ a vs, v = .ref a ∧ Hf a = some (.dK (ks.zip vs)) ∧ ks.length = vs.length ∧ RepDs G Hf ds vs
  | .dT ks ds, v => ∃ a vs, v = .ref a ∧ Hf a = some (.dT (ks.zip vs)) ∧ ks.length = vs.length ∧ RepDs G Hf ds vs
  | .obj c ns ds, v => ∃ a dx vs, v = .ref a ∧ Hf a = some (.ins (G.ca c) dx (ns.zip vs)) ∧ ns.length = vs.length ∧ RepDs G Hf ds vs
def RepDs (G : Gk) (Hf : Hp) : List D → List V → Prop
  | [], vs => vs = []
  | d :: ds, vs => ∃ v vr, vs = v :: vr ∧ RepD G Hf d v ∧ RepDs G Hf ds vr
end

theorem same_sqT {K : PySem.W.Frag} {H H' : Hp} (e : Same H H') {a : Addr} {xs : List V} (h : SqT K H a xs) : SqT K H' a xs := by
  rcases h with (h | ⟨o, h⟩) | h
  · exact .inl (.inl (e _ _ h))
  · exact .inl (.inr ⟨o, e _ _ h⟩)
  · exact .inr h

mutual
theorem RepD.mono {G : Gk} {H H' : Hp} (e : Same H H') : ∀ (d : D) (v : V), RepD G H d v → RepD G H' d v
  | .non, v, h => h
  | .bl b, v, h => h
  | .int i, v, h => h
  | .str s, v, h => h
  | .tup ds, v, ⟨a, vs, e1, h1, h2⟩ => ⟨a, vs, e1, same_sqT e h1, RepDs.mono e ds vs h2⟩
  | .lst ds, v, ⟨a, vs, e1, h1, h2⟩ => ⟨a, vs, e1, e _ _ h1, RepDs.mono e ds vs h2⟩
  | .frl ds, v, ⟨a, vs, e1, h1, h2⟩ => ⟨a, vs, e1, e.seq h1, RepDs.mono e ds vs h2⟩
  | .dK ks ds, v, ⟨a, vs, e1, h1, hl, h2⟩ => ⟨a, vs, e1, e _ _ h1, hl, RepDs.mono e ds vs h2⟩
  | .dT ks ds, v, ⟨a, vs, e1, h1, hl, h2⟩ => ⟨a, vs, e1, e _ _ h1, hl, RepDs.mono e ds vs h2⟩
  | .obj c ns ds, v, ⟨a, dx, vs, e1, h1, hl, h2⟩ => ⟨a, dx, vs, e1, e _ _ h1, hl, RepDs.mono e ds vs h2⟩
theorem RepDs.mono {G : Gk} {H H' : Hp} (e : Same H H') : ∀ (ds : List D) (vs : List V), RepDs G H ds vs → RepDs G H' ds vs
  | [], vs, h => h
  | d :: ds, vs, ⟨v, vr, e1, h1, h2⟩ => ⟨v, vr, e1, RepD.mono e d v h1, RepDs.mono e ds vr h2⟩
end
theorem RepDs.length {G : Gk} {H : Hp} : ∀ {ds : List D} {vs : List V}, RepDs G H ds vs → vs.length = ds.length
  | [], vs, h => by have h : vs = [] := h; rw [h]; rfl
  | d :: ds, vs, ⟨v, vr, e1, h1, h2⟩ => by rw [e1, List.length_cons, List.length_cons, RepDs.length h2]
theorem RepDs.get {G : Gk} {H : Hp} : ∀ {ds : List D} {vs : List V} {i : Nat} {d : D}, RepDs G H ds vs → ds[i]? = some d → ∃ v, vs[i]? = some v ∧ RepD G H d v
  | [], vs, i, d, h, e => by simp at e
  | d :: ds, vs, 0, d', ⟨v, vr, e1, h1, h2⟩, e => by
    subst e1
    have : d = d' := by simpa using e
    subst this
    exact ⟨v, by simp, h1⟩
  | d :: ds, vs, i + 1, d', ⟨v, vr, e1, h1, h2⟩, e => by
    subst e1
    obtain ⟨w, hw, r⟩ := RepDs.get (i := i) h2 (by simpa using e)
    exact ⟨w, by simpa using hw, r⟩
theorem RepDs.append {G : Gk} {H : Hp} : ∀ {ds es : List D} {vs ws : List V}, RepDs G H ds vs → RepDs G H es ws → RepDs G H (ds ++ es) (vs ++ ws)
  | [], es, vs, ws, h, h' => by have h : vs = [] := h; rw [h]; exact h'
  | d :: ds, es, vs, ws, ⟨v, vr, e1, h1, h2⟩, h' => by
    subst e1
    exact ⟨v, vr ++ ws, rfl, h1, RepDs.append h2 h'⟩
theorem RepDs.take {G : Gk} {H : Hp} : ∀ {ds : List D} {vs : List V} (n : Nat), RepDs G H ds vs → RepDs G H (ds.take n) (vs.take n)
  | ds, vs, 0, h => by simp [RepDs]
  | [], vs, n + 1, h => by have h : vs = [] := h; rw [h]; exact rfl
  | d :: ds, vs, n + 1, ⟨v, vr, e1, h1, h2⟩ => by
    subst e1
    exact ⟨v, vr.take n, rfl, h1, RepDs.take n h2⟩
theorem RepDs.drop {G : Gk} {H : Hp} : ∀ {ds : List D} {vs : List V} (n : Nat), RepDs G H ds vs → RepDs G H (ds.drop n) (vs.drop n)
  | ds, vs, 0, h => h
  | [], vs, n + 1, h => by have h : vs = [] := h; rw [h]; exact rfl
  | d :: ds, vs, n + 1, ⟨v, vr, e1, h1, h2⟩ => by
    subst e1
    exact RepDs.drop n h2

/-! what is owned: Hf, the frozen part, never changes; S, the addresses of a tree's own nodes -/
mutual
def RepM (G : Gk) (Hf H : Hp) : M → V → List Addr → Prop
  | .imm d, v, S => S = [] ∧ RepD G Hf d v
  | .lst ms, v, S => ∃ a vs S', v = .ref a ∧ S = a :: S' ∧ H a = some (.lst vs) ∧ RepMs G Hf H ms vs S'
  | .dK ks ms, v, S => ∃ a vs S', v = .ref a ∧ S = a :: S' ∧ H a = some (.dK (ks.zip vs)) ∧ ks.length = vs.length ∧ RepMs G Hf H ms vs S'
  | .dT ks ms, v, S => ∃ a vs S', v = .ref a ∧ S = a :: S' ∧ H a = some (.dT (ks.zip vs)) ∧ ks.length = vs.length ∧ RepMs G Hf H ms vs S'
  | .obj c ns ms, v, S => ∃ a dx vs S', v = .ref a ∧ S = a :: S' ∧ H a = some (.ins (G.ca c) dx (ns.zip vs)) ∧ ns.length = vs.length ∧ RepMs G Hf H ms vs S'
def RepMs (G : Gk) (Hf H : Hp) : List M → List V → List Addr → Prop
  | [], vs, S => vs = [] ∧ S = []
  | m :: ms, vs, S => ∃ v vr S1 S2, vs = v :: vr ∧ S = S1 ++ S2 ∧ RepM G Hf H m v S1 ∧ RepMs G Hf H ms vr S2
end
mutual
theorem RepM.mono {G : Gk} {Hf Hf' H H' : Hp} (e : Same Hf Hf') : ∀ (m : M) (v : V) (S : List Addr), (∀ a ∈ S, H' a = H a) → RepM G Hf H m v S → RepM G Hf' H' m v S
  | .imm d, v, S, k, ⟨h1, h2⟩ => ⟨h1, RepD.mono e d v h2⟩
  | .lst ms, v, S, k, ⟨a, vs, S', e1, e2, h1, h2⟩ => by
    subst e2
    exact ⟨a, vs, S', e1, rfl, (k a List.mem_cons_self).trans h1, RepMs.mono e ms vs S' (fun b hb => k b (List.mem_cons_of_mem _ hb)) h2⟩
  | .dK ks ms, v, S, k, ⟨a, vs, S', e1, e2, h1, hl, h2⟩ => by
    subst e2
    exact ⟨a, vs, S', e1, rfl, (k a List.mem_cons_self).trans h1, hl, RepMs.mono e ms vs S' (fun b hb => k b (List.mem_cons_of_mem _ hb)) h2⟩
  | .dT ks ms, v, S, k, ⟨a, vs, S', e1, e2, h1, hl, h2⟩ => by
    subst e2
    exact ⟨a, vs, S', e1, rfl, (k a List.mem_cons_self).trans h1, hl, RepMs.mono e ms vs S' (fun b hb => k b (List.mem_cons_of_mem _ hb)) h2⟩
  | .obj c ns ms, v, S, k, ⟨a, dx, vs, S', e1, e2, h1, hl, h2⟩ => by
    subst e2
    exact ⟨a, dx, vs, S', e1, rfl, (k a List.mem_cons_self).trans h1, hl, RepMs.mono e ms vs S' (fun b hb => k b (List.mem_cons_of_mem _ hb)) h2⟩
theorem RepMs.mono {G : Gk} {Hf Hf' H H' : Hp} (e : Same Hf Hf') : ∀ (ms : List M) (vs : List V) (S : List Addr), (∀ a ∈ S, H' a = H a) → RepMs G Hf H ms vs S → RepMs G Hf' H' ms vs S
  | [], vs, S, k, h => h
  | m :: ms, vs, S, k, ⟨v, vr, S1, S2, e1, e2, h1, h2⟩ => by
    subst e2
    exact ⟨v, vr, S1, S2, e1, rfl, RepM.mono e m v S1 (fun b hb => k b (List.mem_append_left _ hb)) h1, RepMs.mono e ms vr S2 (fun b hb => k b (List.mem_append_right _ hb)) h2⟩
end
mutual
/-- a tree that is frozen: its own nodes stand in the frozen part too -/
theorem RepM.frz {G : Gk} {Hf Hf' H : Hp} (e : Same Hf Hf') : ∀ (m : M) (v : V) (S : List Addr), (∀ a ∈ S, ∀ o, H a = some o → Hf' a = some o) → RepM G Hf H m v S → RepD G Hf' (frz m) v
  | .imm d, v, S, k, ⟨h1, h2⟩ => RepD.mono e d v h2
  | .lst ms, v, S, k, ⟨a, vs, S', e1, e2, h1, h2⟩ => by
    subst e2
    exact ⟨a, vs, e1, k a List.mem_cons_self _ h1, RepMs.frz e ms vs S' (fun b hb => k b (List.mem_cons_of_mem _ hb)) h2⟩
  | .dK ks ms, v, S, k, ⟨a, vs, S', e1, e2, h1, hl, h2⟩ => by
    subst e2
    exact ⟨a, vs, e1, k a List.mem_cons_self _ h1, hl, RepMs.frz e ms vs S' (fun b hb => k b (List.mem_cons_of_mem _ hb)) h2⟩
  | .dT ks ms, v, S, k, ⟨a, vs, S', e1, e2, h1, hl, h2⟩ => by
    subst e2
    exact ⟨a, vs, e1, k a List.mem_cons_self _ h1, hl, RepMs.frz e ms vs S' (fun b hb => k b (List.mem_cons_of_mem _ hb)) h2⟩
  | .obj c ns ms, v, S, k, ⟨a, dx, vs, S', e1, e2, h1, hl, h2⟩ => by
    subst e2
    exact ⟨a, dx, vs, e1, k a List.mem_cons_self _ h1, hl, RepMs.frz e ms vs S' (fun b hb => k b (List.mem_cons_of_mem _ hb)) h2⟩
theorem RepMs.frz {G : Gk} {Hf Hf' H : Hp} (e : Same Hf Hf') : ∀ (ms : List M) (vs : List V) (S : List Addr), (∀ a ∈ S, ∀ o, H a = some o → Hf' a = some o) → RepMs G Hf H ms vs S → RepDs G Hf' (frzs ms) vs
  | [], vs, S, k, h => h.1
  | m :: ms, vs, S, k, ⟨v, vr, S1, S2, e1, e2, h1, h2⟩ => by
    subst e2
    exact ⟨v, vr, e1, RepM.frz e m v S1 (fun b hb => k b (List.mem_append_left _ hb)) h1, RepMs.frz e ms vr S2 (fun b hb => k b (List.mem_append_right _ hb)) h2⟩
end
mutual
/-- every own node is tracked -/
theorem RepM.there {G : Gk} {Hf H : Hp} : ∀ (m : M) (v : V) (S : List Addr), RepM G Hf H m v S → ∀ a ∈ S, ∃ o, H a = some o
  | .imm d, v, S, ⟨h1, h2⟩ => by subst h1; simp
  | .lst ms, v, S, ⟨a, vs, S', e1, e2, h1, h2⟩ => by
    subst e2
    intro b hb
    rcases List.mem_cons.mp hb with rfl | hb
    · exact ⟨_, h1⟩
    · exact RepMs.there ms vs S' h2 b hb
  | .dK ks ms, v, S, ⟨a, vs, S', e1, e2, h1, hl, h2⟩ => by
    subst e2
    intro b hb
    rcases List.mem_cons.mp hb with rfl | hb
    · exact ⟨_, h1⟩
    · exact RepMs.there ms vs S' h2 b hb
  | .dT ks ms, v, S, ⟨a, vs, S', e1, e2, h1, hl, h2⟩ => by
    subst e2
    intro b hb
    rcases List.mem_cons.mp hb with rfl | hb
    · exact ⟨_, h1⟩
    · exact RepMs.there ms vs S' h2 b hb
  | .obj c ns ms, v, S, ⟨a, dx, vs, S', e1, e2, h1, hl, h2⟩ => by
    subst e2
    intro b hb
    rcases List.mem_cons.mp hb with rfl | hb
    · exact ⟨_, h1⟩
    · exact RepMs.there ms vs S' h2 b hb
theorem RepMs.there {G : Gk} {Hf H : Hp} : ∀ (ms : List M) (vs : List V) (S : List Addr), RepMs G Hf H ms vs S → ∀ a ∈ S, ∃ o, H a = some o
  | [], vs, S, h => by rw [h.2]; simp
  | m :: ms, vs, S, ⟨v, vr, S1, S2, e1, e2, h1, h2⟩ => by
    subst e2
    intro b hb
    rcases List.mem_append.mp hb with hb | hb
    · exact RepM.there m v S1 h1 b hb
    · exact RepMs.there ms vr S2 h2 b hb
end
theorem RepMs.length {G : Gk} {Hf H : Hp} : ∀ {ms : List M} {vs : List V} {S : List Addr}, RepMs G Hf H ms vs S → vs.length = ms.length
  | [], vs, S, h => by rw [h.1]; rfl
  | m :: ms, vs, S, ⟨v, vr, S1, S2, e1, e2, h1, h2⟩ => by rw [e1, List.length_cons, List.length_cons, RepMs.length h2]

/-! a row of holders -/
abbrev Cells := List (V × M)
def RepL (G : Gk) (Hf H : Hp) (L : Cells) (S : List Addr) : Prop := RepMs G Hf H (L.map (·.2)) (L.map (·.1)) S
theorem RepL.nil {G : Gk} {Hf H : Hp} : RepL G Hf H [] [] := ⟨rfl, rfl⟩
theorem RepL.cons_iff {G : Gk} {Hf H : Hp} {v : V} {m : M} {L : Cells} {S : List Addr} : RepL G Hf H ((v, m) :: L) S ↔ ∃ S1 S2, S = S1 ++ S2 ∧ RepM G Hf H m v S1 ∧ RepL G Hf H L S2 := by
  constructor
  · rintro ⟨v', vr, S1, S2, e1, e2, h1, h2⟩
    obtain ⟨rfl, rfl⟩ := List.cons.inj e1
    exact ⟨S1, S2, e2, h1, h2⟩
  · rintro ⟨S1, S2, e2, h1, h2⟩
    exact ⟨v, _, S1, S2, rfl, e2, h1, h2⟩
theorem RepL.perm {G : Gk} {Hf H : Hp} {L L' : Cells} (p : L.Perm L') : ∀ {S}, RepL G Hf H L S → ∃ S', S.Perm S' ∧ RepL G Hf H L' S' := by
  induction p with
  | nil => exact fun h => ⟨_, .refl _, h⟩
  | cons x _ ih =>
    intro S h
    obtain ⟨S1, S2, rfl, h1, h2⟩ := RepL.cons_iff.mp h
    obtain ⟨S', p, h3⟩ := ih h2
    exact ⟨S1 ++ S', p.append_left _, RepL.cons_iff.mpr ⟨S1, S', rfl, h1, h3⟩⟩
  | swap x y l =>
    intro S h
    obtain ⟨S1, S2, rfl, h1, h2⟩ := RepL.cons_iff.mp h
    obtain ⟨S3, S4, rfl, h3, h4⟩ := RepL.cons_iff.mp h2
    refine ⟨S3 ++ (S1 ++ S4), ?_, RepL.cons_iff.mpr ⟨S3, _, rfl, h3, RepL.cons_iff.mpr ⟨S1, S4, rfl, h1, h4⟩⟩⟩
    rw [← List.append_assoc, ← List.append_assoc]
    exact List.perm_append_comm.append_right _
  | trans _ _ ih1 ih2 =>
    intro S h
    obtain ⟨S', p1, h1⟩ := ih1 h
    obtain ⟨S'', p2, h2⟩ := ih2 h1
    exact ⟨S'', p1.trans p2, h2⟩
theorem RepMs.append_iff {G : Gk} {Hf H : Hp} : ∀ {ms ns : List M} {vs ws : List V} {S : List Addr}, vs.length = ms.length → (RepMs G Hf H (ms ++ ns) (vs ++ ws) S ↔ ∃ S1 S2, S = S1 ++ S2 ∧ RepMs G Hf H ms vs S1 ∧ RepMs G Hf H ns ws S2)
  | [], ns, vs, ws, S, hl => by
    have : vs = [] := List.eq_nil_of_length_eq_zero hl
    subst this
    constructor
    · intro h; exact ⟨[], S, rfl, ⟨rfl, rfl⟩, h⟩
    · rintro ⟨S1, S2, rfl, ⟨_, rfl⟩, h⟩; exact h
  | m :: ms, ns, [], ws, S, hl => by simp at hl
  | m :: ms, ns, v :: vs, ws, S, hl => by
    have hl' : vs.length = ms.length := by simpa using hl
    constructor
    · rintro ⟨v', vr, S1, S2, e1, rfl, h1, h2⟩
      obtain ⟨rfl, rfl⟩ := List.cons.inj e1
      obtain ⟨S3, S4, rfl, h3, h4⟩ := (RepMs.append_iff hl').mp h2
      exact ⟨S1 ++ S3, S4, by rw [List.append_assoc], ⟨v, vs, S1, S3, rfl, rfl, h1, h3⟩, h4⟩
    · rintro ⟨S1, S2, rfl, ⟨v', vr, S3, S4, e1, rfl, h1, h2⟩, h4⟩
      obtain ⟨rfl, rfl⟩ := List.cons.inj e1
      exact ⟨v, vs ++ ws, S3, S4 ++ S2, rfl, by rw [List.append_assoc], h1, (RepMs.append_iff hl').mpr ⟨S4, S2, rfl, h2, h4⟩⟩
theorem RepL.append_iff {G : Gk} {Hf H : Hp} {L L' : Cells} {S : List Addr} : RepL G Hf H (L ++ L') S ↔ ∃ S1 S2, S = S1 ++ S2 ∧ RepL G Hf H L S1 ∧ RepL G Hf H L' S2 := by
  unfold RepL
  rw [List.map_append, List.map_append]
  exact RepMs.append_iff (by simp)
theorem RepL.mono {G : Gk} {Hf Hf' H H' : Hp} (e : Same Hf Hf') {L : Cells} {S : List Addr} (k : ∀ a ∈ S, H' a = H a) (h : RepL G Hf H L S) : RepL G Hf' H' L S := RepMs.mono e _ _ S k h
theorem RepL.there {G : Gk} {Hf H : Hp} {L : Cells} {S : List Addr} (h : RepL G Hf H L S) : ∀ a ∈ S, ∃ o, H a = some o := RepMs.there _ _ S h

/-- the holders' trees stand apart, and apart from the frozen part -/
def Own (G : Gk) (Hf H : Hp) (L : Cells) : Prop := Same Hf H ∧ ∃ S, RepL G Hf H L S ∧ S.Nodup ∧ ∀ a ∈ S, Hf a = none
section
variable {G : Gk} {Hf Hf' H H' : Hp} {L L' : Cells} {v : V} {m : M} {d : D}
theorem Own.perm (p : L.Perm L') (h : Own G Hf H L) : Own G Hf H L' := by
  obtain ⟨e, S, h1, h2, h3⟩ := h
  obtain ⟨S', q, h4⟩ := RepL.perm p h1
  exact ⟨e, S', h4, q.nodup_iff.mp h2, fun a ha => h3 a (q.mem_iff.mpr ha)⟩
theorem Own.tail (h : Own G Hf H ((v, m) :: L)) : Own G Hf H L := by
  obtain ⟨e, S, h1, h2, h3⟩ := h
  obtain ⟨S1, S2, rfl, _, h5⟩ := RepL.cons_iff.mp h1
  exact ⟨e, S2, h5, (List.nodup_append.mp h2).2.1, fun a ha => h3 a (List.mem_append_right _ ha)⟩
theorem Own.right (h : Own G Hf H (L ++ L')) : Own G Hf H L' := by
  obtain ⟨e, S, h1, h2, h3⟩ := h
  obtain ⟨S1, S2, rfl, _, h5⟩ := RepL.append_iff.mp h1
  exact ⟨e, S2, h5, (List.nodup_append.mp h2).2.1, fun a ha => h3 a (List.mem_append_right _ ha)⟩
theorem Own.left (h : Own G Hf H (L ++ L')) : Own G Hf H L := Own.right (Own.perm List.perm_append_comm h)
theorem Own.imm (h : Own G Hf H L) (r : RepD G Hf d v) : Own G Hf H ((v, .imm d) :: L) := by
  obtain ⟨e, S, h1, h2, h3⟩ := h
  exact ⟨e, S, RepL.cons_iff.mpr ⟨[], S, rfl, ⟨rfl, r⟩, h1⟩, h2, h3⟩
theorem Own.head (h : Own G Hf H ((v, .imm d) :: L)) : RepD G Hf d v := by
  obtain ⟨e, S, h1, h2, h3⟩ := h
  obtain ⟨S1, S2, rfl, h4, _⟩ := RepL.cons_iff.mp h1
  exact h4.2
/-- the heap grew: all stays -/
theorem Own.grow (h : Own G Hf H L) (k : Same H H') : Own G Hf H' L := by
  obtain ⟨e, S, h1, h2, h3⟩ := h
  refine ⟨e.trans k, S, h1.mono (Same.refl _) fun a ha => ?_, h2, h3⟩
  obtain ⟨o, ho⟩ := h1.there a ha
  rw [ho, k a o ho]
/-- the head's tree as it reads now -/
theorem Own.view (h : Own G Hf H ((v, m) :: L)) : RepD G H (frz m) v := by
  obtain ⟨e, S, h1, h2, h3⟩ := h
  obtain ⟨S1, S2, rfl, h4, _⟩ := RepL.cons_iff.mp h1
  exact RepM.frz e m v S1 (fun _ _ _ q => q) h4
theorem same_upd {H : Hp} {p : Addr} {o : HO} (h : H p = none) : Same H (upd H p o) := fun b x e => by
  rw [upd_ne (ne_of_none e h)]
  exact e
theorem Same.upds {Hf H : Hp} {p : Addr} {o : HO} (e : Same Hf H) (h : Hf p = none) : Same (upd Hf p o) (upd H p o) := fun b x q => by
  by_cases hb : b = p
  · subst hb
    rw [upd_same] at q ⊢
    exact q
  · rw [upd_ne hb] at q ⊢
    exact e b x q
/-- the head's tree is frozen -/
theorem Own.freeze (h : Own G Hf H ((v, m) :: L)) : ∃ Hf', Same Hf Hf' ∧ Own G Hf' H ((v, .imm (frz m)) :: L) := by
  obtain ⟨e, S, h1, h2, h3⟩ := h
  obtain ⟨S1, S2, rfl, h4, h5⟩ := RepL.cons_iff.mp h1
  obtain ⟨n1, n2, n3⟩ := List.nodup_append.mp h2
  have k1 : Same Hf (fun a => if a ∈ S1 then H a else Hf a) := fun b x q => by
    show (if b ∈ S1 then H b else Hf b) = some x
    by_cases hb : b ∈ S1
    · have := h3 b (List.mem_append_left _ hb)
      rw [q] at this
      cases this
    · rw [if_neg hb]; exact q
  refine ⟨fun a => if a ∈ S1 then H a else Hf a, k1, fun b x q => ?_, S2, RepL.cons_iff.mpr ⟨[], S2, rfl, ⟨rfl, ?_⟩, h5.mono k1 fun _ _ => rfl⟩, n2, fun a ha => ?_⟩
  · have q : (if b ∈ S1 then H b else Hf b) = some x := q
    by_cases hb : b ∈ S1
    · rw [if_pos hb] at q; exact q
    · rw [if_neg hb] at q; exact e b x q
  · exact RepM.frz k1 m v S1 (fun a ha o q => by show (if a ∈ S1 then H a else Hf a) = some o; rw [if_pos ha]; exact q) h4
  · show (if a ∈ S1 then H a else Hf a) = none
    rw [if_neg fun z => n3 a z a ha rfl]
    exact h3 a (List.mem_append_right _ ha)
/-- a new frozen object -/
theorem Own.new {p : Addr} {o : HO} (h : Own G Hf H L) (hp : H p = none) : Hf p = none ∧ Same Hf (upd Hf p o) ∧ Own G (upd Hf p o) (upd H p o) L := by
  obtain ⟨e, S, h1, h2, h3⟩ := h
  have hf : Hf p = none := by
    cases q : Hf p with
    | none => rfl
    | some x => rw [e p x q] at hp; cases hp
  have np : ∀ a ∈ S, a ≠ p := fun a ha z => by
    obtain ⟨o', ho⟩ := h1.there a ha
    rw [z, hp] at ho
    cases ho
  refine ⟨hf, same_upd hf, Same.upds e hf, S, h1.mono (same_upd hf) fun a ha => upd_ne (np a ha), h2, fun a ha => ?_⟩
  rw [upd_ne (np a ha)]
  exact h3 a ha
/-- a new list of what the first holders hold -/
theorem Own.newLst {p : Addr} {vs : List V} {ms : List M} (h : Own G Hf H (vs.zip ms ++ L)) (hl : vs.length = ms.length) (hp : H p = none) : Own G Hf (upd H p (.lst vs)) ((.ref p, .lst ms) :: L) := by
  obtain ⟨e, S, h1, h2, h3⟩ := h
  obtain ⟨S1, S2, rfl, h4, h5⟩ := RepL.append_iff.mp h1
  have h4' : RepMs G Hf H ms vs S1 := by
    unfold RepL at h4
    rw [List.map_snd_zip (by omega), List.map_fst_zip (by omega)] at h4
    exact h4
  have hf : Hf p = none := by
    cases q : Hf p with
    | none => rfl
    | some x => rw [e p x q] at hp; cases hp
  have np : ∀ a ∈ S1 ++ S2, a ≠ p := fun a ha z => by
    obtain ⟨o', ho⟩ := h1.there a ha
    rw [z, hp] at ho
    cases ho
  refine ⟨e.trans (same_upd hp), p :: (S1 ++ S2), RepL.cons_iff.mpr ⟨p :: S1, S2, rfl, ⟨p, vs, S1, rfl, rfl, upd_same, RepMs.mono (Same.refl _) _ _ _ (fun a ha => upd_ne (np a (List.mem_append_left _ ha))) h4'⟩, h5.mono (Same.refl _) fun a ha => upd_ne (np a (List.mem_append_right _ ha))⟩, ?_, fun a ha => ?_⟩
  · exact List.nodup_cons.mpr ⟨fun z => np p z rfl, h2⟩
  · rcases List.mem_cons.mp ha with rfl | ha
    · exact hf
    · exact h3 a ha
end
end Mini

set_option Elab.async false
set_option linter.all false
set_option maxRecDepth 100000
set_option maxHeartbeats 4000000
set_option autoImplicit false
namespace Mini
open PySem PySem.Spec PyProof.Rows L2

/-! ranges of any ints, walked -/
theorem turn_longR {P : Program} {w : World} {K : PySem.W.Frag} {tg : Expr} (j : Addr) (lo : Int) (n : Nat) :
    Turn P w K tg (Itr lo n) [j] j (fun i h => IsLongIter h j (lo + (i : Nat) * 1) ((n : Int) - (i : Nat)) 1) where
  mem := List.mem_singleton.mpr rfl
  obj := fun i h st b hb => by
    have eb : b = j := List.mem_singleton.mp hb
    subst eb
    refine ⟨_, st, fun v z => ?_⟩
    have zz : Data.fields _ = Data.cell v := z
    cases zz
  keep := fun i h h' st k => k j (List.mem_singleton.mpr rfl) _ st
  item := by
    intro X hP hw hK hc i pins s σ H E I hf st hg
    subst hP hw hK
    have hF := hf j (List.mem_singleton.mpr rfl)
    refine (Walks.longrange (prog := X.prog) (w := X.w) (I.ok.hd hc) j lo 1 n).item i s _ _ hg st fun v h' tk hv st' kk => ?_
    obtain ⟨t, rfl⟩ := hv
    have I1 : Inv X pins σ H { s with heap := h', toks := tk } :=
      I.turned (fun b o hb e => kk b o (fun z => hb (List.mem_singleton.mp z)) e) hF.1 hF.2.1 hF.2.2.2.1 hF.2.2.2.2.1 hF.2.2.2.2.2
    refine ⟨_, rfl, go_of (s := { s with heap := h', toks := tk }) (n := "longrange_iterator") st' rfl rfl (by decide) ?_⟩
    refine ⟨.int (lo + i), H, I1, ⟨t, ?_⟩, ⟨rfl, rfl⟩, st', fun b hb => (hf b hb).1⟩
    rw [Int.mul_one]
  done := by
    intro X hP hw hK hc i pins s σ H E I hf st hg
    subst hP hw hK
    have hF := hf j (List.mem_singleton.mpr rfl)
    have hle : n ≤ i := hg
    refine wpAny_pyNext_long_end (I.ok.hd hc) st (by omega) fun h' eb => ⟨rfl, ?_⟩
    exact I.turned (t' := s.toks) (fun b o hb e => eb b o hb e) hF.1 hF.2.1 hF.2.2.2.1 hF.2.2.2.2.1 hF.2.2.2.2.2
  self := fun _ _ _ _ _ st h => wpAny_pyIter_longiter st h
section
variable {X : Cx} {tg : Expr}
theorem range_itB {pins : List (Addr × Obj)} {σ : L2.St} {H : Hp} {s : Shared} {R : It → Hp → Prop} {E : Value → Shared → Prop} {lo hi : Int} {t u v : Tok} {tk : Nat} (I : Inv X pins σ H s) (q : R (Itr lo (hi - lo).toNat) H) :
    wpAny (model X.prog X.w) X.A (pyIter (.ref s.heap.objs.size)) (PIE X pins σ tg R) E
      { s with heap := s.heap.push { cls := .type "range", data := .fields #[.int lo t, .int hi u, .int 1 v] }, toks := tk } := by
  generalize hO : ({ cls := .type "range", data := .fields #[.int lo t, .int hi u, .int 1 v] } : Obj) = o0
  have hr : IsRange (s.heap.push o0) s.heap.objs.size lo hi 1 t u v := by subst hO; exact IsRange.new ..
  have e1 : lo + ((0 : Nat) : Int) * 1 = lo := by simp
  have e2 : (((hi - lo).toNat : Nat) : Int) - ((0 : Nat) : Int) = Builtin.Range.rangeSize lo hi 1 := by rw [rangeSize_one]; split <;> omega
  have old : ∀ b o, s.heap.get? b = some o → (s.heap.push o0).get? b = some o := fun b o e => Heap.get?_push_of_some _ e
  have I1 : Inv X pins σ H { s with heap := s.heap.push o0, toks := tk } := I.kept old
  have fresh : ∀ b ∈ [(s.heap.push o0).objs.size], FpOk X pins H b := fun b hb => by
    have e : b = (s.heap.push o0).objs.size := List.mem_singleton.mp hb
    subst e
    exact I1.fpOk (Nat.le_refl _) (I1.hok.fresh (Nat.le_refl _))
  by_cases hs : Builtin.Range.small lo hi 1 = true
  · refine wpAny_pyIter_range hr hs ?_
    refine ⟨(s.heap.push o0).objs.size, [(s.heap.push o0).objs.size], _, _, H, rfl, I1.kept (t' := tk) fun b o e => Heap.get?_push_of_some _ e, turn_range _ lo (hi - lo).toNat, ?_, fresh, q⟩
    show IsRangeIter _ _ (lo + ((0 : Nat) : Int) * 1) ((((hi - lo).toNat : Nat) : Int) - ((0 : Nat) : Int)) 1
    rw [e1, e2]
    exact Heap.get?_push_size _ rfl
  · refine wpAny_pyIter_longrange hr (by simpa using hs) ?_
    refine ⟨(s.heap.push o0).objs.size, [(s.heap.push o0).objs.size], _, _, H, rfl, I1.kept (t' := tk) fun b o e => Heap.get?_push_of_some _ e, turn_longR _ lo (hi - lo).toNat, ?_, fresh, q⟩
    show IsLongIter _ _ (lo + ((0 : Nat) : Int) * 1) ((((hi - lo).toNat : Nat) : Int) - ((0 : Nat) : Int)) 1
    rw [e1, e2]
    exact Heap.get?_push_size _ rfl
def iRg1 (ta : TA) : TI := fun σ H R => ta σ H fun vs H1 => ∃ j : Int, vs = [.int j] ∧ R (Itr 0 j.toNat) H1
def iRg2 (ta : TA) : TI := fun σ H R => ta σ H fun vs H1 => ∃ i j : Int, vs = [.int i, .int j] ∧ R (Itr i (j - i).toNat) H1
theorem pi_rg1 {a : Expr} {ta : TA} {p pos : Pos} (hg : Gl X "range") (hm : X.mg "range" = none) (ha : PA X [a] ta) (hs : starEach [a] X.env = [(false, eval a X.env)]) : PI X tg (.Call (.Name "range" p) [a] [] pos) (iRg1 ta) := by
  constructor
  intro pins s σ H R I h
  refine Call_ (ld_blt I hg hm boot_range (PyProof.Rows.callWith_type1 (thn (ha.run pos pins s σ H _ I h) fun us s1 x1 => ?_) hs rfl))
  obtain ⟨vs, H1, I1, r1, j, rfl, q⟩ := x1
  match us, r1 with
  | [_], .cons ⟨t, rfl⟩ .nil => exact call_range_1 (range_itB I1 (by simpa using q))
theorem pi_rg2 {a b : Expr} {ta : TA} {p pos : Pos} (hg : Gl X "range") (hm : X.mg "range" = none) (ha : PA X [a, b] ta) (hs : starEach [a, b] X.env = [(false, eval a X.env), (false, eval b X.env)]) (hs2 : starEach [b] X.env = [(false, eval b X.env)]) :
    PI X tg (.Call (.Name "range" p) [a, b] [] pos) (iRg2 ta) := by
  constructor
  intro pins s σ H R I h
  refine Call_ (ld_blt I hg hm boot_range (PyProof.Rows.callWith_type1 (thn (ha.run pos pins s σ H _ I h) fun us s1 x1 => ?_) (by rw [hs, hs2]) (by rw [hs2]; rfl)))
  obtain ⟨vs, H1, I1, r1, i, j, rfl, q⟩ := x1
  match us, r1 with
  | [_, _], .cons ⟨t, rfl⟩ (.cons ⟨t', rfl⟩ .nil) => exact call_range_2 (range_itB I1 q)
end

/-! sorted lists of ints -/
def insI (x : Int) : List Int → List Int
  | [] => [x]
  | y :: l => if x ≤ y then x :: y :: l else y :: insI x l
def isort : List Int → List Int
  | [] => []
  | x :: l => insI x (isort l)
theorem insI_perm (x : Int) : ∀ l, (insI x l).Perm (x :: l)
  | [] => .refl _
  | y :: l => by
    unfold insI
    split
    · exact .refl _
    · exact ((insI_perm x l).cons y).trans (.swap x y l)
theorem isort_perm : ∀ l, (isort l).Perm l
  | [] => .refl _
  | x :: l => (insI_perm x (isort l)).trans ((isort_perm l).cons x)
theorem insI_sorted (x : Int) : ∀ l : List Int, l.Pairwise (· ≤ ·) → (insI x l).Pairwise (· ≤ ·)
  | [], _ => List.pairwise_singleton _ _
  | y :: l, h => by
    have h' := List.pairwise_cons.mp h
    unfold insI
    split
    · rename_i hxy
      refine List.pairwise_cons.mpr ⟨fun z hz => ?_, h⟩
      rcases List.mem_cons.mp hz with rfl | hz
      · exact hxy
      · have := h'.1 z hz; omega
    · rename_i hxy
      refine List.pairwise_cons.mpr ⟨fun z hz => ?_, insI_sorted x l h'.2⟩
      rcases List.mem_cons.mp ((insI_perm x l).mem_iff.mp hz) with rfl | hz
      · omega
      · exact h'.1 z hz
theorem isort_sorted : ∀ l, (isort l).Pairwise (· ≤ ·)
  | [] => List.Pairwise.nil
  | x :: l => insI_sorted x _ (isort_sorted l)
theorem sorted_uniq : ∀ {l k : List Int}, l.Perm k → l.Pairwise (· ≤ ·) → k.Pairwise (· ≤ ·) → l = k
  | [], k, h, _, _ => by
    have := h.length_eq
    match k, this with
    | [], _ => rfl
  | x :: l, [], h, _, _ => by
    have := h.length_eq
    simp at this
  | x :: l, y :: k, h, h1, h2 => by
    have a := List.pairwise_cons.mp h1
    have b := List.pairwise_cons.mp h2
    have e : x = y := by
      have c1 : x ≤ y := by
        rcases List.mem_cons.mp (h.mem_iff.mpr List.mem_cons_self : y ∈ x :: l) with z | z
        · omega
        · exact a.1 y z
      have c2 : y ≤ x := by
        rcases List.mem_cons.mp (h.mem_iff.mp List.mem_cons_self : x ∈ y :: k) with z | z
        · omega
        · exact b.1 x z
      omega
    subst e
    rw [sorted_uniq h.cons_inv a.2 b.2]
/-- without doublets, ascending -/
def dedup : List Int → List Int
  | [] => []
  | x :: l => if x ∈ l then dedup l else x :: dedup l
theorem dedup_mem (z : Int) : ∀ l, z ∈ dedup l ↔ z ∈ l
  | [] => Iff.rfl
  | x :: l => by
    unfold dedup
    split
    · rename_i h
      rw [dedup_mem z l, List.mem_cons]
      exact ⟨.inr, fun q => q.elim (fun e => e ▸ h) id⟩
    · rw [List.mem_cons, List.mem_cons, dedup_mem z l]
theorem dedup_nodup : ∀ l, (dedup l).Nodup
  | [] => List.nodup_nil
  | x :: l => by
    unfold dedup
    split
    · exact dedup_nodup l
    · rename_i h
      exact List.nodup_cons.mpr ⟨fun q => h ((dedup_mem x l).mp q), dedup_nodup l⟩
theorem dedup_len : ∀ l, (dedup l).length ≤ l.length
  | [] => Nat.le_refl _
  | x :: l => by
    have := dedup_len l
    unfold dedup
    split <;> simp <;> omega
def sset (l : List Int) : List Int := isort (dedup l)
theorem sset_mem (z : Int) (l : List Int) : z ∈ sset l ↔ z ∈ l := by
  unfold sset
  rw [(isort_perm _).mem_iff, dedup_mem]
theorem sset_len (l : List Int) : (sset l).length ≤ l.length := by
  unfold sset
  rw [(isort_perm _).length_eq]
  exact dedup_len l
theorem lt_of_le_nd : ∀ {l : List Int}, l.Pairwise (· ≤ ·) → l.Nodup → l.Pairwise (· < ·)
  | [], _, _ => List.Pairwise.nil
  | x :: l, h, d => by
    have a := List.pairwise_cons.mp h
    have b := List.nodup_cons.mp d
    refine List.pairwise_cons.mpr ⟨fun y hy => ?_, lt_of_le_nd a.2 b.2⟩
    have h1 := a.1 y hy
    have h2 : x ≠ y := fun z => b.1 (by rw [z]; exact hy)
    omega
theorem sset_lt (l : List Int) : (sset l).Pairwise (· < ·) := lt_of_le_nd (isort_sorted _) ((isort_perm _).nodup_iff.mpr (dedup_nodup l))
theorem strict_uniq : ∀ {l k : List Int}, (∀ z, z ∈ l ↔ z ∈ k) → l.Pairwise (· < ·) → k.Pairwise (· < ·) → l = k
  | [], [], _, _, _ => rfl
  | [], y :: k, h, _, _ => by cases (h y).mpr List.mem_cons_self
  | x :: l, [], h, _, _ => by cases (h x).mp List.mem_cons_self
  | x :: l, y :: k, h, h1, h2 => by
    have a := List.pairwise_cons.mp h1
    have b := List.pairwise_cons.mp h2
    have e : x = y := by
      rcases List.mem_cons.mp ((h y).mpr List.mem_cons_self) with z | z
      · exact z.symm
      · rcases List.mem_cons.mp ((h x).mp List.mem_cons_self) with z2 | z2
        · exact z2
        · have := a.1 y z; have := b.1 x z2; omega
    subst e
    rw [strict_uniq (fun z => ?_) a.2 b.2]
    have hz := h z
    rw [List.mem_cons, List.mem_cons] at hz
    constructor
    · intro q
      have : x < z := a.1 z q
      exact (hz.mp (.inr q)).resolve_left (by omega)
    · intro q
      have : x < z := b.1 z q
      exact (hz.mpr (.inr q)).resolve_left (by omega)

def maxL : Int → List Int → Int
  | x, [] => x
  | x, y :: l => maxL (if x < y then y else x) l
def minL : Int → List Int → Int
  | x, [] => x
  | x, y :: l => minL (if y < x then y else x) l
theorem maxL_ok : ∀ (l : List Int) (x : Int), maxL x l ∈ x :: l ∧ ∀ y ∈ x :: l, y ≤ maxL x l
  | [], x => ⟨List.mem_cons_self, fun y hy => by have := List.mem_singleton.mp hy; subst this; exact Int.le_refl _⟩
  | z :: l, x => by
    obtain ⟨h1, h2⟩ := maxL_ok l (if x < z then z else x)
    unfold maxL
    constructor
    · rcases List.mem_cons.mp h1 with h | h
      · rw [h]
        split
        · exact List.mem_cons_of_mem _ List.mem_cons_self
        · exact List.mem_cons_self
      · exact List.mem_cons_of_mem _ (List.mem_cons_of_mem _ h)
    · intro y hy
      have h3 := h2 _ List.mem_cons_self
      rcases List.mem_cons.mp hy with rfl | hy
      · split at h3 <;> rename_i q <;> simp only [q, if_true, if_false] <;> omega
      · rcases List.mem_cons.mp hy with rfl | hy
        · split at h3 <;> rename_i q <;> simp only [q, if_true, if_false] <;> omega
        · exact h2 y (List.mem_cons_of_mem _ hy)
theorem minL_ok : ∀ (l : List Int) (x : Int), minL x l ∈ x :: l ∧ ∀ y ∈ x :: l, minL x l ≤ y
  | [], x => ⟨List.mem_cons_self, fun y hy => by have := List.mem_singleton.mp hy; subst this; exact Int.le_refl _⟩
  | z :: l, x => by
    obtain ⟨h1, h2⟩ := minL_ok l (if z < x then z else x)
    unfold minL
    constructor
    · rcases List.mem_cons.mp h1 with h | h
      · rw [h]
        split
        · exact List.mem_cons_of_mem _ List.mem_cons_self
        · exact List.mem_cons_self
      · exact List.mem_cons_of_mem _ (List.mem_cons_of_mem _ h)
    · intro y hy
      have h3 := h2 _ List.mem_cons_self
      rcases List.mem_cons.mp hy with rfl | hy
      · split at h3 <;> rename_i q <;> simp only [q, if_true, if_false] <;> omega
      · rcases List.mem_cons.mp hy with rfl | hy
        · split at h3 <;> rename_i q <;> simp only [q, if_true, if_false] <;> omega
        · exact h2 y (List.mem_cons_of_mem _ hy)

/-! sorted(set(a)), a a list of ints -/
section
variable {P : Program} {w : World} {A : Around} {E : Value → Shared → Prop} {s : Shared}
theorem sorted_setB {a : Addr} {S : Int → Bool} {n : Nat} {Q : Value → Shared → Prop} (R : SetR w s.heap a S n) (hA : A.handled = none) (hn4 : n ≤ 4000)
    (hQ : ∀ s' p (out : Array Value) (c : Nat) (ns : List Int), (∀ b o, s.heap.get? b = some o → s'.heap.get? b = some o) → s'.gens = s.gens → s'.os = s.os →
      s.heap.objs.size ≤ p → s'.heap.get? p = some (seqObj "list" out c) → IntsAre out.toList ns → ns.Pairwise (· < ·) → (∀ k, k ∈ ns ↔ S k = true) → Q (.ref p) s') :
    wpAny (model P w) A (call (.builtin "sorted") [.ref a]) Q E s := by
  obtain ⟨o, es, ep, t, r1, r2, r3, r4, r5, r6, r7, r8, r9, r10, r11⟩ := R
  refine (Calls.call_function_entry kind_sorted plain_sorted entry_sorted (args_sorted1 _) ?_)
  unfold Builtin.«sorted»
  refine wpAny_bind (m := checkCount "sorted" 1 1 _) (wpAny_pure ?_)
  refine wpAny_bind (collect_set (A := A.in1) hA ⟨o, r1, r2.1, r3⟩ r8 r7 r10 r11 fun s1 vs k1 hz g1 o1 pm => ?_)
  have len : vs.length = n := (by rw [pm.length_eq, List.length_map, Array.length_toList]; exact r9)
  have hints : IntsAre vs (vs.map Builtin.Re.reRawOf) := L2.ints_of vs fun v hv => by
    obtain ⟨e, he, qe⟩ := List.mem_map.mp (pm.mem_iff.mp hv)
    obtain ⟨k, tk, h1, _⟩ := r4 e he
    exact ⟨k, tk, qe ▸ h1⟩
  have pk : (vs.map Builtin.Re.reRawOf).Perm (es.toList.map keyOf) := by
    have z := pm.map Builtin.Re.reRawOf
    rwa [List.map_map] at z
  have fits : vs.length ≤ sizeLine := by have := sizeLine_eq; omega
  refine wpAny_bind (wpAny_newList ?_ fits)
  have hoL : (s1.heap.push (seqObj "list" vs.toArray 0)).get? s1.heap.objs.size = some (seqObj "list" vs.toArray 0) := (Heap.get?_push_size _ rfl)
  refine wpAny_bind (wpAny_holding (wpAny_call_entry slot_list_sort ⟨_, hoL, rfl⟩ entry_list_sort ?_ (args_list_sort _)))
  refine SrtO.list_sort_ord SrtO.swo_int hoL fits (fun h2 => SrtO.ints_sortable hints h2) fun out h1 h2 => ⟨.none, rfl, ?_⟩
  obtain ⟨m1, m2, m3⟩ := SrtO.ints_out hints h1 h2
  obtain ⟨c, hc⟩ := sortedHeap_at (vs := vs) (out := out.toArray) hoL
  have pn : (out.map SrtO.iv).Perm (es.toList.map keyOf) := m2.trans pk
  refine wpAny_pure ⟨_, rfl, hQ _ s1.heap.objs.size out.toArray c (out.map SrtO.iv) (fun b u e => ?_) g1 o1 hz hc m1 ?_ fun k => ?_⟩
  · have z := k1 b u e
    have lt := Heap.lt_size z
    show (sortedHeap (s1.heap.push (seqObj "list" vs.toArray 0)) s1.heap.objs.size vs out.toArray).get? b = some u
    rw [sortedHeap_old (Nat.ne_of_lt lt) (by rw [size_push']; exact Nat.lt_succ_of_lt lt)]
    exact Heap.get?_push_of_some _ z
  · exact lt_of_le_nd m3 (pn.nodup_iff.mpr r5)
  · rw [pn.mem_iff, ← r6 k]
end
end Mini

set_option Elab.async false
set_option linter.all false
set_option maxRecDepth 100000
set_option maxHeartbeats 4000000
namespace Mini
open PySem PySem.Spec PyProof.Rows L2

/-! the row of instructions -/
inductive Pr where
  | add | sub | mul | fdiv | mod | pow | neg
  | eq | ne | lt | le | gt | ge | isN | notN | inn | notin
  | item | slice (lo hi : Bool) | rev
  | len | tuple | list | sum | sorted | sortedSet | max1 | min1 | max2 | min2 | maxD | allB | anyB | abs | int | str | repr
  | isinst (cs : List String)
  | get1 | get2 | index | count
  deriving DecidableEq
inductive PS where
  | ix (k : Int) | fld (f : Str)
inductive IK where
  | seq | range1 | range2 | enum | zip | keys | items
  deriving DecidableEq
inductive Mt where
  | append | extend | pop | popAt | insert
  deriving DecidableEq
inductive Tg where
  | name (i : Nat)
  | path (i : Nat) (p : List PS) (k : Int)
  | tup (ts : List Tg)
inductive E where
  | const (d : D)
  | place (i : Nat) (p : List PS)
  | prim (p : Pr) (es : List E)
  | tupE (st : List Bool) (es : List E)
  | lstE (es : List E)
  | dicE (ks : List Key) (es : List E)
  | andE (a b : E) | orE (a b : E) | notE (a : E)
  | ifE (t a b : E)
  | cmp2 (p q : Pr) (a b c : E)
  | call (f : Nat) (es : List E)
  | chg (k : Mt) (i : Nat) (p : List PS) (es : List E)
  | comp (elt : E) (tg : Tg) (k : IK) (es : List E) (ifs : List E) (own : List Nat)
inductive S where
  | set (tg : Tg) (e : E)
  | setItem (i : Nat) (p : List PS) (ix : E) (e : E)
  | setPar (tgs : List Tg) (es : List E)
  | expr (e : E)
  | ret (e : E) | retN | retVar (i : Nat)
  | ifS (t : E) (a b : List S)
  | whileS (t : E) (b : List S)
  | forS (tg : Tg) (k : IK) (es : List E) (b : List S)
  | brk | cont | pass
  | aug (i : Nat) (p : Pr) (e : E)

/-! what comes out -/
abbrev Env := List (Option M)
structure Exn where
  c : Nat
  ns : List Str
  ds : List D
inductive R (α : Type) where
  | ok (a : α) (env : Env) | exc (x : Exn) (env : Env) | fail
inductive CR where
  | ok (m : M) (fin : List (Option M)) | exc (x : Exn) (fin : List (Option M)) | fail
inductive A where
  | ref (i : Nat) (p : List PS) | val (m : M)
inductive Flw where
  | nx | bk | ct | rt (m : M)
def R.bind {α β : Type} (r : R α) (f : α → Env → R β) : R β := match r with | .ok a env => f a env | .exc x env => .exc x env | .fail => .fail
def Good {α : Type} (r : R α) (K : α → Env → Prop) (X : Exn → Env → Prop) : Prop := match r with | .ok a env => K a env | .exc x env => X x env | .fail => False
def GoodC (r : CR) (K : M → List (Option M) → Prop) (X : Exn → List (Option M) → Prop) : Prop := match r with | .ok a env => K a env | .exc x env => X x env | .fail => False
theorem good_bind {α β : Type} {r : R α} {f : α → Env → R β} {K : β → Env → Prop} {X : Exn → Env → Prop} : Good (r.bind f) K X ↔ Good r (fun a env => Good (f a env) K X) X := by
  cases r <;> rfl
theorem Good.mono {α : Type} {r : R α} {K K' : α → Env → Prop} {X X' : Exn → Env → Prop} (h : Good r K X) (hk : ∀ a env, K a env → K' a env) (hx : ∀ x env, X x env → X' x env) : Good r K' X' := by
  cases r with
  | ok a env => exact hk a env h
  | exc x env => exact hx x env h
  | fail => exact h
def ofO {α : Type} (o : Option α) (env : Env) : R α := match o with | some a => .ok a env | none => .fail

/-! reading -/
def gt : Env → Nat → Option M
  | [], _ => none
  | o :: _, 0 => o
  | _ :: r, i + 1 => gt r i
def subD : D → PS → Option D
  | .tup ds, .ix k => atI ds k
  | .lst ds, .ix k => atI ds k
  | .frl ds, .ix k => atI ds k
  | .str z, .ix k => if z.length ≤ sizeLine then (atI z.cps.toList k).map fun c => .str ⟨#[c]⟩ else none
  | _, _ => none
def getP : M → List PS → Option M
  | m, [] => some m
  | .imm d, s :: r => match subD d s with
    | some d' => getP (.imm d') r
    | none => none
  | .lst ms, .ix k :: r => match atI ms k with
    | some m => getP m r
    | none => none
  | _, _ :: _ => none
/-- another tree in the place of the one at a path of own nodes -/
def putP : M → List PS → M → Option M
  | _, [], n => some n
  | .lst ms, .ix k :: r, n => match ixN ms.length k with
    | some j => match ms[j]? with
      | some m => match putP m r n with
        | some m' => some (.lst (ms.set j m'))
        | none => none
      | none => none
    | none => none
  | _, _ :: _, _ => none
def getE (env : Env) (i : Nat) (p : List PS) : Option M := match gt env i with | some m => getP m p | none => none
def putE (env : Env) (i : Nat) (p : List PS) (n : M) : Option Env := match gt env i with
  | some m => match putP m p n with
    | some m' => some (env.set i (some m'))
    | none => none
  | none => none

def setL (env : Env) (i : Nat) (p : List PS) (k : Int) (m : M) : Option Env := match getE env i p with
  | some (.lst ms) => match ixN ms.length k with
    | some j => putE env i p (.lst (ms.set j m))
    | none => none
  | _ => none

/-! prims: what they make of the operands as they stand -/
def imms : List M → Option (List D)
  | [] => some []
  | .imm d :: r => match imms r with | some ds => some (d :: ds) | none => none
  | _ :: _ => none
def seqL : M → Option (List D)
  | .imm (.lst ds) => some ds
  | .lst ms => imms ms
  | _ => none
def seqF : M → Option (List D)
  | .imm (.frl ds) => some ds
  | m => seqL m
def seqA : M → Option (List D)
  | .imm (.tup ds) => some ds
  | m => seqF m
def dInts : List D → Option (List Int)
  | [] => some []
  | .int i :: r => match dInts r with | some l => some (i :: l) | none => none
  | _ :: _ => none
def dBools : List D → Option (List Bool)
  | [] => some []
  | .bl i :: r => match dBools r with | some l => some (i :: l) | none => none
  | _ :: _ => none
mutual
/-- as the kit's data -/
def toPy : D → PyData
  | .non => .none
  | .bl b => .bool b
  | .int i => .int i
  | .str z => .str z
  | .tup ds => .tuple (toPys ds)
  | .lst ds => .list (toPys ds)
  | .frl ds => .list (toPys ds)
  | .dK _ _ => .none
  | .dT _ _ => .none
  | .obj _ _ _ => .none
def toPys : List D → List PyData
  | [] => []
  | d :: ds => toPy d :: toPys ds
end
mutual
def pyOk : D → Bool
  | .tup ds => pyOks ds
  | .lst ds => pyOks ds
  | .frl ds => pyOks ds
  | .dK _ _ => false
  | .dT _ _ => false
  | .obj _ _ _ => false
  | _ => true
def pyOks : List D → Bool
  | [] => true
  | d :: ds => pyOk d && pyOks ds
end
def fitPy (d : D) : Bool := pyOk d && SeqAt.shaped (toPy d)
/-- ==, where the semantics tells it -/
def eqM (m n : M) : Option Bool := match m, n with
  | .imm (.str x), .imm (.str y) => some (x == y)
  | m, n => if fitPy (frz m) && fitPy (frz n) then some (PyData.eqv (toPy (frz m)) (toPy (frz n))) else none
def prRepr (m : M) : Option M := if pyOk (frz m) && PyData.showable (toPy (frz m)) && decide ((toPy (frz m)).depth ≤ 64) && decide ((PyData.shown (toPy (frz m))).length ≤ sizeLine) then some (.imm (.str (PyData.shown (toPy (frz m))))) else none
def truD : D → Option Bool
  | .non => some false
  | .bl b => some b
  | .int i => some (i != 0)
  | .str z => if z.length ≤ sizeLine then some ((z.length : Int) != 0) else none
  | .tup ds => some (!ds.isEmpty)
  | .lst ds => some (!ds.isEmpty)
  | .frl ds => some (!ds.isEmpty)
  | _ => none
def truM : M → Option Bool
  | .imm d => truD d
  | .lst ms => some (!ms.isEmpty)
  | _ => none
def MulOk (i j : Int) : Prop := (i.natAbs < 2 ^ 64 ∨ j.natAbs < 2 ^ 64) ∨ i.natAbs.log2 + j.natAbs.log2 < 1000000
def DivOk (j : Int) : Prop := j ≠ 0 ∧ j.natAbs.log2 < 9000
open Classical in
noncomputable def arith : Pr → Int → Int → Option D
  | .add, i, j => some (.int (i + j))
  | .sub, i, j => some (.int (i - j))
  | .fdiv, i, j => if DivOk j then some (.int (i.fdiv j)) else none
  | .mod, i, j => if j = 0 then none else some (.int (i.fmod j))
  | .pow, i, j => if CPow i j then some (.int (i ^ j.toNat)) else none
  | .lt, i, j => some (.bl (decide (i < j)))
  | .le, i, j => some (.bl (decide (i ≤ j)))
  | .gt, i, j => some (.bl (decide (j < i)))
  | .ge, i, j => some (.bl (decide (j ≤ i)))
  | .max2, i, j => some (.int (if j > i then j else i))
  | .min2, i, j => some (.int (if j < i then j else i))
  | _, _, _ => none
def tyName : D → Option String
  | .non => some "NoneType" | .bl _ => some "bool" | .int _ => some "int" | .str _ => some "str"
  | .tup _ => some "tuple" | .lst _ => some "list" | .frl _ => some "list" | .dK _ _ => some "dict" | .dT _ _ => some "dict"
  | .obj _ _ _ => none
def instOf (t : String) (c : String) : Bool := t == c || (t == "bool" && c == "int")
def cutD {α : Type} (xs : List α) (lo hi : Option Int) : List α := (xs.drop (HT.sIx xs.length 0 lo)).take (HT.sIx xs.length xs.length hi - HT.sIx xs.length 0 lo)
def someB {α : Type} (b : Bool) (x : α) : Option α := if b then some x else none
def sliceM (m : M) (lo hi : Option Int) : Option M := match m with
  | .imm (.tup ds) => some (.imm (.tup (cutD ds lo hi)))
  | .imm (.str z) => if z.length ≤ sizeLine then some (.imm (.str ⟨(cutD z.cps.toList lo hi).toArray⟩)) else none
  | m => match seqF m with
    | some ds => some (.lst ((cutD ds lo hi).map .imm))
    | none => none
open Classical in
noncomputable def prAdd : M → M → Option M
  | .imm (.int i), .imm (.int j) => some (.imm (.int (i + j)))
  | .imm (.tup xs), .imm (.tup ys) => if xs.length + ys.length ≤ sizeLine then some (.imm (.tup (xs ++ ys))) else none
  | .imm (.str x), .imm (.str y) => if x.length + y.length ≤ sizeLine then some (.imm (.str (x ++ y))) else none
  | m, n => match seqL m, seqL n with
    | some xs, some ys => if xs.length + ys.length ≤ sizeLine then some (.lst ((xs ++ ys).map .imm)) else none
    | _, _ => none
open Classical in
noncomputable def prMul : M → M → Option M
  | .imm (.int i), .imm (.int j) => if MulOk i j then some (.imm (.int (i * j))) else none
  | m, .imm (.int j) => match seqL m with
    | some xs => if j < 2 ^ 62 ∧ -(2 ^ 62) < j ∧ xs.length * j.toNat ≤ sizeLine then some (.lst ((List.replicate j.toNat xs).flatten.map .imm)) else none
    | none => none
  | _, _ => none
def isNonM : M → Bool
  | .imm .non => true
  | _ => false
def prIn (x : M) (m : M) : Option Bool := match seqA m with
  | some ys => if fitPy (frz x) && fitPy (.lst ys) then some ((toPys ys).any fun z => PyData.eqv z (toPy (frz x))) else none
  | none => none
def prItem (m : M) (i : M) : Option M := match i with
  | .imm (.int k) => match getP m [.ix k] with
    | some (.imm d) => some (.imm d)
    | _ => none
  | _ => none
def intM : M → Option Int
  | .imm (.int i) => some i
  | _ => none
def prLen : M → Option M
  | .imm (.tup ds) => some (.imm (.int ds.length))
  | .imm (.lst ds) => some (.imm (.int ds.length))
  | .imm (.frl ds) => some (.imm (.int ds.length))
  | .lst ms => some (.imm (.int ms.length))
  | .imm (.str z) => if z.length ≤ sizeLine then some (.imm (.int z.length)) else none
  | _ => none
def prInt : M → Option M
  | .imm (.int i) => some (.imm (.int i))
  | .imm (.bl b) => some (.imm (.int (if b then 1 else 0)))
  | _ => none
def tyM : M → Option String
  | .imm d => tyName d
  | .lst _ => some "list"
  | .dK _ _ => some "dict"
  | .dT _ _ => some "dict"
  | _ => none
open Classical in
noncomputable def arithM (p : Pr) (m n : M) : Option M := match m, n with
  | .imm (.int i), .imm (.int j) => (arith p i j).map .imm
  | _, _ => none
noncomputable def primM : Pr → List M → Option M
  | .add, [m, n] => prAdd m n
  | .mul, [m, n] => prMul m n
  | .neg, [m] => (intM m).map fun i => .imm (.int (-i))
  | .eq, [m, n] => (eqM m n).map fun b => .imm (.bl b)
  | .ne, [m, n] => (eqM m n).map fun b => .imm (.bl (!b))
  | .isN, [m, n] => if isNonM n then some (.imm (.bl (isNonM m))) else none
  | .notN, [m, n] => if isNonM n then some (.imm (.bl (!isNonM m))) else none
  | .inn, [x, m] => (prIn x m).map fun b => .imm (.bl b)
  | .notin, [x, m] => (prIn x m).map fun b => .imm (.bl (!b))
  | .item, [m, i] => prItem m i
  | .len, [m] => prLen m
  | .tuple, [m] => (seqA m).map fun ds => .imm (.tup ds)
  | .list, [m] => (seqA m).map fun ds => .lst (ds.map .imm)
  | .sum, [m] => match seqA m with | some ds => (dInts ds).map fun l => .imm (.int l.sum) | none => none
  | .allB, [m] => match seqF m with | some ds => (dBools ds).map fun l => .imm (.bl (l.all id)) | none => none
  | .anyB, [m] => match seqF m with | some ds => (dBools ds).map fun l => .imm (.bl (l.any id)) | none => none
  | .abs, [m] => (intM m).map fun i => .imm (.int (if i < 0 then -i else i))
  | .int, [m] => prInt m
  | .repr, [m] => prRepr m
  | .isinst cs, [m] => (tyM m).map fun t => .imm (.bl (cs.any (instOf t)))
  | .sorted, [m] => match seqF m with | some ds => (dInts ds).map fun l => .lst (((isort l).map D.int).map .imm) | none => none
  | .sortedSet, [m] => match seqF m with | some ds => (match dInts ds with | some l => if l.length ≤ 4000 then some (.lst (((sset l).map D.int).map .imm)) else none | none => none) | none => none
  | .max1, [m] => match seqA m with | some ds => (match dInts ds with | some (x :: l) => some (.imm (.int (maxL x l))) | _ => none) | none => none
  | .min1, [m] => match seqF m with | some ds => (match dInts ds with | some (x :: l) => some (.imm (.int (minL x l))) | _ => none) | none => none
  | .rev, [m] => match seqF m with | some ds => some (.lst (ds.reverse.map .imm)) | none => none
  | .sub, [m, n] => arithM .sub m n
  | .fdiv, [m, n] => arithM .fdiv m n
  | .mod, [m, n] => arithM .mod m n
  | .pow, [m, n] => arithM .pow m n
  | .lt, [m, n] => arithM .lt m n
  | .le, [m, n] => arithM .le m n
  | .gt, [m, n] => arithM .gt m n
  | .ge, [m, n] => arithM .ge m n
  | .max2, [m, n] => arithM .max2 m n
  | .min2, [m, n] => arithM .min2 m n
  | _, _ => none

/-! instructions as functions -/
structure EvP where
  v : Env → R M
  a : Env → R A
  t : Env → R Bool
def mkV (v : Env → R M) : EvP := ⟨v, fun env => (v env).bind fun m env => .ok (.val m) env, fun env => (v env).bind fun m env => ofO (truM m) env⟩
def pConst (d : D) : EvP := mkV fun env => .ok (.imm d) env
def pPlace (i : Nat) (p : List PS) : EvP :=
  ⟨fun env => match getE env i p with
    | some (.imm d) => .ok (.imm d) env
    | some m => match putE env i p (.imm (frz m)) with
      | some env' => .ok (.imm (frz m)) env'
      | none => .fail
    | none => .fail,
   fun env => match getE env i p with
    | some (.imm d) => .ok (.val (.imm d)) env
    | some _ => .ok (.ref i p) env
    | none => .fail,
   fun env => match getE env i p with
    | some m => ofO (truM m) env
    | none => .fail⟩
/-- the operands as they stand -/
def res (env : Env) : List A → Option (List M)
  | [] => some []
  | .val m :: r => match res env r with | some ms => some (m :: ms) | none => none
  | .ref i p :: r => match getE env i p with
    | some (.imm d) => if p.isEmpty then match res env r with | some ms => some (.imm d :: ms) | none => none else none
    | some m => match res env r with | some ms => some (m :: ms) | none => none
    | none => none
def inertE : E → Bool
  | .const _ => true
  | .lstE [] => true
  | .tupE [] [] => true
  | .place _ [] => true
  | _ => false
/-- operands, from the left: by reference where a variable owns them -/
def pArgs : List (E × EvP) → Env → R (List A)
  | [], env => .ok [] env
  | (e, p) :: r, env =>
    let one := match e with
      | .place _ (_ :: _) => if r.all (fun q => inertE q.1) then p.a env else (p.v env).bind fun m env => .ok (.val m) env
      | _ => p.a env
    one.bind fun a env => (pArgs r env).bind fun as env => .ok (a :: as) env
def pItems : List EvP → Env → R (List M)
  | [], env => .ok [] env
  | p :: r, env => (p.v env).bind fun m env => (pItems r env).bind fun ms env => .ok (m :: ms) env
noncomputable def pPrim (p : Pr) (as : Env → R (List A)) : EvP := mkV fun env => (as env).bind fun as env => match res env as with
  | some ms => ofO (primM p ms) env
  | none => .fail
/-! slices -/
def failE : EvP := mkV fun _ => .fail
def pPart : Option EvP → Env → R (Option Int)
  | none, env => .ok none env
  | some p, env => (p.v env).bind fun m env => match intM m with
    | some i => .ok (some i) env
    | none => .fail
def pSlice (f : Env → R A) (lo hi : Option EvP) : EvP := mkV fun env => (f env).bind fun a env => (pPart lo env).bind fun l env => (pPart hi env).bind fun h env => match res env [a] with
  | some [m] => ofO (sliceM m l h) env
  | _ => .fail
def byRef (e : E) (p : EvP) (ok : Bool) : Env → R A := match e with
  | .place _ (_ :: _) => if ok then p.a else fun env => (p.v env).bind fun m env => .ok (.val m) env
  | _ => p.a
def pSl (lo hi : Bool) (l : List (E × EvP)) : EvP := match lo, hi, l with
  | false, false, [(e, p)] => pSlice (byRef e p true) none none
  | true, false, [(e, p), (i, q)] => pSlice (byRef e p (inertE i)) (some q) none
  | false, true, [(e, p), (i, q)] => pSlice (byRef e p (inertE i)) none (some q)
  | true, true, [(e, p), (i, q), (j, r)] => pSlice (byRef e p (inertE i && inertE j)) (some q) (some r)
  | _, _, _ => failE
noncomputable def pPrX (p : Pr) (l : List (E × EvP)) : EvP := match p with
  | .slice lo hi => pSl lo hi l
  | p => pPrim p (pArgs l)
def pItemsS : List Bool → List EvP → Env → R (List D)
  | [], [], env => .ok [] env
  | false :: st, p :: r, env => (p.v env).bind fun m env => (pItemsS st r env).bind fun ds env => .ok (frz m :: ds) env
  | true :: st, p :: r, env => (p.v env).bind fun m env => match seqA m with
    | some xs => (pItemsS st r env).bind fun ds env => .ok (xs ++ ds) env
    | none => .fail
  | _, _, _ => .fail

def pTup (st : List Bool) (ps : List EvP) : EvP := mkV fun env => (pItemsS st ps env).bind fun ds env => if ds.length ≤ sizeLine then .ok (.imm (.tup ds)) env else .fail
def pLst (ps : List EvP) : EvP := mkV fun env => (pItems ps env).bind fun ms env => if ms.length ≤ sizeLine then .ok (.lst ms) env else .fail
def pDic (ks : List Key) (ps : List EvP) : EvP := mkV fun env => (pItems ps env).bind fun ms env => if ks.length = ms.length ∧ ks.Nodup then .ok (.dK ks ms) env else .fail
def pAnd (a b : EvP) : EvP :=
  { mkV (fun env => (a.v env).bind fun m env => match truM m with
      | some true => b.v env
      | some false => .ok m env
      | none => .fail) with t := fun env => (a.t env).bind fun k env => if k then b.t env else .ok false env }
def pOr (a b : EvP) : EvP :=
  { mkV (fun env => (a.v env).bind fun m env => match truM m with
      | some true => .ok m env
      | some false => b.v env
      | none => .fail) with t := fun env => (a.t env).bind fun k env => if k then .ok true env else b.t env }
def pNot (a : EvP) : EvP :=
  { mkV (fun env => (a.v env).bind fun m env => match truM m with
      | some k => .ok (.imm (.bl (!k))) env
      | none => .fail) with t := fun env => (a.t env).bind fun k env => .ok (!k) env }
def pIf (t a b : EvP) : EvP := { mkV (fun env => (t.t env).bind fun k env => if k then a.v env else b.v env) with t := fun _ => .fail }
noncomputable def pCmp2 (p q : Pr) (a b c : EvP) : EvP := mkV fun env => (a.v env).bind fun x env => (b.v env).bind fun y env => match primM p [x, y] with
  | some (.imm (.bl true)) => (c.v env).bind fun z env => ofO (primM q [y, z]) env
  | some (.imm (.bl false)) => .ok (.imm (.bl false)) env
  | _ => .fail

/-! calls -/
structure Ct where
  call : Nat → List M → CR
  prot : Nat → List Bool
def pArgsC : List (E × EvP) → Env → R (List A)
  | [], env => .ok [] env
  | (e, p) :: r, env =>
    (match e with
      | .place _ [] => p.a env
      | _ => (p.v env).bind fun m env => .ok (.val m) env).bind fun a env => (pArgsC r env).bind fun as env => .ok (a :: as) env
/-- the values that go over, and what is left -/
def takeA : List A → List Bool → Env → Option (List M × Env)
  | [], _, env => some ([], env)
  | .val m :: as, bs, env => match takeA as bs.tail env with
    | some (ms, env') => some (m :: ms, env')
    | none => none
  | .ref _ (_ :: _) :: _, _, _ => none
  | .ref i [] :: as, bs, env => match gt env i with
    | some m => if bs.head? = some true then
        match takeA as bs.tail (env.set i none) with
        | some (ms, env') => some (m :: ms, env')
        | none => none
      else match takeA as bs.tail (env.set i (some (.imm (frz m)))) with
        | some (ms, env') => some (.imm (frz m) :: ms, env')
        | none => none
    | none => none
/-- what comes back -/
def giveA : List A → List Bool → List (Option M) → Env → Env
  | .val _ :: as, bs, fin, env => giveA as bs.tail fin.tail env
  | .ref i _ :: as, bs, fin, env => giveA as bs.tail fin.tail (if bs.head? = some true then env.set i (fin.head?.join) else env)
  | [], _, _, env => env
def doCall (C : Ct) (f : Nat) (as : List A) (env : Env) : R M := match takeA as (C.prot f) env with
  | some (ms, env') => match C.call f ms with
    | .ok m fin => .ok m (giveA as (C.prot f) fin env')
    | .exc x fin => .exc x (giveA as (C.prot f) fin env')
    | .fail => .fail
  | none => .fail
def pCall (C : Ct) (f : Nat) (as : Env → R (List A)) : EvP := mkV fun env => (as env).bind fun as env => doCall C f as env

/-! lists that change -/
def mutM : Mt → List M → List M → Option (M × List M)
  | .append, ms, [m] => if ms.length < sizeLine then some (.imm .non, ms ++ [m]) else none
  | .extend, ms, [m] => match seqL m with
    | some ds => if ms.length + ds.length ≤ sizeLine then some (.imm .non, ms ++ ds.map .imm) else none
    | none => none
  | .pop, ms, [] => match ms[ms.length - 1]? with
    | some m => some (m, ms.dropLast)
    | none => none
  | .popAt, ms, [.imm (.int k)] => match ixN ms.length k with
    | some j => match ms[j]? with
      | some m => some (m, ms.eraseIdx j)
      | none => none
    | none => none
  | _, _, _ => none
def pMut (k : Mt) (i : Nat) (p : List PS) (ok : Bool) (ps : List EvP) : EvP := mkV fun env =>
  if p.isEmpty || ok then match getE env i p with
    | some (.lst _) => (pItems ps env).bind fun as env => match getE env i p with
      | some (.lst ms) => match mutM k ms as with
        | some (m, ms') => match putE env i p (.lst ms') with
          | some env' => .ok m env'
          | none => .fail
        | none => .fail
      | _ => .fail
    | _ => .fail
  else .fail

/-! what is walked -/
def rangeD (lo : Int) (n : Nat) : List D := (List.range n).map fun (k : Nat) => D.int (lo + k)
def enumD : Nat → List D → List D
  | _, [] => []
  | k, d :: ds => .tup [.int k, d] :: enumD (k + 1) ds
def zipD : List D → List D → List D
  | x :: xs, y :: ys => .tup [x, y] :: zipD xs ys
  | _, _ => []
def seqD : D → Option (List D)
  | .tup ds => some ds
  | .lst ds => some ds
  | .frl ds => some ds
  | _ => none
/-- what zip takes: two lists, or two tuples -/
def zipOf : D → D → Option (List D)
  | .tup xs, .tup ys => some (zipD xs ys)
  | .lst xs, .lst ys => some (zipD xs ys)
  | .lst xs, .frl ys => some (zipD xs ys)
  | .frl xs, .lst ys => some (zipD xs ys)
  | .frl xs, .frl ys => some (zipD xs ys)
  | _, _ => none
def enumOf : D → Option (List D)
  | .lst xs => some (enumD 0 xs)
  | .frl xs => some (enumD 0 xs)
  | _ => none
def keyD : Key → D
  | .inl i => .int i
  | .inr x => .str x
def itemsOf : IK → List D → Option (List D)
  | .seq, [d] => seqD d
  | .range1, [.int n] => some (rangeD 0 n.toNat)
  | .range2, [.int a, .int b] => some (rangeD a (b - a).toNat)
  | .enum, [d] => enumOf d
  | .zip, [d, e] => zipOf d e
  | _, _ => none
def pIter (k : IK) (ps : List EvP) (env : Env) : R (List D) := (pItems ps env).bind fun ms env => ofO (itemsOf k (frzs ms)) env

/-! targets -/
mutual
def bindT (pr : Nat → Bool) : Tg → M → Env → Option Env
  | .name i, m, env => if pr i then none else some (env.set i (some m))
  | .path i p k, m, env => setL env i p k m
  | .tup ts, .imm (.tup ds), env => bindTs pr ts (ds.map .imm) env
  | .tup _, _, _ => none
def bindTs (pr : Nat → Bool) : List Tg → List M → Env → Option Env
  | [], [], env => some env
  | t :: ts, m :: ms, env => match bindT pr t m env with
    | some env' => bindTs pr ts ms env'
    | none => none
  | _, _, _ => none
end
def wipeE (env : Env) : List Nat → Env
  | [] => env
  | v :: vs => (wipeE env vs).set v none
def backE (env0 : Env) (env : Env) : List Nat → Env
  | [] => env
  | v :: vs => backE env0 (env.set v (gt env0 v)) vs
def pTests : List EvP → Env → R Bool
  | [], env => .ok true env
  | p :: r, env => (p.t env).bind fun k env => if k then pTests r env else .ok false env
def compLoop (pr : Nat → Bool) (tg : Tg) (elt : EvP) (ifs : List EvP) (own : List Nat) : List D → Env → R (List M)
  | [], env => .ok [] env
  | d :: ds, env => match bindT pr tg (.imm d) (wipeE env own) with
    | some env => (pTests ifs env).bind fun k env => if k
      then (elt.v env).bind fun m env => (compLoop pr tg elt ifs own ds (wipeE env own)).bind fun ms env => .ok (m :: ms) env
      else compLoop pr tg elt ifs own ds (wipeE env own)
    | none => .fail
/-- exceptions do not leave a comprehension -/
def noExc {α : Type} : R α → R α
  | .exc _ _ => .fail
  | r => r
def pComp (pr : Nat → Bool) (elt : EvP) (tg : Tg) (k : IK) (ps : List EvP) (ifs : List EvP) (own : List Nat) : EvP := mkV fun env =>
  (pIter k ps env).bind fun ds env => (noExc (compLoop pr tg elt ifs own ds (wipeE env own))).bind fun ms env' => if ms.length ≤ sizeLine then .ok (.lst ms) (backE env env' own) else .fail

mutual
noncomputable def ev (C : Ct) (pr : Nat → Bool) : E → EvP
  | .const d => pConst d
  | .place i p => pPlace i p
  | .prim p es => mkV (pPrX p (es.zip (evs C pr es))).v
  | .tupE st es => pTup st (evs C pr es)
  | .lstE es => pLst (evs C pr es)
  | .dicE ks es => pDic ks (evs C pr es)
  | .andE a b => pAnd (ev C pr a) (ev C pr b)
  | .orE a b => pOr (ev C pr a) (ev C pr b)
  | .notE a => pNot (ev C pr a)
  | .ifE t a b => pIf (ev C pr t) (ev C pr a) (ev C pr b)
  | .cmp2 p q a b c => pCmp2 p q (ev C pr a) (ev C pr b) (ev C pr c)
  | .call f es => pCall C f (pArgsC (es.zip (evs C pr es)))
  | .chg k i p es => pMut k i p (es.all inertE) (evs C pr es)
  | .comp elt tg k es ifs own => pComp (fun i => !(own.contains i)) (ev C pr elt) tg k (evs C pr es) (evs C pr ifs) own
noncomputable def evs (C : Ct) (pr : Nat → Bool) : List E → List EvP
  | [] => []
  | e :: es => ev C pr e :: evs C pr es
end

/-! statements -/
abbrev EvS := Env → R Flw
def sSeq (a b : EvS) : EvS := fun env => (a env).bind fun f env => match f with
  | .nx => b env
  | f => .ok f env
def forLoop (step : D → EvS) : List D → EvS
  | [], env => .ok .nx env
  | d :: ds, env => (step d env).bind fun f env => match f with
    | .nx => forLoop step ds env
    | .ct => forLoop step ds env
    | .bk => .ok .nx env
    | .rt m => .ok (.rt m) env
def iterW (st : Env → R (Option Flw)) : Nat → Env → Option (R Flw)
  | 0, _ => none
  | n + 1, env => match st env with
    | .ok none env' => iterW st n env'
    | .ok (some f) env' => some (.ok f env')
    | .exc x env' => some (.exc x env')
    | .fail => some .fail
open Classical in
noncomputable def whileR (st : Env → R (Option Flw)) (env : Env) : R Flw := if h : ∃ n r, iterW st n env = some r then Classical.choose (Classical.choose_spec h) else .fail
theorem iterW_more {st : Env → R (Option Flw)} : ∀ {n : Nat} {env : Env} {r : R Flw} (k : Nat), iterW st n env = some r → iterW st (n + k) env = some r
  | 0, _, _, _, h => by cases h
  | n + 1, env, r, k, h => by
    rw [Nat.succ_add]
    unfold iterW at h ⊢
    cases e : st env with
    | fail => rw [e] at h; exact h
    | exc x env' => rw [e] at h; exact h
    | ok o env' =>
      rw [e] at h
      cases o with
      | none => exact iterW_more k h
      | some f => exact h
theorem iterW_inj {st : Env → R (Option Flw)} {n m : Nat} {env : Env} {r r' : R Flw} (h : iterW st n env = some r) (h' : iterW st m env = some r') : r = r' := by
  have h1 := iterW_more m h
  have h2 := iterW_more n h'
  rw [Nat.add_comm] at h2
  rw [h1] at h2
  exact Option.some.inj h2
theorem whileR_of {st : Env → R (Option Flw)} {n : Nat} {env : Env} {r : R Flw} (h : iterW st n env = some r) : whileR st env = r := by
  have hx : ∃ n r, iterW st n env = some r := ⟨n, r, h⟩
  unfold whileR
  rw [dif_pos hx]
  exact iterW_inj (Classical.choose_spec (Classical.choose_spec hx)) h
theorem whileR_eq (st : Env → R (Option Flw)) (env : Env) : whileR st env = (match st env with
    | .ok none env' => whileR st env'
    | .ok (some f) env' => .ok f env'
    | .exc x env' => .exc x env'
    | .fail => .fail) := by
  cases e : st env with
  | fail => exact whileR_of (n := 1) (by unfold iterW; rw [e])
  | exc x env' => exact whileR_of (n := 1) (by unfold iterW; rw [e])
  | ok o env' =>
    cases o with
    | some f => exact whileR_of (n := 1) (by unfold iterW; rw [e])
    | none =>
      by_cases hx : ∃ n r, iterW st n env' = some r
      · obtain ⟨n, r, h⟩ := hx
        rw [whileR_of (n := n + 1) (r := r) (by unfold iterW; rw [e]; exact h)]
        exact (whileR_of h).symm
      · have hx' : ¬ ∃ n r, iterW st n env = some r := fun ⟨n, r, h⟩ => by
          cases n with
          | zero => cases h
          | succ n =>
            unfold iterW at h
            rw [e] at h
            exact hx ⟨n, r, h⟩
        unfold whileR
        rw [dif_neg hx']
        show _ = whileR st env'
        unfold whileR
        rw [dif_neg hx]
def whileSt (t : EvP) (b : EvS) : Env → R (Option Flw) := fun env => (t.t env).bind fun k env => if k
  then (b env).bind fun f env => match f with
    | .nx => .ok none env
    | .ct => .ok none env
    | .bk => .ok (some .nx) env
    | .rt m => .ok (some (.rt m)) env
  else .ok (some .nx) env
def sSetItem (i : Nat) (p : List PS) (b : Bool) (ix e : EvP) : EvS := fun env => (e.v env).bind fun m env => if p.isEmpty || b then match getE env i p with
    | some (.lst _) => (ix.v env).bind fun k env => match k with
      | .imm (.int k) => match setL env i p k m with
        | some env' => .ok .nx env'
        | none => .fail
      | _ => .fail
    | _ => .fail
  else .fail
def augI : Pr → Int → Int → Option Int
  | .add, a, b => some (a + b)
  | .sub, a, b => some (a - b)
  | _, _, _ => none
def sAug (pr : Nat → Bool) (i : Nat) (p : Pr) (e : EvP) : EvS := fun env => match gt env i with
  | some (.imm (.int a)) => (e.v env).bind fun m env => match m with
    | .imm (.int b) => match augI p a b with
      | some c => if pr i then .fail else .ok .nx (env.set i (some (.imm (.int c))))
      | none => .fail
    | _ => .fail
  | _ => .fail
mutual
noncomputable def evS (C : Ct) (pr : Nat → Bool) : S → EvS
  | .set tg e => fun env => ((ev C pr e).v env).bind fun m env => match bindT pr tg m env with
    | some env' => .ok .nx env'
    | none => .fail
  | .setItem i p ix e => sSetItem i p (inertE ix) (ev C pr ix) (ev C pr e)
  | .setPar tgs es => fun env => (pItems (evs C pr es) env).bind fun ms env => match bindTs pr tgs ms env with
    | some env' => .ok .nx env'
    | none => .fail
  | .expr e => fun env => ((ev C pr e).v env).bind fun _ env => .ok .nx env
  | .ret e => fun env => ((ev C pr e).v env).bind fun m env => .ok (.rt m) env
  | .retN => fun env => .ok (.rt (.imm .non)) env
  | .retVar i => fun env => match gt env i with
    | some m => if pr i then .fail else .ok (.rt m) (env.set i none)
    | none => .fail
  | .ifS t a b => fun env => ((ev C pr t).t env).bind fun k env => if k then evSs C pr a env else evSs C pr b env
  | .whileS t b => whileR (whileSt (ev C pr t) (evSs C pr b))
  | .forS tg k es b => fun env => (pIter k (evs C pr es) env).bind fun ds env => forLoop (fun d env => match bindT pr tg (.imm d) env with
      | some env' => evSs C pr b env'
      | none => .fail) ds env
  | .brk => fun env => .ok .bk env
  | .cont => fun env => .ok .ct env
  | .pass => fun env => .ok .nx env
  | .aug i p e => sAug pr i p (ev C pr e)
noncomputable def evSs (C : Ct) (pr : Nat → Bool) : List S → EvS
  | [] => fun env => .ok .nx env
  | s :: r => sSeq (evS C pr s) (evSs C pr r)
end
/-- a function: its parameters' number, the number of its names, which parameters it never stores, its body -/
structure Fn where
  np : Nat
  nn : Nat
  prot : List Bool
  body : List S
def protB (f : Fn) (i : Nat) : Bool := f.prot.getD i false
def finOf (f : Fn) (env : Env) : List (Option M) := (List.range f.np).map fun i => if protB f i then gt env i else none
noncomputable def run (T : List Fn) : Nat → Nat → List M → CR
  | 0, _, _ => .fail
  | n + 1, f, ms => match T[f]? with
    | some F => if ms.length = F.np then match evSs ⟨run T n, fun g => match T[g]? with | some G => G.prot | none => []⟩ (protB F) F.body (ms.map some ++ List.replicate (F.nn - F.np) none) with
        | .ok (.rt m) env => .ok m (finOf F env)
        | .ok .nx env => .ok (.imm .non) (finOf F env)
        | .ok _ _ => .fail
        | .exc x env => .exc x (finOf F env)
        | .fail => .fail
      else .fail
    | none => .fail
end Mini

set_option Elab.async false
set_option linter.all false
set_option maxRecDepth 100000
set_option maxHeartbeats 4000000
namespace Mini
open PySem PySem.Spec PyProof.Rows L2

/-! slots and what they hold -/
def cells : L2.St → Env → Cells
  | some v :: σ, some m :: env => (v, m) :: cells σ env
  | _ :: σ, _ :: env => cells σ env
  | _, _ => []
def SlotsOk (σ : L2.St) (env : Env) : Prop := σ.length = env.length ∧ ∀ i m, gt env i = some m → ∃ v, σ[i]? = some (some v)
theorem gt_some : ∀ {env : Env} {i : Nat} {m : M}, gt env i = some m ↔ env[i]? = some (some m)
  | [], i, m => by simp [gt]
  | o :: r, 0, m => by simp [gt]
  | o :: r, i + 1, m => by
    show gt r i = some m ↔ _
    rw [gt_some (env := r)]
    simp
theorem gt_set_self {env : Env} {i : Nat} {o : Option M} (h : i < env.length) : gt (env.set i o) i = o := by
  cases o with
  | some m => exact gt_some.mpr (by simp [h])
  | none =>
    cases e : gt (env.set i none) i with
    | none => rfl
    | some m =>
      rw [gt_some] at e
      rw [List.getElem?_set_self h] at e
      cases e
theorem gt_set_ne {env : Env} {i j : Nat} {o : Option M} (h : i ≠ j) : gt (env.set i o) j = gt env j := by
  cases e : gt env j with
  | some m => rw [gt_some] at e ⊢; rw [List.getElem?_set_ne h]; exact e
  | none =>
    cases e2 : gt (env.set i o) j with
    | none => rfl
    | some m =>
      rw [gt_some, List.getElem?_set_ne h, ← gt_some, e] at e2
      cases e2
theorem gt_lt {env : Env} {i : Nat} {m : M} (h : gt env i = some m) : i < env.length := by
  rw [gt_some] at h
  exact (List.getElem?_eq_some_iff.mp h).1
theorem cells_get : ∀ {σ : L2.St} {env : Env} {i : Nat} {m : M} {v : V}, gt env i = some m → σ[i]? = some (some v) → (cells σ env).Perm ((v, m) :: cells σ (env.set i none))
  | [], env, i, m, v, h, e => by simp at e
  | o :: σ, [], i, m, v, h, e => by cases h
  | o :: σ, x :: env, 0, m, v, h, e => by
    have h : x = some m := h
    have e : o = some v := by simpa using e
    subst h e
    exact .refl _
  | o :: σ, x :: env, i + 1, m, v, h, e => by
    have h : gt env i = some m := h
    have e : σ[i]? = some (some v) := by simpa using e
    have ih := cells_get h e
    show (cells (o :: σ) (x :: env)).Perm ((v, m) :: cells (o :: σ) (x :: env.set i none))
    cases o with
    | none => exact ih
    | some w =>
      cases x with
      | none => exact ih
      | some y => exact (ih.cons (w, y)).trans (.swap _ _ _)
theorem cells_put : ∀ {σ : L2.St} {env : Env} {i : Nat} {m : M} {v : V}, i < env.length → σ[i]? = some (some v) → (cells σ (env.set i (some m))).Perm ((v, m) :: cells σ (env.set i none)) := fun {σ env i m v} h e => by
  have := cells_get (σ := σ) (env := env.set i (some m)) (i := i) (m := m) (v := v) (gt_set_self h) e
  rwa [List.set_set] at this
theorem cells_none : ∀ {σ : L2.St} {env : Env} {i : Nat} {o : Option V}, cells (σ.set i o) (env.set i none) = cells σ (env.set i none)
  | [], env, i, o => rfl
  | x :: σ, [], i, o => by cases i <;> simp [cells]
  | x :: σ, y :: env, 0, o => by cases x <;> cases o <;> rfl
  | x :: σ, y :: env, i + 1, o => by
    show cells (x :: σ.set i o) (y :: env.set i none) = cells (x :: σ) (y :: env.set i none)
    have ih := cells_none (σ := σ) (env := env) (i := i) (o := o)
    cases x with
    | none => exact ih
    | some w =>
      cases y with
      | none => exact ih
      | some z => exact congrArg _ ih
theorem cells_store {σ : L2.St} {env : Env} {i : Nat} {m : M} {v : V} (h : i < env.length) (h' : i < σ.length) : (cells (σ.set i (some v)) (env.set i (some m))).Perm ((v, m) :: cells σ (env.set i none)) := by
  have := cells_put (σ := σ.set i (some v)) (env := env) (i := i) (m := m) (v := v) h (by rw [List.getElem?_set_self h'])
  rwa [cells_none] at this
/-- a slot emptied: the rest is less -/
theorem cells_drop : ∀ {σ : L2.St} {env : Env} {i : Nat}, ∃ L, (cells σ env).Perm (L ++ cells σ (env.set i none))
  | [], env, i => ⟨[], by simp [cells]⟩
  | x :: σ, [], i => ⟨[], by cases i <;> simp [cells]⟩
  | x :: σ, y :: env, 0 => by
    cases x with
    | none => exact ⟨[], .refl _⟩
    | some w =>
      cases y with
      | none => exact ⟨[], .refl _⟩
      | some z => exact ⟨[(w, z)], .refl _⟩
  | x :: σ, y :: env, i + 1 => by
    obtain ⟨L, p⟩ := cells_drop (σ := σ) (env := env) (i := i)
    refine ⟨L, ?_⟩
    show (cells (x :: σ) (y :: env)).Perm (L ++ cells (x :: σ) (y :: env.set i none))
    cases x with
    | none => exact p
    | some w =>
      cases y with
      | none => exact p
      | some z => exact (p.cons (w, z)).trans List.perm_middle.symm
theorem SlotsOk.put {σ : L2.St} {env : Env} {i : Nat} {m : Option M} {v : V} (h : SlotsOk σ env) (e : σ[i]? = some (some v)) : SlotsOk σ (env.set i m) := by
  refine ⟨by rw [List.length_set]; exact h.1, fun j m' hj => ?_⟩
  by_cases q : i = j
  · subst q; exact ⟨v, e⟩
  · rw [gt_set_ne q] at hj; exact h.2 j m' hj
theorem SlotsOk.none {σ : L2.St} {env : Env} {i : Nat} (h : SlotsOk σ env) : SlotsOk σ (env.set i none) := by
  refine ⟨by rw [List.length_set]; exact h.1, fun j m' hj => ?_⟩
  by_cases q : i = j
  · subst q
    have hl : i < env.length := by have := gt_lt hj; simpa using this
    rw [gt_set_self hl] at hj
    cases hj
  · rw [gt_set_ne q] at hj; exact h.2 j m' hj
theorem SlotsOk.store {σ : L2.St} {env : Env} {i : Nat} {m : Option M} {v : V} (h : SlotsOk σ env) : SlotsOk (σ.set i (some v)) (env.set i m) := by
  refine ⟨by rw [List.length_set, List.length_set]; exact h.1, fun j m' hj => ?_⟩
  by_cases q : i = j
  · subst q
    have hl : i < env.length := by have := gt_lt hj; simpa using this
    exact ⟨v, by rw [List.getElem?_set_self (by rw [h.1]; exact hl)]⟩
  · rw [gt_set_ne q] at hj
    rw [List.getElem?_set_ne q]
    exact h.2 j m' hj

/-! from a value along constant subscripts -/
def StepV (G : Gk) (H : Hp) (v : V) (s : PS) (w : V) : Prop := match s with
  | .ix k => (∃ a vs, v = .ref a ∧ (SqL G.K H a vs ∨ SqT G.K H a vs) ∧ atI vs k = some w) ∨ ∃ z c, v = .str z ∧ z.length ≤ sizeLine ∧ atI z.cps.toList k = some c ∧ w = .str ⟨#[c]⟩
  | .fld _ => False
def Chain (G : Gk) (H : Hp) : V → List PS → V → Prop
  | v, [], w => w = v
  | v, s :: r, w => ∃ u, StepV G H v s u ∧ Chain G H u r w
theorem StepV.mono {G : Gk} {H H' : Hp} (e : Same H H') {v w : V} {s : PS} (h : StepV G H v s w) : StepV G H' v s w := by
  cases s with
  | fld f => exact h
  | ix k =>
    rcases h with ⟨a, vs, e1, h1 | h1, h2⟩ | h
    · exact .inl ⟨a, vs, e1, .inl (e.seq h1), h2⟩
    · exact .inl ⟨a, vs, e1, .inr (same_sqT e h1), h2⟩
    · exact .inr h
theorem Chain.mono {G : Gk} {H H' : Hp} (e : Same H H') : ∀ {p : List PS} {v w : V}, Chain G H v p w → Chain G H' v p w
  | [], v, w, h => h
  | s :: r, v, w, ⟨u, h1, h2⟩ => ⟨u, h1.mono e, Chain.mono e h2⟩
theorem RepDs.atI {G : Gk} {H : Hp} {ds : List D} {vs : List V} {k : Int} {d : D} (h : RepDs G H ds vs) (e : atI ds k = some d) : ∃ v, L2.atI vs k = some v ∧ RepD G H d v := by
  unfold L2.atI at e ⊢
  rw [h.length]
  cases q : ixN ds.length k with
  | none => rw [q] at e; cases e
  | some j =>
    rw [q] at e
    exact RepDs.get h e
theorem subD_ok {G : Gk} {H : Hp} {d d' : D} {v : V} {s : PS} (h : RepD G H d v) (e : subD d s = some d') : ∃ w, StepV G H v s w ∧ RepD G H d' w := by
  cases s with
  | fld f => cases d <;> cases e
  | ix k =>
    cases d with
    | tup ds =>
      obtain ⟨a, vs, e1, h1, h2⟩ := h
      obtain ⟨w, h3, h4⟩ := RepDs.atI h2 e
      exact ⟨w, .inl ⟨a, vs, e1, .inr h1, h3⟩, h4⟩
    | lst ds =>
      obtain ⟨a, vs, e1, h1, h2⟩ := h
      obtain ⟨w, h3, h4⟩ := RepDs.atI h2 e
      exact ⟨w, .inl ⟨a, vs, e1, .inl (SqL.of h1), h3⟩, h4⟩
    | frl ds =>
      obtain ⟨a, vs, e1, h1, h2⟩ := h
      obtain ⟨w, h3, h4⟩ := RepDs.atI h2 e
      exact ⟨w, .inl ⟨a, vs, e1, .inl h1, h3⟩, h4⟩
    | str z =>
      have h : v = .str z := h
      have e : (if z.length ≤ sizeLine then (L2.atI z.cps.toList k).map fun c => D.str ⟨#[c]⟩ else none) = some d' := e
      by_cases hz : z.length ≤ sizeLine
      · rw [if_pos hz] at e
        cases q : L2.atI z.cps.toList k with
        | none => rw [q] at e; cases e
        | some c =>
          rw [q] at e
          cases e
          exact ⟨.str ⟨#[c]⟩, .inr ⟨z, c, h, hz, q, rfl⟩, rfl⟩
      · rw [if_neg hz] at e; cases e
    | _ => cases e
theorem chain_imm {G : Gk} {H : Hp} : ∀ {p : List PS} {d : D} {m : M} {v : V}, RepD G H d v → getP (.imm d) p = some m → ∃ w d', Chain G H v p w ∧ m = .imm d' ∧ RepD G H d' w
  | [], d, m, v, h, e => by
    have e : M.imm d = m := Option.some.inj e
    exact ⟨v, d, rfl, e.symm, h⟩
  | s :: r, d, m, v, h, e => by
    unfold getP at e
    split at e
    · rename_i d1 q
      obtain ⟨u, h1, h2⟩ := subD_ok h q
      obtain ⟨w, d', h3, h4, h5⟩ := chain_imm h2 e
      exact ⟨w, d', ⟨u, h1, h3⟩, h4, h5⟩
    · cases e
theorem RepMs.get {G : Gk} {Hf H : Hp} : ∀ {ms : List M} {vs : List V} {S : List Addr} {j : Nat} {m : M}, RepMs G Hf H ms vs S → ms[j]? = some m →
    ∃ v S1 S2, vs[j]? = some v ∧ S.Perm (S1 ++ S2) ∧ RepM G Hf H m v S1 ∧ ∀ Hf' H' m' S1', Same Hf Hf' → (∀ a ∈ S2, H' a = H a) → RepM G Hf' H' m' v S1' → ∃ S', S'.Perm (S1' ++ S2) ∧ RepMs G Hf' H' (ms.set j m') vs S'
  | [], vs, S, j, m, h, e => by simp at e
  | x :: ms, vs, S, 0, m, ⟨v, vr, S1, S2, e1, e2, h1, h2⟩, e => by
    have e : x = m := by simpa using e
    subst e e1 e2
    exact ⟨v, S1, S2, by simp, .refl _, h1, fun Hf' H' m' S1' f k r => ⟨S1' ++ S2, .refl _, v, vr, S1', S2, rfl, rfl, r, RepMs.mono f _ _ _ k h2⟩⟩
  | x :: ms, vs, S, j + 1, m, ⟨v, vr, S1, S2, e1, e2, h1, h2⟩, e => by
    subst e1 e2
    obtain ⟨w, T1, T2, g1, g2, g3, g4⟩ := RepMs.get (j := j) h2 (by simpa using e)
    refine ⟨w, T1, S1 ++ T2, by simpa using g1, ?_, g3, fun Hf' H' m' S1' f k r => ?_⟩
    · refine (g2.append_left S1).trans ?_
      rw [← List.append_assoc, ← List.append_assoc]
      exact List.perm_append_comm.append_right _
    · obtain ⟨S', p, q⟩ := g4 Hf' H' m' S1' f (fun a ha => k a (List.mem_append_right _ ha)) r
      refine ⟨S1 ++ S', ?_, v, vr, S1, S', rfl, rfl, RepM.mono f _ _ _ (fun a ha => k a (List.mem_append_left _ ha)) h1, q⟩
      refine (p.append_left S1).trans ?_
      rw [← List.append_assoc, ← List.append_assoc]
      exact List.perm_append_comm.append_right _
theorem atI_set {α : Type} {xs : List α} {k : Int} {x : α} (h : atI xs k = some x) : ∃ j, ixN xs.length k = some j ∧ xs[j]? = some x := by
  unfold atI at h
  cases q : ixN xs.length k with
  | none => rw [q] at h; cases h
  | some j => rw [q] at h; exact ⟨j, rfl, h⟩
/-- along own lists alone -/
def OChain (H : Hp) : V → List PS → V → Prop
  | v, [], w => w = v
  | v, s :: r, w => ∃ a vs u k, v = .ref a ∧ H a = some (.lst vs) ∧ s = .ix k ∧ atI vs k = some u ∧ OChain H u r w
def isImm : M → Bool
  | .imm _ => true
  | _ => false
/-- the tree at a path: seen, and put another in its place -/
theorem RepM.focus {G : Gk} {Hf H : Hp} (e0 : Same Hf H) : ∀ {p : List PS} {m0 m : M} {v0 : V} {S : List Addr}, RepM G Hf H m0 v0 S → getP m0 p = some m →
    ∃ v S1 S2, S.Perm (S1 ++ S2) ∧ (Chain G H v0 p v ∧ (isImm m = false → OChain H v0 p v)) ∧ RepM G Hf H m v S1 ∧
      ∀ Hf' H' m' S1' m0', Same Hf Hf' → (∀ a ∈ S2, H' a = H a) → RepM G Hf' H' m' v S1' → putP m0 p m' = some m0' → ∃ S', S'.Perm (S1' ++ S2) ∧ RepM G Hf' H' m0' v0 S'
  | [], m0, m, v0, S, h, e => by
    have e : m0 = m := by cases m0 <;> exact Option.some.inj e
    subst e
    refine ⟨v0, S, [], by simp, ⟨rfl, fun _ => rfl⟩, h, fun Hf' H' m' S1' m0' f k r q => ?_⟩
    have q : m' = m0' := by cases m0 <;> exact Option.some.inj q
    subst q
    exact ⟨S1', by simp, r⟩
  | s :: r, .imm d, m, v0, S, ⟨h1, h2⟩, e => by
    subst h1
    have h2' := RepD.mono e0 d v0 h2
    obtain ⟨w, d', g1, g2, g3⟩ := chain_imm h2' e
    subst g2
    obtain ⟨w', d'', g1', g2', g3'⟩ := chain_imm h2 e
    cases g2'
    refine ⟨w', [], [], by simp, ⟨g1'.mono e0, fun z => by cases z⟩, ⟨rfl, g3'⟩, fun Hf' H' m' S1' m0' f k r q => ?_⟩
    cases s <;> cases q
  | .ix k :: r, .lst ms, m, v0, S, ⟨a, vs, S', e1, e2, h1, h2⟩, e => by
    subst e2
    unfold getP at e
    split at e
    · rename_i m1 q
      obtain ⟨j, q1, q2⟩ := atI_set q
      obtain ⟨w, T1, T2, g1, g2, g3, g4⟩ := RepMs.get h2 q2
      obtain ⟨v, S1, S2, f1, f2, f3, f4⟩ := RepM.focus e0 g3 e
      have hst : StepV G H v0 (.ix k) w := .inl ⟨a, vs, e1, .inl (SqL.of h1), by unfold L2.atI; rw [h2.length, q1]; exact g1⟩
      refine ⟨v, S1, a :: (S2 ++ T2), ?_, ⟨⟨w, hst, f2.1⟩, fun z => ⟨a, vs, w, k, e1, h1, rfl, by unfold L2.atI; rw [h2.length, q1]; exact g1, f2.2 z⟩⟩, f3, fun Hf' H' m' S1' m0' f kk rr qq => ?_⟩
      · refine List.Perm.trans (List.Perm.cons a (g2.trans (f1.append_right T2))) ?_
        rw [List.append_assoc]
        exact List.perm_middle.symm
      · unfold putP at qq
        simp only [q1, q2] at qq
        split at qq
        · rename_i m1' qm
          cases qq
          obtain ⟨U, p1, u1⟩ := f4 Hf' H' m' S1' m1' f (fun b hb => kk b (List.mem_cons_of_mem _ (List.mem_append_left _ hb))) rr qm
          obtain ⟨U', p2, u2⟩ := g4 Hf' H' m1' U f (fun b hb => kk b (List.mem_cons_of_mem _ (List.mem_append_right _ hb))) u1
          refine ⟨a :: U', ?_, a, vs, U', e1, rfl, (kk a List.mem_cons_self).trans h1, u2⟩
          refine List.Perm.trans (List.Perm.cons a (p2.trans (p1.append_right T2))) ?_
          rw [List.append_assoc]
          exact List.perm_middle.symm
        · cases qq
    · cases e
  | .fld f :: r, .lst ms, m, v0, S, h, e => by cases e
  | s :: r, .dK _ _, m, v0, S, h, e => by cases s <;> cases e
  | s :: r, .dT _ _, m, v0, S, h, e => by cases s <;> cases e
  | s :: r, .obj _ _ _, m, v0, S, h, e => by cases s <;> cases e

section
variable {G : Gk} {Hf H : Hp} {L L' : Cells} {v0 : V} {m0 m : M} {p : List PS}
theorem perm_mid {S1 S2 SL : List Addr} : ((S1 ++ S2) ++ SL).Perm (S2 ++ (S1 ++ SL)) := by
  rw [← List.append_assoc]
  exact List.perm_append_comm.append_right _
/-- read, or freeze, at a path -/
theorem Own.look (h : Own G Hf H ((v0, m0) :: L)) (e : getP m0 p = some m) : ∃ v, Chain G H v0 p v ∧ RepD G H (frz m) v ∧ (∀ d, m = .imm d → RepD G Hf d v) ∧
    ∀ m0', putP m0 p (.imm (frz m)) = some m0' → ∃ Hf', Same Hf Hf' ∧ Own G Hf' H ((v0, m0') :: L) ∧ RepD G Hf' (frz m) v := by
  obtain ⟨e0, S, h1, h2, h3⟩ := h
  obtain ⟨S0, SL, rfl, h4, h5⟩ := RepL.cons_iff.mp h1
  obtain ⟨v, S1, S2, f1, f2, f3, f4⟩ := RepM.focus e0 h4 e
  refine ⟨v, f2.1, RepM.frz e0 m v S1 (fun _ _ _ q => q) f3, fun d ed => (by subst ed; exact f3.2), fun m0' q => ?_⟩
  have n1 : (S2 ++ (S1 ++ SL)).Nodup := (perm_mid.nodup_iff).mp ((f1.append_right SL).nodup_iff.mp h2)
  have n2 : ∀ a ∈ S1, a ∉ S2 ∧ a ∉ SL := fun a ha => by
    obtain ⟨x1, x2, x3⟩ := List.nodup_append.mp n1
    obtain ⟨y1, y2, y3⟩ := List.nodup_append.mp x2
    exact ⟨fun z => x3 a z a (List.mem_append_left _ ha) rfl, fun z => y3 a ha a z rfl⟩
  have fr : ∀ a ∈ S1, Hf a = none := fun a ha => h3 a (List.mem_append_left _ (f1.mem_iff.mpr (List.mem_append_left _ ha)))
  have k1 : Same Hf (fun a => if a ∈ S1 then H a else Hf a) := fun b x q => by
    show (if b ∈ S1 then H b else Hf b) = some x
    by_cases hb : b ∈ S1
    · have := fr b hb
      rw [q] at this
      cases this
    · rw [if_neg hb]; exact q
  have r1 : RepD G (fun a => if a ∈ S1 then H a else Hf a) (frz m) v := RepM.frz k1 m v S1 (fun a ha o q => by show (if a ∈ S1 then H a else Hf a) = some o; rw [if_pos ha]; exact q) f3
  obtain ⟨S', p1, u1⟩ := f4 _ H (.imm (frz m)) [] m0' k1 (fun _ _ => rfl) ⟨rfl, r1⟩ q
  refine ⟨_, k1, ⟨fun b x q => ?_, S' ++ SL, RepL.cons_iff.mpr ⟨S', SL, rfl, u1, h5.mono k1 fun _ _ => rfl⟩, ?_, fun a ha => ?_⟩, r1⟩
  · have q : (if b ∈ S1 then H b else Hf b) = some x := q
    by_cases hb : b ∈ S1
    · rw [if_pos hb] at q; exact q
    · rw [if_neg hb] at q; exact e0 b x q
  · refine (p1.append_right SL).nodup_iff.mpr ?_
    obtain ⟨x1, x2, x3⟩ := List.nodup_append.mp n1
    obtain ⟨y1, y2, y3⟩ := List.nodup_append.mp x2
    exact List.nodup_append.mpr ⟨x1, y2, fun a ha b hb => x3 a ha b (List.mem_append_right _ hb)⟩
  · have ha' : a ∈ S2 ∨ a ∈ SL := by
      rcases List.mem_append.mp ha with z | z
      · exact .inl (p1.mem_iff.mp z)
      · exact .inr z
    have hn : a ∉ S1 := fun z => by
      rcases ha' with q | q
      · exact (n2 a z).1 q
      · exact (n2 a z).2 q
    show (if a ∈ S1 then H a else Hf a) = none
    rw [if_neg hn]
    refine h3 a ?_
    rcases ha' with q | q
    · exact List.mem_append_left _ (f1.mem_iff.mpr (List.mem_append_right _ q))
    · exact List.mem_append_right _ q
/-- an own list at a path, changed: its items and the other holders may exchange what they hold -/
theorem Own.change {ms : List M} (h : Own G Hf H ((v0, m0) :: L)) (e : getP m0 p = some (.lst ms)) : ∃ a vs, OChain H v0 p (.ref a) ∧ H a = some (.lst vs) ∧ vs.length = ms.length ∧
    ∀ vs' ms' L' m0', (∀ Sc SL, RepMs G Hf H ms vs Sc → RepL G Hf H L SL → (Sc ++ SL).Nodup → ∃ Sc' SL', RepMs G Hf H ms' vs' Sc' ∧ RepL G Hf H L' SL' ∧ (Sc' ++ SL').Nodup ∧ ∀ b ∈ Sc' ++ SL', b ∈ Sc ++ SL) →
      putP m0 p (.lst ms') = some m0' → Own G Hf (upd H a (.lst vs')) ((v0, m0') :: L') := by
  obtain ⟨e0, S, h1, h2, h3⟩ := h
  obtain ⟨S0, SL, rfl, h4, h5⟩ := RepL.cons_iff.mp h1
  obtain ⟨v, S1, S2, f1, f2, f3, f4⟩ := RepM.focus e0 h4 e
  obtain ⟨a, vs, Sc, e1, e2, g1, g2⟩ := f3
  subst e1 e2
  refine ⟨a, vs, f2.2 rfl, g1, g2.length, fun vs' ms' L' m0' hx q => ?_⟩
  have n1 : (S2 ++ (a :: Sc ++ SL)).Nodup := (perm_mid.nodup_iff).mp ((f1.append_right SL).nodup_iff.mp h2)
  obtain ⟨x1, x2, x3⟩ := List.nodup_append.mp n1
  have x2' : (a :: (Sc ++ SL)).Nodup := x2
  obtain ⟨y1, y2⟩ := List.nodup_cons.mp x2'
  obtain ⟨Sc', SL', r1, r2, r3, r4⟩ := hx Sc SL g2 h5 y2
  have na2 : a ∉ S2 := fun z => x3 a z a List.mem_cons_self rfl
  have naN : ∀ b ∈ Sc' ++ SL', b ≠ a := fun b hb z => y1 (z ▸ r4 b hb)
  have hfa : Hf a = none := h3 a (List.mem_append_left _ (f1.mem_iff.mpr (List.mem_append_left _ List.mem_cons_self)))
  obtain ⟨S', p1, u1⟩ := f4 Hf (upd H a (.lst vs')) (.lst ms') (a :: Sc') m0' (Same.refl _) (fun b hb => upd_ne fun z => na2 (z ▸ hb))
    ⟨a, vs', Sc', rfl, rfl, upd_same, RepMs.mono (Same.refl _) _ _ _ (fun b hb => upd_ne (naN b (List.mem_append_left _ hb))) r1⟩ q
  refine ⟨fun b x qx => ?_, S' ++ SL', RepL.cons_iff.mpr ⟨S', SL', rfl, u1, r2.mono (Same.refl _) fun b hb => upd_ne (naN b (List.mem_append_right _ hb))⟩, ?_, fun b hb => ?_⟩
  · rw [upd_ne (fun z => by rw [z, hfa] at qx; cases qx)]
    exact e0 b x qx
  · refine (p1.append_right SL').nodup_iff.mpr (perm_mid.nodup_iff.mpr ?_)
    refine List.nodup_append.mpr ⟨x1, List.nodup_cons.mpr ⟨fun z => naN a z rfl, r3⟩, fun b hb c hc => ?_⟩
    rcases List.mem_cons.mp (show c ∈ a :: (Sc' ++ SL') from hc) with z | z
    · subst z; exact fun w => na2 (w ▸ hb)
    · exact x3 b hb c (List.mem_cons_of_mem _ (r4 c z))
  · have hb' : b ∈ (a :: Sc') ++ S2 ++ SL' := by
      rcases List.mem_append.mp hb with z | z
      · exact List.mem_append_left _ (p1.mem_iff.mp z)
      · exact List.mem_append_right _ z
    have key : b = a ∨ b ∈ Sc ++ SL ∨ b ∈ S2 := by
      rcases List.mem_append.mp hb' with z | z
      · rcases List.mem_append.mp z with z | z
        · rcases List.mem_cons.mp z with z | z
          · exact .inl z
          · exact .inr (.inl (r4 b (List.mem_append_left _ z)))
        · exact .inr (.inr z)
      · exact .inr (.inl (r4 b (List.mem_append_right _ z)))
    rcases key with z | z | z
    · rw [z]; exact hfa
    · rcases List.mem_append.mp z with z | z
      · exact h3 b (List.mem_append_left _ (f1.mem_iff.mpr (List.mem_append_left _ (List.mem_cons_of_mem _ z))))
      · exact h3 b (List.mem_append_right _ z)
    · exact h3 b (List.mem_append_left _ (f1.mem_iff.mpr (List.mem_append_right _ z)))
end
end Mini

set_option Elab.async false
set_option linter.all false
set_option maxRecDepth 100000
set_option maxHeartbeats 4000000
namespace Mini
open PySem PySem.Spec PyProof.Rows L2

theorem OChain.inj {H : Hp} : ∀ {p : List PS} {v w w' : V}, OChain H v p w → OChain H v p w' → w = w'
  | [], v, w, w', h, h' => h.trans h'.symm
  | s :: r, v, w, w', ⟨a, vs, u, k, e1, e2, e3, e4, h⟩, ⟨a', vs', u', k', f1, f2, f3, f4, h'⟩ => by
    subst e1
    cases f1
    rw [e2] at f2
    cases f2
    subst e3
    cases f3
    rw [e4] at f4
    cases f4
    exact OChain.inj h h'
theorem OChain.mono {H H' : Hp} (e : Same H H') : ∀ {p : List PS} {v w : V}, OChain H v p w → OChain H' v p w
  | [], v, w, h => h
  | s :: r, v, w, ⟨a, vs, u, k, e1, e2, e3, e4, h⟩ => ⟨a, vs, u, k, e1, e _ _ e2, e3, e4, OChain.mono e h⟩
theorem OChain.chain {G : Gk} {H : Hp} : ∀ {p : List PS} {v w : V}, OChain H v p w → Chain G H v p w
  | [], v, w, h => h
  | s :: r, v, w, ⟨a, vs, u, k, e1, e2, e3, e4, h⟩ => ⟨u, by subst e3; exact .inl ⟨a, vs, e1, .inl (SqL.of e2), e4⟩, OChain.chain h⟩
/-- the way to an own node goes along own lists -/
theorem RepM.ochain {G : Gk} {Hf H : Hp} : ∀ {p : List PS} {m0 m : M} {v0 : V} {S : List Addr}, RepM G Hf H m0 v0 S → getP m0 p = some m → isImm m = false → ∃ v S', OChain H v0 p v ∧ RepM G Hf H m v S'
  | [], m0, m, v0, S, h, e, n => by
    have e : m0 = m := by cases m0 <;> exact Option.some.inj e
    subst e
    exact ⟨v0, S, rfl, h⟩
  | s :: r, .imm d, m, v0, S, ⟨h1, h2⟩, e, n => by
    obtain ⟨w, d', g1, g2, g3⟩ := chain_imm h2 e
    subst g2
    cases n
  | .ix k :: r, .lst ms, m, v0, S, ⟨a, vs, S', e1, e2, h1, h2⟩, e, n => by
    unfold getP at e
    split at e
    · rename_i m1 q
      obtain ⟨j, q1, q2⟩ := atI_set q
      obtain ⟨w, T1, T2, g1, g2, g3, g4⟩ := RepMs.get h2 q2
      obtain ⟨v, S'', f1, f2⟩ := RepM.ochain g3 e n
      exact ⟨v, S'', ⟨a, vs, w, k, e1, h1, rfl, by unfold L2.atI; rw [h2.length, q1]; exact g1, f1⟩, f2⟩
    · cases e
  | .fld f :: r, .lst ms, m, v0, S, h, e, n => by cases e
  | s :: r, .dK _ _, m, v0, S, h, e, n => by cases s <;> cases e
  | s :: r, .dT _ _, m, v0, S, h, e, n => by cases s <;> cases e
  | s :: r, .obj _ _ _, m, v0, S, h, e, n => by cases s <;> cases e

/-! where one stands -/
structure Wd where
  P : Program
  w : World
  G : Gk
  mg : Str → Option Value
  base : Heap
  ea : Nat → Addr
structure XOk (W : Wd) (N : List Str) (sc : Scope) (n : Nat) (X : Cx) : Prop where
  P : X.prog = W.P
  w : X.w = W.w
  K : X.K = W.G.K
  mg : X.mg = W.mg
  base : X.base = W.base
  nm : X.N = N
  nd : List.Nodup N
  sc : X.env.scope = sc
  calm : X.calm = true
  room : Room n X.A
  gd : X.A.guards = some []
/-- slots and row of temporaries, all held -/
def Sta (G : Gk) (Hf H : Hp) (σ : L2.St) (env : Env) (T : Cells) : Prop := SlotsOk σ env ∧ Own G Hf H (cells σ env ++ T)
/-- an operand's value: a temporary, or what a variable owns -/
def AR (H : Hp) (σ : L2.St) : List V → List A → Cells → Prop
  | [], [], L => L = []
  | v :: vs, .val m :: as, L => ∃ L', L = (v, m) :: L' ∧ AR H σ vs as L'
  | v :: vs, .ref i p :: as, L => (∃ v0, σ[i]? = some (some v0) ∧ OChain H v0 p v) ∧ AR H σ vs as L
  | _, _, _ => False
/-- an exception as it lies -/
def ExR (W : Wd) (Hf : Hp) (x : Exn) (cls : Value) (d : Option Addr) : Prop :=
  cls = .ref (W.ea x.c) ∧ ((x.ns = [] ∧ x.ds = [] ∧ d = none) ∨ ∃ dx vs, d = some dx ∧ Hf dx = some (.xd (x.ns.zip vs)) ∧ x.ns.length = vs.length ∧ RepDs W.G Hf x.ds vs)
section
variable (W : Wd) (Z : WX) (X : Cx)
def PX (σ : L2.St) (Hf : Hp) (T : Cells) : Exn → Env → Prop := fun x env' => ∀ cls d H' Hf', Same Hf Hf' → Sta W.G Hf' H' σ env' T → ExR W Hf' x cls d → Z cls d σ H'
def PV (b : Bool) (σ : L2.St) (H Hf : Hp) (T : Cells) (Q : VK) : M → Env → Prop := fun m env' => ∀ v H' Hf', Same Hf Hf' → (b = true → Same H H') → Sta W.G Hf' H' σ env' ((v, m) :: T) → Q v H'
def PAs (b : Bool) (σ : L2.St) (H Hf : Hp) (T : Cells) (Q : List V → Hp → Prop) : List A → Env → Prop := fun as env' => ∀ vs H' Hf' L, Same Hf Hf' → (b = true → Same H H') → AR H' σ vs as L → Sta W.G Hf' H' σ env' (L ++ T) → Q vs H'
def PIs (b : Bool) (σ : L2.St) (H Hf : Hp) (T : Cells) (Q : List V → Hp → Prop) : List M → Env → Prop := fun ms env' => ∀ vs H' Hf', Same Hf Hf' → (b = true → Same H H') → vs.length = ms.length → Sta W.G Hf' H' σ env' (vs.zip ms ++ T) → Q vs H'
def PT' (σ : L2.St) (Hf : Hp) (T : Cells) (Q : Bool → Hp → Prop) : Bool → Env → Prop := fun k env' => ∀ H' Hf', Same Hf Hf' → Sta W.G Hf' H' σ env' T → Q k H'
def SV (b : Bool) (e : Expr) (f : Env → R M) : Prop := ∃ t, PE X e t ∧ ∀ σ H Hf env T Q, Sta W.G Hf H σ env T → Good (f env) (PV W b σ H Hf T Q) (PX W Z σ Hf T) → t σ H Q
def SA (b : Bool) (e : Expr) (f : Env → R A) : Prop := ∃ t, PE X e t ∧ ∀ σ H Hf env T Q, Sta W.G Hf H σ env T → Good (f env) (fun a env' => PAs W b σ H Hf T (fun vs H' => ∃ v, vs = [v] ∧ Q v H') [a] env') (PX W Z σ Hf T) → t σ H Q
def ST (e : Expr) (f : Env → R Bool) : Prop := ∃ t, PT X e t ∧ ∀ σ H Hf env T Q, Sta W.G Hf H σ env T → Good (f env) (PT' W σ Hf T Q) (PX W Z σ Hf T) → t σ H Q
def SAs (b : Bool) (es : List Expr) (f : Env → R (List A)) : Prop := ∃ t, PA X es t ∧ ∀ σ H Hf env T Q, Sta W.G Hf H σ env T → Good (f env) (PAs W b σ H Hf T Q) (PX W Z σ Hf T) → t σ H Q
def SIs (b : Bool) (es : List Expr) (f : Env → R (List M)) : Prop := ∃ t, PA X es t ∧ ∀ σ H Hf env T Q, Sta W.G Hf H σ env T → Good (f env) (PIs W b σ H Hf T Q) (PX W Z σ Hf T) → t σ H Q
structure Snd (b : Bool) (e : Expr) (p : EvP) : Prop where
  v : SV W Z X b e p.v
  a : SA W Z X b e p.a
  t : ST W Z X e p.t
end

section
variable {W : Wd} {Z : WX} {X : Cx} {N : List Str} {sc : Scope} {n : Nat} {σ : L2.St} {H H' Hf Hf' : Hp} {env env' : Env} {T T' L : Cells}
theorem Sta.perm (h : Sta W.G Hf H σ env T) (p : T.Perm T') : Sta W.G Hf H σ env T' := ⟨h.1, Own.perm (p.append_left _) h.2⟩
theorem Sta.drop (h : Sta W.G Hf H σ env (L ++ T)) : Sta W.G Hf H σ env T := ⟨h.1, by
  have := Own.perm (L' := L ++ (cells σ env ++ T)) (by rw [← List.append_assoc, ← List.append_assoc]; exact List.perm_append_comm.append_right _) h.2
  exact this.right⟩
theorem Sta.same (h : Sta W.G Hf H σ env T) : Same Hf H := h.2.1
theorem Sta.tail {x : V × M} (h : Sta W.G Hf H σ env (x :: T)) : Sta W.G Hf H σ env T := Sta.drop (L := [x]) h
theorem Sta.grow (h : Sta W.G Hf H σ env T) (k : Same H H') : Sta W.G Hf H' σ env T := ⟨h.1, h.2.grow k⟩
theorem Sta.front {v : V} {m : M} (h : Sta W.G Hf H σ env ((v, m) :: T)) : Own W.G Hf H ((v, m) :: (cells σ env ++ T)) := Own.perm List.perm_middle h.2
theorem Sta.ofFront {v : V} {m : M} (h : SlotsOk σ env) (o : Own W.G Hf H ((v, m) :: (cells σ env ++ T))) : Sta W.G Hf H σ env ((v, m) :: T) := ⟨h, Own.perm List.perm_middle.symm o⟩
theorem Sta.imm {v : V} {d : D} (h : Sta W.G Hf H σ env T) (r : RepD W.G Hf d v) : Sta W.G Hf H σ env ((v, .imm d) :: T) := Sta.ofFront h.1 (h.2.imm r)
theorem Sta.freeze {v : V} {m : M} (h : Sta W.G Hf H σ env ((v, m) :: T)) : ∃ Hf', Same Hf Hf' ∧ Sta W.G Hf' H σ env ((v, .imm (frz m)) :: T) := by
  obtain ⟨Hf', e, o⟩ := h.front.freeze
  exact ⟨Hf', e, Sta.ofFront h.1 o⟩
theorem Sta.slot {i : Nat} {m : M} (h : Sta W.G Hf H σ env T) (e : gt env i = some m) : ∃ v, σ[i]? = some (some v) ∧ Own W.G Hf H ((v, m) :: (cells σ (env.set i none) ++ T)) := by
  obtain ⟨v, hv⟩ := h.1.2 i m e
  exact ⟨v, hv, Own.perm (((cells_get e hv).append_right T)) h.2⟩
theorem Sta.ofSlot {i : Nat} {m : M} {v : V} (h : SlotsOk σ env) (hi : i < env.length) (hv : σ[i]? = some (some v)) (o : Own W.G Hf H ((v, m) :: (cells σ (env.set i none) ++ T))) : Sta W.G Hf H σ (env.set i (some m)) T :=
  ⟨h.put hv, Own.perm ((cells_put hi hv).append_right T).symm o⟩

/-! constants, places -/
theorem sv_const {e : Expr} {d : D} {v : V} {b : Bool} (h : PE X e (tC v)) (hr : ∀ H, RepD W.G H d v) : SV W Z X b e (pConst d).v := by
  refine ⟨_, h, fun σ H Hf env T Q s g => ?_⟩
  exact g v H Hf (Same.refl _) (fun _ => Same.refl _) (s.imm (hr Hf))
/-- a value's operand, and its truth -/
theorem sa_of_sv {e : Expr} {f : Env → R M} {b : Bool} (h : SV W Z X b e f) : SA W Z X b e (mkV f).a := by
  obtain ⟨t, h1, h2⟩ := h
  refine ⟨t, h1, fun σ H Hf env T Q s g => h2 σ H Hf env T Q s ?_⟩
  have g : Good ((f env).bind fun m env => (R.ok (A.val m) env : R A)) _ _ := g
  rw [good_bind] at g
  refine g.mono (fun m env' k v H' Hf' e1 e2 s' => ?_) fun _ _ x => x
  obtain ⟨v', e, q⟩ := k [v] H' Hf' [(v, m)] e1 e2 ⟨[], rfl, rfl⟩ s'
  cases e
  exact q
theorem tru_rep {G : Gk} {d : D} {v : V} {k : Bool} (h : RepD G H d v) (e : truD d = some k) : TruV G.K v H k := by
  cases d with
  | non => cases e; rw [show v = .non from h]; rfl
  | bl b => cases e; rw [show v = .bl _ from h]; rfl
  | int i => cases e; rw [show v = .int i from h]; rfl
  | str z =>
    rw [show v = .str z from h]
    have e : (if z.length ≤ sizeLine then some ((z.length : Int) != 0) else none) = some k := e
    by_cases hz : z.length ≤ sizeLine
    · rw [if_pos hz] at e
      cases e
      exact ⟨hz, rfl⟩
    · rw [if_neg hz] at e; cases e
  | tup ds =>
    cases e
    obtain ⟨a, vs, e1, h1, h2⟩ := h
    subst e1
    refine .inr (.inl ⟨vs, h1, ?_⟩)
    have := h2.length
    cases ds <;> cases vs <;> first | rfl | simp at this
  | lst ds =>
    cases e
    obtain ⟨a, vs, e1, h1, h2⟩ := h
    subst e1
    refine .inl ⟨vs, SqL.of h1, ?_⟩
    have := h2.length
    cases ds <;> cases vs <;> first | rfl | simp at this
  | frl ds =>
    cases e
    obtain ⟨a, vs, e1, h1, h2⟩ := h
    subst e1
    refine .inl ⟨vs, h1, ?_⟩
    have := h2.length
    cases ds <;> cases vs <;> first | rfl | simp at this
  | _ => cases e
theorem frzs_empty : ∀ ms : List M, (frzs ms).isEmpty = ms.isEmpty
  | [] => rfl
  | m :: ms => rfl
theorem truM_frz {m : M} {k : Bool} (e : truM m = some k) : truD (frz m) = some k := by
  cases m with
  | imm d => exact e
  | lst ms => cases e; show some (!(frzs ms).isEmpty) = _; rw [frzs_empty]
  | _ => cases e
theorem st_of_sv {e : Expr} {f : Env → R M} {b : Bool} (ok : XOk W N sc n X) (h : SV W Z X b e f) (he : ∀ whole, isTrue e X.env whole = (do let v ← whole; standAt e.pos; holding [v] (truthy v))) : ST W Z X e (mkV f).t := by
  obtain ⟨t, h1, h2⟩ := h
  refine ⟨_, pt_truth h1 he, fun σ H Hf env T Q s g => h2 σ H Hf env T _ s ?_⟩
  have g : Good ((f env).bind fun m env => ofO (truM m) env) _ _ := g
  rw [good_bind] at g
  refine g.mono (fun m env' k v H' Hf' e1 e2 s' => ?_) fun _ _ x => x
  cases q : truM m with
  | none => rw [q] at k; exact k.elim
  | some c =>
    rw [q] at k
    refine ⟨c, ?_, k H' Hf' e1 s'.tail⟩
    rw [ok.K]
    exact tru_rep s'.front.view (truM_frz q)
theorem snd_mk {e : Expr} {f : Env → R M} {b : Bool} (ok : XOk W N sc n X) (h : SV W Z X b e f) (he : ∀ whole, isTrue e X.env whole = (do let v ← whole; standAt e.pos; holding [v] (truthy v))) : Snd W Z X b e (mkV f) := ⟨h, sa_of_sv h, st_of_sv ok h he⟩

/-- a place's syntax -/
def SPl (W : Wd) (X : Cx) (e : Expr) (i : Nat) (p : List PS) : Prop := ∃ t, PE X e t ∧ ∀ (σ : L2.St) H v0 v Q, σ[i]? = some (some v0) → Chain W.G H v0 p v → Q v H → t σ H Q
theorem spl_var {i : Nat} {x : Str} {pos : Pos} (ok : XOk W N sc n X) (hN : N[i]? = some x) (hv : Vis sc x) (hd : (x == ("__debug__" : Str)) = false) (hcd : (x == ("__classdict__" : Str)) = false) : SPl W X (.Name x pos) i [] := by
  refine ⟨_, pe_var (i := i) (by rw [ok.nm]; exact hN) (by rw [ok.sc]; exact hv) hd hcd, fun σ H v0 v Q h1 h2 q => ?_⟩
  have h2 : v = v0 := h2
  subst h2
  exact ⟨v, h1, q⟩
theorem Chain.snoc {G : Gk} : ∀ {p : List PS} {v u w : V} {s : PS}, Chain G H v (p ++ [s]) w → ∃ u, Chain G H v p u ∧ StepV G H u s w
  | [], v, u, w, s, ⟨x, h1, h2⟩ => ⟨v, rfl, by have h2 : w = x := h2; subst h2; exact h1⟩
  | s' :: r, v, u, w, s, ⟨x, h1, h2⟩ => by
    obtain ⟨y, h3, h4⟩ := Chain.snoc (u := u) h2
    exact ⟨y, ⟨x, h1, h3⟩, h4⟩
theorem spl_ix {e ie : Expr} {i : Nat} {p : List PS} {k : Int} {pos : Pos} (ok : XOk W N sc n X) (h : SPl W X e i p) {ti : TE} (hi : PE X ie ti) (hk : ∀ σ H Q, Q (.int k) H → ti σ H Q) (hp : PlainIx ie) : SPl W X (.Subscript e ie pos) i (p ++ [.ix k]) := by
  obtain ⟨t, h1, h2⟩ := h
  refine ⟨_, pe_ix ix_seq h1 hi hp, fun σ H v0 v Q g1 g2 q => ?_⟩
  obtain ⟨u, c1, c2⟩ := Chain.snoc (u := v) g2
  refine h2 σ H v0 u _ g1 c1 (hk σ H _ ?_)
  rw [ok.K]
  rcases c2 with ⟨a, vs, e1, f1 | f1, f2⟩ | ⟨z, c, e1, f1, f2, f3⟩
  · exact .inl ⟨a, vs, k, v, e1, rfl, f1, f2, q⟩
  · exact .inr (.inl ⟨a, vs, k, v, e1, rfl, f1, f2, q⟩)
  · subst f3
    exact .inr (.inr ⟨z, k, c, e1, rfl, f1, f2, q⟩)
theorem getE_some {i : Nat} {p : List PS} {m : M} (h : getE env i p = some m) : ∃ m0, gt env i = some m0 ∧ getP m0 p = some m := by
  unfold getE at h
  cases q : gt env i with
  | none => rw [q] at h; cases h
  | some m0 => rw [q] at h; exact ⟨m0, rfl, h⟩
theorem putE_some {i : Nat} {p : List PS} {m m0 : M} (h : putE env i p m = some env') (h0 : gt env i = some m0) : ∃ m', putP m0 p m = some m' ∧ env' = env.set i (some m') := by
  unfold putE at h
  rw [h0] at h
  cases q : putP m0 p m with
  | none => simp only [q] at h; cases h
  | some m' => simp only [q] at h; exact ⟨m', rfl, (Option.some.inj h).symm⟩
/-- at a place: what stands there, and the place frozen -/
theorem Sta.at {i : Nat} {p : List PS} {m : M} (s : Sta W.G Hf H σ env T) (h : getE env i p = some m) : ∃ v0 v, σ[i]? = some (some v0) ∧ Chain W.G H v0 p v ∧ RepD W.G H (frz m) v ∧ (∀ d, m = .imm d → RepD W.G Hf d v) ∧
    ∀ env', putE env i p (.imm (frz m)) = some env' → ∃ Hf', Same Hf Hf' ∧ Sta W.G Hf' H σ env' T ∧ RepD W.G Hf' (frz m) v := by
  obtain ⟨m0, h0, h1⟩ := getE_some h
  obtain ⟨v0, hv, o⟩ := s.slot h0
  obtain ⟨v, c1, c2, c3, c4⟩ := o.look h1
  refine ⟨v0, v, hv, c1, c2, c3, fun env' he => ?_⟩
  obtain ⟨m', q1, q2⟩ := putE_some he h0
  subst q2
  obtain ⟨Hf', e1, o', r⟩ := c4 m' q1
  exact ⟨Hf', e1, Sta.ofSlot s.1 (gt_lt h0) hv o', r⟩
theorem Sta.atO {i : Nat} {p : List PS} {m : M} (s : Sta W.G Hf H σ env T) (h : getE env i p = some m) (ni : isImm m = false) : ∃ v0 v S, σ[i]? = some (some v0) ∧ OChain H v0 p v ∧ RepM W.G Hf H m v S := by
  obtain ⟨m0, h0, h1⟩ := getE_some h
  obtain ⟨v0, hv, e0, S, o1, o2, o3⟩ := s.slot h0
  obtain ⟨S1, S2, rfl, o4, o5⟩ := RepL.cons_iff.mp o1
  obtain ⟨v, S', c1, c2⟩ := RepM.ochain o4 h1 ni
  exact ⟨v0, v, S', hv, c1, c2⟩
theorem sv_place {e : Expr} {i : Nat} {p : List PS} (h : SPl W X e i p) : SV W Z X true e (pPlace i p).v := by
  obtain ⟨t, h1, h2⟩ := h
  refine ⟨t, h1, fun σ H Hf env T Q s g => ?_⟩
  have g : Good (match getE env i p with
    | some (.imm d) => .ok (.imm d) env
    | some m => match putE env i p (.imm (frz m)) with
      | some env' => .ok (.imm (frz m)) env'
      | none => .fail
    | none => .fail : R M) _ _ := g
  cases q : getE env i p with
  | none => simp only [q] at g; exact g.elim
  | some m =>
    obtain ⟨v0, v, c1, c2, c3, c4, c5⟩ := s.at q
    refine h2 σ H v0 v Q c1 c2 ?_
    by_cases hm : ∃ d, m = .imm d
    · obtain ⟨d, rfl⟩ := hm
      simp only [q] at g
      exact g v H Hf (Same.refl _) (fun _ => Same.refl _) (s.imm (c4 d rfl))
    · have g' : Good (match putE env i p (.imm (frz m)) with
          | some env' => .ok (.imm (frz m)) env'
          | none => .fail : R M) (PV W true σ H Hf T Q) (PX W Z σ Hf T) := by
        cases m with
        | imm d => exact absurd ⟨d, rfl⟩ hm
        | _ => simp only [q] at g; exact g
      cases q2 : putE env i p (.imm (frz m)) with
      | none => rw [q2] at g'; exact g'.elim
      | some env' =>
        rw [q2] at g'
        obtain ⟨Hf', e1, s', r⟩ := c5 env' q2
        exact g' v H Hf' e1 (fun _ => Same.refl _) (s'.imm r)
theorem sa_place {e : Expr} {i : Nat} {p : List PS} (h : SPl W X e i p) : SA W Z X true e (pPlace i p).a := by
  obtain ⟨t, h1, h2⟩ := h
  refine ⟨t, h1, fun σ H Hf env T Q s g => ?_⟩
  have g : Good (match getE env i p with
    | some (.imm d) => .ok (.val (.imm d)) env
    | some _ => .ok (.ref i p) env
    | none => .fail : R A) _ _ := g
  cases q : getE env i p with
  | none => simp only [q] at g; exact g.elim
  | some m =>
    by_cases hm : ∃ d, m = .imm d
    · obtain ⟨d, rfl⟩ := hm
      obtain ⟨v0, v, c1, c2, c3, c4, c5⟩ := s.at q
      refine h2 σ H v0 v Q c1 c2 ?_
      simp only [q] at g
      obtain ⟨v', e, r⟩ := g [v] H Hf [(v, .imm d)] (Same.refl _) (fun _ => Same.refl _) ⟨[], rfl, rfl⟩ (s.imm (c4 d rfl))
      cases e
      exact r
    · have ni : isImm m = false := by
        cases m with
        | imm d => exact absurd ⟨d, rfl⟩ hm
        | _ => rfl
      obtain ⟨v0, v, S, c1, c2, c3⟩ := s.atO q ni
      refine h2 σ H v0 v Q c1 c2.chain ?_
      have g' : Good (.ok (A.ref i p) env : R A) (fun a env' => PAs W true σ H Hf T (fun vs H' => ∃ v, vs = [v] ∧ Q v H') [a] env') (PX W Z σ Hf T) := by
        cases m with
        | imm d => exact absurd ⟨d, rfl⟩ hm
        | _ => simp only [q] at g; exact g
      obtain ⟨v', e, r⟩ := g' [v] H Hf [] (Same.refl _) (fun _ => Same.refl _) ⟨⟨v0, c1, c2⟩, rfl⟩ s
      cases e
      exact r
theorem st_place {e : Expr} {i : Nat} {p : List PS} (ok : XOk W N sc n X) (h : SPl W X e i p) (he : ∀ whole, isTrue e X.env whole = (do let v ← whole; standAt e.pos; holding [v] (truthy v))) : ST W Z X e (pPlace i p).t := by
  obtain ⟨t, h1, h2⟩ := h
  refine ⟨_, pt_truth h1 he, fun σ H Hf env T Q s g => ?_⟩
  have g : Good (match getE env i p with
    | some m => ofO (truM m) env
    | none => .fail : R Bool) _ _ := g
  cases q : getE env i p with
  | none => simp only [q] at g; exact g.elim
  | some m =>
    simp only [q] at g
    obtain ⟨v0, v, c1, c2, c3, c4, c5⟩ := s.at q
    cases q2 : truM m with
    | none => rw [q2] at g; exact g.elim
    | some k =>
      rw [q2] at g
      refine h2 σ H v0 v _ c1 c2 ⟨k, ?_, g H Hf (Same.refl _) s⟩
      rw [ok.K]
      exact tru_rep c3 (truM_frz q2)
theorem snd_place {e : Expr} {i : Nat} {p : List PS} (ok : XOk W N sc n X) (h : SPl W X e i p) (he : ∀ whole, isTrue e X.env whole = (do let v ← whole; standAt e.pos; holding [v] (truthy v))) : Snd W Z X true e (pPlace i p) := ⟨sv_place h, sa_place h, st_place ok h he⟩
theorem SV.weak {e : Expr} {f : Env → R M} {b : Bool} (h : SV W Z X b e f) : SV W Z X false e f := by
  obtain ⟨t, h1, h2⟩ := h
  exact ⟨t, h1, fun σ H Hf env T Q s g => h2 σ H Hf env T Q s (g.mono (fun m env' k v H' Hf' e1 e2 s' => k v H' Hf' e1 (fun z => by cases z) s') fun _ _ x => x)⟩
theorem SA.weak {e : Expr} {f : Env → R A} {b : Bool} (h : SA W Z X b e f) : SA W Z X false e f := by
  obtain ⟨t, h1, h2⟩ := h
  exact ⟨t, h1, fun σ H Hf env T Q s g => h2 σ H Hf env T Q s (g.mono (fun m env' k v H' Hf' L e1 e2 a s' => k v H' Hf' L e1 (fun z => by cases z) a s') fun _ _ x => x)⟩
theorem Snd.weak {e : Expr} {f : EvP} {b : Bool} (h : Snd W Z X b e f) : Snd W Z X false e f := ⟨h.v.weak, h.a.weak, h.t⟩
end
end Mini

set_option Elab.async false
set_option linter.all false
set_option maxRecDepth 100000
set_option maxHeartbeats 4000000
set_option autoImplicit false
namespace Mini
open PySem PySem.Spec PyProof.Rows L2
section
variable {P : Program} {w : World} {A : Around} {E : Value → Shared → Prop} {s : Shared}
abbrev emptySet (w : World) : Obj := { cls := .type "set", dict := none, data := .set #[] 0 (.fresh 0 0 (!w.params.followText "set-order")) }
set_option maxHeartbeats 8000000 in
theorem call_set_lst {l : Addr} {xs : Array Value} (ns : List Int) {Q : Value → Shared → Prop} (hA : A.handled = none) (hl : s.heap.IsList l xs) (hi : IntsAre xs.toList ns) (hb : ns.length + 1 < scanBound)
    (k : ∀ (h' : Heap) (tk c : Nat), SetR w h' s.heap.objs.size (fun j => decide (j ∈ ns)) c → c ≤ ns.length → (∀ b o, s.heap.get? b = some o → h'.get? b = some o) →
      Q (.ref s.heap.objs.size) { s with heap := h', toks := tk }) :
    wpAny (model P w) A (call (.type "set") [.ref l]) Q E s := by
  have size : xs.size = ns.length := by
    rw [← Array.length_toList]
    exact IntsAre.length hi
  obtain ⟨c, tl, hmro⟩ := F.called_set.mro
  have a1 := F.called_set.made
  have a2 := F.called_set.sub
  refine (wpAny_call (codeAny_of_tree ?_))
  show wpAny _ _ (callAny (.type "set") _) _ _ _
  refine (wpAny_pure ⟨Code.quiet_builtin _ (by decide +kernel), (codeAny_builtin F.entry_type_call ?_)⟩)
  rw [Around.under_plain (weight_type_call_type "set" [(.ref l : Value)] []) rfl]
  have a3 := F.called_set.notType
  have a4 := F.called_set.canCreate
  have a5 := F.typeCall_set_1 (.ref l)
  repeat any_goals (first | assumption | wp_step)
  refine codeAny_mono (code_set_led1 (.ref l) (E := E) (Q₁ := fun v s₁ => v = .ref s.heap.objs.size ∧ s₁ = { s with heap := s.heap.push (emptySet w) }) ⟨rfl, rfl⟩) fun r s₁ hr => ?_
  cases r with
  | error e => exact hr
  | ok fl =>
    cases fl with
    | ret obj =>
      obtain ⟨rfl, rfl⟩ := hr
      have b1 : (s.heap.push (emptySet w)).get? s.heap.objs.size = some (emptySet w) := Heap.get?_push_size _ rfl
      have b2 : Shared.TypeIs { s with heap := s.heap.push (emptySet w) } (.ref s.heap.objs.size) "set" := ⟨_, b1, rfl⟩
      have b3 := F.called_set.init.lookup
      have b4 := F.called_set.init.bind (.ref s.heap.objs.size)
      repeat any_goals (first | assumption | wp_step)
      refine codeAny_mono (codeAny_call_builtin (R := wants (fun r s₂ => r = .none ∧ ∃ h' tk c, s₂ = { s with heap := h', toks := tk } ∧ SetR w h' s.heap.objs.size (fun j => decide (j ∈ ns)) c ∧
          c ≤ ns.length ∧ (∀ b o, s.heap.get? b = some o → h'.get? b = some o)) E) F.called_set.init.plain F.entry_set_init (check_set_init_1 b2 ?_)) fun r₂ s₂ hr₂ => ?_
      · obtain ⟨⟨oc, od, odt, os⟩, hol, hcl, nl, hdl⟩ := hl
        simp only at hcl hdl
        subst hcl hdl
        have c1 : (s.heap.push (emptySet w)).get? l = some { cls := .type "list", dict := od, data := .seq xs nl, slots := os } := Heap.get?_push_of_some _ hol
        have c2 := F.sub_list_set
        have c3 := F.sub_list_frozenset
        have c4 : (Value.type "list" == Value.type "dict") = false := by decide
        have c5 : (s.heap.push (emptySet w)).IsList l xs := ⟨_, c1, rfl, nl, rfl⟩
        unfold Builtin.«set.__init__» noKeywords Builtin.Frozenset.updateFrom
        generalize hPI : pyIter = PI
        wp_walk
        subst hPI
        refine (wpAny_pyIter_list c5 ?_)
        refine (wpAny_bind (wpAny_runValue ?_))
        have d1 : l < s.heap.objs.size := Heap.lt_size hol
        have d2 : A.in1.in1.in1.handled = none := by simp [hA]
        have d3 : (s.heap.push (emptySet w)).objs.size = s.heap.objs.size + 1 := Heap.size_push ..
        have d4 : l ≠ (s.heap.push (emptySet w)).objs.size := by rw [d3]; exact Nat.ne_of_lt (Nat.lt_succ_of_lt d1)
        have d5 : s.heap.objs.size ∉ [(s.heap.push (emptySet w)).objs.size, l] := by
          rw [d3]
          simp only [List.mem_cons, List.not_mem_nil, or_false, not_or]
          exact ⟨Nat.ne_of_lt (Nat.lt_succ_self _), Nat.ne_of_gt d1⟩
        have d6 : ∀ (i : Nat) (v : Value), xs[i]? = some v → ∃ k t, ns[i]? = some k ∧ v = .int k t := fun i v hv => by
          have hlt : i < ns.length := by rw [← size]; exact (Array.getElem?_eq_some_iff.mp hv).1
          obtain ⟨t, e⟩ := PyProof.Rows.IntsAre.int_at hi i v ((Array.getElem?_toList ..).trans hv)
          refine ⟨ns[i], t, List.getElem?_eq_getElem hlt, ?_⟩
          rw [e, List.getD_eq_getElem?_getD, List.getElem?_eq_getElem hlt]
          rfl
        refine set_update_ints ((Walks.list d2 _ l d4 xs).toS) s.heap.objs.size d5 ns size hb d6 (xs.size - 0) 0 _ (by omega) (Nat.zero_le _) ⟨⟨_, Heap.get?_push_size _ rfl, rfl, rfl⟩, (c5.push _)⟩ ?g1 ?g2
        case g1 => exact ⟨0, Nat.le_refl 0, setR_new_at (Heap.get?_push_of_some _ b1)⟩
        case g2 =>
          intro s' c' hm hc' hS'
          obtain ⟨h', gg, dd, tk', oo⟩ := s'
          have eg : gg = s.gens := hm.gens
          have ed : dd = s.drawn := hm.drawn
          have eo : oo = s.os := hm.os
          subst eg ed eo
          show wpAny _ _ _ _ _ _
          refine wpAny_pure ?_
          show wpAny _ _ (ret Value.none) _ _ _
          rw [size] at hc'
          refine wpAny_pure ⟨rfl, h', tk', c', rfl, hS', hc', fun b o e => ?_⟩
          have e0 : b < s.heap.objs.size := Heap.lt_size e
          refine hm.heap b o ?_ (Heap.get?_push_of_some _ (Heap.get?_push_of_some _ e))
          rw [d3]
          simp only [List.mem_cons, List.not_mem_nil, or_false, not_or]
          exact ⟨Nat.ne_of_lt e0, Nat.ne_of_lt (Nat.lt_succ_of_lt e0)⟩
      · cases r₂ with
        | error e => exact hr₂
        | ok fl₂ =>
          cases fl₂ with
          | ret r =>
            obtain ⟨rfl, h', tk, c', rfl, hS', hc', hk'⟩ := hr₂
            repeat any_goals (first | assumption | wp_step)
            exact k _ _ _ hS' hc' hk'
          | _ => exact hr₂.elim
    | _ => exact hr.elim
end
theorem intsOfVals : ∀ {ns : List Int} {us : List Value}, Vals (ns.map V.int) us → IntsAre us ns
  | [], _, .nil => .nil
  | n :: ns, _, .cons ⟨k, e⟩ t => by subst e; exact .cons n k (intsOfVals t)
section
variable {X : Cx}
def tSoSet (K : PySem.W.Frag) (ta : TE) : TE := fun σ H Q => ta σ H fun x H1 => ∃ (l : Addr) (ns : List Int), x = .ref l ∧ SqL K H1 l (ns.map V.int) ∧ ns.length ≤ 4000 ∧ ∀ p, H1 p = none → Q (.ref p) (upd H1 p (.lst ((sset ns).map V.int)))
theorem pe_soSet {a : Expr} {ta : TE} {p p2 q pos : Pos} (hg : Gl X "sorted") (hm : X.mg "sorted" = none) (hg2 : Gl X "set") (hm2 : X.mg "set" = none) (ha : PE X a ta) (hc : X.calm = true) (na : starEach [a] X.env = (false, eval a X.env) :: starEach [] X.env) :
    PE X (.Call (.Name "sorted" p) [.Call (.Name "set" p2) [a] [] q] [] pos) (tSoSet X.K ta) := by
  constructor
  intro pins s σ H Q I h
  refine Call_ (ld_blt I hg hm boot_sorted ?_)
  refine (PyProof.Rows.callWith_builtin1 (PyProof.Rows.args_cons ?_ rfl) rfl rfl)
  refine Call_ (ld_blt I hg2 hm2 boot_set ?_)
  refine PyProof.Rows.callWith_type1 (PyProof.Rows.args_cons (thn (ha.run pins s σ H _ I h) fun v s1 x1 => PyProof.Rows.args_nil ?_) na) na rfl
  obtain ⟨x, H1, I1, r1, l, ns, rfl, hq, hl, q1⟩ := x1
  cases r1
  obtain ⟨its, rv, pl, hz⟩ := I1.list hq
  refine call_set_lst ns (I1.ok.hd hc) pl.isList (intsOfVals rv) (by unfold scanBound; omega) fun h' tk c R hcn hk => ?_
  refine PyProof.Rows.args_nil ?_
  have I2 : Inv X pins σ H1 { s1 with heap := h', toks := tk } := I1.kept hk
  refine sorted_setB (s := { s1 with heap := h', toks := tk }) R (I2.ok.hd hc) (by omega) fun s' p0 out c2 ns2 k2 g o hp ho hi hs hm2 => ?_
  have en : ns2 = sset ns := strict_uniq (fun z => by rw [hm2 z, sset_mem]; simp) hs (sset_lt ns)
  subst en
  have hlen : ((sset ns).map V.int).length ≤ sizeLine := by have := sizeLine_eq; have := sset_len ns; rw [List.length_map]; omega
  have fr : H1 p0 = none := I2.hok.fresh hp
  have kk : ∀ b u, s1.heap.get? b = some u → s'.heap.get? b = some u := fun b u e => k2 b u (hk b u e)
  have hp2 : s1.heap.objs.size ≤ p0 := Nat.le_trans (Nat.le_of_lt R.lt) hp
  have J : Inv X pins σ (upd H1 p0 (.lst ((sset ns).map V.int))) { s1 with heap := s'.heap, gens := s'.gens, drawn := s'.drawn, toks := s'.toks } :=
    I1.call (ch := []) (Un.laid kk hp2 fr) (I1.hok.laid kk hp2 ⟨hlen, out.toList, c2, vals_of_ints hi, ho⟩) (by rw [g]; exact I1.bare) (fun _ z => nomatch z)
  have e : s' = { s1 with heap := s'.heap, gens := s'.gens, drawn := s'.drawn, toks := s'.toks } := by
    cases s'
    cases s1
    cases o
    rfl
  rw [e]
  exact ⟨.ref p0, _, J, rfl, q1 p0 fr⟩
end
end Mini

set_option Elab.async false
set_option linter.all false
set_option maxRecDepth 100000
set_option maxHeartbeats 4000000
set_option autoImplicit false
namespace Mini
open PySem PySem.Spec PyProof.Rows L2

def NoStar (e : Expr) : Prop := ∀ x p, e ≠ .Starred x p
theorem starEach_ne {e : Expr} (h : NoStar e) (es : List Expr) (env : PySem.Env) : starEach (e :: es) env = (false, eval e env) :: starEach es env := by
  cases e <;> first | rfl | exact absurd rfl (h _ _)
def tAll : List TE → TA
  | [] => tNil
  | t :: ts => tCons t (tAll ts)
abbrev PEs (X : Cx) : List Expr → List TE → Prop := Paired fun e t => PE X e t ∧ NoStar e
theorem pa_all {X : Cx} : ∀ {es : List Expr} {ts : List TE}, PEs X es ts → PA X es (tAll ts)
  | _, _, .nil => pa_nil
  | _, _, .cons h r => pa_cons h.1 (pa_all r) (starEach_ne h.2 _ _)

section
variable {W : Wd} {Z : WX} {X : Cx} {N : List Str} {sc : Scope} {n : Nat} {σ : L2.St} {H H' Hf Hf' : Hp} {env env' : Env} {T T' L : Cells}

theorem Good.monoE {α : Type} {r : R α} {K K' : α → Env → Prop} {X X' : Exn → Env → Prop} (h : Good r K X) (hk : ∀ a env, r = .ok a env → K a env → K' a env) (hx : ∀ x env, X x env → X' x env) : Good r K' X' := by
  cases r with
  | ok a env => exact hk a env rfl h
  | exc x env => exact hx x env h
  | fail => exact h

def SAs' (W : Wd) (Z : WX) (X : Cx) (b : Bool) (es : List Expr) (f : Env → R (List A)) : Prop := ∃ ts, PEs X es ts ∧ ∀ σ H Hf env T Q, Sta W.G Hf H σ env T → Good (f env) (PAs W b σ H Hf T Q) (PX W Z σ Hf T) → tAll ts σ H Q
def SIs' (W : Wd) (Z : WX) (X : Cx) (b : Bool) (es : List Expr) (f : Env → R (List M)) : Prop := ∃ ts, PEs X es ts ∧ ∀ σ H Hf env T Q, Sta W.G Hf H σ env T → Good (f env) (PIs W b σ H Hf T Q) (PX W Z σ Hf T) → tAll ts σ H Q

theorem px_drop {x : Exn} {env : Env} (e : Same Hf Hf') (h : PX W Z σ Hf T x env) : PX W Z σ Hf' (L ++ T) x env := fun cls d H' Hf2 e2 s r => h cls d H' Hf2 (e.trans e2) s.drop r
theorem px_cons {x : Exn} {env : Env} {y : V × M} (e : Same Hf Hf') (h : PX W Z σ Hf T x env) : PX W Z σ Hf' (y :: T) x env := fun cls d H' Hf2 e2 s r => h cls d H' Hf2 (e.trans e2) s.tail r
theorem px_same {x : Exn} {env : Env} (e : Same Hf Hf') (h : PX W Z σ Hf T x env) : PX W Z σ Hf' T x env := fun cls d H' Hf2 e2 s r => h cls d H' Hf2 (e.trans e2) s r

theorem ar_one {vs : List V} {a : A} {L : Cells} (h : AR H σ vs [a] L) : ∃ v, vs = [v] := by
  cases vs with
  | nil => cases a <;> exact h.elim
  | cons v r =>
    cases r with
    | nil => exact ⟨v, rfl⟩
    | cons w r => cases a with
      | val m => obtain ⟨L', _, h⟩ := h; exact h.elim
      | ref i p => exact h.2.elim
theorem sas_cons {e : Expr} {es : List Expr} {f1 : Env → R A} {f2 : Env → R (List A)} {b1 b2 : Bool} (hn : NoStar e) (h1 : SA W Z X b1 e f1) (h2 : SAs' W Z X b2 es f2) (hr : ∀ env i p env', f1 env = .ok (.ref i p) env' → p = [] ∨ b2 = true) :
    SAs' W Z X (b1 && b2) (e :: es) (fun env => (f1 env).bind fun a env => (f2 env).bind fun as env => .ok (a :: as) env) := by
  obtain ⟨t1, p1, q1⟩ := h1
  obtain ⟨ts, p2, q2⟩ := h2
  refine ⟨t1 :: ts, .cons ⟨p1, hn⟩ p2, fun σ H Hf env T Q s g => ?_⟩
  rw [good_bind] at g
  refine q1 σ H Hf env T (fun x H1 => tAll ts σ H1 fun xs H2 => Q (x :: xs) H2) s (g.monoE (fun a env1 ea k vs H1 Hf1 L e1 e2 ar s1 => ?_) fun _ _ x => x)
  obtain ⟨v, rfl⟩ := ar_one ar
  refine ⟨v, rfl, ?_⟩
  rw [good_bind] at k
  refine q2 σ H1 Hf1 env1 (L ++ T) _ s1 (k.mono (fun as env2 kk vs2 H2 Hf2 L2 e3 e4 ar2 s2 => ?_) fun x env2 kx => px_drop e1 kx)
  have e5 : (b1 && b2) = true → Same H H2 := fun z => by
    rw [Bool.and_eq_true] at z
    exact (e2 z.1).trans (e4 z.2)
  cases a with
  | val m =>
    obtain ⟨L', eL, hL'⟩ := ar
    have hL' : L' = [] := hL'
    subst hL' eL
    exact kk (v :: vs2) H2 Hf2 ((v, m) :: L2) (e1.trans e3) e5 ⟨L2, rfl, ar2⟩ (s2.perm List.perm_middle)
  | ref i p =>
    obtain ⟨⟨v0, c1, c2⟩, hL⟩ := ar
    have hL : L = [] := hL
    subst hL
    refine kk (v :: vs2) H2 Hf2 L2 (e1.trans e3) e5 ⟨⟨v0, c1, ?_⟩, ar2⟩ s2
    rcases hr env i p env1 ea with hp | hb
    · subst hp; exact c2
    · exact c2.mono (e4 hb)
theorem sas_nil : SAs' W Z X true [] (fun env => .ok [] env) := ⟨[], .nil, fun σ H Hf env T Q s g => g [] H Hf [] (Same.refl _) (fun _ => Same.refl _) rfl s⟩
theorem sis_nil : SIs' W Z X true [] (fun env => .ok [] env) := ⟨[], .nil, fun σ H Hf env T Q s g => g [] H Hf (Same.refl _) (fun _ => Same.refl _) rfl s⟩
theorem sis_cons {e : Expr} {es : List Expr} {f1 : Env → R M} {f2 : Env → R (List M)} {b1 b2 : Bool} (hn : NoStar e) (h1 : SV W Z X b1 e f1) (h2 : SIs' W Z X b2 es f2) :
    SIs' W Z X (b1 && b2) (e :: es) (fun env => (f1 env).bind fun a env => (f2 env).bind fun as env => .ok (a :: as) env) := by
  obtain ⟨t1, p1, q1⟩ := h1
  obtain ⟨ts, p2, q2⟩ := h2
  refine ⟨t1 :: ts, .cons ⟨p1, hn⟩ p2, fun σ H Hf env T Q s g => ?_⟩
  rw [good_bind] at g
  refine q1 σ H Hf env T (fun x H1 => tAll ts σ H1 fun xs H2 => Q (x :: xs) H2) s (g.mono (fun m env1 k v H1 Hf1 e1 e2 s1 => ?_) fun _ _ x => x)
  rw [good_bind] at k
  refine q2 σ H1 Hf1 env1 ((v, m) :: T) _ s1 (k.mono (fun ms env2 kk vs2 H2 Hf2 e3 e4 hl s2 => ?_) fun x env2 kx => px_cons e1 kx)
  refine kk (v :: vs2) H2 Hf2 (e1.trans e3) (fun z => ?_) (by rw [List.length_cons, List.length_cons, hl]) (s2.perm List.perm_middle)
  rw [Bool.and_eq_true] at z
  exact (e2 z.1).trans (e4 z.2)

/-! operands of instructions -/
theorem mkV_ref {f : Env → R M} {env env' : Env} {i : Nat} {p : List PS} (h : (mkV f).a env = .ok (.ref i p) env') : False := by
  have h : ((f env).bind fun m env => (R.ok (A.val m) env : R A)) = .ok (.ref i p) env' := h
  cases q : f env with
  | ok m e => rw [q] at h; cases h
  | exc x e => rw [q] at h; cases h
  | fail => rw [q] at h; cases h
theorem ev_ref {C : Ct} {pr : Nat → Bool} {ir : E} {env env' : Env} {i : Nat} {p : List PS} (h : (ev C pr ir).a env = .ok (.ref i p) env') : ir = .place i p := by
  cases ir with
  | place j q =>
    have h : (match getE env j q with
      | some (.imm d) => .ok (.val (.imm d)) env
      | some _ => .ok (.ref j q) env
      | none => .fail : R A) = .ok (.ref i p) env' := h
    split at h
    · cases h
    · cases h; rfl
    · cases h
  | const d => exact (mkV_ref (f := (ev C pr (.const d)).v) h).elim
  | prim q es => exact (mkV_ref (f := (ev C pr (.prim q es)).v) h).elim
  | tupE st es => exact (mkV_ref (f := (ev C pr (.tupE st es)).v) h).elim
  | lstE es => exact (mkV_ref (f := (ev C pr (.lstE es)).v) h).elim
  | dicE ks es => exact (mkV_ref (f := (ev C pr (.dicE ks es)).v) h).elim
  | andE a b => exact (mkV_ref (f := (ev C pr (.andE a b)).v) h).elim
  | orE a b => exact (mkV_ref (f := (ev C pr (.orE a b)).v) h).elim
  | notE a => exact (mkV_ref (f := (ev C pr (.notE a)).v) h).elim
  | ifE t a b => exact (mkV_ref (f := (ev C pr (.ifE t a b)).v) h).elim
  | cmp2 q q' a b c => exact (mkV_ref (f := (ev C pr (.cmp2 q q' a b c)).v) h).elim
  | call f es => exact (mkV_ref (f := (ev C pr (.call f es)).v) h).elim
  | chg k j q es => exact (mkV_ref (f := (ev C pr (.chg k j q es)).v) h).elim
  | comp elt tg k es ifs own => exact (mkV_ref (f := (ev C pr (.comp elt tg k es ifs own)).v) h).elim
abbrev Snds (W : Wd) (Z : WX) (X : Cx) (C : Ct) (pr : Nat → Bool) : List Expr → List E → Prop := Paired fun e ir => Snd W Z X (inertE ir) e (ev C pr ir) ∧ NoStar e
theorem zip_all {C : Ct} {pr : Nat → Bool} : ∀ irs : List E, ((irs.zip (evs C pr irs)).all fun q => inertE q.1) = irs.all inertE
  | [] => rfl
  | ir :: irs => by
    show (inertE ir && ((irs.zip (evs C pr irs)).all fun q => inertE q.1)) = (inertE ir && irs.all inertE)
    rw [zip_all irs]
theorem sas_args {C : Ct} {pr : Nat → Bool} : ∀ {es : List Expr} {irs : List E}, Snds W Z X C pr es irs → SAs' W Z X (irs.all inertE) es (pArgs (irs.zip (evs C pr irs)))
  | _, _, .nil => sas_nil
  | e :: es, ir :: irs, .cons h r => by
    have ih := sas_args r
    have key : ∀ f : Env → R A, SA W Z X (inertE ir) e f → (∀ env i p env', f env = .ok (.ref i p) env' → p = [] ∨ irs.all inertE = true) →
        SAs' W Z X ((ir :: irs).all inertE) (e :: es) (fun env => (f env).bind fun a env => (pArgs (irs.zip (evs C pr irs)) env).bind fun as env => .ok (a :: as) env) := fun f hf hr => sas_cons h.2 hf ih hr
    show SAs' W Z X ((ir :: irs).all inertE) (e :: es) (pArgs ((ir, ev C pr ir) :: irs.zip (evs C pr irs)))
    cases ir with
    | place i p =>
      cases p with
      | nil => exact key _ h.1.a fun env j q env' hq => .inl (by cases ev_ref hq; rfl)
      | cons x xs =>
        have e1 : pArgs ((E.place i (x :: xs), ev C pr (.place i (x :: xs))) :: irs.zip (evs C pr irs)) = fun env =>
            ((if (irs.zip (evs C pr irs)).all (fun q => inertE q.1) then (ev C pr (.place i (x :: xs))).a env else ((ev C pr (.place i (x :: xs))).v env).bind fun m env => .ok (.val m) env).bind fun a env => (pArgs (irs.zip (evs C pr irs)) env).bind fun as env => .ok (a :: as) env) := rfl
        rw [e1, zip_all]
        by_cases hb : irs.all inertE = true
        · simp only [if_pos hb]
          exact key _ h.1.a fun env j q env' hq => .inr hb
        · simp only [if_neg hb]
          exact key _ (sa_of_sv h.1.v) fun env j q env' hq => (mkV_ref (f := (ev C pr (.place i (x :: xs))).v) hq).elim
    | _ => exact key _ h.1.a fun env j q env' hq => (nomatch ev_ref hq)
theorem sis_items {C : Ct} {pr : Nat → Bool} : ∀ {es : List Expr} {irs : List E}, Snds W Z X C pr es irs → SIs' W Z X (irs.all inertE) es (pItems (evs C pr irs))
  | _, _, .nil => sis_nil
  | e :: es, ir :: irs, .cons h r => sis_cons h.2 h.1.v (sis_items r)
theorem sas_argsC {C : Ct} {pr : Nat → Bool} : ∀ {es : List Expr} {irs : List E}, Snds W Z X C pr es irs → SAs' W Z X false es (pArgsC (irs.zip (evs C pr irs)))
  | _, _, .nil => by
    obtain ⟨ts, h1, h2⟩ := sas_nil (W := W) (Z := Z) (X := X)
    exact ⟨ts, h1, fun σ H Hf env T Q s g => h2 σ H Hf env T Q s (g.mono (fun a e k vs H' Hf' L e1 e2 => k vs H' Hf' L e1 fun z => by cases z) fun _ _ x => x)⟩
  | e :: es, ir :: irs, .cons h r => by
    have ih := sas_argsC r
    have key : ∀ f : Env → R A, SA W Z X false e f → (∀ env i p env', f env = .ok (.ref i p) env' → p = []) →
        SAs' W Z X false (e :: es) (fun env => (f env).bind fun a env => (pArgsC (irs.zip (evs C pr irs)) env).bind fun as env => .ok (a :: as) env) := fun f hf hr => sas_cons h.2 hf ih fun env i p env' q => .inl (hr env i p env' q)
    show SAs' W Z X false (e :: es) (pArgsC ((ir, ev C pr ir) :: irs.zip (evs C pr irs)))
    have kv : SAs' W Z X false (e :: es) (fun env => (((ev C pr ir).v env).bind fun m env => (R.ok (A.val m) env : R A)).bind fun a env => (pArgsC (irs.zip (evs C pr irs)) env).bind fun as env => .ok (a :: as) env) :=
      key _ (sa_of_sv h.1.v).weak fun env i p env' hq => (mkV_ref (f := (ev C pr ir).v) hq).elim
    cases ir with
    | place i p =>
      cases p with
      | nil => exact key _ h.1.a.weak fun env j q env' hq => by cases ev_ref hq; rfl
      | cons x xs => exact kv
    | _ => exact kv

/-! what a prim leaves -/
def Conts (G : Gk) (Hf H : Hp) : List V → List M → Prop
  | [], [] => True
  | v :: vs, m :: ms => (∃ S, RepM G Hf H m v S) ∧ Conts G Hf H vs ms
  | _, _ => False
def ResM (G : Gk) (Hf H : Hp) (m : M) (v : V) (H' : Hp) : Prop :=
  (H' = H ∧ ∃ d, m = .imm d ∧ RepD G Hf d v) ∨ ∃ p ds ws, H p = none ∧ v = .ref p ∧ RepDs G Hf ds ws ∧ ((m = .imm (.tup ds) ∧ H' = upd H p (.tup ws)) ∨ (m = .lst (ds.map .imm) ∧ H' = upd H p (.lst ws)))
def rPr (G : Gk) (p : Pr) (xs : List V) (H : Hp) (Q : VK) : Prop := ∃ Hf ms m, Same Hf H ∧ Conts G Hf H xs ms ∧ primM p ms = some m ∧ ∀ v H', ResM G Hf H m v H' → Q v H'
theorem conts_of : ∀ {vs : List V} {as : List A} {L T : Cells} {ms : List M}, Sta W.G Hf H σ env (L ++ T) → AR H σ vs as L → res env as = some ms → Conts W.G Hf H vs ms
  | [], [], L, T, ms, s, ar, e => by cases e; exact trivial
  | v :: vs, .val m :: as, L, T, ms, s, ⟨L', eL, ar⟩, e => by
    subst eL
    unfold res at e
    split at e
    · rename_i ms' q
      cases e
      refine ⟨?_, conts_of (s.tail : Sta W.G Hf H σ env (L' ++ T)) ar q⟩
      obtain ⟨e0, S, o1, o2, o3⟩ := s.front
      obtain ⟨S1, S2, rfl, o4, o5⟩ := RepL.cons_iff.mp o1
      exact ⟨S1, o4⟩
    · cases e
  | v :: vs, .ref i p :: as, L, T, ms, s, ⟨⟨v0, c1, c2⟩, ar⟩, e => by
    have own : ∀ m ms', getE env i p = some m → isImm m = false → res env as = some ms' → Conts W.G Hf H (v :: vs) (m :: ms') := fun m ms' h ni hq => by
      obtain ⟨v0', v', S, d1, d2, d3⟩ := s.atO h ni
      rw [c1] at d1
      cases d1
      cases c2.inj d2
      exact ⟨⟨S, d3⟩, conts_of s ar hq⟩
    unfold res at e
    split at e
    · rename_i d hd
      cases p with
      | nil =>
        rw [if_pos (show ([] : List PS).isEmpty = true from rfl)] at e
        split at e
        · rename_i ms' q
          cases e
          refine ⟨?_, conts_of s ar q⟩
          have c2 : v = v0 := c2
          subst c2
          obtain ⟨m0, g0, g1⟩ := getE_some hd
          have g1 : m0 = .imm d := by cases m0 <;> exact Option.some.inj g1
          subst g1
          obtain ⟨v', hv, o⟩ := s.slot g0
          rw [c1] at hv
          cases hv
          exact ⟨[], rfl, o.head⟩
        · cases e
      | cons x xs =>
        rw [if_neg (by simp)] at e
        cases e
    · rename_i m hne hm
      split at e
      · rename_i ms' q
        cases e
        refine own m ms' hm ?_ q
        cases m with
        | imm d => exact absurd rfl (hne d)
        | _ => rfl
      · cases e
    · cases e
  | [], _ :: _, L, T, ms, s, ar, e => by rename_i a as; cases a <;> exact ar.elim
  | _ :: _, [], L, T, ms, s, ar, e => ar.elim
theorem Own.imms {G : Gk} : ∀ {ds : List D} {ws : List V} {L : Cells}, RepDs G Hf ds ws → Own G Hf H L → Own G Hf H (ws.zip (ds.map .imm) ++ L)
  | [], ws, L, r, o => by have r : ws = [] := r; subst r; exact o
  | d :: ds, ws, L, ⟨v, vr, e1, h1, h2⟩, o => by
    subst e1
    exact Own.imm (Own.imms h2 o) h1
theorem sta_res {m : M} {v : V} (s : Sta W.G Hf H σ env T) (r : ResM W.G Hf H m v H') : ∃ Hf', Same Hf Hf' ∧ Sta W.G Hf' H' σ env ((v, m) :: T) := by
  rcases r with ⟨rfl, d, rfl, h⟩ | ⟨p, ds, ws, hp, rfl, h, ⟨rfl, rfl⟩ | ⟨rfl, rfl⟩⟩
  · exact ⟨Hf, Same.refl _, s.imm h⟩
  · obtain ⟨f1, f2, f3⟩ := s.2.new (o := .tup ws) hp
    exact ⟨_, f2, Sta.imm ⟨s.1, f3⟩ ⟨p, ws, rfl, SqT.of upd_same, RepDs.mono f2 _ _ h⟩⟩
  · exact ⟨Hf, Same.refl _, Sta.ofFront s.1 (Own.newLst (Own.imms h s.2) (by rw [h.length, List.length_map]) hp)⟩
def tPr (G : Gk) (p : Pr) (ts : List TE) : TE := fun σ H Q => tAll ts σ H fun xs H' => rPr G p xs H' Q
theorem sv_prim {e : Expr} {es : List Expr} {f : Env → R (List A)} {b : Bool} {p : Pr} (h : SAs' W Z X b es f) (hp : ∀ ts, PEs X es ts → PE X e (tPr W.G p ts)) : SV W Z X false e (pPrim p f).v := by
  obtain ⟨ts, h1, h2⟩ := h
  refine ⟨_, hp ts h1, fun σ H Hf env T Q s g => h2 σ H Hf env T _ s ?_⟩
  have g : Good ((f env).bind fun as env => match res env as with
    | some ms => ofO (primM p ms) env
    | none => .fail) _ _ := g
  rw [good_bind] at g
  refine g.mono (fun as env' k vs H' Hf' L e1 e2 ar s' => ?_) fun _ _ x => x
  cases q : res env' as with
  | none => simp only [q] at k; exact k.elim
  | some ms =>
    simp only [q] at k
    cases q2 : primM p ms with
    | none => rw [q2] at k; exact k.elim
    | some m =>
      rw [q2] at k
      refine ⟨Hf', ms, m, s'.same, conts_of s' ar q, q2, fun v H2 r => ?_⟩
      obtain ⟨Hf2, e3, s2⟩ := sta_res s'.drop r
      exact k v H2 Hf2 (e1.trans e3) (fun z => by cases z) s2
/-- .. as a test of its own -/
theorem st_prim {e : Expr} {es : List Expr} {f : Env → R (List A)} {b : Bool} {p : Pr} (h : SAs' W Z X b es f) (hb : ∀ ms m, primM p ms = some m → ∃ k, m = .imm (.bl k)) (hp : ∀ ts, PEs X es ts → PT X e (tTest (tPr W.G p ts))) : ST W Z X e (pPrim p f).t := by
  obtain ⟨ts, h1, h2⟩ := h
  refine ⟨_, hp ts h1, fun σ H Hf env T Q s g => h2 σ H Hf env T _ s ?_⟩
  have g : Good (((f env).bind fun as env => match res env as with
    | some ms => ofO (primM p ms) env
    | none => .fail).bind fun m env => ofO (truM m) env) _ _ := g
  rw [good_bind, good_bind] at g
  refine g.mono (fun as env' k vs H' Hf' L e1 e2 ar s' => ?_) fun _ _ x => x
  cases q : res env' as with
  | none => simp only [q] at k; exact k.elim
  | some ms =>
    simp only [q] at k
    cases q2 : primM p ms with
    | none => rw [q2] at k; exact k.elim
    | some m =>
      rw [q2] at k
      obtain ⟨c, rfl⟩ := hb ms m q2
      refine ⟨Hf', ms, _, s'.same, conts_of s' ar q, q2, fun v H2 r => ?_⟩
      obtain ⟨Hf2, e3, s2⟩ := sta_res s'.drop r
      refine ⟨c, s2.front.head, k H2 Hf2 (e1.trans e3) s2.tail⟩

/-! and, or, not, if -/
theorem snd_and {a : Expr} {rest : List Expr} {a2 : Expr} {pa pb : EvP} {pos : Pos} {b1 b2 : Bool} (ok : XOk W N sc n X) (ha : Snd W Z X b1 a pa) (hb : SV W Z X b2 (.BoolOp .And (a2 :: rest) pos) pb.v) (hw : ∃ t, PW X (.BoolOp .And (a2 :: rest) pos) t ∧ ∀ σ H Hf env T Q, Sta W.G Hf H σ env T → Good (pb.t env) (PT' W σ Hf T Q) (PX W Z σ Hf T) → t σ H Q) :
    SV W Z X false (.BoolOp .And (a :: a2 :: rest) pos) (pAnd pa pb).v ∧ ∃ t, PW X (.BoolOp .And (a :: a2 :: rest) pos) t ∧ ∀ σ H Hf env T Q, Sta W.G Hf H σ env T → Good ((pAnd pa pb).t env) (PT' W σ Hf T Q) (PX W Z σ Hf T) → t σ H Q := by
  constructor
  · obtain ⟨ta, p1, q1⟩ := ha.v
    obtain ⟨tb, p2, q2⟩ := hb
    refine ⟨_, pe_andT p1 p2, fun σ H Hf env T Q s g => q1 σ H Hf env T _ s ?_⟩
    have g : Good ((pa.v env).bind fun m env => match truM m with
      | some true => pb.v env
      | some false => .ok m env
      | none => .fail) _ _ := g
    rw [good_bind] at g
    refine g.mono (fun m env' k v H' Hf' e1 e2 s' => ?_) fun _ _ x => x
    cases q : truM m with
    | none => simp only [q] at k; exact k.elim
    | some c =>
      refine ⟨c, by rw [ok.K]; exact tru_rep s'.front.view (truM_frz q), ?_⟩
      cases c with
      | true =>
        simp only [q] at k
        rw [if_pos rfl]
        exact q2 σ H' Hf' env' T Q s'.tail (k.mono (fun m2 env2 kk v2 H2 Hf2 e3 e4 s2 => kk v2 H2 Hf2 (e1.trans e3) (fun z => by cases z) s2) fun x env2 kx => px_same e1 kx)
      | false =>
        simp only [q] at k
        rw [if_neg Bool.false_ne_true]
        exact k v H' Hf' e1 (fun z => by cases z) s'
  · obtain ⟨ta, p1, q1⟩ := ha.t
    obtain ⟨tb, p2, q2⟩ := hw
    refine ⟨_, pw_and p1 p2, fun σ H Hf env T Q s g => q1 σ H Hf env T _ s ?_⟩
    have g : Good ((pa.t env).bind fun k env => if k then pb.t env else .ok false env) _ _ := g
    rw [good_bind] at g
    refine g.mono (fun c env' k H' Hf' e1 s' => ?_) fun _ _ x => x
    cases c with
    | true =>
      rw [if_pos rfl] at k ⊢
      exact q2 σ H' Hf' env' T Q s' (k.mono (fun m2 env2 kk H2 Hf2 e3 s2 => kk H2 Hf2 (e1.trans e3) s2) fun x env2 kx => px_same e1 kx)
    | false =>
      rw [if_neg Bool.false_ne_true] at k ⊢
      exact k H' Hf' e1 s'
theorem snd_or {a : Expr} {rest : List Expr} {a2 : Expr} {pa pb : EvP} {pos : Pos} {b1 b2 : Bool} (ok : XOk W N sc n X) (ha : Snd W Z X b1 a pa) (hb : SV W Z X b2 (.BoolOp .Or (a2 :: rest) pos) pb.v) (hw : ∃ t, PW X (.BoolOp .Or (a2 :: rest) pos) t ∧ ∀ σ H Hf env T Q, Sta W.G Hf H σ env T → Good (pb.t env) (PT' W σ Hf T Q) (PX W Z σ Hf T) → t σ H Q) :
    SV W Z X false (.BoolOp .Or (a :: a2 :: rest) pos) (pOr pa pb).v ∧ ∃ t, PW X (.BoolOp .Or (a :: a2 :: rest) pos) t ∧ ∀ σ H Hf env T Q, Sta W.G Hf H σ env T → Good ((pOr pa pb).t env) (PT' W σ Hf T Q) (PX W Z σ Hf T) → t σ H Q := by
  constructor
  · obtain ⟨ta, p1, q1⟩ := ha.v
    obtain ⟨tb, p2, q2⟩ := hb
    refine ⟨_, pe_orT p1 p2, fun σ H Hf env T Q s g => q1 σ H Hf env T _ s ?_⟩
    have g : Good ((pa.v env).bind fun m env => match truM m with
      | some true => .ok m env
      | some false => pb.v env
      | none => .fail) _ _ := g
    rw [good_bind] at g
    refine g.mono (fun m env' k v H' Hf' e1 e2 s' => ?_) fun _ _ x => x
    cases q : truM m with
    | none => simp only [q] at k; exact k.elim
    | some c =>
      refine ⟨c, by rw [ok.K]; exact tru_rep s'.front.view (truM_frz q), ?_⟩
      cases c with
      | false =>
        simp only [q] at k
        rw [if_neg Bool.false_ne_true]
        exact q2 σ H' Hf' env' T Q s'.tail (k.mono (fun m2 env2 kk v2 H2 Hf2 e3 e4 s2 => kk v2 H2 Hf2 (e1.trans e3) (fun z => by cases z) s2) fun x env2 kx => px_same e1 kx)
      | true =>
        simp only [q] at k
        rw [if_pos rfl]
        exact k v H' Hf' e1 (fun z => by cases z) s'
  · obtain ⟨ta, p1, q1⟩ := ha.t
    obtain ⟨tb, p2, q2⟩ := hw
    refine ⟨_, pw_or p1 p2, fun σ H Hf env T Q s g => q1 σ H Hf env T _ s ?_⟩
    have g : Good ((pa.t env).bind fun k env => if k then .ok true env else pb.t env) _ _ := g
    rw [good_bind] at g
    refine g.mono (fun c env' k H' Hf' e1 s' => ?_) fun _ _ x => x
    cases c with
    | false =>
      rw [if_neg Bool.false_ne_true] at k ⊢
      exact q2 σ H' Hf' env' T Q s' (k.mono (fun m2 env2 kk H2 Hf2 e3 s2 => kk H2 Hf2 (e1.trans e3) s2) fun x env2 kx => px_same e1 kx)
    | true =>
      rw [if_pos rfl] at k ⊢
      exact k H' Hf' e1 s'
theorem snd_not {a : Expr} {pa : EvP} {pos : Pos} {b1 : Bool} (ok : XOk W N sc n X) (ha : Snd W Z X b1 a pa) : Snd W Z X false (.UnaryOp .Not a pos) (pNot pa) := by
  have hv : SV W Z X false (.UnaryOp .Not a pos) (pNot pa).v := by
    obtain ⟨ta, p1, q1⟩ := ha.v
    refine ⟨_, pe_notT p1, fun σ H Hf env T Q s g => q1 σ H Hf env T _ s ?_⟩
    have g : Good ((pa.v env).bind fun m env => match truM m with
      | some k => .ok (.imm (.bl (!k))) env
      | none => .fail : R M) _ _ := g
    rw [good_bind] at g
    refine g.mono (fun m env' k v H' Hf' e1 e2 s' => ?_) fun _ _ x => x
    cases q : truM m with
    | none => simp only [q] at k; exact k.elim
    | some c =>
      simp only [q] at k
      exact ⟨c, by rw [ok.K]; exact tru_rep s'.front.view (truM_frz q), k (.bl (!c)) H' Hf' e1 (fun z => by cases z) (s'.tail.imm rfl)⟩
  refine ⟨hv, sa_of_sv hv, ?_⟩
  obtain ⟨ta, p1, q1⟩ := ha.t
  refine ⟨_, pt_not p1, fun σ H Hf env T Q s g => q1 σ H Hf env T _ s ?_⟩
  have g : Good ((pa.t env).bind fun k env => .ok (!k) env) _ _ := g
  rw [good_bind] at g
  exact g.mono (fun c env' k H' Hf' e1 s' => k H' Hf' e1 s') fun _ _ x => x
theorem snd_if {c a b : Expr} {pc pa pb : EvP} {pos : Pos} {b0 b1 b2 : Bool} (hc : Snd W Z X b0 c pc) (ha : Snd W Z X b1 a pa) (hb : Snd W Z X b2 b pb) : SV W Z X false (.IfExp c a b pos) (pIf pc pa pb).v := by
  obtain ⟨tc, p0, q0⟩ := hc.t
  obtain ⟨ta, p1, q1⟩ := ha.v
  obtain ⟨tb, p2, q2⟩ := hb.v
  refine ⟨_, pe_ifExp p0 p1 p2, fun σ H Hf env T Q s g => q0 σ H Hf env T _ s ?_⟩
  have g : Good ((pc.t env).bind fun k env => if k then pa.v env else pb.v env) _ _ := g
  rw [good_bind] at g
  refine g.mono (fun k env' kk H' Hf' e1 s' => ?_) fun _ _ x => x
  cases k with
  | true =>
    rw [if_pos rfl] at kk ⊢
    exact q1 σ H' Hf' env' T Q s' (kk.mono (fun m2 env2 kk v2 H2 Hf2 e3 e4 s2 => kk v2 H2 Hf2 (e1.trans e3) (fun z => by cases z) s2) fun x env2 kx => px_same e1 kx)
  | false =>
    rw [if_neg Bool.false_ne_true] at kk ⊢
    exact q2 σ H' Hf' env' T Q s' (kk.mono (fun m2 env2 kk v2 H2 Hf2 e3 e4 s2 => kk v2 H2 Hf2 (e1.trans e3) (fun z => by cases z) s2) fun x env2 kx => px_same e1 kx)
end
end Mini

set_option Elab.async false
set_option linter.all false
set_option maxRecDepth 100000
set_option maxHeartbeats 4000000
set_option autoImplicit false
namespace Mini
open PySem PySem.Spec PyProof.Rows L2

section
variable {W : Wd} {Z : WX} {X : Cx} {N : List Str} {sc : Scope} {n : Nat} {σ : L2.St} {H H' Hf Hf' : Hp} {env env' : Env} {T T' L : Cells} {C : Ct} {pr : Nat → Bool}

/-! displays -/
theorem imms_rep {G : Gk} : ∀ {ms : List M} {ds : List D} {vs : List V} {S : List Addr}, RepMs G Hf H ms vs S → imms ms = some ds → S = [] ∧ RepDs G Hf ds vs
  | [], ds, vs, S, h, e => by cases e; exact ⟨h.2, h.1⟩
  | .imm d :: ms, ds, vs, S, ⟨v, vr, S1, S2, e1, e2, h1, h2⟩, e => by
    unfold imms at e
    split at e
    · rename_i ds' q
      cases e
      obtain ⟨g1, g2⟩ := imms_rep h2 q
      subst e1 e2 g1
      obtain ⟨f1, f2⟩ := h1
      subst f1
      exact ⟨rfl, v, vr, rfl, f2, g2⟩
    · cases e
  | .lst _ :: ms, ds, vs, S, h, e => by cases e
  | .dK _ _ :: ms, ds, vs, S, h, e => by cases e
  | .dT _ _ :: ms, ds, vs, S, h, e => by cases e
  | .obj _ _ _ :: ms, ds, vs, S, h, e => by cases e
theorem seqL_rep {G : Gk} {m : M} {v : V} {S : List Addr} {ds : List D} (e0 : Same Hf H) (h : RepM G Hf H m v S) (e : seqL m = some ds) : ∃ a ws, v = .ref a ∧ H a = some (.lst ws) ∧ RepDs G Hf ds ws := by
  cases m with
  | imm d =>
    cases d with
    | lst xs =>
      cases e
      obtain ⟨_, a, vs, e1, h1, h2⟩ := h
      exact ⟨a, vs, e1, e0 _ _ h1, h2⟩
    | _ => cases e
  | lst ms =>
    obtain ⟨a, vs, S', e1, e2, h1, h2⟩ := h
    exact ⟨a, vs, e1, h1, (imms_rep h2 e).2⟩
  | _ => cases e
theorem seqF_rep {G : Gk} {m : M} {v : V} {S : List Addr} {ds : List D} (e0 : Same Hf H) (h : RepM G Hf H m v S) (e : seqF m = some ds) : ∃ a ws, v = .ref a ∧ SqL G.K H a ws ∧ RepDs G Hf ds ws := by
  by_cases ht : ∃ xs, m = .imm (.frl xs)
  · obtain ⟨xs, rfl⟩ := ht
    cases e
    obtain ⟨_, a, vs, e1, h1, h2⟩ := h
    exact ⟨a, vs, e1, e0.seq h1, h2⟩
  · have e' : seqL m = some ds := by
      cases m with
      | imm d => cases d with
        | frl xs => exact absurd ⟨xs, rfl⟩ ht
        | _ => exact e
      | _ => exact e
    obtain ⟨a, ws, e1, h1, h2⟩ := seqL_rep e0 h e'
    exact ⟨a, ws, e1, SqL.of h1, h2⟩
theorem seqA_rep {G : Gk} {m : M} {v : V} {S : List Addr} {ds : List D} (e0 : Same Hf H) (h : RepM G Hf H m v S) (e : seqA m = some ds) : ∃ a ws, v = .ref a ∧ (SqT G.K H a ws ∨ SqL G.K H a ws) ∧ RepDs G Hf ds ws := by
  by_cases ht : ∃ xs, m = .imm (.tup xs)
  · obtain ⟨xs, rfl⟩ := ht
    cases e
    obtain ⟨_, a, vs, e1, h1, h2⟩ := h
    exact ⟨a, vs, e1, .inl (same_sqT e0 h1), h2⟩
  · have e' : seqF m = some ds := by
      cases m with
      | imm d => cases d with
        | tup xs => exact absurd ⟨xs, rfl⟩ ht
        | _ => exact e
      | _ => exact e
    obtain ⟨a, ws, e1, h1, h2⟩ := seqF_rep e0 h e'
    exact ⟨a, ws, e1, .inr h1, h2⟩
theorem Sta.headRep {v : V} {m : M} (s : Sta W.G Hf H σ env ((v, m) :: T)) : ∃ S, RepM W.G Hf H m v S := by
  obtain ⟨e0, S, o1, o2, o3⟩ := s.front
  obtain ⟨S1, S2, rfl, o4, o5⟩ := RepL.cons_iff.mp o1
  exact ⟨S1, o4⟩
def unStar : Expr → Expr
  | .Starred e _ => e
  | e => e
/-- items of a display, some of them starred -/
inductive DispE (W : Wd) (Z : WX) (X : Cx) : List Bool → List Expr → List EvP → Prop
  | nil : DispE W Z X [] [] []
  | one {st es ps e p b} : NoStar e → Snd W Z X b e p → DispE W Z X st es ps → DispE W Z X (false :: st) (e :: es) (p :: ps)
  | star {st es ps e p b pos} : Snd W Z X b e p → DispE W Z X st es ps → DispE W Z X (true :: st) (.Starred e pos :: es) (p :: ps)
theorem disp_ok (ok : XOk W N sc n X) {st : List Bool} {es : List Expr} {ps : List EvP} (h : DispE W Z X st es ps) : ∃ t, PA X es t ∧ ∀ σ H Hf env T Q, Sta W.G Hf H σ env T →
    Good (pItemsS st ps env) (fun ds env' => ∀ vs H' Hf', Same Hf Hf' → RepDs W.G Hf' ds vs → Sta W.G Hf' H' σ env' T → Q vs H') (PX W Z σ Hf T) → t σ H Q := by
  induction h with
  | nil => exact ⟨_, pa_nil, fun σ H Hf env T Q s g => g [] H Hf (Same.refl _) rfl s⟩
  | one hn hs r ih =>
    obtain ⟨t2, p2, q2⟩ := ih
    obtain ⟨t1, p1, q1⟩ := hs.v
    refine ⟨_, pa_cons p1 p2 (starEach_ne hn _ _), fun σ H Hf env T Q s g => q1 σ H Hf env T _ s ?_⟩
    unfold pItemsS at g
    rw [good_bind] at g
    refine g.mono (fun m env1 k v H1 Hf1 e1 _ s1 => ?_) fun _ _ x => x
    rw [good_bind] at k
    obtain ⟨Hf2, e2, s2⟩ := s1.freeze
    have r2 := s2.front.head
    refine q2 σ H1 Hf2 env1 T _ s2.tail (k.mono (fun ds env2 kk vs H3 Hf3 e3 r3 s3 => ?_) fun x env2 kx => px_same (e1.trans e2) kx)
    exact kk (v :: vs) H3 Hf3 ((e1.trans e2).trans e3) ⟨v, vs, rfl, RepD.mono e3 _ _ r2, r3⟩ s3
  | star hs r ih =>
    obtain ⟨t2, p2, q2⟩ := ih
    obtain ⟨t1, p1, q1⟩ := hs.v
    refine ⟨_, StX.pa_star p1 p2, fun σ H Hf env T Q s g => q1 σ H Hf env T _ s ?_⟩
    unfold pItemsS at g
    rw [good_bind] at g
    refine g.mono (fun m env1 k v H1 Hf1 e1 _ s1 => ?_) fun _ _ x => x
    cases q : seqA m with
    | none => simp only [q] at k; exact k.elim
    | some xs =>
      simp only [q] at k
      rw [good_bind] at k
      obtain ⟨S, hS⟩ := s1.headRep
      obtain ⟨a, ws, f1, f2, f3⟩ := seqA_rep s1.same hS q
      refine ⟨a, ws, f1, by rw [ok.K]; exact f2, q2 σ H1 Hf1 env1 T _ s1.tail (k.mono (fun ds env2 kk vs H3 Hf3 e3 r3 s3 => ?_) fun x env2 kx => px_same e1 kx)⟩
      exact kk (ws ++ vs) H3 Hf3 (e1.trans e3) (RepDs.append (RepDs.mono e3 _ _ f3) r3) s3
theorem sv_tup (ok : XOk W N sc n X) {st : List Bool} {es : List Expr} {ps : List EvP} {k : Nat} {pos : Pos} (h : DispE W Z X st es ps) : SV W Z X false (.Tuple es k pos) (pTup st ps).v := by
  obtain ⟨t, p1, q1⟩ := disp_ok ok h
  refine ⟨_, pe_tup p1, fun σ H Hf env T Q s g => q1 σ H Hf env T _ s ?_⟩
  have g : Good ((pItemsS st ps env).bind fun ds env => if ds.length ≤ sizeLine then (R.ok (M.imm (.tup ds)) env : R M) else .fail) _ _ := g
  rw [good_bind] at g
  refine g.mono (fun ds env1 k vs H1 Hf1 e1 r1 s1 => ?_) fun _ _ x => x
  by_cases hz : ds.length ≤ sizeLine
  · rw [if_pos hz] at k
    refine ⟨by rw [r1.length]; exact hz, fun p hp => ?_⟩
    obtain ⟨Hf2, e2, s2⟩ := sta_res s1 (m := .imm (.tup ds)) (v := .ref p) (H' := upd H1 p (.tup vs)) (.inr ⟨p, ds, vs, hp, rfl, r1, .inl ⟨rfl, rfl⟩⟩)
    exact k (.ref p) _ Hf2 (e1.trans e2) (fun z => by cases z) s2
  · rw [if_neg hz] at k; exact k.elim
theorem sv_tup0 {k : Nat} {pos : Pos} : SV W Z X true (.Tuple [] k pos) (pTup [] []).v := by
  refine ⟨_, pe_tup pa_nil, fun σ H Hf env T Q s g => ?_⟩
  have g : Good (if ([] : List D).length ≤ sizeLine then .ok (.imm (.tup [])) env else .fail : R M) _ _ := g
  rw [if_pos (show ([] : List D).length ≤ sizeLine from Nat.zero_le _)] at g
  refine ⟨Nat.zero_le _, fun p hp => ?_⟩
  obtain ⟨Hf2, e2, s2⟩ := sta_res s (m := .imm (.tup [])) (v := .ref p) (H' := upd H p (.tup [])) (.inr ⟨p, [], [], hp, rfl, rfl, .inl ⟨rfl, rfl⟩⟩)
  exact g (.ref p) _ Hf2 e2 (fun _ => same_upd hp) s2
theorem sv_lst {es : List Expr} {irs : List E} {pos : Pos} (h : Snds W Z X C pr es irs) : SV W Z X (irs.all inertE) (.List es pos) (pLst (evs C pr irs)).v := by
  obtain ⟨ts, p1, q1⟩ := sis_items h
  refine ⟨_, pe_lst (pa_all p1), fun σ H Hf env T Q s g => q1 σ H Hf env T _ s ?_⟩
  have g : Good ((pItems (evs C pr irs) env).bind fun ms env => if ms.length ≤ sizeLine then (R.ok (M.lst ms) env : R M) else .fail) _ _ := g
  rw [good_bind] at g
  refine g.mono (fun ms env1 k vs H1 Hf1 e1 e2 hl s1 => ?_) fun _ _ x => x
  by_cases hz : ms.length ≤ sizeLine
  · rw [if_pos hz] at k
    refine ⟨by rw [hl]; exact hz, fun p hp => ?_⟩
    refine k (.ref p) _ Hf1 e1 (fun z => (e2 z).trans (same_upd hp)) (Sta.ofFront s1.1 (Own.newLst (Own.perm ?_ s1.2) hl hp))
    rw [← List.append_assoc, ← List.append_assoc]
    exact List.perm_append_comm.append_right _
  · rw [if_neg hz] at k; exact k.elim

/-! a < b < c -/
theorem conts_vals : ∀ {vs : List V} {ms : List M}, vs.length = ms.length → Sta W.G Hf H σ env (vs.zip ms ++ T) → Conts W.G Hf H vs ms
  | [], [], _, s => trivial
  | v :: vs, m :: ms, hl, s => ⟨Sta.headRep s, conts_vals (by simpa using hl) s.tail⟩
  | [], _ :: _, hl, s => by simp at hl
  | _ :: _, [], hl, s => by simp at hl
section
variable {a b c : Expr} {pa pb pc : EvP} {b0 b1 b2 : Bool} {op op' : CmpOp} {p q : Pr} {pos : Pos}
theorem cmp2_core (ha : SV W Z X b0 a pa.v) (hb : SV W Z X b1 b pb.v) (hc : SV W Z X b2 c pc.v) : ∃ ta tb tc, PE X a ta ∧ PE X b tb ∧ PE X c tc ∧ ∀ σ H Hf env T Q, Sta W.G Hf H σ env T → Good ((pCmp2 p q pa pb pc).v env) (PV W false σ H Hf T Q) (PX W Z σ Hf T) →
    tChain (fun x y H Q => rPr W.G p [x, y] H Q) (fun x y H Q => rPr W.G q [x, y] H Q) ta tb tc σ H Q := by
  obtain ⟨ta, p0, q0⟩ := ha
  obtain ⟨tb, p1, q1⟩ := hb
  obtain ⟨tc, p2, q2⟩ := hc
  refine ⟨ta, tb, tc, p0, p1, p2, fun σ H Hf env T Q s g => q0 σ H Hf env T _ s ?_⟩
  have g : Good ((pa.v env).bind fun x env => (pb.v env).bind fun y env => match primM p [x, y] with
    | some (.imm (.bl true)) => (pc.v env).bind fun z env => ofO (primM q [y, z]) env
    | some (.imm (.bl false)) => .ok (.imm (.bl false)) env
    | _ => (.fail : R M)) _ _ := g
  rw [good_bind] at g
  refine g.mono (fun x env1 k vx H1 Hf1 e1 _ s1 => ?_) fun _ _ x => x
  rw [good_bind] at k
  refine q1 σ H1 Hf1 env1 ((vx, x) :: T) _ s1 (k.mono (fun y env2 kk vy H2 Hf2 e2 _ s2 => ?_) fun z env2 kx => px_cons e1 kx)
  have cc : Conts W.G Hf2 H2 [vx, vy] [x, y] := by
    have := conts_vals (vs := [vy, vx]) (ms := [y, x]) rfl (show Sta W.G Hf2 H2 σ env2 (([vy, vx].zip [y, x]) ++ T) from s2)
    exact ⟨this.2.1, this.1, trivial⟩
  have one : ∀ k, primM p [x, y] = some (.imm (.bl k)) → (k = true → tc σ H2 fun w H4 => rPr W.G q [vy, w] H4 Q) → (k = false → Q (.bl false) H2) → rPr W.G p [vx, vy] H2 fun z H3 => ∃ k, z = .bl k ∧ if k = true then tc σ H3 fun w H4 => rPr W.G q [vy, w] H4 Q else Q (.bl false) H3 := fun k ek k1 k2 => by
    refine ⟨Hf2, [x, y], _, s2.same, cc, ek, fun v H' r => ?_⟩
    rcases r with ⟨rfl, d, ed, rd⟩ | ⟨p', ds, ws, _, _, _, ⟨h, _⟩ | ⟨h, _⟩⟩
    · cases ed
      refine ⟨k, rd, ?_⟩
      cases k with
      | true => rw [if_pos rfl]; exact k1 rfl
      | false => rw [if_neg Bool.false_ne_true]; exact k2 rfl
    · cases h
    · cases h
  cases em : primM p [x, y] with
  | none => simp only [em] at kk; exact kk.elim
  | some m =>
    by_cases hm : ∃ k, m = .imm (.bl k)
    · obtain ⟨k, rfl⟩ := hm
      refine one k em (fun hk => ?_) fun hk => ?_
      · subst hk
        simp only [em] at kk
        rw [good_bind] at kk
        refine q2 σ H2 Hf2 env2 ((vy, y) :: (vx, x) :: T) _ s2 (kk.mono (fun z env3 k3 vz H3 Hf3 e3 _ s3 => ?_) fun w env3 kx => px_cons (e1.trans e2) (px_cons (Same.refl _) kx))
        cases eq : primM q [y, z] with
        | none => rw [eq] at k3; exact k3.elim
        | some m2 =>
          rw [eq] at k3
          have c3 : Conts W.G Hf3 H3 [vy, vz] [y, z] := by
            have := conts_vals (vs := [vz, vy]) (ms := [z, y]) rfl (show Sta W.G Hf3 H3 σ env3 (([vz, vy].zip [z, y]) ++ ((vx, x) :: T)) from s3)
            exact ⟨this.2.1, this.1, trivial⟩
          refine ⟨Hf3, [y, z], m2, s3.same, c3, eq, fun v H' r => ?_⟩
          obtain ⟨Hf4, e4, s4⟩ := sta_res s3.tail.tail.tail r
          exact k3 v H' Hf4 (((e1.trans e2).trans e3).trans e4) (fun z => by cases z) s4
      · subst hk
        simp only [em] at kk
        exact kk (.bl false) H2 Hf2 (e1.trans e2) (fun z => by cases z) (s2.tail.tail.imm rfl)
    · exfalso
      cases m with
      | imm d => cases d with
        | bl k => exact hm ⟨k, rfl⟩
        | _ => simp only [em] at kk; exact kk.elim
      | _ => simp only [em] at kk; exact kk.elim
theorem snd_cmp2 (ho : OpR X (compareOp op) fun x y H Q => rPr W.G p [x, y] H Q) (ho' : OpR X (compareOp op') fun x y H Q => rPr W.G q [x, y] H Q) (hq : ∀ ms m, primM q ms = some m → ∃ k, m = .imm (.bl k)) (hm : lastMarks [op, op'] [b, c] = false)
    (ha : SV W Z X b0 a pa.v) (hb : SV W Z X b1 b pb.v) (hc : SV W Z X b2 c pc.v) : Snd W Z X false (.Compare a [op, op'] [b, c] pos) (pCmp2 p q pa pb pc) := by
  obtain ⟨ta, tb, tc, p0, p1, p2, core⟩ := cmp2_core (p := p) (q := q) ha hb hc
  have hv : SV W Z X false (.Compare a [op, op'] [b, c] pos) (pCmp2 p q pa pb pc).v := ⟨_, pe_chain ho ho' p0 p1 p2 hm, core⟩
  refine ⟨hv, sa_of_sv hv, _, pt_chain ho ho' p0 p1 p2 hm, fun σ H Hf env T Q s g => core σ H Hf env T _ s ?_⟩
  have g : Good (((pCmp2 p q pa pb pc).v env).bind fun m env => ofO (truM m) env) _ _ := g
  rw [good_bind] at g
  refine g.monoE (fun m env1 em k v H1 Hf1 e1 _ s1 => ?_) fun _ _ x => x
  have hb : ∃ k, m = .imm (.bl k) := by
    have em : ((pa.v env).bind fun x env => (pb.v env).bind fun y env => match primM p [x, y] with
      | some (.imm (.bl true)) => (pc.v env).bind fun z env => ofO (primM q [y, z]) env
      | some (.imm (.bl false)) => .ok (.imm (.bl false)) env
      | _ => (.fail : R M)) = .ok m env1 := em
    cases x1 : pa.v env with
    | ok mx e1 =>
      rw [x1] at em
      cases x2 : pb.v e1 with
      | ok my e2 =>
        simp only [R.bind, x2] at em
        split at em
        · cases x3 : pc.v e2 with
          | ok mz e3 =>
            simp only [x3] at em
            cases x4 : primM q [my, mz] with
            | none => rw [x4] at em; cases em
            | some m' =>
              rw [x4] at em
              cases em
              exact hq _ _ x4
          | exc _ _ => simp only [x3] at em; cases em
          | fail => simp only [x3] at em; cases em
        · cases em; exact ⟨false, rfl⟩
        · cases em
      | exc _ _ => simp only [R.bind, x2] at em; cases em
      | fail => simp only [R.bind, x2] at em; cases em
    | exc _ _ => rw [x1] at em; cases em
    | fail => rw [x1] at em; cases em
  obtain ⟨c, rfl⟩ := hb
  exact ⟨c, s1.front.head, k H1 Hf1 e1 s1.tail⟩
end

/-! calls -/
def spOf (W : Wd) (T : List Fn) (n f np : Nat) : Sp := fun vs H Q E => vs.length = np ∧ ∃ Hf ms Tm, ms.length = vs.length ∧ Own W.G Hf H (vs.zip ms ++ Tm) ∧
  GoodC (run T n f ms) (fun m fin => ∀ v H' Hf', Same Hf Hf' → Own W.G Hf' H' ((v, m) :: (cells (vs.map some) fin ++ Tm)) → Q v H')
    (fun x fin => ∀ cls d H' Hf', Same Hf Hf' → Own W.G Hf' H' (cells (vs.map some) fin ++ Tm) → ExR W Hf' x cls d → E cls d H')
theorem takeA_none : ∀ {as : List A} {bs : List Bool} {env env' : Env} {ms : List M} {i : Nat}, takeA as bs env = some (ms, env') → gt env i = none → gt env' i = none
  | [], bs, env, env', ms, i, h, e => by cases h; exact e
  | .val m :: as, bs, env, env', ms, i, h, e => by
    unfold takeA at h
    split at h
    · rename_i q
      cases h
      exact takeA_none q e
    · cases h
  | .ref j (_ :: _) :: as, bs, env, env', ms, i, h, e => by cases h
  | .ref j [] :: as, bs, env, env', ms, i, h, e => by
    unfold takeA at h
    split at h
    · rename_i m hm
      have hij : j ≠ i := fun z => by subst z; rw [hm] at e; cases e
      split at h
      · split at h
        · rename_i q
          cases h
          exact takeA_none q (by rw [gt_set_ne hij]; exact e)
        · cases h
      · split at h
        · rename_i q
          cases h
          exact takeA_none q (by rw [gt_set_ne hij]; exact e)
        · cases h
    · cases h
/-- the slots that were moved out are empty, each of its own -/
def Moved : List A → List Bool → Env → Prop
  | .ref i p :: as, bs, env => p = [] ∧ (bs.head? = some true → gt env i = none ∧ Moved as bs.tail (env.set i (some (.imm .non)))) ∧ (bs.head? ≠ some true → Moved as bs.tail env)
  | .val _ :: as, bs, env => Moved as bs.tail env
  | [], _, _ => True
theorem cells_set_none {σ : L2.St} {env : Env} {i : Nat} (h : gt env i = none) : cells σ (env.set i none) = cells σ env := by
  by_cases hi : i < env.length
  · have : env.set i none = env := by
      refine List.ext_getElem? fun j => ?_
      by_cases q : i = j
      · subst q
        rw [List.getElem?_set_self hi]
        cases e : env[i]? with
        | none => rw [List.getElem?_eq_none_iff] at e; omega
        | some o =>
          cases o with
          | none => rfl
          | some m => rw [← gt_some, h] at e; cases e
      · rw [List.getElem?_set_ne q]
    rw [this]
  · rw [List.set_eq_of_length_le (by omega)]

theorem takeA_moved : ∀ {as : List A} {bs : List Bool} {env env' : Env} {ms : List M}, takeA as bs env = some (ms, env') → ∀ env2, (∀ j, gt env j ≠ none → gt env' j = none → gt env2 j = none) → Moved as bs env2
  | [], bs, env, env', ms, h, env2, hk => trivial
  | .val m :: as, bs, env, env', ms, h, env2, hk => by
    unfold takeA at h
    split at h
    · rename_i q
      cases h
      exact takeA_moved q env2 hk
    · cases h
  | .ref j (_ :: _) :: as, bs, env, env', ms, h, env2, hk => by cases h
  | .ref i [] :: as, bs, env, env', ms, h, env2, hk => by
    unfold takeA at h
    split at h
    · rename_i m hm
      have hlt := gt_lt hm
      by_cases hb : bs.head? = some true
      · rw [if_pos hb] at h
        split at h
        · rename_i q
          cases h
          have g1 : gt (env.set i none) i = none := gt_set_self hlt
          refine ⟨rfl, fun _ => ⟨hk i (by rw [hm]; simp) (takeA_none q g1), takeA_moved q _ fun j h1 h2 => ?_⟩, fun z => absurd hb z⟩
          have hij : i ≠ j := fun z => h1 (z ▸ g1)
          rw [gt_set_ne hij] at h1
          rw [gt_set_ne hij]
          exact hk j h1 h2
        · cases h
      · rw [if_neg hb] at h
        split at h
        · rename_i q
          cases h
          refine ⟨rfl, fun z => absurd z hb, fun _ => takeA_moved q env2 fun j h1 h2 => ?_⟩
          by_cases hij : i = j
          · subst hij
            exact hk i (by rw [hm]; simp) h2
          · rw [gt_set_ne hij] at h1
            exact hk j h1 h2
        · cases h
    · cases h
theorem Moved.imp : ∀ {as : List A} {bs : List Bool} {env env2 : Env}, Moved as bs env → (∀ j, gt env j = none → gt env2 j = none) → env.length = env2.length → Moved as bs env2
  | [], bs, env, env2, h, hk, hl => trivial
  | .val m :: as, bs, env, env2, h, hk, hl => Moved.imp (as := as) h hk hl
  | .ref i p :: as, bs, env, env2, ⟨h0, h1, h2⟩, hk, hl => by
    refine ⟨h0, fun hb => ⟨hk i (h1 hb).1, Moved.imp (h1 hb).2 (fun j hj => ?_) (by rw [List.length_set, List.length_set, hl])⟩, fun hb => Moved.imp (h2 hb) hk hl⟩
    by_cases hij : i = j
    · subst hij
      by_cases hi : i < env.length
      · rw [gt_set_self hi] at hj; cases hj
      · rw [List.set_eq_of_length_le (by omega)] at hj ⊢
        exact hk i hj
    · rw [gt_set_ne hij] at hj ⊢
      exact hk j hj
theorem perm_left {α : Type} {a b c : List α} : (a ++ (b ++ c)).Perm (b ++ (a ++ c)) := by
  rw [← List.append_assoc, ← List.append_assoc]
  exact List.perm_append_comm.append_right _
theorem takeA_own : ∀ {as : List A} {bs : List Bool} {env env' : Env} {vs : List V} {L Tx : Cells} {ms : List M} {Hf : Hp}, AR H σ vs as L → SlotsOk σ env → Own W.G Hf H (cells σ env ++ (L ++ Tx)) → takeA as bs env = some (ms, env') →
    ∃ Hf', Same Hf Hf' ∧ ms.length = vs.length ∧ SlotsOk σ env' ∧ Own W.G Hf' H (vs.zip ms ++ (cells σ env' ++ Tx))
  | [], bs, env, env', vs, L, Tx, ms, Hf, ar, so, o, h => by
    cases h
    cases vs with
    | nil =>
      have ar : L = [] := ar
      subst ar
      exact ⟨Hf, Same.refl _, rfl, so, o⟩
    | cons v vs => exact ar.elim
  | a :: as, bs, env, env', [], L, Tx, ms, Hf, ar, so, o, h => by cases a <;> exact ar.elim
  | .val m :: as, bs, env, env', v :: vs, L, Tx, ms, Hf, ⟨L', eL, ar⟩, so, o, h => by
    subst eL
    unfold takeA at h
    split at h
    · rename_i ms' env2 q
      cases h
      obtain ⟨Hf', e1, e2, e3, e4⟩ := takeA_own (Tx := (v, m) :: Tx) ar so (Own.perm ((List.perm_middle (a := (v, m)) (l₁ := L') (l₂ := Tx)).symm.append_left _) o) q
      refine ⟨Hf', e1, by rw [List.length_cons, List.length_cons, e2], e3, Own.perm ?_ e4⟩
      show (vs.zip ms' ++ (cells σ env' ++ (v, m) :: Tx)).Perm ((v, m) :: (vs.zip ms' ++ (cells σ env' ++ Tx)))
      exact (List.perm_middle.append_left _).trans List.perm_middle
    · cases h
  | .ref i (_ :: _) :: as, bs, env, env', v :: vs, L, Tx, ms, Hf, ar, so, o, h => by cases h
  | .ref i [] :: as, bs, env, env', v :: vs, L, Tx, ms, Hf, ⟨⟨v0, c1, c2⟩, ar⟩, so, o, h => by
    have c2 : v = v0 := c2
    subst c2
    unfold takeA at h
    split at h
    · rename_i m hm
      have hlt := gt_lt hm
      have o1 : Own W.G Hf H ((v, m) :: (cells σ (env.set i none) ++ (L ++ Tx))) := Own.perm ((cells_get hm c1).append_right _) o
      by_cases hb : bs.head? = some true
      · rw [if_pos hb] at h
        split at h
        · rename_i ms' env2 q
          cases h
          have o2 : Own W.G Hf H (cells σ (env.set i none) ++ (L ++ ((v, m) :: Tx))) := Own.perm (List.perm_middle.symm.trans ((List.perm_middle (a := (v, m)) (l₁ := L) (l₂ := Tx)).symm.append_left _)) o1
          obtain ⟨Hf', e1, e2, e3, e4⟩ := takeA_own (Tx := (v, m) :: Tx) ar so.none o2 q
          refine ⟨Hf', e1, by rw [List.length_cons, List.length_cons, e2], e3, Own.perm ?_ e4⟩
          show (vs.zip ms' ++ (cells σ env' ++ (v, m) :: Tx)).Perm ((v, m) :: (vs.zip ms' ++ (cells σ env' ++ Tx)))
          exact (List.perm_middle.append_left _).trans List.perm_middle
        · cases h
      · rw [if_neg hb] at h
        split at h
        · rename_i ms' env2 q
          cases h
          obtain ⟨Hf1, f1, o2⟩ := o1.freeze
          have r1 := o2.head
          have o3 : Own W.G Hf1 H (cells σ (env.set i (some (.imm (frz m)))) ++ (L ++ ((v, .imm (frz m)) :: Tx))) := by
            have p1 : (cells σ (env.set i (some (.imm (frz m))))).Perm ((v, .imm (frz m)) :: cells σ (env.set i none)) := cells_put hlt c1
            refine Own.perm (((List.perm_middle (a := (v, M.imm (frz m))) (l₁ := L) (l₂ := Tx)).append_left _).trans List.perm_middle).symm (Own.imm (Own.perm (p1.append_right _).symm o2) r1)
          obtain ⟨Hf', e1, e2, e3, e4⟩ := takeA_own (Tx := (v, .imm (frz m)) :: Tx) ar (so.put c1) o3 q
          refine ⟨Hf', f1.trans e1, by rw [List.length_cons, List.length_cons, e2], e3, Own.perm ?_ e4⟩
          show (vs.zip ms' ++ (cells σ env' ++ (v, M.imm (frz m)) :: Tx)).Perm ((v, M.imm (frz m)) :: (vs.zip ms' ++ (cells σ env' ++ Tx)))
          exact (List.perm_middle.append_left _).trans List.perm_middle
        · cases h
    · cases h
theorem cells_cons {o : Option M} {v : V} {vs : List V} {fin : List (Option M)} : ∃ D, (cells ((v :: vs).map some) (o :: fin)) = D ++ cells (vs.map some) fin ∧ D = (match o with | some m => [(v, m)] | none => []) := by
  cases o with
  | some m => exact ⟨_, rfl, rfl⟩
  | none => exact ⟨_, rfl, rfl⟩
theorem giveA_own : ∀ {as : List A} {bs : List Bool} {env : Env} {vs : List V} {L : Cells} {H : Hp} {fin : List (Option M)}, AR H σ vs as L → SlotsOk σ env → Moved as bs env →
    SlotsOk σ (giveA as bs fin env) ∧ ∃ D, (cells (vs.map some) fin ++ cells σ env).Perm (D ++ cells σ (giveA as bs fin env))
  | [], bs, env, vs, L, H, fin, ar, so, mv => ⟨so, _, .refl _⟩
  | a :: as, bs, env, [], L, H, fin, ar, so, mv => by cases a <;> exact ar.elim
  | .val m :: as, bs, env, v :: vs, L, H, fin, ⟨L', eL, ar⟩, so, mv => by
    obtain ⟨s1, D, p⟩ := giveA_own (fin := fin.tail) ar so (bs := bs.tail) mv
    refine ⟨s1, ?_⟩
    cases fin with
    | nil =>
      refine ⟨D, ?_⟩
      have e1 : cells ((v :: vs).map some) [] = [] := rfl
      have e2 : cells (vs.map some) ([] : Env) = [] := by cases vs <;> rfl
      rw [e1]
      rw [show ([] : List (Option M)).tail = [] from rfl, e2] at p
      exact p
    | cons o fin =>
      obtain ⟨D', e, _⟩ := cells_cons (o := o) (v := v) (vs := vs) (fin := fin)
      refine ⟨D' ++ D, ?_⟩
      rw [e, List.append_assoc, List.append_assoc]
      exact p.append_left _
  | .ref i q :: as, bs, env, v :: vs, L, H, fin, ⟨⟨v0, c1, c2⟩, ar⟩, so, ⟨hq, m1, m2⟩ => by
    subst hq
    have c2 : v = v0 := c2
    subst c2
    have hlt : i < env.length := by rw [← so.1]; exact (List.getElem?_eq_some_iff.mp c1).1
    by_cases hb : bs.head? = some true
    · obtain ⟨hn, mv⟩ := m1 hb
      have ge : ∀ fin, giveA (.ref i [] :: as) bs fin env = giveA as bs.tail fin.tail (env.set i fin.head?.join) := fun fin => by
        show giveA as bs.tail fin.tail (if bs.head? = some true then env.set i (fin.head?.join) else env) = _
        rw [if_pos hb]
      have mv2 : ∀ o, Moved as bs.tail (env.set i o) := fun o => mv.imp (fun j hj => by
        by_cases hij : i = j
        · subst hij; rw [gt_set_self hlt] at hj; cases hj
        · rw [gt_set_ne hij] at hj ⊢; exact hj) (by rw [List.length_set, List.length_set])
      obtain ⟨s1, D, p⟩ := giveA_own (fin := fin.tail) ar (so.put (m := fin.head?.join) c1) (bs := bs.tail) (mv2 _)
      rw [ge]
      refine ⟨s1, ?_⟩
      cases fin with
      | nil =>
        refine ⟨D, ?_⟩
        have e1 : cells ((v :: vs).map some) [] = [] := rfl
        have e2 : cells (vs.map some) ([] : Env) = [] := by cases vs <;> rfl
        rw [e1]
        rw [show ([] : List (Option M)).tail = [] from rfl, e2, show (([] : List (Option M)).head?.join) = none from rfl, cells_set_none hn] at p
        exact p
      | cons o fin =>
        refine ⟨D, ?_⟩
        cases o with
        | none =>
          have e : cells ((v :: vs).map some) (none :: fin) = cells (vs.map some) fin := rfl
          rw [e]
          rw [show ((none :: fin).head?.join) = none from rfl, cells_set_none hn] at p
          exact p
        | some m =>
          have e : cells ((v :: vs).map some) (some m :: fin) = (v, m) :: cells (vs.map some) fin := rfl
          rw [e]
          have p1 : (cells σ (env.set i (some m))).Perm ((v, m) :: cells σ env) := by
            have := cells_put (m := m) hlt c1
            rwa [cells_set_none hn] at this
          refine (List.perm_middle.symm.trans (p1.symm.append_left _)).trans p
    · have ge : giveA (.ref i [] :: as) bs fin env = giveA as bs.tail fin.tail env := by
        show giveA as bs.tail fin.tail (if bs.head? = some true then env.set i (fin.head?.join) else env) = _
        rw [if_neg hb]
      obtain ⟨s1, D, p⟩ := giveA_own (fin := fin.tail) ar so (bs := bs.tail) (m2 hb)
      rw [ge]
      refine ⟨s1, ?_⟩
      cases fin with
      | nil =>
        refine ⟨D, ?_⟩
        have e1 : cells ((v :: vs).map some) [] = [] := rfl
        have e2 : cells (vs.map some) ([] : Env) = [] := by cases vs <;> rfl
        rw [e1]
        rw [show ([] : List (Option M)).tail = [] from rfl, e2] at p
        exact p
      | cons o fin =>
        obtain ⟨D', e, _⟩ := cells_cons (o := o) (v := v) (vs := vs) (fin := fin)
        refine ⟨D' ++ D, ?_⟩
        rw [e, List.append_assoc, List.append_assoc]
        exact p.append_left _

/-- the call itself: what the callee promises is what the caller wants -/
theorem call_core {Tb : List Fn} {k f np : Nat} {C : Ct} {as : List A} {vs : List V} {L : Cells} {Q : VK} {Hf0 : Hp} (hC : C.call = run Tb k) (hnp : vs.length = np) (e0 : Same Hf0 Hf) (ar : AR H σ vs as L) (s : Sta W.G Hf H σ env (L ++ T))
    (g : Good (doCall C f as env) (fun m env' => ∀ v H' Hf', Same Hf0 Hf' → Sta W.G Hf' H' σ env' ((v, m) :: T) → Q v H') (PX W Z σ Hf0 T)) : spOf W Tb k f np vs H Q (fun cls d H' => Z cls d σ H') := by
  unfold doCall at g
  split at g
  · rename_i ms env1 q
    obtain ⟨Hf1, e1, e2, e3, e4⟩ := takeA_own ar s.1 s.2 q
    have mv : Moved as (C.prot f) env1 := takeA_moved q env1 fun j _ h => h
    refine ⟨hnp, Hf1, ms, cells σ env1 ++ T, e2, e4, ?_⟩
    rw [← hC]
    cases hr : C.call f ms with
    | fail => simp only [hr] at g; exact g.elim
    | ok m fin =>
      simp only [hr] at g
      intro v H' Hf' e5 o
      obtain ⟨s1, D, p⟩ := giveA_own (fin := fin) ar e3 mv
      refine g v H' Hf' (e0.trans (e1.trans e5)) ⟨s1, ?_⟩
      have o2 : Own W.G Hf' H' ((v, m) :: (D ++ (cells σ (giveA as (C.prot f) fin env1) ++ T))) := by
        refine Own.perm (List.Perm.cons _ ?_) o
        rw [← List.append_assoc, ← List.append_assoc]
        exact p.append_right _
      have o3 : Own W.G Hf' H' (D ++ ((v, m) :: (cells σ (giveA as (C.prot f) fin env1) ++ T))) := Own.perm List.perm_middle.symm o2
      exact Own.perm List.perm_middle.symm o3.right
    | exc x fin =>
      simp only [hr] at g
      intro cls d H' Hf' e5 o r
      obtain ⟨s1, D, p⟩ := giveA_own (fin := fin) ar e3 mv
      refine g cls d H' Hf' (e0.trans (e1.trans e5)) ⟨s1, ?_⟩ r
      have o2 : Own W.G Hf' H' (D ++ (cells σ (giveA as (C.prot f) fin env1) ++ T)) := by
        refine Own.perm ?_ o
        rw [← List.append_assoc, ← List.append_assoc]
        exact p.append_right _
      exact o2.right
  · exact g.elim
/-- what a def promises where no repr is under way -/
structure FnG (W : Wd) (CXp : CXT) (k : Nat) (f : Addr) (fd : FuncData) (ps : List Str) (sp : Sp) : Prop where
  len : ∀ vs H Q E, sp vs H Q E → vs.length = ps.length
  run : ∀ (A : Around) (outer : List PySem.Env) (s : Shared) (H : Hp) (args : Args) (us : List Value) (vs : List V) (Q : VK) (E : XK), Room k A → A.guards = some [] → Env0 W.P W.w W.G.K W.mg W.base A outer s H →
    BindsTo s fd args (ps.zip us) → Vals vs us → sp vs H Q E → codeAny (model W.P W.w) A (.call (.ref f) args) (L2.CR CXp outer W.P W.w H s Q E) s
theorem call_g {CXp : CXT} {k : Nat} {f : Addr} {fd : FuncData} {ps : List Str} {sp : Sp} {E : XK} {pins : List (Addr × Obj)} {s : Shared} {Q : VK} {us : List Value} {vs : List V} (ok : XOk W N sc k X) (F : FnG W CXp k f fd ps sp) (hb : Binds W.G.K fd ps []) (hx : PassesAt CXp X σ E)
    (I : Inv X pins σ H s) (r : Vals vs us) (h : sp vs H Q E) : wpAny (model X.prog X.w) X.A (PySem.call (.ref f) us) (EP X pins σ Q) X.xe s := by
  have hl : us.length = ps.length := (r.length).symm.trans (F.len _ _ _ _ h)
  have kin := I.kIn
  rw [ok.K] at kin
  have b := hb s us kin (by rw [List.append_nil]; exact hl)
  rw [List.append_nil] at b
  have e0 := I.env0
  rw [ok.P, ok.w, ok.K, ok.mg, ok.base] at e0
  have run := F.run X.A X.stack s H ⟨us, []⟩ us vs Q E ok.room ok.gd e0 b r h
  rw [← ok.P, ← ok.w] at run
  refine wpAny_call (codeAny_mono run fun res t hres => ?_)
  match res, hres with
  | .error e, hres => exact hx pins H s e t I hres
  | .ok (.ret u), hres => exact I.after hres
  | .ok .next, hres => exact False.elim hres
  | .ok .brk, hres => exact False.elim hres
  | .ok .cont, hres => exact False.elim hres
theorem evs_len {C : Ct} {pr : Nat → Bool} : ∀ irs : List E, (evs C pr irs).length = irs.length
  | [] => rfl
  | i :: irs => by
    show (evs C pr irs).length + 1 = _
    rw [evs_len irs, List.length_cons]
theorem zip_len {C : Ct} {pr : Nat → Bool} (irs : List E) : (irs.zip (evs C pr irs)).length = irs.length := by rw [List.length_zip, evs_len, Nat.min_self]
theorem bind_ok {α β : Type} {r : R α} {f : α → Env → R β} {b : β} {env : Env} (h : r.bind f = .ok b env) : ∃ a env1, r = .ok a env1 ∧ f a env1 = .ok b env := by
  cases r with
  | ok a e => exact ⟨a, e, rfl, h⟩
  | exc x e => cases h
  | fail => cases h
theorem pArgsC_len : ∀ {l : List (E × EvP)} {env env' : Env} {as : List A}, pArgsC l env = .ok as env' → as.length = l.length
  | [], env, env', as, h => by cases h; rfl
  | (e, p) :: r, env, env', as, h => by
    unfold pArgsC at h
    obtain ⟨a, env1, _, h2⟩ := bind_ok h
    obtain ⟨as', env2, h3, h4⟩ := bind_ok h2
    cases h4
    rw [List.length_cons, List.length_cons, pArgsC_len h3]
theorem sv_call {CXp : CXT} {Tb : List Fn} {f : Nat} {fa : Addr} {fd : FuncData} {ps : List Str} {C : Ct} {es : List Expr} {irs : List E} {x : Str} {p pos : Pos} (ok : XOk W N sc n X) (hC : C.call = run Tb n)
    (F : FnG W CXp n fa fd ps (spOf W Tb n f ps.length)) (hb : Binds W.G.K fd ps []) (hx : ∀ σ, PassesAt CXp X σ (fun cls d H => Z cls d σ H)) (hg : Gl X x) (hm : W.mg x = some (.ref fa)) (hk : PySem.W.keepIn W.G.K (.ref fa) = true)
    (hdb : (x == ("__debug__" : Str)) = false) (hl : es.length = ps.length) (hpl : (backTo pos (starEach es X.env)).any (·.1) = false)
    (h : Snds W Z X C pr es irs) : SV W Z X false (.Call (.Name x p) es [] pos) (pCall C f (pArgsC (irs.zip (evs C pr irs)))).v := by
  obtain ⟨ts, p1, q1⟩ := sas_argsC h
  let tc : TE := fun σ H Q => tAll ts σ H fun vs H1 => spOf W Tb n f ps.length vs H1 Q (fun cls d H' => Z cls d σ H')
  have pe : PE X (.Call (.Name x p) es [] pos) tc := by
    refine ⟨fun pins s σ H Q I hq => wpAny_Call_Name_kw (ld_glob I hg (by rw [ok.mg]; exact hm) ?_ hdb)⟩
    cases p1 with
    | nil => exact PySem.W.callWith_K0 I.kIn (by rw [ok.K]; exact hk) (call_g (us := []) ok F hb (hx σ) I .nil hq)
    | cons a b =>
      have hst := fun es => starEach_ne a.2 es X.env
      refine PySem.W.callWith_K (h₀ := X.base) I.ok.mod.kin (by rw [ok.K]; exact hk) (thn ((pa_all (.cons a b)).run pos pins s σ H _ I hq) fun us s1 ⟨vs, H1, I1, r, q⟩ => ⟨I1.kIn, ?_⟩) (hst _) ?_
      · exact call_g ok F hb (hx σ) I1 r q
      · have hpl := hpl
        rw [hst] at hpl
        exact (Bool.or_eq_false_iff.mp hpl).2
  refine ⟨tc, pe, fun σ H Hf env T Q s g => q1 σ H Hf env T _ s ?_⟩
  have g : Good ((pArgsC (irs.zip (evs C pr irs)) env).bind fun as env => doCall C f as env) _ _ := g
  rw [good_bind] at g
  refine g.monoE (fun as env1 ek k vs H1 Hf1 L e1 _ ar s1 => ?_) fun _ _ x => x
  have hlen : ∀ {vs : List V} {as : List A} {L : Cells}, AR H1 σ vs as L → vs.length = as.length := by
    intro vs
    induction vs with
    | nil => intro as L h; cases as with
      | nil => rfl
      | cons a r => cases a <;> exact h.elim
    | cons v vs ih => intro as L h; cases as with
      | nil => exact h.elim
      | cons a r =>
        cases a with
        | val m => obtain ⟨L', _, h⟩ := h; rw [List.length_cons, List.length_cons, ih h]
        | ref i p => rw [List.length_cons, List.length_cons, ih h.2]
  have hnp : vs.length = ps.length := by rw [hlen ar, pArgsC_len ek, zip_len, ← hl, Paired.length h]
  exact call_core hC hnp e1 ar s1 (k.mono (fun m env2 kk v H' Hf' e2 s2 => kk v H' Hf' e2 (fun z => by cases z) s2) fun _ _ x => x)
end
end Mini

set_option Elab.async false
set_option linter.all false
set_option maxRecDepth 100000
set_option maxHeartbeats 4000000
set_option autoImplicit false
namespace Mini
open PySem PySem.Spec PyProof.Rows L2
section
variable {W : Wd} {Z : WX} {X : Cx} {N : List Str} {sc : Scope} {n : Nat} {σ : L2.St} {H H' Hf Hf' : Hp} {env env' : Env} {T T' L : Cells} {C : Ct} {pr : Nat → Bool} {G : Gk}

/-! a list's items exchanged with the temporaries -/
def Reorg (G : Gk) (Hf H : Hp) (ms : List M) (vs : List V) (Tn : Cells) (ms' : List M) (vs' : List V) (Tn' : Cells) : Prop :=
  ∀ Sc St, RepMs G Hf H ms vs Sc → RepL G Hf H Tn St → (Sc ++ St).Nodup → ∃ Sc' St', RepMs G Hf H ms' vs' Sc' ∧ RepL G Hf H Tn' St' ∧ (Sc' ++ St').Nodup ∧ ∀ b ∈ Sc' ++ St', b ∈ Sc ++ St
theorem Sta.chg {Tn : Cells} {i : Nat} {p : List PS} {ms : List M} (s : Sta W.G Hf H σ env (Tn ++ T)) (h : getE env i p = some (.lst ms)) : ∃ v0 a vs, σ[i]? = some (some v0) ∧ OChain H v0 p (.ref a) ∧ H a = some (.lst vs) ∧ vs.length = ms.length ∧
    ∀ vs' ms' Tn' env', Reorg W.G Hf H ms vs Tn ms' vs' Tn' → putE env i p (.lst ms') = some env' → Sta W.G Hf (upd H a (.lst vs')) σ env' (Tn' ++ T) := by
  obtain ⟨m0, h0, h1⟩ := getE_some h
  obtain ⟨v0, hv, o⟩ := s.slot h0
  have o2 : Own W.G Hf H ((v0, m0) :: (Tn ++ (cells σ (env.set i none) ++ T))) := Own.perm (List.Perm.cons _ perm_left) o
  obtain ⟨a, vs, c1, c2, c3, c4⟩ := o2.change h1
  refine ⟨v0, a, vs, hv, c1, c2, c3, fun vs' ms' Tn' env' hx he => ?_⟩
  obtain ⟨m', q1, q2⟩ := putE_some he h0
  subst q2
  have o3 := c4 vs' ms' (Tn' ++ (cells σ (env.set i none) ++ T)) m' (fun Sc SL r1 r2 nd => by
    obtain ⟨St, Sr, rfl, r3, r4⟩ := RepL.append_iff.mp r2
    have nd' : (Sc ++ St ++ Sr).Nodup := by rw [List.append_assoc]; exact nd
    obtain ⟨x1, x2, x3⟩ := List.nodup_append.mp nd'
    obtain ⟨Sc', St', y1, y2, y3, y4⟩ := hx Sc St r1 r3 x1
    refine ⟨Sc', St' ++ Sr, y1, RepL.append_iff.mpr ⟨St', Sr, rfl, y2, r4⟩, ?_, fun b hb => ?_⟩
    · rw [← List.append_assoc]
      exact List.nodup_append.mpr ⟨y3, x2, fun a ha b hb => x3 a (y4 a ha) b hb⟩
    · rw [← List.append_assoc] at hb ⊢
      rcases List.mem_append.mp hb with z | z
      · exact List.mem_append_left _ (y4 b z)
      · exact List.mem_append_right _ z) q1
  exact Sta.ofSlot s.1 (gt_lt h0) hv (Own.perm (List.Perm.cons _ perm_left) o3)
theorem reorg_append {ms : List M} {vs : List V} {y : V} {m : M} (hl : vs.length = ms.length) : Reorg G Hf H ms vs [(y, m)] (ms ++ [m]) (vs ++ [y]) [] := fun Sc St h1 h2 nd => by
  obtain ⟨S1, S2, rfl, h3, h4⟩ := RepL.cons_iff.mp h2
  have : S2 = [] := h4.2
  subst this
  rw [List.append_nil] at nd ⊢
  exact ⟨Sc ++ S1, [], (RepMs.append_iff hl).mpr ⟨Sc, S1, rfl, h1, ⟨y, [], S1, [], rfl, by simp, h3, ⟨rfl, rfl⟩⟩⟩, RepL.nil, by simpa using nd, fun b hb => by simpa using hb⟩
theorem reorg_set {ms : List M} {vs : List V} {y : V} {m m0 : M} {j : Nat} (hj : ms[j]? = some m0) : Reorg G Hf H ms vs [(y, m)] (ms.set j m) (vs.set j y) [] := fun Sc St h1 h2 nd => by
  obtain ⟨S1, S2, rfl, h3, h4⟩ := RepL.cons_iff.mp h2
  have : S2 = [] := h4.2
  subst this
  rw [List.append_nil] at nd ⊢
  have key : ∀ {ms : List M} {vs : List V} {Sc : List Addr} {j : Nat}, RepMs G Hf H ms vs Sc → ms[j]? = some m0 → (Sc ++ S1).Nodup → ∃ Sc', RepMs G Hf H (ms.set j m) (vs.set j y) Sc' ∧ Sc'.Nodup ∧ ∀ b ∈ Sc', b ∈ Sc ++ S1 := by
    intro ms
    induction ms with
    | nil => intro vs Sc j h e; simp at e
    | cons x ms ih =>
      rintro vs Sc j ⟨v, vr, T1, T2, e1, e2, g1, g2⟩ e nd
      subst e1 e2
      cases j with
      | zero =>
        refine ⟨S1 ++ T2, ⟨y, vr, S1, T2, rfl, rfl, h3, g2⟩, ?_, fun b hb => ?_⟩
        · have n2 : (T1 ++ (T2 ++ S1)).Nodup := by rw [← List.append_assoc]; exact nd
          exact (List.perm_append_comm.nodup_iff).mp (List.nodup_append.mp n2).2.1
        · rcases List.mem_append.mp hb with z | z
          · exact List.mem_append_right _ z
          · exact List.mem_append_left _ (List.mem_append_right _ z)
      | succ j =>
        have n2 : (T1 ++ (T2 ++ S1)).Nodup := by rw [← List.append_assoc]; exact nd
        obtain ⟨x1, x2, x3⟩ := List.nodup_append.mp n2
        obtain ⟨Sc', f1, f2, f3⟩ := ih g2 (by simpa using e) x2
        refine ⟨T1 ++ Sc', ⟨v, vr.set j y, T1, Sc', rfl, rfl, g1, f1⟩, List.nodup_append.mpr ⟨x1, f2, fun a ha b hb => x3 a ha b (f3 b hb)⟩, fun b hb => ?_⟩
        rw [List.append_assoc]
        rcases List.mem_append.mp hb with z | z
        · exact List.mem_append_left _ z
        · exact List.mem_append_right _ (f3 b z)
  obtain ⟨Sc', f1, f2, f3⟩ := key h1 hj nd
  exact ⟨Sc', [], f1, RepL.nil, by simpa using f2, fun b hb => f3 b (by simpa using hb)⟩
theorem RepMs.erase : ∀ {ms : List M} {vs : List V} {S : List Addr} {j : Nat} {m : M}, RepMs G Hf H ms vs S → ms[j]? = some m → ∃ v S1 S2, vs[j]? = some v ∧ S.Perm (S1 ++ S2) ∧ RepM G Hf H m v S1 ∧ RepMs G Hf H (ms.eraseIdx j) (vs.eraseIdx j) S2
  | [], vs, S, j, m, h, e => by simp at e
  | x :: ms, vs, S, 0, m, ⟨v, vr, S1, S2, e1, e2, h1, h2⟩, e => by
    have e : x = m := by simpa using e
    subst e e1 e2
    exact ⟨v, S1, S2, by simp, .refl _, h1, h2⟩
  | x :: ms, vs, S, j + 1, m, ⟨v, vr, S1, S2, e1, e2, h1, h2⟩, e => by
    subst e1 e2
    obtain ⟨w, T1, T2, g1, g2, g3, g4⟩ := RepMs.erase (j := j) h2 (by simpa using e)
    refine ⟨w, T1, S1 ++ T2, by simpa using g1, (g2.append_left S1).trans perm_left, g3, v, vr.eraseIdx j, S1, T2, rfl, rfl, h1, g4⟩
theorem reorg_erase {ms : List M} {vs : List V} {m : M} {j : Nat} {y : V} (hj : ms[j]? = some m) (hy : vs[j]? = some y) : Reorg G Hf H ms vs [] (ms.eraseIdx j) (vs.eraseIdx j) [(y, m)] := fun Sc St h1 h2 nd => by
  have : St = [] := h2.2
  subst this
  rw [List.append_nil] at nd ⊢
  obtain ⟨v, S1, S2, g1, g2, g3, g4⟩ := RepMs.erase h1 hj
  rw [hy] at g1
  cases g1
  have p : Sc.Perm (S2 ++ S1) := g2.trans List.perm_append_comm
  exact ⟨S2, S1, g4, RepL.cons_iff.mpr ⟨S1, [], by simp, g3, RepL.nil⟩, p.nodup_iff.mp nd, fun b hb => p.mem_iff.mpr hb⟩
theorem RepDs.reps : ∀ {ds : List D} {ws : List V}, RepDs G Hf ds ws → RepMs G Hf H (ds.map .imm) ws []
  | [], ws, h => ⟨h, rfl⟩
  | d :: ds, ws, ⟨v, vr, e1, h1, h2⟩ => ⟨v, vr, [], [], e1, rfl, ⟨rfl, h1⟩, RepDs.reps h2⟩
theorem reorg_extend {ms : List M} {vs ws : List V} {ds : List D} {y : V} {m : M} (hl : vs.length = ms.length) (r : RepDs G Hf ds ws) : Reorg G Hf H ms vs [(y, m)] (ms ++ ds.map .imm) (vs ++ ws) [] := fun Sc St h1 h2 nd =>
  ⟨Sc, [], (RepMs.append_iff hl).mpr ⟨Sc, [], by simp, h1, r.reps⟩, RepL.nil, by rw [List.append_nil]; exact (List.nodup_append.mp nd).1, fun b hb => by rw [List.append_nil] at hb; exact List.mem_append_left _ hb⟩

/-! methods of a list that change it -/
def slotOf : Mt → String
  | .append => "list.append" | .extend => "list.extend" | .pop => "list.pop" | .popAt => "list.pop" | .insert => "list.insert"
/-- what the method's rule asks and leaves -/
def MutR (X : Cx) (k : Mt) : Prop := MtR X (slotOf k) fun x ys H Q => ∃ G Hf ms vs as m ms', ∃ a, x = .ref a ∧ H a = some (.lst vs) ∧ vs.length = ms.length ∧ Conts G Hf H ys as ∧ Same Hf H ∧ mutM k ms as = some (m, ms') ∧
  ∀ v vs' Tn', Reorg G Hf H ms vs (ys.zip as) ms' vs' Tn' → ((∃ d, m = .imm d ∧ Tn' = [] ∧ RepD G Hf d v) ∨ Tn' = [(v, m)]) → Q v (upd H a (.lst vs'))
theorem mutR_append : MutR X .append := by
  intro pins s σ H x ys v us Q I rx rys h
  obtain ⟨G, Hf, ms, vs, as, m, ms', a, rfl, ha, hl, cs, e0, hm, q⟩ := h
  cases as with
  | nil => cases hm
  | cons m1 r =>
    cases r with
    | cons _ _ => cases hm
    | nil =>
      cases ys with
      | nil => exact cs.elim
      | cons y yr =>
        cases yr with
        | cons _ _ => exact cs.2.elim
        | nil =>
          have hm : (if ms.length < sizeLine then some (M.imm .non, ms ++ [m1]) else none) = some (m, ms') := hm
          by_cases hz : ms.length < sizeLine
          · rw [if_pos hz] at hm
            cases hm
            exact mt_append pins s σ H _ _ v us Q I rx rys ⟨a, vs, y, rfl, rfl, ha, by rw [hl]; exact hz, q .non _ [] (reorg_append hl) (.inl ⟨.non, rfl, rfl, rfl⟩)⟩
          · rw [if_neg hz] at hm; cases hm
theorem mutR_extend : MutR X .extend := by
  intro pins s σ H x ys v us Q I rx rys h
  obtain ⟨G, Hf, ms, vs, as, m, ms', a, rfl, ha, hl, cs, e0, hm, q⟩ := h
  cases as with
  | nil => cases hm
  | cons m1 r =>
    cases r with
    | cons _ _ => cases hm
    | nil =>
      cases ys with
      | nil => exact cs.elim
      | cons y yr =>
        cases yr with
        | cons _ _ => exact cs.2.elim
        | nil =>
          have hm : (match seqL m1 with
            | some ds => if ms.length + ds.length ≤ sizeLine then some (M.imm .non, ms ++ ds.map .imm) else none
            | none => none) = some (m, ms') := hm
          cases hs : seqL m1 with
          | none => simp only [hs] at hm; cases hm
          | some ds =>
            simp only [hs] at hm
            by_cases hz : ms.length + ds.length ≤ sizeLine
            · rw [if_pos hz] at hm
              cases hm
              obtain ⟨⟨S, hS⟩, _⟩ := cs
              obtain ⟨b, ws, rfl, hb, rd⟩ := seqL_rep e0 hS hs
              exact mt_extend pins s σ H _ _ v us Q I rx rys ⟨a, b, vs, ws, rfl, rfl, ha, hb, by rw [hl, rd.length]; exact hz, q .non _ [] (reorg_extend hl rd) (.inl ⟨.non, rfl, rfl, rfl⟩)⟩
            · rw [if_neg hz] at hm; cases hm
theorem ixN_len {n : Nat} {k : Int} {j : Nat} (h : ixN n k = some j) : seqIndex? k n = some j ∧ j < n := ⟨(ixN_seq h).1, (ixN_seq h).2.1⟩
theorem mutR_popAt : MutR X .popAt := by
  intro pins s σ H x ys v us Q I rx rys h
  obtain ⟨G, Hf, ms, vs, as, m, ms', a, rfl, ha, hl, cs, e0, hm, q⟩ := h
  have sz : vs.length ≤ sizeLine := (I.hok a _ ha).1
  cases as with
  | nil => cases hm
  | cons m1 r =>
    cases r with
    | cons _ _ => cases m1 with
      | imm d => cases d <;> cases hm
      | _ => cases hm
    | nil =>
      cases ys with
      | nil => exact cs.elim
      | cons y yr =>
        cases yr with
        | cons _ _ => exact cs.2.elim
        | nil =>
          cases m1 with
          | imm d =>
            cases d with
            | int k =>
              obtain ⟨⟨S, _, hy⟩, _⟩ := cs
              have hy : y = .int k := hy
              subst hy
              have hm : (match ixN ms.length k with
                | some j => match ms[j]? with
                  | some m => some (m, ms.eraseIdx j)
                  | none => none
                | none => none) = some (m, ms') := hm
              cases hj : ixN ms.length k with
              | none => simp only [hj] at hm; cases hm
              | some j =>
                simp only [hj] at hm
                cases hg : ms[j]? with
                | none => simp only [hg] at hm; cases hm
                | some m2 =>
                  simp only [hg] at hm
                  cases hm
                  obtain ⟨i1, i2⟩ := ixN_len hj
                  obtain ⟨_, _, i3, i4⟩ := ixN_seq hj
                  have hv : vs[j]? = some vs[j] := List.getElem?_eq_getElem (by omega)
                  have hsl := sizeLine_eq
                  refine mt_popAt pins s σ H _ _ v us Q I rx rys ⟨a, vs, k, j, vs[j], rfl, rfl, ha, by omega, by omega, by rw [hl]; exact i1, hv, q vs[j] _ [(vs[j], m)] ?_ (.inr rfl)⟩
                  exact fun Sc St h1 h2 nd => reorg_erase hg hv Sc [] h1 RepL.nil (by simpa using (List.nodup_append.mp nd).1) |>.imp fun Sc' ⟨St', z1, z2, z3, z4⟩ => ⟨St', z1, z2, z3, fun b hb => by have := z4 b hb; rw [List.append_nil] at this; exact List.mem_append_left _ this⟩
            | _ => cases hm
          | _ => cases hm
theorem mutR_pop : MutR X .pop := by
  intro pins s σ H x ys v us Q I rx rys h
  obtain ⟨G, Hf, ms, vs, as, m, ms', a, rfl, ha, hl, cs, e0, hm, q⟩ := h
  cases as with
  | cons _ _ => cases hm
  | nil =>
    cases ys with
    | cons _ _ => exact cs.elim
    | nil =>
      have hm : (match ms[ms.length - 1]? with
        | some m => some (m, ms.dropLast)
        | none => none) = some (m, ms') := hm
      cases hg : ms[ms.length - 1]? with
      | none => simp only [hg] at hm; cases hm
      | some m2 =>
        simp only [hg] at hm
        cases hm
        obtain ⟨hlt, _⟩ := List.getElem?_eq_some_iff.mp hg
        have hv : vs[vs.length - 1]? = some vs[vs.length - 1] := List.getElem?_eq_getElem (by omega)
        have d1 : ms.dropLast = ms.eraseIdx (ms.length - 1) := (List.eraseIdx_length_sub_one).symm
        have d2 : vs.dropLast = vs.eraseIdx (ms.length - 1) := by rw [← hl]; exact (List.eraseIdx_length_sub_one).symm
        refine mt_pop pins s σ H _ _ v us Q I rx rys ⟨a, vs, vs[vs.length - 1], rfl, rfl, ha, hv, q _ _ [(_, m)] ?_ (.inr rfl)⟩
        rw [d1, d2]
        exact reorg_erase hg (by rw [← hl]; exact hv)

/-- the receiver: a place that owns a list; then the arguments; then the change -/
theorem chg_core {o : Expr} {i : Nat} {p : List PS} {k : Mt} {es : List Expr} {irs : List E} (hc : SPl W X o i p) (h : Snds W Z X C pr es irs) : ∃ to ts, PE X o to ∧ PEs X es ts ∧ ∀ (t : VK → TE), (∀ Q, t Q = fun σ H _ => to σ H fun x H1 => tyV X.K "list" x H1 ∧ tAll ts σ H1 fun ys H2 =>
      ∃ G Hf ms vs as m ms', ∃ a, x = .ref a ∧ H2 a = some (.lst vs) ∧ vs.length = ms.length ∧ Conts G Hf H2 ys as ∧ Same Hf H2 ∧ mutM k ms as = some (m, ms') ∧
        ∀ v vs' Tn', Reorg G Hf H2 ms vs (ys.zip as) ms' vs' Tn' → ((∃ d, m = .imm d ∧ Tn' = [] ∧ RepD G Hf d v) ∨ Tn' = [(v, m)]) → Q v (upd H2 a (.lst vs'))) →
    ∀ σ H Hf env T Q, Sta W.G Hf H σ env T → Good ((pMut k i p (irs.all inertE) (evs C pr irs)).v env) (PV W false σ H Hf T Q) (PX W Z σ Hf T) → t Q σ H Q := by
  obtain ⟨to, h1, h2⟩ := hc
  obtain ⟨ts, p1, q1⟩ := sis_items h
  refine ⟨to, ts, h1, p1, fun t ht σ H Hf env T Q s g => ?_⟩
  rw [ht]
  have g : Good (if (p.isEmpty || irs.all inertE) = true then match getE env i p with
    | some (.lst _) => (pItems (evs C pr irs) env).bind fun as env => match getE env i p with
      | some (.lst ms) => match mutM k ms as with
        | some (m, ms') => match putE env i p (.lst ms') with
          | some env' => .ok m env'
          | none => .fail
        | none => .fail
      | _ => .fail
    | _ => .fail
  else (.fail : R M)) (PV W false σ H Hf T Q) (PX W Z σ Hf T) := g
  by_cases hb : (p.isEmpty || irs.all inertE) = true
  · rw [if_pos hb] at g
    have g0 : ∃ ms0, getE env i p = some (.lst ms0) := by
      cases q : getE env i p with
      | none => simp only [q] at g; exact g.elim
      | some m => cases m with
        | lst ms => exact ⟨ms, rfl⟩
        | _ => simp only [q] at g; exact g.elim
    obtain ⟨ms0, e0⟩ := g0
    simp only [e0] at g
    rw [good_bind] at g
    obtain ⟨v0, a0, vs0, c1, c2, c3, _⟩ := Sta.chg (Tn := []) s e0
    refine h2 σ H v0 (.ref a0) _ c1 c2.chain ⟨.inl ⟨rfl, vs0, SqL.of c3⟩, q1 σ H Hf env T _ s (g.mono (fun as env1 kk ys H1 Hf1 e1 e2 hl s1 => ?_) fun _ _ x => x)⟩
    cases q : getE env1 i p with
    | none => simp only [q] at kk; exact kk.elim
    | some m1 =>
      cases m1 with
      | lst ms =>
        simp only [q] at kk
        obtain ⟨v0', a, vs, d1, d2, d3, d4, d5⟩ := s1.chg q
        rw [c1] at d1
        cases d1
        have ea : V.ref a0 = .ref a := by
          cases p with
          | nil =>
            have c2 : V.ref a0 = v0 := c2
            have d2 : V.ref a = v0 := d2
            rw [c2, d2]
          | cons x xs => exact (c2.mono (e2 (by simpa using hb))).inj d2
        cases ea
        cases qm : mutM k ms as with
        | none => simp only [qm] at kk; exact kk.elim
        | some r =>
          obtain ⟨m, ms'⟩ := r
          simp only [qm] at kk
          cases qp : putE env1 i p (.lst ms') with
          | none => simp only [qp] at kk; exact kk.elim
          | some env2 =>
            simp only [qp] at kk
            refine ⟨W.G, Hf1, ms, vs, as, m, ms', a0, rfl, d3, d4, conts_vals hl s1, s1.same, qm, fun v vs' Tn' ro hv => ?_⟩
            have s2 := d5 vs' ms' Tn' env2 ro qp
            refine kk v _ Hf1 e1 (fun z => by cases z) ?_
            rcases hv with ⟨d, rfl, rfl, rd⟩ | rfl
            · exact Sta.imm s2 rd
            · exact s2
      | _ => simp only [q] at kk; exact kk.elim
  · rw [if_neg hb] at g; exact g.elim
theorem sv_chg {o e : Expr} {es : List Expr} {i : Nat} {p : List PS} {k : Mt} {irs : List E} {name : Str} {apos cpos : Pos} (slot : Slot "list" name (slotOf k)) (hty : typeOf (.builtin (slotOf k)) = pure (.type "method_descriptor")) (hm : MutR X k) (hc : SPl W X o i p) (h : Snds W Z X C pr (e :: es) irs)
    (hbase : attributeBase o name X.env (eval o X.env) = eval o X.env)
    (hfew : ((backTo cpos (starEach (e :: es) X.env)).all (fun x => !x.1) && (backToKw cpos (keywordEach [] X.env)).all (fun x => x.1.isSome)
      && decide ((e :: es).length + ([] : List Keyword).length + (if ([] : List Keyword).isEmpty then 0 else 1) < 30)) = true)
    (hline : (apos.endLine == cpos.line) = true) (hplain : (backTo cpos (starEach es X.env)).any (·.1) = false) :
    SV W Z X false (.Call (.Attribute o name apos) (e :: es) [] cpos) (pMut k i p (irs.all inertE) (evs C pr irs)).v := by
  obtain ⟨to, ts, p0, p1, core⟩ := chg_core (k := k) hc h
  have hst : starEach (e :: es) X.env = (false, eval e X.env) :: starEach es X.env := by cases p1 with | cons a b => exact starEach_ne a.2 _ _
  exact ⟨_, pe_bm PySem.F.plainAttrs_list slot hty hm p0 (pa_all p1) hbase hfew hline hst hplain, fun σ H Hf env T Q s g => core (fun Q => fun σ H _ => to σ H fun x H1 => tyV X.K "list" x H1 ∧ tAll ts σ H1 fun ys H2 => _) (fun _ => rfl) σ H Hf env T Q s g⟩
theorem sv_chg0 {o : Expr} {i : Nat} {p : List PS} {k : Mt} {name : Str} {apos cpos : Pos} (slot : Slot "list" name (slotOf k)) (hty : typeOf (.builtin (slotOf k)) = pure (.type "method_descriptor")) (hm : MutR X k) (hc : SPl W X o i p)
    (hbase : attributeBase o name X.env (eval o X.env) = eval o X.env) (hline : (apos.endLine == cpos.line) = true) : SV W Z X false (.Call (.Attribute o name apos) [] [] cpos) (pMut k i p true []).v := by
  obtain ⟨to, ts, p0, p1, core⟩ := chg_core (Z := Z) (C := ⟨fun _ _ => .fail, fun _ => []⟩) (pr := fun _ => false) (k := k) hc (.nil)
  cases p1
  exact ⟨_, pe_bm0 PySem.F.plainAttrs_list slot hty hm p0 hbase hline, fun σ H Hf env T Q s g => core (fun Q => fun σ H _ => to σ H fun x H1 => tyV X.K "list" x H1 ∧ _) (fun _ => rfl) σ H Hf env T Q s g⟩
end
end Mini

set_option Elab.async false
set_option linter.all false
set_option maxRecDepth 100000
set_option maxHeartbeats 4000000
set_option autoImplicit false
namespace Mini
open PySem PySem.Spec PyProof.Rows L2
section
variable {W : Wd} {Z : WX} {X : Cx} {N : List Str} {sc : Scope} {n : Nat} {σ : L2.St} {H H' Hf Hf' : Hp} {env env' : Env} {T T' L : Cells} {C : Ct} {pr : Nat → Bool} {G : Gk}

/-! what is walked -/
def Walks (G : Gk) (Hf : Hp) (ds : List D) (J : It) : Prop := ∀ i H, Same Hf H → (ds.length ≤ i → J.stop i H) ∧ ∀ d, ds[i]? = some d → J.go i H ∧ ∀ x H', J.yld i H x H' → ResM G Hf H (.imm d) x H'
theorem ResM.mono {m : M} {v : V} (e : Same Hf Hf') (r : ResM G Hf H m v H') : ResM G Hf' H m v H' := by
  rcases r with ⟨h1, d, h2, h3⟩ | ⟨p, ds, ws, h1, h2, h3, h4⟩
  · exact .inl ⟨h1, d, h2, RepD.mono e _ _ h3⟩
  · exact .inr ⟨p, ds, ws, h1, h2, RepDs.mono e _ _ h3, h4⟩
theorem walks_list {ds : List D} {a : Addr} {vs : List V} (h : SqL G.K Hf a vs) (r : RepDs G Hf ds vs) : Walks G Hf ds (Itl G.K a) := fun i H e => by
  refine ⟨fun hi => ⟨vs, e.seq h, by rw [r.length]; exact hi⟩, fun d hd => ?_⟩
  obtain ⟨v, hv, rv⟩ := r.get hd
  refine ⟨⟨vs, v, e.seq h, hv⟩, fun x H' y => ?_⟩
  obtain ⟨rfl, y⟩ := y
  have := y vs (e.seq h)
  rw [hv] at this
  cases this
  exact .inl ⟨rfl, d, rfl, rv⟩
theorem walks_tup {ds : List D} {a : Addr} {vs : List V} (h : SqT G.K Hf a vs) (r : RepDs G Hf ds vs) : Walks G Hf ds (Itt G.K a) := fun i H e => by
  refine ⟨fun hi => ⟨vs, same_sqT e h, by rw [r.length]; exact hi⟩, fun d hd => ?_⟩
  obtain ⟨v, hv, rv⟩ := r.get hd
  refine ⟨⟨vs, v, same_sqT e h, hv⟩, fun x H' y => ?_⟩
  obtain ⟨rfl, y⟩ := y
  have := y vs (same_sqT e h)
  rw [hv] at this
  cases this
  exact .inl ⟨rfl, d, rfl, rv⟩
theorem rangeD_get {lo : Int} {k i : Nat} {d : D} (h : (rangeD lo k)[i]? = some d) : i < k ∧ d = .int (lo + i) := by
  unfold rangeD at h
  rw [List.getElem?_map] at h
  cases q : (List.range k)[i]? with
  | none => rw [q] at h; cases h
  | some j =>
    rw [q] at h
    obtain ⟨h1, h2⟩ := List.getElem?_eq_some_iff.mp q
    rw [List.getElem_range] at h2
    subst h2
    rw [List.length_range] at h1
    exact ⟨h1, (Option.some.inj h).symm⟩
theorem rangeD_len (lo : Int) (k : Nat) : (rangeD lo k).length = k := by unfold rangeD; rw [List.length_map, List.length_range]
theorem walks_range {lo : Int} {k : Nat} : Walks G Hf (rangeD lo k) (Itr lo k) := fun i H e => by
  refine ⟨fun hi => by rw [rangeD_len] at hi; exact hi, fun d hd => ?_⟩
  obtain ⟨h1, rfl⟩ := rangeD_get hd
  refine ⟨h1, fun x H' y => ?_⟩
  obtain ⟨rfl, rfl⟩ := y
  exact .inl ⟨rfl, _, rfl, rfl⟩
/-- a list or a tuple, as it comes -/
def iSeq (K : PySem.W.Frag) (tl : TE) : TI := fun σ H R => tl σ H fun x H1 => ∃ a, x = .ref a ∧ (((∃ xs, SqL K H1 a xs) ∧ R (Itl K a) H1) ∨ ((∃ xs, SqT K H1 a xs) ∧ R (Itt K a) H1))
theorem pi_seq {tg l : Expr} {tl : TE} (hl : PE X l tl) : PI X tg l (iSeq X.K tl) := by
  refine ⟨fun pins s σ H R I h => ?_⟩
  refine thn (hl.run pins s σ H _ I h) fun v s1 ⟨x, H1, I1, r1, q1⟩ => ?_
  obtain ⟨a, e, q⟩ := q1
  subst e
  cases r1
  rcases q with ⟨⟨xs, hq⟩, q⟩ | ⟨⟨xs, hq⟩, q⟩
  · obtain ⟨its, rv, p, hz⟩ := I1.list hq
    refine wpAny_pyIter_list p.isList ?_
    refine ⟨s1.heap.objs.size, [s1.heap.objs.size], _, _, H1, rfl, I1.kept (t' := s1.toks) fun b o e => Heap.get?_push_of_some _ e, turn_list a _, ⟨_, Heap.get?_push_size _ rfl, rfl, rfl⟩, fun b hb => ?_, q⟩
    have e : b = s1.heap.objs.size := by simpa using hb
    subst e
    exact I1.fpOk (Nat.le_refl _) (I1.hok.fresh (Nat.le_refl _))
  · obtain ⟨its, rv, p, hz⟩ := I1.tuple hq
    refine wpAny_pyIter_tuple (show s1.heap.IsTuple a its.toArray from p) ?_
    refine ⟨s1.heap.objs.size, [s1.heap.objs.size], _, _, H1, rfl, I1.kept (t' := s1.toks) fun b o e => Heap.get?_push_of_some _ e, turn_tuple a _, ⟨_, Heap.get?_push_size _ rfl, rfl, rfl⟩, fun b hb => ?_, q⟩
    have e : b = s1.heap.objs.size := by simpa using hb
    subst e
    exact I1.fpOk (Nat.le_refl _) (I1.hok.fresh (Nat.le_refl _))
def SIter (W : Wd) (Z : WX) (X : Cx) (tg iter : Expr) (f : Env → R (List D)) : Prop := ∃ wi, PI X tg iter wi ∧ ∀ σ H Hf env T R, Sta W.G Hf H σ env T →
  Good (f env) (fun ds env' => ∀ J H' Hf', Same Hf Hf' → Sta W.G Hf' H' σ env' T → Walks W.G Hf' ds J → R J H') (PX W Z σ Hf T) → wi σ H R
theorem seqD_rep {d : D} {v : V} {ds : List D} (h : RepD G Hf d v) (e : seqD d = some ds) : ∃ a ws, v = .ref a ∧ (SqL G.K Hf a ws ∨ SqT G.K Hf a ws) ∧ RepDs G Hf ds ws := by
  cases d with
  | tup xs => cases e; obtain ⟨a, ws, e1, h1, h2⟩ := h; exact ⟨a, ws, e1, .inr h1, h2⟩
  | lst xs => cases e; obtain ⟨a, ws, e1, h1, h2⟩ := h; exact ⟨a, ws, e1, .inl (SqL.of h1), h2⟩
  | frl xs => cases e; obtain ⟨a, ws, e1, h1, h2⟩ := h; exact ⟨a, ws, e1, .inl h1, h2⟩
  | _ => cases e
theorem pItems_one {p : EvP} {env : Env} {K : List M → Env → Prop} {Xc : Exn → Env → Prop} : Good (pItems [p] env) K Xc ↔ Good (p.v env) (fun m env => K [m] env) Xc := by
  unfold pItems
  rw [good_bind]
  rfl
theorem sit_seq {tg e : Expr} {p : EvP} {b : Bool} (ok : XOk W N sc n X) (h : SV W Z X b e p.v) : SIter W Z X tg e (pIter .seq [p]) := by
  obtain ⟨t, h1, h2⟩ := h
  refine ⟨_, pi_seq h1, fun σ H Hf env T R s g => h2 σ H Hf env T _ s ?_⟩
  have g : Good ((pItems [p] env).bind fun ms env => ofO (itemsOf .seq (frzs ms)) env) _ _ := g
  rw [good_bind, pItems_one] at g
  refine g.mono (fun m env1 k v H1 Hf1 e1 _ s1 => ?_) fun _ _ x => x
  obtain ⟨Hf2, e2, s2⟩ := s1.freeze
  have r2 := s2.front.head
  have k : Good (ofO (seqD (frz m)) env1) _ _ := k
  cases q : seqD (frz m) with
  | none => rw [q] at k; exact k.elim
  | some ds =>
    rw [q] at k
    obtain ⟨a, ws, f1, f2, f3⟩ := seqD_rep r2 q
    refine ⟨a, f1, ?_⟩
    rw [ok.K]
    rcases f2 with f2 | f2
    · exact .inl ⟨⟨ws, s2.same.seq f2⟩, k _ H1 Hf2 (e1.trans e2) s2.tail (walks_list f2 f3)⟩
    · exact .inr ⟨⟨ws, same_sqT s2.same f2⟩, k _ H1 Hf2 (e1.trans e2) s2.tail (walks_tup f2 f3)⟩
theorem sit_range1 {tg a : Expr} {p : EvP} {b : Bool} {pn pos : Pos} (hg : Gl X "range") (hm : X.mg "range" = none) (hn : NoStar a) (h : SV W Z X b a p.v) : SIter W Z X tg (.Call (.Name "range" pn) [a] [] pos) (pIter .range1 [p]) := by
  obtain ⟨t, h1, h2⟩ := h
  refine ⟨_, pi_rg1 hg hm (pa_cons h1 pa_nil (starEach_ne hn _ _)) (starEach_ne hn _ _), fun σ H Hf env T R s g => h2 σ H Hf env T _ s ?_⟩
  have g : Good ((pItems [p] env).bind fun ms env => ofO (itemsOf .range1 (frzs ms)) env) _ _ := g
  rw [good_bind, pItems_one] at g
  refine g.mono (fun m env1 k v H1 Hf1 e1 _ s1 => ?_) fun _ _ x => x
  have k : Good (ofO (itemsOf .range1 [frz m]) env1) _ _ := k
  have vw := s1.front.view
  cases q : frz m with
  | int i =>
    rw [q] at k vw
    have vw : v = .int i := vw
    subst vw
    have k : Good (ofO (some (rangeD 0 i.toNat)) env1) _ _ := k
    exact ⟨i, rfl, k _ H1 Hf1 e1 s1.tail walks_range⟩
  | _ => rw [q] at k; exact k.elim
theorem pItems_two {p q : EvP} {env : Env} {K : List M → Env → Prop} {Xc : Exn → Env → Prop} : Good (pItems [p, q] env) K Xc ↔ Good (p.v env) (fun m env => Good (q.v env) (fun m2 env => K [m, m2] env) Xc) Xc := by
  unfold pItems
  rw [good_bind]
  have : ∀ (m : M) (env : Env), Good ((pItems [q] env).bind fun ms env => .ok (m :: ms) env) K Xc ↔ Good (q.v env) (fun m2 env => K [m, m2] env) Xc := fun m env => by
    rw [good_bind, pItems_one]
    rfl
  constructor
  · intro h; exact h.mono (fun m env k => (this m env).mp k) fun _ _ x => x
  · intro h; exact h.mono (fun m env k => (this m env).mpr k) fun _ _ x => x
theorem sit_range2 {tg a a2 : Expr} {p q : EvP} {b b2 : Bool} {pn pos : Pos} (hg : Gl X "range") (hm : X.mg "range" = none) (hn : NoStar a) (hn2 : NoStar a2) (h : SV W Z X b a p.v) (h' : SV W Z X b2 a2 q.v) : SIter W Z X tg (.Call (.Name "range" pn) [a, a2] [] pos) (pIter .range2 [p, q]) := by
  obtain ⟨t, h1, h2⟩ := h
  obtain ⟨t', h1', h2'⟩ := h'
  refine ⟨_, pi_rg2 hg hm (pa_cons h1 (pa_cons h1' pa_nil (starEach_ne hn2 _ _)) (starEach_ne hn _ _)) (by rw [starEach_ne hn, starEach_ne hn2]; rfl) (starEach_ne hn2 _ _), fun σ H Hf env T R s g => h2 σ H Hf env T _ s ?_⟩
  have g : Good ((pItems [p, q] env).bind fun ms env => ofO (itemsOf .range2 (frzs ms)) env) _ _ := g
  rw [good_bind, pItems_two] at g
  refine g.mono (fun m env1 k v H1 Hf1 e1 _ s1 => ?_) fun _ _ x => x
  refine h2' σ H1 Hf1 env1 ((v, m) :: T) _ s1 (k.mono (fun m2 env2 k v2 H2 Hf2 e2 _ s2 => ?_) fun x env2 kx => px_cons e1 kx)
  have k : Good (ofO (itemsOf .range2 [frz m, frz m2]) env2) _ _ := k
  have vw2 := s2.front.view
  have vw1 := s2.tail.front.view
  cases q1 : frz m with
  | int i =>
    cases q2 : frz m2 with
    | int j =>
      rw [q1, q2] at k
      rw [q1] at vw1
      rw [q2] at vw2
      have vw1 : v = .int i := vw1
      have vw2 : v2 = .int j := vw2
      subst vw1 vw2
      have k : Good (ofO (some (rangeD i (j - i).toNat)) env2) _ _ := k
      exact ⟨i, j, rfl, k _ H2 Hf2 (e1.trans e2) s2.tail.tail walks_range⟩
    | _ => rw [q1, q2] at k; exact k.elim
  | _ => rw [q1] at k; exact k.elim
end
end Mini

set_option Elab.async false
set_option linter.all false
set_option maxRecDepth 100000
set_option maxHeartbeats 4000000
set_option autoImplicit false
namespace Mini
open PySem PySem.Spec PyProof.Rows L2

/-- the slots that are never stored stay -/
def Agree (pr : Nat → Bool) (σ σ' : L2.St) : Prop := σ'.length = σ.length ∧ ∀ i, pr i = true → σ'[i]? = σ[i]?
theorem Agree.refl {pr : Nat → Bool} {σ : L2.St} : Agree pr σ σ := ⟨rfl, fun _ _ => rfl⟩
theorem Agree.trans {pr : Nat → Bool} {a b c : L2.St} (h : Agree pr a b) (k : Agree pr b c) : Agree pr a c := ⟨k.1.trans h.1, fun i q => (k.2 i q).trans (h.2 i q)⟩
theorem Agree.set {pr : Nat → Bool} {σ : L2.St} {i : Nat} {v : V} (h : ¬ pr i = true) : Agree pr σ (σ.set i (some v)) := ⟨List.length_set, fun j hj => by
  rw [List.getElem?_set_ne]
  intro e
  subst e
  exact h hj⟩
section
variable {W : Wd} {Z : WX} {X : Cx} {N : List Str} {sc : Scope} {n : Nat} {σ : L2.St} {H H' Hf Hf' : Hp} {env env' : Env} {T T' L : Cells} {C : Ct} {pr : Nat → Bool} {G : Gk}

/-- a name's new value, out of a temporary -/
theorem Sta.store {i : Nat} {v : V} {m : M} (s : Sta W.G Hf H σ env ((v, m) :: T)) : Sta W.G Hf H (σ.set i (some v)) (env.set i (some m)) T := by
  by_cases hi : i < env.length
  · refine ⟨s.1.store, ?_⟩
    have hs : i < σ.length := by rw [s.1.1]; exact hi
    obtain ⟨D, p⟩ := cells_drop (σ := σ) (env := env) (i := i)
    have o : Own W.G Hf H (D ++ ((v, m) :: (cells σ (env.set i none) ++ T))) := by
      refine Own.perm ?_ s.2
      refine (p.append_right _).trans ?_
      rw [List.append_assoc]
      exact List.perm_middle.append_left _
    exact Own.perm ((cells_store hi hs).append_right T).symm o.right
  · have h1 := s.1.1
    have e1 : σ.set i (some v) = σ := List.set_eq_of_length_le (by omega)
    have e2 : env.set i (some m) = env := List.set_eq_of_length_le (by omega)
    rw [e1, e2]
    exact s.tail

/-! targets -/
def STg (W : Wd) (X : Cx) (pr : Nat → Bool) (tg : Expr) (t : Tg) : Prop := ∃ g, PG X tg g ∧ ∀ σ H Hf env T v m env' (Q : L2.St → Hp → Prop), Sta W.G Hf H σ env ((v, m) :: T) → bindT pr t m env = some env' →
  (∀ σ' H' Hf', Same Hf Hf' → Agree pr σ σ' → Sta W.G Hf' H' σ' env' T → Q σ' H') → g v σ H Q
def STgs (W : Wd) (X : Cx) (pr : Nat → Bool) (tg : List Expr) (ts : List Tg) : Prop := ∃ g, PGs X tg g ∧ ∀ σ H Hf env T vs ms env' (Q : L2.St → Hp → Prop), vs.length = ms.length → Sta W.G Hf H σ env (vs.zip ms ++ T) → bindTs pr ts ms env = some env' →
  (∀ σ' H' Hf', Same Hf Hf' → Agree pr σ σ' → Sta W.G Hf' H' σ' env' T → Q σ' H') → g vs σ H Q
theorem stg_name {i : Nat} {x : Str} {pos : Pos} (ok : XOk W N sc n X) (hi : N[i]? = some x) (hx : Loc sc x) (hf : X.fn x = true ∨ X.env.scope.names.lookup x = some .local) : STg W X pr (.Name x pos) (.name i) := by
  refine ⟨_, pg_name (by rw [ok.nm]; exact ok.nd) (by rw [ok.nm]; exact hi) (by rw [ok.sc]; exact hx) hf, fun σ H Hf env T v m env' Q s e q => ?_⟩
  unfold bindT at e
  by_cases hp : pr i = true
  · rw [if_pos hp] at e; cases e
  · rw [if_neg hp] at e
    cases e
    exact q _ H Hf (Same.refl _) (Agree.set hp) s.store
theorem stg_path {o ie : Expr} {i : Nat} {p : List PS} {k : Int} {pos : Pos} (ho : SPl W X o i p) {ti : TE} (hi : PE X ie ti) (hk : ∀ σ H Q, Q (.int k) H → ti σ H Q)
    (ha : ∀ v, assign (.Subscript o ie pos) X.env v = (do
      let ov ← holding [v] (eval o X.env)
      let iv ← holding [v, ov] (eval ie X.env)
      standAt pos
      holding [v, ov, iv] (setItem ov iv v)
      release [v, ov, iv] [])) : STg W X pr (.Subscript o ie pos) (.path i p k) := by
  obtain ⟨to, h1, h2⟩ := ho
  refine ⟨_, pg_sub h1 hi set_list ha, fun σ H Hf env T v m env' Q s e q => ?_⟩
  have e : setL env i p k m = some env' := e
  unfold setL at e
  split at e
  · rename_i ms hg
    split at e
    · rename_i j hj
      obtain ⟨v0, a, vs, c1, c2, c3, c4, c5⟩ := Sta.chg (Tn := [(v, m)]) s hg
      refine h2 σ H v0 (.ref a) _ c1 c2.chain (hk σ H _ ⟨a, vs, k, j, rfl, rfl, c3, by rw [c4]; exact hj, ?_⟩)
      obtain ⟨d1, d2, _⟩ := ixN_seq hj
      have hm : ms[j]? = some ms[j] := List.getElem?_eq_getElem d2
      exact q σ _ Hf (Same.refl _) Agree.refl (c5 (vs.set j v) (ms.set j m) [] env' (reorg_set hm) e)
    · cases e
  · cases e
theorem stgs_nil : STgs W X pr [] [] := ⟨_, pgs_nil, fun σ H Hf env T vs ms env' Q hl s e q => by
  cases ms with
  | nil =>
    cases e
    cases vs with
    | nil => exact ⟨rfl, q σ H Hf (Same.refl _) Agree.refl s⟩
    | cons _ _ => cases hl
  | cons _ _ => cases e⟩
theorem stgs_cons {e : Expr} {es : List Expr} {t : Tg} {ts : List Tg} (h1 : STg W X pr e t) (h2 : STgs W X pr es ts) (hn : NoStar e) : STgs W X pr (e :: es) (t :: ts) := by
  obtain ⟨g1, p1, q1⟩ := h1
  obtain ⟨g2, p2, q2⟩ := h2
  have hs : (assignEach (e :: es) X.env).map (·.2) = assign e X.env :: (assignEach es X.env).map (·.2) := by cases e <;> first | rfl | exact absurd rfl (hn _ _)
  refine ⟨_, pgs_cons p1 p2 hs, fun σ H Hf env T vs ms env' Q hl s e q => ?_⟩
  cases ms with
  | nil => cases e
  | cons m ms =>
    cases vs with
    | nil => cases hl
    | cons v vs =>
      unfold bindTs at e
      split at e
      · rename_i env1 eb
        refine ⟨v, vs, rfl, q1 σ H Hf env (vs.zip ms ++ T) v m env1 _ s eb fun σ1 H1 Hf1 e1 a1 s1 => ?_⟩
        exact q2 σ1 H1 Hf1 env1 T vs ms env' Q (by simpa using hl) s1 e fun σ2 H2 Hf2 e2 a2 s2 => q σ2 H2 Hf2 (e1.trans e2) (a1.trans a2) s2
      · cases e
theorem stg_tup {es : List Expr} {ts : List Tg} {k : Nat} {pos : Pos} (ok : XOk W N sc n X) (h : STgs W X pr es ts) (hn : ∀ e ∈ es, NoStar e) (hl : ts.length = es.length) : STg W X pr (.Tuple es k pos) (.tup ts) := by
  obtain ⟨g, p, q⟩ := h
  have hlen : ∀ {es : List Expr}, (assignEach es X.env).length = es.length := by
    intro es
    induction es with
    | nil => rfl
    | cons e es ih => cases e <;> (show (assignEach es X.env).length + 1 = _; rw [ih]; rfl)
  have hst : (assignEach es X.env).findIdx? (·.1) = none := by
    have key : ∀ es : List Expr, (∀ e ∈ es, NoStar e) → ∀ x ∈ assignEach es X.env, x.1 = false := by
      intro es
      induction es with
      | nil => intro _ x hx; cases hx
      | cons e es ih =>
        intro hn x hx
        have h0 := hn e List.mem_cons_self
        have hx : x ∈ (false, assign e X.env) :: assignEach es X.env := by cases e <;> first | exact hx | exact absurd rfl (h0 _ _)
        rcases List.mem_cons.mp hx with rfl | hx
        · rfl
        · exact ih (fun e he => hn e (List.mem_cons_of_mem _ he)) x hx
    rw [List.findIdx?_eq_none_iff]
    exact fun x hx => key es hn x hx
  refine ⟨_, pg_tup ok.calm p (hlen (es := es)) hst, fun σ H Hf env T v m env' Q s e kq => ?_⟩
  cases m with
  | imm d =>
    cases d with
    | tup ds =>
      have e : bindTs pr ts (ds.map .imm) env = some env' := e
      have hln : ∀ {ts : List Tg} {ms : List M} {env : Env}, bindTs pr ts ms env = some env' → ms.length = ts.length := by
        intro ts
        induction ts with
        | nil => intro ms env h; cases ms with
          | nil => rfl
          | cons _ _ => cases h
        | cons t ts ih => intro ms env h; cases ms with
          | nil => cases h
          | cons m ms =>
            unfold bindTs at h
            split at h
            · rw [List.length_cons, List.length_cons, ih h]
            · cases h
      obtain ⟨a, ws, f1, f2, f3⟩ := s.front.head
      have l1 := hln e
      rw [List.length_map] at l1
      refine ⟨a, ws, f1, by rw [ok.K]; exact same_sqT s.same f2, by rw [f3.length, l1, hl], q σ H Hf env T ws _ env' Q (by rw [f3.length, List.length_map]) ⟨s.1, ?_⟩ e kq⟩
      have o := Own.imms (ds := ds) f3 s.tail.2
      exact Own.perm perm_left o
    | _ => cases e
  | _ => cases e

/-! statements -/
def PF (W : Wd) (pr : Nat → Bool) (σ : L2.St) (Hf : Hp) (T : Cells) (D : Ends) : Flw → Env → Prop
  | .nx, env => ∀ σ' H' Hf', Same Hf Hf' → Agree pr σ σ' → Sta W.G Hf' H' σ' env T → D.nx σ' H'
  | .bk, env => ∀ σ' H' Hf', Same Hf Hf' → Agree pr σ σ' → Sta W.G Hf' H' σ' env T → D.bk σ' H'
  | .ct, env => ∀ σ' H' Hf', Same Hf Hf' → Agree pr σ σ' → Sta W.G Hf' H' σ' env T → D.ct σ' H'
  | .rt m, env => ∀ v σ' H' Hf', Same Hf Hf' → Agree pr σ σ' → Sta W.G Hf' H' σ' env ((v, m) :: T) → D.rt v H'
def PXs (W : Wd) (Z : WX) (pr : Nat → Bool) (σ : L2.St) (Hf : Hp) (T : Cells) : Exn → Env → Prop := fun x env => ∀ σ', Agree pr σ σ' → PX W Z σ' Hf T x env
def SS (W : Wd) (Z : WX) (X : Cx) (pr : Nat → Bool) (st : Stmt) (f : EvS) : Prop := ∃ t, L2.PS X st t ∧ ∀ σ H Hf env T D, Sta W.G Hf H σ env T → Good (f env) (PF W pr σ Hf T D) (PXs W Z pr σ Hf T) → t D σ H
def SSs (W : Wd) (Z : WX) (X : Cx) (pr : Nat → Bool) (st : List Stmt) (f : EvS) : Prop := ∃ t, PSs X st t ∧ ∀ σ H Hf env T D, Sta W.G Hf H σ env T → Good (f env) (PF W pr σ Hf T D) (PXs W Z pr σ Hf T) → t D σ H
theorem PF.mono {σ' : L2.St} {D : Ends} {f : Flw} {env : Env} (e : Same Hf Hf') (a : Agree pr σ σ') (h : PF W pr σ Hf T D f env) : PF W pr σ' Hf' T D f env := by
  cases f with
  | rt m => exact fun v σ2 H2 Hf2 e2 a2 s2 => h v σ2 H2 Hf2 (e.trans e2) (a.trans a2) s2
  | _ => exact fun σ2 H2 Hf2 e2 a2 s2 => h σ2 H2 Hf2 (e.trans e2) (a.trans a2) s2
theorem PXs.mono {σ' : L2.St} {x : Exn} {env : Env} (e : Same Hf Hf') (a : Agree pr σ σ') (h : PXs W Z pr σ Hf T x env) : PXs W Z pr σ' Hf' T x env := fun σ2 a2 => px_same e (h σ2 (a.trans a2))
theorem PXs.here {x : Exn} {env : Env} (e : Same Hf Hf') (h : PXs W Z pr σ Hf T x env) : PX W Z σ Hf' T x env := px_same e (h σ Agree.refl)
theorem goodF_mono {σ' : L2.St} {D : Ends} {r : R Flw} (e : Same Hf Hf') (a : Agree pr σ σ') (h : Good r (PF W pr σ Hf T D) (PXs W Z pr σ Hf T)) : Good r (PF W pr σ' Hf' T D) (PXs W Z pr σ' Hf' T) := h.mono (fun _ _ k => k.mono e a) fun _ _ k => k.mono e a
theorem sss_nil : SSs W Z X pr [] (fun env => .ok .nx env) := ⟨_, pss_nil, fun σ H Hf env T D s g => g σ H Hf (Same.refl _) Agree.refl s⟩
theorem sss_cons {st : Stmt} {rest : List Stmt} {a b : EvS} (h1 : SS W Z X pr st a) (h2 : SSs W Z X pr rest b) : SSs W Z X pr (st :: rest) (sSeq a b) := by
  obtain ⟨t1, p1, q1⟩ := h1
  obtain ⟨t2, p2, q2⟩ := h2
  refine ⟨_, pss_cons p1 p2, fun σ H Hf env T D s g => q1 σ H Hf env T _ s ?_⟩
  unfold sSeq at g
  rw [good_bind] at g
  refine g.mono (fun f env1 k => ?_) fun _ _ x => x
  cases f with
  | nx => exact fun σ1 H1 Hf1 e1 a1 s1 => q2 σ1 H1 Hf1 env1 T D s1 (goodF_mono e1 a1 k)
  | bk => exact k
  | ct => exact k
  | rt m => exact k
theorem ss_pass {pos : Pos} : SS W Z X pr (.Pass pos) (fun env => .ok .nx env) := ⟨_, ps_pass, fun σ H Hf env T D s g => g σ H Hf (Same.refl _) Agree.refl s⟩
theorem ss_break {pos : Pos} : SS W Z X pr (.Break pos) (fun env => .ok .bk env) := ⟨_, ps_break, fun σ H Hf env T D s g => g σ H Hf (Same.refl _) Agree.refl s⟩
theorem ss_continue {pos : Pos} : SS W Z X pr (.Continue pos) (fun env => .ok .ct env) := ⟨_, ps_continue, fun σ H Hf env T D s g => g σ H Hf (Same.refl _) Agree.refl s⟩
theorem ss_doc {x : Str} {j : Nat} {pos pos' : Pos} : SS W Z X pr (.Expr (.Constant (.str x) j pos) pos') (fun env => .ok .nx env) := ⟨_, ps_doc, fun σ H Hf env T D s g => g σ H Hf (Same.refl _) Agree.refl s⟩
theorem ss_expr {e : Expr} {p : EvP} {pos : Pos} {b : Bool} (h : SV W Z X b e p.v) (hs : swapsWith e none pos.line X.env = pure false) : SS W Z X pr (.Expr e pos) (fun env => (p.v env).bind fun _ env => .ok .nx env) := by
  obtain ⟨t, p1, q1⟩ := h
  refine ⟨_, ps_expr p1 hs, fun σ H Hf env T D s g => q1 σ H Hf env T _ s ?_⟩
  rw [good_bind] at g
  exact g.mono (fun m env1 k v H1 Hf1 e1 _ s1 => k σ H1 Hf1 e1 Agree.refl s1.tail) fun _ _ x => x.here (Same.refl _)
theorem ss_ret {e : Expr} {p : EvP} {pos : Pos} {b : Bool} (h : SV W Z X b e p.v) : SS W Z X pr (.Return (some e) pos) (fun env => (p.v env).bind fun m env => .ok (.rt m) env) := by
  obtain ⟨t, p1, q1⟩ := h
  refine ⟨_, ps_ret p1, fun σ H Hf env T D s g => q1 σ H Hf env T _ s ?_⟩
  rw [good_bind] at g
  exact g.mono (fun m env1 k v H1 Hf1 e1 _ s1 => k v σ H1 Hf1 e1 Agree.refl s1) fun _ _ x => x.here (Same.refl _)
theorem ss_retN {pos : Pos} : SS W Z X pr (.Return none pos) (fun env => .ok (.rt (.imm .non)) env) := ⟨_, ps_retN, fun σ H Hf env T D s g => g .non σ H Hf (Same.refl _) Agree.refl (s.imm rfl)⟩
/-- a variable's own tree goes out as it stands -/
theorem ss_retVar {e : Expr} {i : Nat} {pos : Pos} (h : SPl W X e i []) : SS W Z X pr (.Return (some e) pos) (fun env => match gt env i with
      | some m => if pr i then .fail else .ok (.rt m) (env.set i none)
      | none => .fail) := by
  obtain ⟨t, p1, q1⟩ := h
  refine ⟨_, ps_ret p1, fun σ H Hf env T D s g => ?_⟩
  cases q : gt env i with
  | none => simp only [q] at g; exact g.elim
  | some m =>
    simp only [q] at g
    by_cases hp : pr i = true
    · rw [if_pos hp] at g; exact g.elim
    · rw [if_neg hp] at g
      obtain ⟨v, hv, o⟩ := s.slot q
      exact q1 σ H v v _ hv rfl (g v σ H Hf (Same.refl _) Agree.refl (Sta.ofFront s.1.none o))
theorem ss_if {c : Expr} {a b : List Stmt} {pc : EvP} {fa fb : EvS} {pos : Pos} (hc : ST W Z X c pc.t) (ha : SSs W Z X pr a fa) (hb : SSs W Z X pr b fb) : SS W Z X pr (.If c a b pos) (fun env => (pc.t env).bind fun k env => if k then fa env else fb env) := by
  obtain ⟨tc, p0, q0⟩ := hc
  obtain ⟨ta, p1, q1⟩ := ha
  obtain ⟨tb, p2, q2⟩ := hb
  refine ⟨_, ps_if p0 p1 p2, fun σ H Hf env T D s g => q0 σ H Hf env T _ s ?_⟩
  rw [good_bind] at g
  refine g.mono (fun k env1 kk H1 Hf1 e1 s1 => ?_) fun _ _ x => x.here (Same.refl _)
  cases k with
  | true => exact q1 σ H1 Hf1 env1 T D s1 (goodF_mono e1 Agree.refl kk)
  | false => exact q2 σ H1 Hf1 env1 T D s1 (goodF_mono e1 Agree.refl kk)
theorem ss_set {tg e : Expr} {t : Tg} {p : EvP} {pos : Pos} {b : Bool} (ht : STg W X pr tg t) (h : SV W Z X b e p.v) (hs : swapsWithSole [tg] e pos.line X.env = pure false) (hw : swappedStores [tg] e X.env = pure none) (h1 : (assignEach [tg] X.env).map (·.2) = [assign tg X.env]) :
    SS W Z X pr (.Assign [tg] e pos) (fun env => (p.v env).bind fun m env => match bindT pr t m env with
      | some env' => .ok .nx env'
      | none => .fail) := by
  obtain ⟨te, p1, q1⟩ := h
  obtain ⟨g, p2, q2⟩ := ht
  refine ⟨_, ps_asg p1 p2 hs hw h1, fun σ H Hf env T D s gd => q1 σ H Hf env T _ s ?_⟩
  rw [good_bind] at gd
  refine gd.mono (fun m env1 k v H1 Hf1 e1 _ s1 => ?_) fun _ _ x => x.here (Same.refl _)
  cases q : bindT pr t m env1 with
  | none => simp only [q] at k; exact k.elim
  | some env2 =>
    simp only [q] at k
    exact q2 σ H1 Hf1 env1 T v m env2 _ s1 q fun σ2 H2 Hf2 e2 a2 s2 => k σ2 H2 Hf2 (e1.trans e2) a2 s2
end
end Mini

set_option Elab.async false
set_option linter.all false
set_option maxRecDepth 100000
set_option maxHeartbeats 4000000
set_option autoImplicit false
namespace Mini
open PySem PySem.Spec PyProof.Rows L2
section
variable {W : Wd} {Z : WX} {X : Cx} {N : List Str} {sc : Scope} {n : Nat} {σ : L2.St} {H H' Hf Hf' : Hp} {env env' : Env} {T T' L : Cells} {C : Ct} {pr : Nat → Bool} {G : Gk}

/-! several at once -/
theorem ss_par {ts es : List Expr} {tgs : List Tg} {irs : List E} {kt k2 : Nat} {pt pt2 pos : Pos} (ok : XOk W N sc n X) (ht : STgs W X pr ts tgs) (h : Snds W Z X C pr es irs) (htl : tgs.length = ts.length) (hz : ts.length ≤ sizeLine)
    (hn : (assignEach ts X.env).length = ts.length) (hst : (assignEach ts X.env).findIdx? (·.1) = none) (hw : swappedStores [.Tuple ts kt pt] (.Tuple es k2 pt2) X.env = pure none) :
    SS W Z X pr (.Assign [.Tuple ts kt pt] (.Tuple es k2 pt2) pos) (fun env => (pItems (evs C pr irs) env).bind fun ms env => match bindTs pr tgs ms env with
      | some env' => .ok .nx env'
      | none => .fail) := by
  obtain ⟨g, p2, q2⟩ := ht
  obtain ⟨te, p1, q1⟩ := sis_items h
  refine ⟨_, ps_asg (pe_tup (pa_all p1)) (pg_tup ok.calm p2 hn hst) rfl hw rfl, fun σ H Hf env T D s gd => q1 σ H Hf env T _ s ?_⟩
  rw [good_bind] at gd
  refine gd.mono (fun ms env1 k vs H1 Hf1 e1 _ hlen s1 => ?_) fun _ _ x => x.here (Same.refl _)
  cases q : bindTs pr tgs ms env1 with
  | none => simp only [q] at k; exact k.elim
  | some env2 =>
    simp only [q] at k
    have hln : ∀ {ts : List Tg} {ms : List M} {env : Env}, bindTs pr ts ms env = some env2 → ms.length = ts.length := by
      intro ts
      induction ts with
      | nil => intro ms env h; cases ms with
        | nil => rfl
        | cons _ _ => cases h
      | cons t ts ih => intro ms env h; cases ms with
        | nil => cases h
        | cons m ms =>
          unfold bindTs at h
          split at h
          · rw [List.length_cons, List.length_cons, ih h]
          · cases h
    have hvl : vs.length = ts.length := by rw [hlen, hln q, htl]
    refine ⟨by rw [hvl]; exact hz, fun p hp => ?_⟩
    exact ⟨p, vs, rfl, SqT.of upd_same, hvl, q2 σ _ Hf1 env1 T vs ms env2 _ hlen (s1.grow (same_upd hp)) q fun σ2 H2 Hf2 e2 a2 s2 => k σ2 H2 Hf2 (e1.trans e2) a2 s2⟩
/-- two plain local names: no tuple is made -/
theorem ss_par2 {i j : Nat} {x y : Str} {a b : Expr} {irs : List E} {px py pt pt2 pos : Pos} {kt k2 : Nat} (ok : XOk W N sc n X) (hi : N[i]? = some x) (hj : N[j]? = some y) (hij : i ≠ j) (hx : sc.names.lookup x = some .local) (hy : sc.names.lookup y = some .local)
    (h : Snds W Z X C pr [a, b] irs) (hw : swappedStores [.Tuple [.Name x px, .Name y py] kt pt] (.Tuple [a, b] k2 pt2) X.env = pure (some [x, y])) :
    SS W Z X pr (.Assign [.Tuple [.Name x px, .Name y py] kt pt] (.Tuple [a, b] k2 pt2) pos) (fun env => (pItems (evs C pr irs) env).bind fun ms env => match bindTs pr [.name i, .name j] ms env with
      | some env' => .ok .nx env'
      | none => .fail) := by
  obtain ⟨te, p1, q1⟩ := sis_items h
  refine ⟨_, ps_par ok.calm (by rw [ok.nm]; exact ok.nd) (by rw [ok.nm]; exact hi) (by rw [ok.nm]; exact hj) hij (by rw [ok.sc]; exact hx) (by rw [ok.sc]; exact hy) (pa_all p1) hw, fun σ H Hf env T D s gd => q1 σ H Hf env T _ s ?_⟩
  rw [good_bind] at gd
  refine gd.mono (fun ms env1 k vs H1 Hf1 e1 _ hlen s1 => ?_) fun _ _ x => x.here (Same.refl _)
  cases q : bindTs pr [.name i, .name j] ms env1 with
  | none => simp only [q] at k; exact k.elim
  | some env2 =>
    simp only [q] at k
    match ms, vs, hlen, q, s1 with
    | [m1, m2], [v1, v2], _, q, s1 =>
      unfold bindTs bindT at q
      by_cases hp : pr i = true
      · simp only [if_pos hp] at q; cases q
      · simp only [if_neg hp] at q
        unfold bindTs bindT at q
        by_cases hp2 : pr j = true
        · simp only [if_pos hp2] at q; cases q
        · simp only [if_neg hp2] at q
          unfold bindTs at q
          cases q
          exact ⟨v1, v2, rfl, k _ H1 Hf1 e1 ((Agree.set hp).trans (Agree.set hp2)) (Sta.store (Sta.store s1))⟩
    | [], _, _, q, _ => cases q
    | [m1], _, _, q, _ =>
      unfold bindTs at q
      split at q
      · cases q
      · cases q
    | m1 :: m2 :: m3 :: r, _, _, q, _ =>
      unfold bindTs at q
      split at q
      · unfold bindTs at q
        split at q
        · cases q
        · cases q
      · cases q
theorem ss_par3 {i j l : Nat} {x y z : Str} {a b c : Expr} {irs : List E} {px py pz pt pt2 pos : Pos} {kt k2 : Nat} (ok : XOk W N sc n X) (hi : N[i]? = some x) (hj : N[j]? = some y) (hl : N[l]? = some z) (hij : i ≠ j) (hil : i ≠ l) (hjl : j ≠ l) (hx : sc.names.lookup x = some .local) (hy : sc.names.lookup y = some .local) (hz : sc.names.lookup z = some .local)
    (h : Snds W Z X C pr [a, b, c] irs) (hw : swappedStores [.Tuple [.Name x px, .Name y py, .Name z pz] kt pt] (.Tuple [a, b, c] k2 pt2) X.env = pure (some [x, y, z])) :
    SS W Z X pr (.Assign [.Tuple [.Name x px, .Name y py, .Name z pz] kt pt] (.Tuple [a, b, c] k2 pt2) pos) (fun env => (pItems (evs C pr irs) env).bind fun ms env => match bindTs pr [.name i, .name j, .name l] ms env with
      | some env' => .ok .nx env'
      | none => .fail) := by
  obtain ⟨te, p1, q1⟩ := sis_items h
  refine ⟨_, ps_par3 ok.calm (by rw [ok.nm]; exact ok.nd) (by rw [ok.nm]; exact hi) (by rw [ok.nm]; exact hj) (by rw [ok.nm]; exact hl) hij hil hjl (by rw [ok.sc]; exact hx) (by rw [ok.sc]; exact hy) (by rw [ok.sc]; exact hz) (pa_all p1) hw, fun σ H Hf env T D s gd => q1 σ H Hf env T _ s ?_⟩
  rw [good_bind] at gd
  refine gd.mono (fun ms env1 k vs H1 Hf1 e1 _ hlen s1 => ?_) fun _ _ x => x.here (Same.refl _)
  cases q : bindTs pr [.name i, .name j, .name l] ms env1 with
  | none => simp only [q] at k; exact k.elim
  | some env2 =>
    simp only [q] at k
    match ms, vs, hlen, q, s1 with
    | [m1, m2, m3], [v1, v2, v3], _, q, s1 =>
      unfold bindTs bindT at q
      by_cases hp : pr i = true
      · simp only [if_pos hp] at q; cases q
      · simp only [if_neg hp] at q
        unfold bindTs bindT at q
        by_cases hp2 : pr j = true
        · simp only [if_pos hp2] at q; cases q
        · simp only [if_neg hp2] at q
          unfold bindTs bindT at q
          by_cases hp3 : pr l = true
          · simp only [if_pos hp3] at q; cases q
          · simp only [if_neg hp3] at q
            unfold bindTs at q
            cases q
            exact ⟨v1, v2, v3, rfl, k _ H1 Hf1 e1 (((Agree.set hp).trans (Agree.set hp2)).trans (Agree.set hp3)) (Sta.store (Sta.store (Sta.store s1)))⟩
    | [], _, _, q, _ => cases q
    | [m1], _, _, q, _ =>
      unfold bindTs at q
      split at q
      · cases q
      · cases q
    | [m1, m2], _, _, q, _ =>
      unfold bindTs at q
      split at q
      · unfold bindTs at q
        split at q
        · cases q
        · cases q
      · cases q
    | m1 :: m2 :: m3 :: m4 :: r, _, _, q, _ =>
      unfold bindTs at q
      split at q
      · unfold bindTs at q
        split at q
        · unfold bindTs at q
          split at q
          · cases q
          · cases q
        · cases q
      · cases q

/-- o[i] = v, o a place that owns a list -/
theorem ss_setItem {o ie e : Expr} {i : Nat} {p : List PS} {pe px : EvP} {pos tpos : Pos} {b b2 : Bool} (ho : SPl W X o i p) (h : SV W Z X b e pe.v) (hi : SV W Z X b2 ie px.v)
    (ha : ∀ v, assign (.Subscript o ie tpos) X.env v = (do
      let ov ← holding [v] (eval o X.env)
      let iv ← holding [v, ov] (eval ie X.env)
      standAt tpos
      holding [v, ov, iv] (setItem ov iv v)
      release [v, ov, iv] [])) (hs : swapsWithSole [.Subscript o ie tpos] e pos.line X.env = pure false) (hw : swappedStores [.Subscript o ie tpos] e X.env = pure none) :
    SS W Z X pr (.Assign [.Subscript o ie tpos] e pos) (sSetItem i p b2 px pe) := by
  obtain ⟨to, h1, h2⟩ := ho
  obtain ⟨te, p1, q1⟩ := h
  obtain ⟨ti, p2, q2⟩ := hi
  refine ⟨_, ps_asg p1 (pg_sub h1 p2 set_list ha) hs hw rfl, fun σ H Hf env T D s gd => q1 σ H Hf env T _ s ?_⟩
  unfold sSetItem at gd
  rw [good_bind] at gd
  refine gd.mono (fun m env1 k v H1 Hf1 e1 _ s1 => ?_) fun _ _ x => x.here (Same.refl _)
  by_cases hb : (p.isEmpty || b2) = true
  · rw [if_pos hb] at k
    have g0 : ∃ ms0, getE env1 i p = some (.lst ms0) := by
      cases q : getE env1 i p with
      | none => simp only [q] at k; exact k.elim
      | some m => cases m with
        | lst ms => exact ⟨ms, rfl⟩
        | _ => simp only [q] at k; exact k.elim
    obtain ⟨ms0, e0⟩ := g0
    simp only [e0] at k
    rw [good_bind] at k
    obtain ⟨v0, a0, vs0, c1, c2, c3, _⟩ := Sta.chg (Tn := [(v, m)]) s1 e0
    refine h2 σ H1 v0 (.ref a0) _ c1 c2.chain (q2 σ H1 Hf1 env1 ((v, m) :: T) _ s1 (k.mono (fun kx env2 kk w H2 Hf2 e2 e3 s2 => ?_) fun x env2 kx => px_cons (Same.refl _) (kx.here e1)))
    cases kx with
    | imm d =>
      cases d with
      | int kz =>
        have kk : Good (match setL env2 i p kz m with
          | some env' => .ok .nx env'
          | none => .fail : R Flw) _ _ := kk
        cases q : setL env2 i p kz m with
        | none => simp only [q] at kk; exact kk.elim
        | some env3 =>
          simp only [q] at kk
          have hw : w = .int kz := s2.front.head
          subst hw
          have s2 := s2.tail
          unfold setL at q
          split at q
          · rename_i ms hg
            split at q
            · rename_i j hj
              obtain ⟨v0', a, vs, d1, d2, d3, d4, d5⟩ := Sta.chg (Tn := [(v, m)]) s2 hg
              rw [c1] at d1
              cases d1
              have ea : V.ref a0 = .ref a := by
                cases p with
                | nil =>
                  have c2 : V.ref a0 = v0 := c2
                  have d2 : V.ref a = v0 := d2
                  rw [c2, d2]
                | cons x xs => exact (c2.mono (e3 (by simpa using hb))).inj d2
              cases ea
              obtain ⟨f1, f2, _⟩ := ixN_seq hj
              have hm : ms[j]? = some ms[j] := List.getElem?_eq_getElem f2
              refine ⟨a0, vs, kz, j, rfl, rfl, d3, by rw [d4]; exact hj, ?_⟩
              exact kk σ _ Hf2 (e1.trans e2) Agree.refl (d5 (vs.set j v) (ms.set j m) [] env3 (reorg_set hm) q)
            · cases q
          · cases q
      | _ => exact kk.elim
    | _ => exact kk.elim
  · rw [if_neg hb] at k; exact k.elim

/-! while, for -/
theorem iterW_ok {st : Env → R (Option Flw)} {n : Nat} {env : Env} {r : R Flw} (h : iterW st (n + 1) env = some r) : (match st env with
    | .ok none env' => iterW st n env'
    | .ok (some f) env' => some (.ok f env')
    | .exc x env' => some (.exc x env')
    | .fail => some .fail) = some r := h
theorem ss_while {c : Expr} {body : List Stmt} {pc : EvP} {fb : EvS} {pos : Pos} (hp : PassesOwn (model X.prog X.w) X.A X.env X.xe) (hc : ST W Z X c pc.t) (hb : SSs W Z X pr body fb) : SS W Z X pr (.While c body [] pos) (whileR (whileSt pc fb)) := by
  obtain ⟨tc, p0, q0⟩ := hc
  obtain ⟨tb, p1, q1⟩ := hb
  refine ⟨_, ps_while hp p0 p1, fun σ0 H0 Hf0 env0 T D s0 g0 => ?_⟩
  have hx : ∃ n r, iterW (whileSt pc fb) n env0 = some r := by
    by_cases h : ∃ n r, iterW (whileSt pc fb) n env0 = some r
    · exact h
    · unfold whileR at g0
      rw [dif_neg h] at g0
      exact g0.elim
  obtain ⟨n0, r0, hr0⟩ := hx
  rw [whileR_of hr0] at g0
  refine ⟨fun m σ H => ∃ Hf env, Same Hf0 Hf ∧ Agree pr σ0 σ ∧ Sta W.G Hf H σ env T ∧ iterW (whileSt pc fb) m env = some r0, ⟨n0, Hf0, env0, Same.refl _, Agree.refl, s0, hr0⟩, ?_⟩
  rintro m σ H ⟨Hf, env, e, a, s, hr⟩
  have g : Good r0 (PF W pr σ Hf T D) (PXs W Z pr σ Hf T) := goodF_mono e a g0
  cases m with
  | zero => cases hr
  | succ m =>
    have hr := iterW_ok hr
    refine q0 σ H Hf env T _ s ?_
    cases qt : pc.t env with
    | fail => 
      have : whileSt pc fb env = .fail := by unfold whileSt; rw [qt]; rfl
      rw [this] at hr
      cases hr
      exact g.elim
    | exc x env1 =>
      have : whileSt pc fb env = .exc x env1 := by unfold whileSt; rw [qt]; rfl
      rw [this] at hr
      cases hr
      exact PXs.here (Same.refl _) g
    | ok k env1 =>
      intro H1 Hf1 e1 s1
      have hst : whileSt pc fb env = (if k = true then (fb env1).bind fun f env => match f with
        | .nx => .ok none env
        | .ct => .ok none env
        | .bk => .ok (some .nx) env
        | .rt m => .ok (some (.rt m)) env
        else .ok (some .nx) env1) := by unfold whileSt; rw [qt]; rfl
      cases k with
      | false =>
        rw [if_neg Bool.false_ne_true] at hst
        rw [hst] at hr
        cases hr
        rw [if_neg Bool.false_ne_true]
        exact g σ H1 Hf1 e1 Agree.refl s1
      | true =>
        rw [if_pos rfl] at hst
        rw [if_pos rfl]
        refine ⟨fun σ' H' => ∃ m', m' < m + 1 ∧ ∃ Hf env, Same Hf0 Hf ∧ Agree pr σ0 σ' ∧ Sta W.G Hf H' σ' env T ∧ iterW (whileSt pc fb) m' env = some r0, fun σ' H' h => h, ?_⟩
        refine q1 σ H1 Hf1 env1 T _ s1 ?_
        have gm := goodF_mono e1 (Agree.refl (pr := pr) (σ := σ)) g
        cases qb : fb env1 with
        | fail =>
          rw [hst, qb] at hr
          cases hr
          exact g.elim
        | exc x env2 =>
          rw [hst, qb] at hr
          cases hr
          exact gm
        | ok f env2 =>
          rw [hst, qb] at hr
          cases f with
          | nx => exact fun σ2 H2 Hf2 e2 a2 s2 => ⟨m, Nat.lt_succ_self _, Hf2, env2, (e.trans e1).trans e2, a.trans a2, s2, hr⟩
          | ct => exact fun σ2 H2 Hf2 e2 a2 s2 => ⟨m, Nat.lt_succ_self _, Hf2, env2, (e.trans e1).trans e2, a.trans a2, s2, hr⟩
          | bk =>
            cases hr
            exact gm
          | rt v =>
            cases hr
            exact gm
theorem Walks.mono {ds : List D} {J : It} (e : Same Hf Hf') (h : Walks G Hf ds J) : Walks G Hf' ds J := fun i H s => by
  obtain ⟨h1, h2⟩ := h i H (e.trans s)
  refine ⟨h1, fun d hd => ?_⟩
  obtain ⟨h3, h4⟩ := h2 d hd
  exact ⟨h3, fun x H' y => (h4 x H' y).mono e⟩
theorem ss_for {tg iter : Expr} {body : List Stmt} {t : Tg} {fi : Env → R (List D)} {fb : EvS} {pos : Pos} (ok : XOk W N sc n X) (hp : PassesOwn (model X.prog X.w) X.A X.env X.xe) (hi : SIter W Z X tg iter fi) (ht : STg W X pr tg t) (hb : SSs W Z X pr body fb)
    (hs : ∀ x, foldedSetIterable iter X.env x = pure x) : SS W Z X pr (.For tg iter body [] pos) (fun env => (fi env).bind fun ds env => forLoop (fun d env => match bindT pr t (.imm d) env with
      | some env' => fb env'
      | none => .fail) ds env) := by
  obtain ⟨wi, p0, q0⟩ := hi
  obtain ⟨g, p1, q1⟩ := ht
  obtain ⟨tb, p2, q2⟩ := hb
  refine ⟨_, ps_for hp ok.calm p0 p1 p2 hs, fun σ0 H0 Hf0 env0 T D s0 g0 => q0 σ0 H0 Hf0 env0 T _ s0 ?_⟩
  rw [good_bind] at g0
  refine g0.mono (fun ds env1 g1 J H1 Hf1 e1 s1 wk => ?_) fun _ _ x => x.here (Same.refl _)
  refine ⟨fun i m σ H => m = ds.length - i ∧ ∃ Hf env, Same Hf1 Hf ∧ Agree pr σ0 σ ∧ Sta W.G Hf H σ env T ∧ Good (forLoop (fun d env => match bindT pr t (.imm d) env with
      | some env' => fb env'
      | none => .fail) (ds.drop i) env) (PF W pr σ Hf T D) (PXs W Z pr σ Hf T), ⟨_, rfl, Hf1, env1, Same.refl _, Agree.refl, s1, goodF_mono e1 Agree.refl g1⟩, ?_⟩
  rintro i m σ H ⟨rfl, Hf, env, e, a, s, gd⟩
  obtain ⟨w1, w2⟩ := (wk.mono e) i H s.same
  cases hd : ds[i]? with
  | none =>
    have hl : ds.length ≤ i := by rwa [List.getElem?_eq_none_iff] at hd
    rw [List.drop_of_length_le hl] at gd
    exact .inl ⟨w1 hl, gd σ H Hf (Same.refl _) Agree.refl s⟩
  | some d =>
    obtain ⟨hlt, hde⟩ := List.getElem?_eq_some_iff.mp hd
    obtain ⟨w3, w4⟩ := w2 d hd
    refine .inr ⟨w3, fun σ' H' => ∃ m', m' < ds.length - i ∧ m' = ds.length - (i + 1) ∧ ∃ Hf env, Same Hf1 Hf ∧ Agree pr σ0 σ' ∧ Sta W.G Hf H' σ' env T ∧ Good (forLoop (fun d env => match bindT pr t (.imm d) env with
      | some env' => fb env'
      | none => .fail) (ds.drop (i + 1)) env) (PF W pr σ' Hf T D) (PXs W Z pr σ' Hf T), fun σ' H' h => h, fun x H2 y => ?_⟩
    obtain ⟨Hf2, e2, s2⟩ := sta_res s (w4 x H2 y)
    rw [List.drop_eq_getElem_cons hlt, hde] at gd
    have gd : Good ((match bindT pr t (.imm d) env with
      | some env' => fb env'
      | none => .fail : R Flw).bind fun f env => match f with
        | .nx => forLoop (fun d env => match bindT pr t (.imm d) env with
          | some env' => fb env'
          | none => .fail) (ds.drop (i + 1)) env
        | .ct => forLoop (fun d env => match bindT pr t (.imm d) env with
          | some env' => fb env'
          | none => .fail) (ds.drop (i + 1)) env
        | .bk => .ok .nx env
        | .rt m => .ok (.rt m) env) (PF W pr σ Hf T D) (PXs W Z pr σ Hf T) := gd
    cases qb : bindT pr t (.imm d) env with
    | none => simp only [qb] at gd; exact gd.elim
    | some env2 =>
      simp only [qb] at gd
      rw [good_bind] at gd
      refine q1 σ H2 Hf2 env T x (.imm d) env2 _ s2 qb fun σ3 H3 Hf3 e3 a3 s3 => ?_
      refine q2 σ3 H3 Hf3 env2 T _ s3 (gd.mono (fun f env3 k => ?_) fun x env3 kx => PXs.mono (e2.trans e3) a3 kx)
      cases f with
      | nx => exact fun σ4 H4 Hf4 e4 a4 s4 => ⟨_, by omega, rfl, Hf4, env3, ((e.trans e2).trans e3).trans e4, (a.trans a3).trans a4, s4, goodF_mono ((e2.trans e3).trans e4) (a3.trans a4) k⟩
      | ct => exact fun σ4 H4 Hf4 e4 a4 s4 => ⟨_, by omega, rfl, Hf4, env3, ((e.trans e2).trans e3).trans e4, (a.trans a3).trans a4, s4, goodF_mono ((e2.trans e3).trans e4) (a3.trans a4) k⟩
      | bk => exact fun σ4 H4 Hf4 e4 a4 s4 => k σ4 H4 Hf4 ((e2.trans e3).trans e4) (a3.trans a4) s4
      | rt m => exact fun v σ4 H4 Hf4 e4 a4 s4 => k v σ4 H4 Hf4 ((e2.trans e3).trans e4) (a3.trans a4) s4
end
end Mini

set_option Elab.async false
set_option linter.all false
set_option maxRecDepth 100000
set_option maxHeartbeats 4000000
set_option autoImplicit false
namespace Mini
open PySem PySem.Spec PyProof.Rows L2
section
variable {W : Wd} {Z : WX} {X : Cx} {N : List Str} {sc : Scope} {n : Nat} {σ : L2.St} {H H' Hf Hf' : Hp} {env env' : Env} {T T' L : Cells} {C : Ct} {pr : Nat → Bool} {G : Gk}

/-! readings that do not lean on the context -/
def tV (W : Wd) (Z : WX) (b : Bool) (f : Env → R M) : TE := fun σ H Q => ∃ Hf env T, Sta W.G Hf H σ env T ∧ Good (f env) (PV W b σ H Hf T Q) (PX W Z σ Hf T)
def tTs (W : Wd) (Z : WX) (f : Env → R Bool) : TT := fun σ H Q => ∃ Hf env T, Sta W.G Hf H σ env T ∧ Good (f env) (PT' W σ Hf T Q) (PX W Z σ Hf T)
def gTg (W : Wd) (pr : Nat → Bool) (t : Tg) : TG := fun v σ H Q => ∃ Hf env T m env', Sta W.G Hf H σ env ((v, m) :: T) ∧ bindT pr t m env = some env' ∧ ∀ σ' H' Hf', Same Hf Hf' → Agree pr σ σ' → Sta W.G Hf' H' σ' env' T → Q σ' H'
theorem SV.canon {e : Expr} {f : Env → R M} {b : Bool} (h : SV W Z X b e f) : PE X e (tV W Z b f) := by
  obtain ⟨t, p, q⟩ := h
  exact ⟨fun pins s σ H Q I ⟨Hf, env, T, st, g⟩ => p.run pins s σ H Q I (q σ H Hf env T Q st g)⟩
theorem STg.canon {e : Expr} {t : Tg} (h : STg W X pr e t) : PG X e (gTg W pr t) := by
  obtain ⟨g, p, q⟩ := h
  exact ⟨fun pins s σ H v u Q I r ⟨Hf, env, T, m, env', st, e, k⟩ => p.run pins s σ H v u Q I r (q σ H Hf env T v m env' Q st e k)⟩
def STs (W : Wd) (Z : WX) (X : Cx) (ifs : List Expr) (f : Env → R Bool) : Prop := PTs X ifs (tTs W Z f)
theorem sts_nil : STs W Z X [] (pTests []) := ⟨fun pins s σ H Q I ⟨Hf, env, T, st, g⟩ => pts_nil.run pins s σ H Q I (g H Hf (Same.refl _) st)⟩
theorem sts_one {c : Expr} {p : EvP} (h : ST W Z X c p.t) : STs W Z X [c] (pTests [p]) := by
  obtain ⟨t, p1, q1⟩ := h
  refine ⟨fun pins s σ H Q I ⟨Hf, env, T, st, g⟩ => (pts_one p1).run pins s σ H Q I (q1 σ H Hf env T Q st ?_)⟩
  unfold pTests at g
  rw [good_bind] at g
  refine g.mono (fun k env1 kk => ?_) fun _ _ x => x
  cases k with
  | true => exact kk
  | false => exact kk

/-! the slots of a block's own names -/
theorem gt_none_ge {env : Env} {i : Nat} (h : env.length ≤ i) : gt env i = none := by
  cases q : gt env i with
  | none => rfl
  | some m => exact absurd (gt_lt q) (by omega)
theorem gt_set_none {env : Env} {i : Nat} : gt (env.set i none) i = none := by
  by_cases h : i < env.length
  · exact gt_set_self h
  · exact gt_none_ge (by rw [List.length_set]; omega)
theorem gt_ext : ∀ {a b : Env}, a.length = b.length → (∀ i, gt a i = gt b i) → a = b
  | [], [], _, _ => rfl
  | x :: a, y :: b, hl, h => by
    have h0 : x = y := h 0
    subst h0
    rw [gt_ext (a := a) (b := b) (by simpa using hl) fun i => h (i + 1)]
theorem wipeE_len {env : Env} : ∀ {vs : List Nat}, (wipeE env vs).length = env.length
  | [] => rfl
  | v :: vs => by unfold wipeE; rw [List.length_set, wipeE_len]
theorem gt_wipeE {env : Env} {i : Nat} : ∀ {vs : List Nat}, gt (wipeE env vs) i = if i ∈ vs then none else gt env i
  | [] => rfl
  | v :: vs => by
    unfold wipeE
    by_cases e : v = i
    · subst e
      rw [gt_set_none, if_pos List.mem_cons_self]
    · rw [gt_set_ne e, gt_wipeE (vs := vs)]
      by_cases hm : i ∈ vs
      · rw [if_pos hm, if_pos (List.mem_cons_of_mem _ hm)]
      · rw [if_neg hm, if_neg (by rw [List.mem_cons]; rintro (h | h); exact e h.symm; exact hm h)]
theorem backE_len {env0 : Env} : ∀ {vs : List Nat} {env : Env}, (backE env0 env vs).length = env.length
  | [], env => rfl
  | v :: vs, env => by unfold backE; rw [backE_len, List.length_set]
theorem gt_backE {env0 : Env} {i : Nat} : ∀ {vs : List Nat} {env : Env}, env.length = env0.length → gt (backE env0 env vs) i = if i ∈ vs then gt env0 i else gt env i
  | [], env, hl => rfl
  | v :: vs, env, hl => by
    unfold backE
    rw [gt_backE (by rw [List.length_set]; exact hl)]
    by_cases hm : i ∈ vs
    · rw [if_pos hm, if_pos (List.mem_cons_of_mem _ hm)]
    · rw [if_neg hm]
      by_cases e : v = i
      · subst e
        rw [if_pos List.mem_cons_self]
        by_cases h : v < env.length
        · exact gt_set_self h
        · rw [gt_none_ge (by rw [List.length_set]; omega), gt_none_ge (by omega)]
      · rw [gt_set_ne e, if_neg (by rw [List.mem_cons]; rintro (h | h); exact e h.symm; exact hm h)]
def onlyE (env : Env) (vs : List Nat) : Nat → Env
  | 0 => []
  | k + 1 => onlyE env vs k ++ [if k ∈ vs then gt env k else none]
theorem cells_split : ∀ {σ : L2.St} {env a b : Env}, a.length = env.length → b.length = env.length → (∀ i, (gt a i = gt env i ∧ gt b i = none) ∨ (gt a i = none ∧ gt b i = gt env i)) → (cells σ env).Perm (cells σ a ++ cells σ b)
  | [], env, a, b, ha, hb, h => by
    have e : ∀ e : Env, cells [] e = [] := fun e => by cases e <;> rfl
    rw [e, e, e]
    exact .refl _
  | o :: σ, [], a, b, ha, hb, h => by
    have ha : a = [] := List.eq_nil_of_length_eq_zero ha
    have hb : b = [] := List.eq_nil_of_length_eq_zero hb
    subst ha hb
    have e : cells (o :: σ) ([] : Env) = [] := by cases o <;> rfl
    rw [e]
    exact .refl _
  | o :: σ, x :: env, [], b, ha, hb, h => by simp at ha
  | o :: σ, x :: env, y :: a, [], ha, hb, h => by simp at hb
  | o :: σ, x :: env, y :: a, z :: b, ha, hb, h => by
    have ih := cells_split (σ := σ) (env := env) (a := a) (b := b) (by simpa using ha) (by simpa using hb) fun i => h (i + 1)
    have h0 := h 0
    have h0 : (y = x ∧ z = none) ∨ (y = none ∧ z = x) := h0
    have en : ∀ e : Env, cells (o :: σ) (none :: e) = cells σ e := fun e => by cases o <;> rfl
    rcases h0 with ⟨rfl, rfl⟩ | ⟨rfl, rfl⟩
    · rw [en]
      cases y with
      | none => rw [en, en]; exact ih
      | some m =>
        cases o with
        | none => exact ih
        | some v => exact ih.cons (v, m)
    · rw [en]
      cases z with
      | none => rw [en, en]; exact ih
      | some m =>
        cases o with
        | none => exact ih
        | some v => exact (ih.cons (v, m)).trans List.perm_middle.symm
theorem cells_congr : ∀ {σ σ' : L2.St} {env : Env}, σ.length = σ'.length → (∀ i m, gt env i = some m → σ[i]? = σ'[i]?) → cells σ env = cells σ' env
  | [], [], env, _, _ => rfl
  | o :: σ, o' :: σ', [], _, _ => by
    have e : ∀ o (σ : L2.St), cells (o :: σ) ([] : Env) = [] := fun o σ => by cases o <;> rfl
    rw [e, e]
  | o :: σ, o' :: σ', x :: env, hl, h => by
    have ih := cells_congr (σ := σ) (σ' := σ') (env := env) (by simpa using hl) fun i m q => by simpa using h (i + 1) m q
    cases x with
    | none =>
      have en : ∀ o (σ : L2.St) (e : Env), cells (o :: σ) (none :: e) = cells σ e := fun o σ e => by cases o <;> rfl
      rw [en, en, ih]
    | some m =>
      have e0 := h 0 m rfl
      have e0 : o = o' := by simpa using e0
      subst e0
      cases o with
      | none => exact ih
      | some v => show (v, m) :: cells σ env = (v, m) :: cells σ' env; rw [ih]
theorem wipe_get {σ : L2.St} {i : Nat} : ∀ {vs : List Nat}, i ∉ vs → (wipe σ vs)[i]? = σ[i]?
  | [], _ => rfl
  | v :: vs, h => by
    unfold wipe
    rw [List.getElem?_set_ne (fun e => h (by rw [e]; exact List.mem_cons_self)), wipe_get fun hm => h (List.mem_cons_of_mem _ hm)]
theorem wipe_gone {σ : L2.St} {i : Nat} : ∀ {vs : List Nat}, i ∈ vs → i < σ.length → (wipe σ vs)[i]? = some none
  | v :: vs, h, hl => by
    unfold wipe
    by_cases e : v = i
    · subst e
      rw [List.getElem?_set_self (by rw [wipe_length]; exact hl)]
    · rw [List.getElem?_set_ne e]
      rcases List.mem_cons.mp h with rfl | h
      · exact absurd rfl e
      · exact wipe_gone h hl
theorem wipe_agree {σ σ' : L2.St} {vs : List Nat} (a : Agree (fun i => !(vs.contains i)) σ σ') : wipe σ' vs = wipe σ vs := by
  refine List.ext_getElem? fun i => ?_
  by_cases h : i ∈ vs
  · by_cases hl : i < σ.length
    · rw [wipe_gone h hl, wipe_gone h (by rw [a.1]; exact hl)]
    · rw [List.getElem?_eq_none (by rw [wipe_length, a.1]; omega), List.getElem?_eq_none (by rw [wipe_length]; omega)]
  · rw [wipe_get h, wipe_get h]
    exact a.2 i (by simp [h])
theorem SlotsOk.wiped {σ : L2.St} {env : Env} {vs : List Nat} (h : SlotsOk σ env) : SlotsOk (wipe σ vs) (wipeE env vs) := by
  refine ⟨by rw [wipe_length, wipeE_len]; exact h.1, fun i m q => ?_⟩
  rw [gt_wipeE] at q
  by_cases hm : i ∈ vs
  · rw [if_pos hm] at q; cases q
  · rw [if_neg hm] at q
    rw [wipe_get hm]
    exact h.2 i m q
theorem cells_wipe {σ : L2.St} {env : Env} {vs : List Nat} (hg : ∀ v ∈ vs, gt env v = none) : cells (wipe σ vs) env = cells σ env := cells_congr (wipe_length σ vs) fun i m q => wipe_get fun hm => by rw [hg i hm] at q; cases q
theorem onlyE_ex (env : Env) (vs : List Nat) : ∃ a : Env, a.length = env.length ∧ ∀ i, gt a i = if i ∈ vs then gt env i else none := by
  have key : ∀ env : Env, ∀ p : Nat → Bool, ∃ a : Env, a.length = env.length ∧ ∀ i, gt a i = if p i = true then gt env i else none := by
    intro env
    induction env with
    | nil => intro p; exact ⟨[], rfl, fun i => by split <;> rfl⟩
    | cons o env ih =>
      intro p
      obtain ⟨a, h1, h2⟩ := ih fun i => p (i + 1)
      refine ⟨(if p 0 = true then o else none) :: a, by rw [List.length_cons, List.length_cons, h1], fun i => ?_⟩
      cases i with
      | zero => rfl
      | succ i => exact h2 i
  obtain ⟨a, h1, h2⟩ := key env fun i => decide (i ∈ vs)
  exact ⟨a, h1, fun i => by rw [h2]; simp only [decide_eq_true_eq]⟩
/-- the own names' trees are put aside, and come back -/
theorem Sta.aside {vs : List Nat} (s : Sta W.G Hf H σ env T) : ∃ Lw : Cells, Sta W.G Hf H (wipe σ vs) (wipeE env vs) (Lw ++ T) ∧ ∀ H' Hf' env2 T', Sta W.G Hf' H' (wipe σ vs) env2 (T' ++ (Lw ++ T)) → (∀ v ∈ vs, gt env2 v = none) → Sta W.G Hf' H' σ (backE env env2 vs) (T' ++ T) := by
  obtain ⟨a, h1, h2⟩ := onlyE_ex env vs
  refine ⟨cells σ a, ⟨s.1.wiped, ?_⟩, fun H' Hf' env2 T' s2 hg => ?_⟩
  · rw [cells_wipe fun v hv => by rw [gt_wipeE, if_pos hv]]
    refine Own.perm ?_ s.2
    rw [← List.append_assoc]
    refine List.Perm.append_right _ (List.Perm.trans (cells_split (a := a) (b := wipeE env vs) h1 wipeE_len fun i => ?_) List.perm_append_comm)
    rw [h2, gt_wipeE]
    by_cases hm : i ∈ vs
    · rw [if_pos hm, if_pos hm]; exact .inl ⟨rfl, rfl⟩
    · rw [if_neg hm, if_neg hm]; exact .inr ⟨rfl, rfl⟩
  · have hl : env2.length = env.length := by
      have e1 := s2.1.1
      rw [wipe_length] at e1
      rw [← e1]; exact s.1.1
    refine ⟨⟨by rw [backE_len, hl]; exact s.1.1, fun i m q => ?_⟩, ?_⟩
    · rw [gt_backE hl] at q
      by_cases hm : i ∈ vs
      · rw [if_pos hm] at q; exact s.1.2 i m q
      · rw [if_neg hm] at q
        have := s2.1.2 i m q
        rwa [wipe_get hm] at this
    · have o := s2.2
      rw [cells_wipe hg] at o
      refine Own.perm ?_ o
      have p : (cells σ (backE env env2 vs)).Perm (cells σ a ++ cells σ env2) := cells_split (by rw [h1, backE_len, hl]) (by rw [backE_len]) fun i => by
        rw [h2, gt_backE hl]
        by_cases hm : i ∈ vs
        · rw [if_pos hm, if_pos hm]; exact .inl ⟨rfl, hg i hm⟩
        · rw [if_neg hm, if_neg hm]; exact .inr ⟨rfl, rfl⟩
      refine List.Perm.trans ?_ (p.symm.append_right _)
      rw [List.append_assoc]
      exact ((perm_left (a := T') (b := cells σ a) (c := T)).append_left (cells σ env2)).trans perm_left
theorem Sta.wiped {vs : List Nat} (s : Sta W.G Hf H σ env T) : Sta W.G Hf H (wipe σ vs) (wipeE env vs) T := by
  obtain ⟨Lw, s1, _⟩ := s.aside (vs := vs)
  exact s1.drop

theorem good_noExc {α : Type} {r : R α} {K : α → Env → Prop} {Xc : Exn → Env → Prop} : Good (noExc r) K Xc ↔ Good r K (fun _ _ => False) := by
  cases r <;> exact Iff.rfl
theorem wipeE_id {env : Env} {vs : List Nat} (h : ∀ v ∈ vs, gt env v = none) : wipeE env vs = env := gt_ext wipeE_len fun i => by
  rw [gt_wipeE]
  by_cases hm : i ∈ vs
  · rw [if_pos hm, h i hm]
  · rw [if_neg hm]
abbrev ZF : WX := fun _ _ _ _ => False
theorem px_false {x : Exn} {env : Env} (h : False) : PX W ZF σ Hf T x env := h.elim
/-- a list comprehension's reading -/
theorem comp_core {wi : TI} {own : List Nat} {t : Tg} {pe : EvP} {pt : List EvP} {fi : Env → R (List D)} {b : Bool} {Q : VK} (q0 : ∀ σ H Hf env T R, Sta W.G Hf H σ env T → Good (fi env) (fun ds env' => ∀ J H' Hf', Same Hf Hf' → Sta W.G Hf' H' σ env' T → Walks W.G Hf' ds J → R J H') (PX W Z σ Hf T) → wi σ H R)
    (s : Sta W.G Hf H σ env T) (g : Good ((fi env).bind fun ds env => (noExc (compLoop (fun i => !(own.contains i)) t pe pt own ds (wipeE env own))).bind fun ms env' => if ms.length ≤ sizeLine then (R.ok (M.lst ms) (backE env env' own) : R M) else .fail) (PV W false σ H Hf T Q) (PX W Z σ Hf T)) :
    tLc wi (gTg W (fun i => !(own.contains i)) t) (tTs W ZF (pTests pt)) (tV W ZF b pe.v) own σ H Q := by
  refine q0 σ H Hf env T _ s ?_
  rw [good_bind] at g
  refine g.mono (fun ds env1 g1 J H1 Hf1 e1 s1 wk D hD => ?_) fun _ _ x => x
  rw [good_bind, good_noExc] at g1
  obtain ⟨Lw, sa, back⟩ := s1.aside (vs := own)
  have sD : Sta W.G Hf1 (upd H1 D (.lst [])) (wipe σ own) (wipeE env1 own) ((.ref D, .lst []) :: (Lw ++ T)) := Sta.ofFront sa.1 (Own.newLst (vs := []) (ms := []) sa.2 rfl hD)
  let Kf : List M → Env → Prop := fun ms env' => Good (if ms.length ≤ sizeLine then (R.ok (M.lst ms) (backE env1 env' own) : R M) else .fail) (PV W false σ H Hf T Q) (PX W Z σ Hf T)
  refine ⟨fun i m H => m = ds.length - i ∧ ∃ Hf env acc, Same Hf1 Hf ∧ Sta W.G Hf H (wipe σ own) env ((.ref D, .lst acc) :: (Lw ++ T)) ∧ (∀ v ∈ own, gt env v = none) ∧
    Good (compLoop (fun i => !(own.contains i)) t pe pt own (ds.drop i) env) (fun ms env' => Kf (acc ++ ms) env') (fun _ _ => False), ⟨_, rfl, Hf1, _, [], Same.refl _, sD, fun v hv => by rw [gt_wipeE, if_pos hv], g1⟩, ?_⟩
  rintro i m H2 ⟨rfl, Hf2, env2, acc, e2, s2, hg, gd⟩
  obtain ⟨w1, w2⟩ := (wk.mono e2) i H2 s2.same
  cases hd : ds[i]? with
  | none =>
    have hl : ds.length ≤ i := by rwa [List.getElem?_eq_none_iff] at hd
    rw [List.drop_of_length_le hl] at gd
    have gd : Kf (acc ++ []) env2 := gd
    rw [List.append_nil] at gd
    have gd : Good (if acc.length ≤ sizeLine then (R.ok (M.lst acc) (backE env1 env2 own) : R M) else .fail) (PV W false σ H Hf T Q) (PX W Z σ Hf T) := gd
    by_cases hz : acc.length ≤ sizeLine
    · rw [if_pos hz] at gd
      exact .inl ⟨w1 hl, gd (.ref D) H2 Hf2 (e1.trans e2) (fun z => by cases z) (back H2 Hf2 env2 [(.ref D, .lst acc)] s2 hg)⟩
    · rw [if_neg hz] at gd; exact gd.elim
  | some d =>
    obtain ⟨hlt, hde⟩ := List.getElem?_eq_some_iff.mp hd
    obtain ⟨w3, w4⟩ := w2 d hd
    refine .inr ⟨w3, fun H' => ∃ m', m' < ds.length - i ∧ m' = ds.length - (i + 1) ∧ ∃ Hf env acc, Same Hf1 Hf ∧ Sta W.G Hf H' (wipe σ own) env ((.ref D, .lst acc) :: (Lw ++ T)) ∧ (∀ v ∈ own, gt env v = none) ∧
      Good (compLoop (fun i => !(own.contains i)) t pe pt own (ds.drop (i + 1)) env) (fun ms env' => Kf (acc ++ ms) env') (fun _ _ => False), fun H' h => h, fun x H3 y => ?_⟩
    obtain ⟨Hf3, e3, s3⟩ := sta_res s2 (w4 x H3 y)
    rw [List.drop_eq_getElem_cons hlt, hde] at gd
    unfold compLoop at gd
    rw [wipeE_id hg] at gd
    cases qb : bindT (fun i => !(own.contains i)) t (.imm d) env2 with
    | none => simp only [qb] at gd; exact gd.elim
    | some env3 =>
      simp only [qb] at gd
      refine ⟨Hf3, env2, _, .imm d, env3, s3, qb, fun σ4 H4 Hf4 e4 a4 s4 => ?_⟩
      have hw4 : wipe σ4 own = wipe σ own := by
        rw [wipe_agree a4]
        refine List.ext_getElem? fun i => ?_
        by_cases h : i ∈ own
        · by_cases hl : i < σ.length
          · rw [wipe_gone h (by rw [wipe_length]; exact hl), wipe_gone h hl]
          · rw [List.getElem?_eq_none (by rw [wipe_length, wipe_length]; omega), List.getElem?_eq_none (by rw [wipe_length]; omega)]
        · rw [wipe_get h]
      refine ⟨hw4, Hf4, env3, _, s4, ?_⟩
      rw [good_bind] at gd
      refine gd.mono (fun k env4 kk H5 Hf5 e5 s5 => ?_) fun _ _ x => x.elim
      cases k with
      | false =>
        rw [if_neg Bool.false_ne_true] at kk ⊢
        have s6 := s5.wiped (vs := own)
        rw [hw4] at s6
        exact ⟨_, by omega, rfl, Hf5, wipeE env4 own, acc, ((e2.trans e3).trans e4).trans e5, s6, fun v hv => by rw [gt_wipeE, if_pos hv], kk⟩
      | true =>
        rw [if_pos rfl] at kk ⊢
        rw [good_bind] at kk
        refine ⟨Hf5, env4, _, s5, kk.mono (fun m env5 kk v H6 Hf6 e6 _ s6 => ?_) fun _ _ x => x.elim⟩
        rw [good_bind] at kk
        have s7 := s6.wiped (vs := own)
        rw [hw4] at s7
        have o7 : Own W.G Hf6 H6 ((.ref D, .lst acc) :: ((v, m) :: (cells (wipe σ own) (wipeE env5 own) ++ (Lw ++ T)))) := by
          refine Own.perm ?_ s7.2
          exact (List.perm_middle (a := (v, m))).trans ((List.perm_middle (a := (V.ref D, M.lst acc))).cons (v, m) |>.trans (List.Perm.swap _ _ _))
        obtain ⟨a, vs, c1, c2, c3, c4⟩ := o7.change (p := []) (ms := acc) rfl
        have c1 : V.ref a = V.ref D := c1
        cases c1
        have hz : acc.length < sizeLine := by
          cases qq : compLoop (fun i => !(own.contains i)) t pe pt own (ds.drop (i + 1)) (wipeE env5 own) with
          | fail => rw [qq] at kk; exact kk.elim
          | exc _ _ => rw [qq] at kk; exact kk.elim
          | ok ms env6 =>
            rw [qq] at kk
            have kk : Good (if (acc ++ m :: ms).length ≤ sizeLine then (R.ok (M.lst (acc ++ m :: ms)) (backE env1 env6 own) : R M) else .fail) (PV W false σ H Hf T Q) (PX W Z σ Hf T) := kk
            by_cases hz : (acc ++ m :: ms).length ≤ sizeLine
            · rw [List.length_append, List.length_cons] at hz; omega
            · rw [if_neg hz] at kk; exact kk.elim
        refine ⟨vs, c2, by rw [c3]; exact hz, _, by omega, rfl, Hf6, wipeE env5 own, acc ++ [m], (((e2.trans e3).trans e4).trans e5).trans e6, ?_, fun v hv => by rw [gt_wipeE, if_pos hv], ?_⟩
        · refine Sta.ofFront s7.1 (c4 (vs ++ [v]) (acc ++ [m]) _ (.lst (acc ++ [m])) (fun Sc SL r1 r2 nd => ?_) rfl)
          obtain ⟨S1, S2, rfl, r3, r4⟩ := RepL.cons_iff.mp r2
          refine ⟨Sc ++ S1, S2, (RepMs.append_iff c3).mpr ⟨Sc, S1, rfl, r1, ⟨v, [], S1, [], rfl, by simp, r3, ⟨rfl, rfl⟩⟩⟩, r4, by rw [List.append_assoc]; exact nd, fun b hb => by rw [List.append_assoc] at hb; exact hb⟩
        · refine kk.mono (fun ms env6 k6 => ?_) fun _ _ x => x
          have k6 : Kf (acc ++ m :: ms) env6 := k6
          show Kf (acc ++ [m] ++ ms) env6
          rw [List.append_assoc]
          exact k6
abbrev blkX (X : Cx) (scope : Scope) (s : Shared) (H : Hp) (C : Addr) (cl : List (Str × Addr)) (fp : List Addr) : Cx := X.blk s H scope (compEnvC scope cl C X.env) fp
theorem sv_comp {elt tg iter : Expr} {ifs : List Expr} {scope : Scope} {own : List (Str × Nat)} {pos : Pos} {t : Tg} {pe : EvP} {pt ps : List EvP} {k : IK} {b : Bool} (ok : XOk W N sc n X) (hb : BlkOk N sc scope own) (hi : SIter W Z X tg iter (pIter k ps))
    (ht : ∀ s H C cl fp, STg W (blkX X scope s H C cl fp) (fun i => !((own.map (·.2)).contains i)) tg t) (hts : ∀ s H C cl fp, STs W ZF (blkX X scope s H C cl fp) ifs (pTests pt)) (he : ∀ s H C cl fp, SV W ZF (blkX X scope s H C cl fp) b elt pe.v)
    (hs : ∀ x, foldedSetIterable iter X.env x = pure x) : SV W Z X false (.ListComp elt [⟨tg, iter, ifs, 0⟩] scope pos) (pComp (fun i => !((own.map (·.2)).contains i)) pe t k ps pt (own.map (·.2))).v := by
  obtain ⟨wi, p0, q0⟩ := hi
  refine ⟨_, pe_lc ok.calm (by rw [ok.nm]; exact ok.nd) p0 (by rw [ok.nm, ok.sc]; exact hb) (fun s H C cl fp => (ht s H C cl fp).canon) (fun s H C cl fp => hts s H C cl fp) (fun s H C cl fp => (he s H C cl fp).canon) hs, fun σ H Hf env T Q s g => comp_core q0 s g⟩
theorem ss_setLc {elt tg iter : Expr} {ifs : List Expr} {scope : Scope} {own : List (Str × Nat)} {pos py spos : Pos} {t : Tg} {pe : EvP} {pt ps : List EvP} {k : IK} {b : Bool} {i : Nat} {y : Str} (ok : XOk W N sc n X) (hy : N[i]? = some y) (hyl : sc.names.lookup y = some .local) (hk : sc.kind = .function) (hl : (py.line == pos.line) = true)
    (hay : (scope.names.any fun (n, k) => n == y && (k == .local || k == .cell)) = false) (hb : BlkOk N sc scope own) (hi : SIter W Z X tg iter (pIter k ps))
    (ht : ∀ s H C cl fp, STg W (blkX X scope s H C cl fp) (fun i => !((own.map (·.2)).contains i)) tg t) (hts : ∀ s H C cl fp, STs W ZF (blkX X scope s H C cl fp) ifs (pTests pt)) (he : ∀ s H C cl fp, SV W ZF (blkX X scope s H C cl fp) b elt pe.v)
    (hs : ∀ x, foldedSetIterable iter X.env x = pure x) : SS W Z X pr (.Assign [.Name y py] (.ListComp elt [⟨tg, iter, ifs, 0⟩] scope pos) spos) (fun env => ((pComp (fun i => !((own.map (·.2)).contains i)) pe t k ps pt (own.map (·.2))).v env).bind fun m env => match bindT pr (.name i) m env with
      | some env' => .ok .nx env'
      | none => .fail) := by
  obtain ⟨wi, p0, q0⟩ := hi
  refine ⟨_, ps_setLc ok.calm (by rw [ok.nm]; exact ok.nd) (by rw [ok.nm]; exact hy) (by rw [ok.sc]; exact hyl) (sw_true (by rw [ok.sc]; exact hk) (by rw [ok.sc]; exact hyl) hl hay) p0 (by rw [ok.nm, ok.sc]; exact hb) (fun s H C cl fp => (ht s H C cl fp).canon) (fun s H C cl fp => hts s H C cl fp) (fun s H C cl fp => (he s H C cl fp).canon) hs, fun σ H Hf env T D s g => comp_core q0 s ?_⟩
  rw [good_bind] at g
  refine g.mono (fun m env1 kk v H1 Hf1 e1 _ s1 => ?_) fun _ _ x => x.here (Same.refl _)
  unfold bindT at kk
  by_cases hp : pr i = true
  · simp only [if_pos hp] at kk; exact kk.elim
  · simp only [if_neg hp] at kk
    exact kk _ H1 Hf1 e1 (Agree.set hp) s1.store
end
end Mini

set_option Elab.async false
set_option linter.all false
set_option maxRecDepth 100000
set_option maxHeartbeats 4000000
set_option autoImplicit false
namespace Mini
open PySem PySem.Spec PyProof.Rows L2
section
variable {W : Wd} {Z : WX} {X : Cx} {N : List Str} {sc : Scope} {n : Nat} {σ : L2.St} {H H' Hf Hf' : Hp} {env env' : Env} {T T' L : Cells} {C : Ct} {pr : Nat → Bool} {G : Gk}

theorem cont_rep {m : M} {v : V} (e : Same Hf H) (h : ∃ S, RepM G Hf H m v S) : RepD G H (frz m) v := by
  obtain ⟨S, h⟩ := h
  exact RepM.frz e m v S (fun _ _ _ k => k) h
theorem imm_rep {d : D} {v : V} (h : ∃ S, RepM G Hf H (.imm d) v S) : RepD G Hf d v := by
  obtain ⟨S, _, h⟩ := h
  exact h
theorem rPr1 {p : Pr} {x : V} {Q : VK} (h : rPr G p [x] H Q) : ∃ Hf m r, Same Hf H ∧ (∃ S, RepM G Hf H m x S) ∧ primM p [m] = some r ∧ ∀ v H', ResM G Hf H r v H' → Q v H' := by
  obtain ⟨Hf, ms, r, e, c, hp, q⟩ := h
  match ms, c with
  | [m], c => exact ⟨Hf, m, r, e, c.1, hp, q⟩
  | [], c => exact c.elim
  | _ :: _ :: _, c => exact c.2.elim
theorem rPr2 {p : Pr} {x y : V} {Q : VK} (h : rPr G p [x, y] H Q) : ∃ Hf m n r, Same Hf H ∧ (∃ S, RepM G Hf H m x S) ∧ (∃ S, RepM G Hf H n y S) ∧ primM p [m, n] = some r ∧ ∀ v H', ResM G Hf H r v H' → Q v H' := by
  obtain ⟨Hf, ms, r, e, c, hp, q⟩ := h
  match ms, c with
  | [m, n], c => exact ⟨Hf, m, n, r, e, c.1, c.2.1, hp, q⟩
  | [], c => exact c.elim
  | [_], c => exact c.2.elim
  | _ :: _ :: _ :: _, c => exact c.2.2.elim
theorem rPr3 {p : Pr} {x y z : V} {Q : VK} (h : rPr G p [x, y, z] H Q) : ∃ Hf m n l r, Same Hf H ∧ (∃ S, RepM G Hf H m x S) ∧ (∃ S, RepM G Hf H n y S) ∧ (∃ S, RepM G Hf H l z S) ∧ primM p [m, n, l] = some r ∧ ∀ v H', ResM G Hf H r v H' → Q v H' := by
  obtain ⟨Hf, ms, r, e, c, hp, q⟩ := h
  match ms, c with
  | [m, n, l], c => exact ⟨Hf, m, n, l, r, e, c.1, c.2.1, c.2.2.1, hp, q⟩
  | [], c => exact c.elim
  | [_], c => exact c.2.elim
  | [_, _], c => exact c.2.2.elim
  | _ :: _ :: _ :: _ :: _, c => exact c.2.2.2.elim
theorem res_imm {d : D} {v : V} (h : RepD G Hf d v) : ResM G Hf H (.imm d) v H := .inl ⟨rfl, d, rfl, h⟩
theorem res_tup {p : Addr} {ds : List D} {ws : List V} (hp : H p = none) (h : RepDs G Hf ds ws) : ResM G Hf H (.imm (.tup ds)) (.ref p) (upd H p (.tup ws)) := .inr ⟨p, ds, ws, hp, rfl, h, .inl ⟨rfl, rfl⟩⟩
theorem res_lst {p : Addr} {ds : List D} {ws : List V} (hp : H p = none) (h : RepDs G Hf ds ws) : ResM G Hf H (.lst (ds.map .imm)) (.ref p) (upd H p (.lst ws)) := .inr ⟨p, ds, ws, hp, rfl, h, .inr ⟨rfl, rfl⟩⟩

/-! ints -/
theorem arithM_some {p : Pr} {m n r : M} (h : arithM p m n = some r) : ∃ i j d, m = .imm (.int i) ∧ n = .imm (.int j) ∧ arith p i j = some d ∧ r = .imm d := by
  unfold arithM at h
  split at h
  · rename_i i j
    cases q : arith p i j with
    | none => rw [q] at h; cases h
    | some d => rw [q] at h; cases h; exact ⟨i, j, d, rfl, rfl, q, rfl⟩
  · cases h
/-- a two-place int operation -/
theorem op_ints {p : Pr} {f : Value → Value → Sem Value} (hp : ∀ m n, primM p [m, n] = arithM p m n)
    (h : ∀ i j d, arith p i j = some d → OpR X f fun x y H Q => x = .int i ∧ y = .int j ∧ ∀ v, (∀ H, RepD G H d v) → Q v H) : OpR X f fun x y H Q => rPr G p [x, y] H Q := by
  intro pins s σ H x y v u Q I rx ry hq
  obtain ⟨Hf, m, n, r, e, c1, c2, hpr, q⟩ := rPr2 hq
  rw [hp] at hpr
  obtain ⟨i, j, d, rfl, rfl, ha, rfl⟩ := arithM_some hpr
  have h1 : x = .int i := imm_rep c1
  have h2 : y = .int j := imm_rep c2
  exact h i j d ha pins s σ H x y v u Q I rx ry ⟨h1, h2, fun v hv => q v H (res_imm (hv Hf))⟩
theorem opG_sub : OpR X (binaryOp .Sub) fun x y H Q => rPr G .sub [x, y] H Q := op_ints (fun _ _ => rfl) fun i j d ha => by
  intro pins s σ H x y v u Q I rx ry ⟨h1, h2, q⟩
  cases ha
  exact op_sub pins s σ H x y v u Q I rx ry ⟨i, j, h1, h2, q _ fun _ => rfl⟩
open Classical in
theorem opG_fdiv : OpR X (binaryOp .FloorDiv) fun x y H Q => rPr G .fdiv [x, y] H Q := op_ints (fun _ _ => rfl) fun i j d ha => by
  intro pins s σ H x y v u Q I rx ry ⟨h1, h2, q⟩
  have ha : (if DivOk j then some (D.int (i.fdiv j)) else none) = some d := ha
  by_cases hd : DivOk j
  · rw [if_pos hd] at ha
    cases ha
    exact (opI (C := fun _ j => DivOk j) (g := fun i j => i.fdiv j) fun _ _ _ _ _ _ _ hc q => floordiv_int hc.1 q (.inl (PyProof.noPylong_of_log2 hc.2))) pins s σ H x y v u Q I rx ry ⟨i, j, h1, h2, hd, q _ fun _ => rfl⟩
  · rw [if_neg hd] at ha; cases ha
theorem opG_mod : OpR X (binaryOp .Mod) fun x y H Q => rPr G .mod [x, y] H Q := op_ints (fun _ _ => rfl) fun i j d ha => by
  intro pins s σ H x y v u Q I rx ry ⟨h1, h2, q⟩
  have ha : (if j = 0 then none else some (D.int (i.fmod j))) = some d := ha
  by_cases hd : j = 0
  · rw [if_pos hd] at ha; cases ha
  · rw [if_neg hd] at ha
    cases ha
    exact op_modN pins s σ H x y v u Q I rx ry ⟨i, j, h1, h2, hd, q _ fun _ => rfl⟩
open Classical in
theorem opG_pow : OpR X (binaryOp .Pow) fun x y H Q => rPr G .pow [x, y] H Q := op_ints (fun _ _ => rfl) fun i j d ha => by
  intro pins s σ H x y v u Q I rx ry ⟨h1, h2, q⟩
  have ha : (if CPow i j then some (D.int (i ^ j.toNat)) else none) = some d := ha
  by_cases hd : CPow i j
  · rw [if_pos hd] at ha
    cases ha
    exact op_pow pins s σ H x y v u Q I rx ry ⟨i, j, h1, h2, hd, q _ fun _ => rfl⟩
  · rw [if_neg hd] at ha; cases ha
theorem opG_lt : OpR X (compareOp .Lt) fun x y H Q => rPr G .lt [x, y] H Q := op_ints (fun _ _ => rfl) fun i j d ha => by
  intro pins s σ H x y v u Q I rx ry ⟨h1, h2, q⟩
  cases ha
  exact op_lt pins s σ H x y v u Q I rx ry ⟨i, j, h1, h2, q _ fun _ => rfl⟩
theorem opG_le : OpR X (compareOp .LtE) fun x y H Q => rPr G .le [x, y] H Q := op_ints (fun _ _ => rfl) fun i j d ha => by
  intro pins s σ H x y v u Q I rx ry ⟨h1, h2, q⟩
  cases ha
  exact op_le pins s σ H x y v u Q I rx ry ⟨i, j, h1, h2, q _ fun _ => rfl⟩
theorem opG_gt : OpR X (compareOp .Gt) fun x y H Q => rPr G .gt [x, y] H Q := op_ints (fun _ _ => rfl) fun i j d ha => by
  intro pins s σ H x y v u Q I rx ry ⟨h1, h2, q⟩
  cases ha
  exact op_gt pins s σ H x y v u Q I rx ry ⟨i, j, h1, h2, q _ fun _ => rfl⟩
theorem opG_ge : OpR X (compareOp .GtE) fun x y H Q => rPr G .ge [x, y] H Q := op_ints (fun _ _ => rfl) fun i j d ha => by
  intro pins s σ H x y v u Q I rx ry ⟨h1, h2, q⟩
  cases ha
  exact op_ge pins s σ H x y v u Q I rx ry ⟨i, j, h1, h2, q _ fun _ => rfl⟩
theorem mulOk_ok {i j : Int} (h : MulOk i j) : IntMulOk i j := by
  have key : ∀ i : Int, i.natAbs < 2 ^ 64 → -(2 ^ 64) < i ∧ i < 2 ^ 64 := fun i h => by omega
  rcases h with (h | h) | h
  · exact CMul.ok (.inl (key i h))
  · exact CMul.ok (.inr (key j h))
  · exact CMulW.ok h
/-! + and * -/
theorem opG_add (hK : X.K = G.K) : OpR X (binaryOp .Add) fun x y H Q => rPr G .add [x, y] H Q := by
  intro pins s σ H x y v u Q I rx ry hq
  obtain ⟨Hf, m, n, r, e, c1, c2, hpr, q⟩ := rPr2 hq
  replace hpr : prAdd m n = some r := hpr
  unfold prAdd at hpr
  split at hpr
  · rename_i i j
    cases hpr
    exact op_add pins s σ H x y v u Q I rx ry ⟨i, j, imm_rep c1, imm_rep c2, q _ H (res_imm rfl)⟩
  · rename_i xs ys
    by_cases hz : xs.length + ys.length ≤ sizeLine
    · rw [if_pos hz] at hpr
      cases hpr
      obtain ⟨a, vs, f1, f2, f3⟩ := imm_rep c1
      obtain ⟨b, ws, g1, g2, g3⟩ := imm_rep c2
      have nil_of : ∀ {ds : List D} {vs : List V}, RepDs G Hf ds vs → vs = [] → ds = [] := fun h hv => by
        have := h.length
        rw [hv] at this
        exact List.eq_nil_of_length_eq_zero this.symm
      refine op_catA pins s σ H x y v u Q I rx ry ⟨a, b, vs, ws, f1, g1, by rw [hK]; exact same_sqT e f2, by rw [hK]; exact same_sqT e g2, by rw [f3.length, g3.length]; exact hz, fun hx => ?_, fun hx hy => ?_, fun hx hy p hp => ?_⟩
      · have hx2 := nil_of f3 hx
        subst hx2
        exact q _ H (res_imm ⟨b, ws, rfl, g2, g3⟩)
      · have hy2 := nil_of g3 hy
        subst hy2
        rw [List.append_nil] at q
        exact q _ H (res_imm ⟨a, vs, rfl, f2, f3⟩)
      · exact q _ _ (res_tup hp (RepDs.append f3 g3))
    · rw [if_neg hz] at hpr; cases hpr
  · rename_i i j
    by_cases hz : i.length + j.length ≤ sizeLine
    · rw [if_pos hz] at hpr
      cases hpr
      exact op_add_str pins s σ H x y v u Q I rx ry ⟨i, j, imm_rep c1, imm_rep c2, hz, q _ H (res_imm rfl)⟩
    · rw [if_neg hz] at hpr; cases hpr
  · split at hpr
    · rename_i xs ys h1 h2
      by_cases hz : xs.length + ys.length ≤ sizeLine
      · rw [if_pos hz] at hpr
        cases hpr
        obtain ⟨S1, c1⟩ := c1
        obtain ⟨S2, c2⟩ := c2
        obtain ⟨a, vs, f1, f2, f3⟩ := seqL_rep e c1 h1
        obtain ⟨b, ws, g1, g2, g3⟩ := seqL_rep e c2 h2
        exact op_cat pins s σ H x y v u Q I rx ry ⟨a, b, vs, ws, f1, g1, f2, g2, by rw [f3.length, g3.length]; exact hz, fun p hp => q _ _ (res_lst hp (RepDs.append f3 g3))⟩
      · rw [if_neg hz] at hpr; cases hpr
    · cases hpr
theorem RepDs.rep {ds : List D} {ws : List V} (h : RepDs G Hf ds ws) : ∀ k : Nat, RepDs G Hf (List.replicate k ds).flatten (List.replicate k ws).flatten
  | 0 => rfl
  | k + 1 => by
    rw [List.replicate_succ, List.replicate_succ, List.flatten_cons, List.flatten_cons]
    exact RepDs.append h (RepDs.rep h k)
open Classical in
theorem opG_mul : OpR X (binaryOp .Mult) fun x y H Q => rPr G .mul [x, y] H Q := by
  intro pins s σ H x y v u Q I rx ry hq
  obtain ⟨Hf, m, n, r, e, c1, c2, hpr, q⟩ := rPr2 hq
  replace hpr : prMul m n = some r := hpr
  unfold prMul at hpr
  split at hpr
  · rename_i i j
    by_cases hz : MulOk i j
    · rw [if_pos hz] at hpr
      cases hpr
      exact (opI (C := MulOk) (g := fun i j => i * j) fun _ _ _ _ _ _ _ hc q => mul_int q (mulOk_ok hc)) pins s σ H x y v u Q I rx ry ⟨i, j, imm_rep c1, imm_rep c2, hz, q _ H (res_imm rfl)⟩
    · rw [if_neg hz] at hpr; cases hpr
  · rename_i j _
    split at hpr
    · rename_i xs h1
      split at hpr
      · rename_i hz
        cases hpr
        obtain ⟨S1, c1⟩ := c1
        obtain ⟨a, vs, f1, f2, f3⟩ := seqL_rep e c1 h1
        obtain ⟨z1, z2, z3⟩ := hz
        exact op_rep pins s σ H x y v u Q I rx ry ⟨a, j, vs, f1, imm_rep c2, f2, by omega, by omega, by rw [f3.length]; exact z3, fun p hp => q _ _ (res_lst hp (f3.rep _))⟩
      · cases hpr
    · cases hpr
  · cases hpr

/-! == -/
mutual
theorem dp_rep : ∀ (d : D) (v : V), RepD G H d v → pyOk d = true → Dp G.K H v (toPy d)
  | .non, v, h, k => by rw [show v = .non from h]; exact .non
  | .bl b, v, h, k => by rw [show v = .bl b from h]; exact .bl b
  | .int i, v, h, k => by rw [show v = .int i from h]; exact .int i
  | .str z, v, h, k => by rw [show v = .str z from h]; exact .str z
  | .tup ds, v, ⟨a, vs, e1, h1, h2⟩, k => by subst e1; exact .tup h1 (dp_reps ds vs h2 k)
  | .lst ds, v, ⟨a, vs, e1, h1, h2⟩, k => by subst e1; exact .lst (SqL.of h1) (dp_reps ds vs h2 k)
  | .frl ds, v, ⟨a, vs, e1, h1, h2⟩, k => by subst e1; exact .lst h1 (dp_reps ds vs h2 k)
  | .dK _ _, v, h, k => by cases k
  | .dT _ _, v, h, k => by cases k
  | .obj _ _ _, v, h, k => by cases k
theorem dp_reps : ∀ (ds : List D) (vs : List V), RepDs G H ds vs → pyOks ds = true → DpAll G.K H vs (toPys ds)
  | [], vs, h, k => by rw [show vs = [] from h]; exact .nil
  | d :: ds, vs, ⟨v, vr, e1, h1, h2⟩, k => by
    subst e1
    have k : (pyOk d && pyOks ds) = true := k
    rw [Bool.and_eq_true] at k
    exact .cons (dp_rep d v h1 k.1) (dp_reps ds vr h2 k.2)
end
theorem fitPy_of {d : D} (h : fitPy d = true) : pyOk d = true ∧ SeqAt.shaped (toPy d) = true := by
  unfold fitPy at h
  rwa [Bool.and_eq_true] at h
theorem eqM_some {m n : M} {b : Bool} (h : eqM m n = some b) : (∃ x y, m = .imm (.str x) ∧ n = .imm (.str y) ∧ b = (x == y)) ∨ (fitPy (frz m) = true ∧ fitPy (frz n) = true ∧ b = PyData.eqv (toPy (frz m)) (toPy (frz n))) := by
  unfold eqM at h
  split at h
  · cases h; exact .inl ⟨_, _, rfl, rfl, rfl⟩
  · split at h
    · rename_i hc
      rw [Bool.and_eq_true] at hc
      cases h
      exact .inr ⟨hc.1, hc.2, rfl⟩
    · cases h
theorem units64 {k : Nat} {A : Around} (r : Room k A) : A.units + 65 < cLine := by have := r.un; omega
theorem opG_eq (ok : XOk W N sc n X) : OpR X (compareOp .Eq) fun x y H Q => rPr W.G .eq [x, y] H Q := by
  intro pins s σ H x y v u Q I rx ry hq
  obtain ⟨Hf, m, n, r, e, c1, c2, hpr, q⟩ := rPr2 hq
  replace hpr : (eqM m n).map (fun b => M.imm (.bl b)) = some r := hpr
  cases hb : eqM m n with
  | none => rw [hb] at hpr; cases hpr
  | some b =>
    rw [hb] at hpr
    cases hpr
    rcases eqM_some hb with ⟨i, j, rfl, rfl, rfl⟩ | ⟨f1, f2, rfl⟩
    · have h1 : x = .str i := imm_rep c1
      have h2 : y = .str j := imm_rep c2
      subst h1 h2
      exact op_eq pins s σ H _ _ v u Q I rx ry ⟨rfl, q _ H (res_imm (by rw [dec_str]; rfl))⟩
    · obtain ⟨p1, s1⟩ := fitPy_of f1
      obtain ⟨p2, s2⟩ := fitPy_of f2
      exact op_eqD (by have := units64 ok.room; omega) pins s σ H x y v u Q I rx ry ⟨_, _, by rw [ok.K]; exact dp_rep _ _ (cont_rep e c1) p1, by rw [ok.K]; exact dp_rep _ _ (cont_rep e c2) p2, s1, s2, q _ H (res_imm rfl)⟩
theorem opG_ne (ok : XOk W N sc n X) : OpR X (compareOp .NotEq) fun x y H Q => rPr W.G .ne [x, y] H Q := by
  intro pins s σ H x y v u Q I rx ry hq
  obtain ⟨Hf, m, n, r, e, c1, c2, hpr, q⟩ := rPr2 hq
  replace hpr : (eqM m n).map (fun b => M.imm (.bl (!b))) = some r := hpr
  cases hb : eqM m n with
  | none => rw [hb] at hpr; cases hpr
  | some b =>
    rw [hb] at hpr
    cases hpr
    rcases eqM_some hb with ⟨i, j, rfl, rfl, rfl⟩ | ⟨f1, f2, rfl⟩
    · have h1 : x = .str i := imm_rep c1
      have h2 : y = .str j := imm_rep c2
      subst h1 h2
      exact op_ne pins s σ H _ _ v u Q I rx ry ⟨rfl, q _ H (res_imm (by rw [dec_str]; rfl))⟩
    · obtain ⟨p1, s1⟩ := fitPy_of f1
      obtain ⟨p2, s2⟩ := fitPy_of f2
      exact op_neD (by have := units64 ok.room; omega) pins s σ H x y v u Q I rx ry ⟨_, _, by rw [ok.K]; exact dp_rep _ _ (cont_rep e c1) p1, by rw [ok.K]; exact dp_rep _ _ (cont_rep e c2) p2, s1, s2, q _ H (res_imm rfl)⟩
/-! is None -/
theorem isNon_rep {m : M} {x : V} (h : ∃ S, RepM G Hf H m x S) : decide (x = .non) = isNonM m := by
  obtain ⟨S, h⟩ := h
  cases m with
  | imm d =>
    obtain ⟨_, h⟩ := h
    cases d with
    | non => rw [show x = .non from h]; rfl
    | bl b => rw [show x = .bl b from h]; rfl
    | int i => rw [show x = .int i from h]; rfl
    | str z => rw [show x = .str z from h]; rfl
    | tup ds => obtain ⟨a, _, e, _⟩ := h; rw [e]; rfl
    | lst ds => obtain ⟨a, _, e, _⟩ := h; rw [e]; rfl
    | frl ds => obtain ⟨a, _, e, _⟩ := h; rw [e]; rfl
    | dK _ _ => obtain ⟨a, _, e, _⟩ := h; rw [e]; rfl
    | dT _ _ => obtain ⟨a, _, e, _⟩ := h; rw [e]; rfl
    | obj _ _ _ => obtain ⟨a, _, _, e, _⟩ := h; rw [e]; rfl
  | lst ms => obtain ⟨a, _, _, e, _⟩ := h; rw [e]; rfl
  | dK _ _ => obtain ⟨a, _, _, e, _⟩ := h; rw [e]; rfl
  | dT _ _ => obtain ⟨a, _, _, e, _⟩ := h; rw [e]; rfl
  | obj _ _ _ => obtain ⟨a, _, _, _, e, _⟩ := h; rw [e]; rfl
theorem isNonM_of {m : M} (h : isNonM m = true) : m = .imm .non := by
  cases m with
  | imm d => cases d <;> first | rfl | cases h
  | _ => cases h
theorem opG_is : OpR X (compareOp .Is) fun x y H Q => rPr G .isN [x, y] H Q := by
  intro pins s σ H x y v u Q I rx ry hq
  obtain ⟨Hf, m, n, r, e, c1, c2, hpr, q⟩ := rPr2 hq
  replace hpr : (if isNonM n = true then some (M.imm (.bl (isNonM m))) else none) = some r := hpr
  by_cases hn : isNonM n = true
  · rw [if_pos hn] at hpr
    cases hpr
    have := isNonM_of hn
    subst this
    exact op_isN pins s σ H x y v u Q I rx ry ⟨imm_rep c2, q _ H (res_imm (by rw [isNon_rep c1]; rfl))⟩
  · rw [if_neg hn] at hpr; cases hpr
theorem opG_isnot : OpR X (compareOp .IsNot) fun x y H Q => rPr G .notN [x, y] H Q := by
  intro pins s σ H x y v u Q I rx ry hq
  obtain ⟨Hf, m, n, r, e, c1, c2, hpr, q⟩ := rPr2 hq
  replace hpr : (if isNonM n = true then some (M.imm (.bl (!isNonM m))) else none) = some r := hpr
  by_cases hn : isNonM n = true
  · rw [if_pos hn] at hpr
    cases hpr
    have := isNonM_of hn
    subst this
    exact op_notN pins s σ H x y v u Q I rx ry ⟨imm_rep c2, q _ H (res_imm (by rw [isNon_rep c1]; rfl))⟩
  · rw [if_neg hn] at hpr; cases hpr
end
end Mini

set_option Elab.async false
set_option linter.all false
set_option maxRecDepth 100000
set_option maxHeartbeats 4000000
set_option autoImplicit false
namespace Mini
open PySem PySem.Spec PyProof.Rows L2
section
variable {W : Wd} {Z : WX} {X : Cx} {N : List Str} {sc : Scope} {n : Nat} {σ : L2.St} {H H' Hf Hf' : Hp} {env env' : Env} {T T' L : Cells} {C : Ct} {pr : Nat → Bool} {G : Gk}

theorem op_imp {f : Value → Value → Sem Value} {r r' : R2} (h : OpR X f r) (k : ∀ x y H Q, r' x y H Q → r x y H Q) : OpR X f r' := fun pins s σ H x y v u Q I rx ry q => h pins s σ H x y v u Q I rx ry (k _ _ _ _ q)
theorem call_imp {f : Value} {r r' : List V → Hp → VK → Prop} (h : CallR X f r) (k : ∀ xs H Q, r' xs H Q → r xs H Q) : CallR X f r' := fun pins s σ H xs us Q I rx q => h pins s σ H xs us Q I rx (k _ _ _ q)
theorem rPr1' {p : Pr} {xs : List V} {Q : VK} (h : rPr G p xs H Q) (hp : ∀ ms r, primM p ms = some r → ms.length = 1) : ∃ x Hf m r, xs = [x] ∧ Same Hf H ∧ (∃ S, RepM G Hf H m x S) ∧ primM p [m] = some r ∧ ∀ v H', ResM G Hf H r v H' → Q v H' := by
  obtain ⟨Hf, ms, r, e, c, hpr, q⟩ := id h
  have hl := hp ms r hpr
  match ms, hl with
  | [m], _ =>
    match xs, c with
    | [x], c => exact ⟨x, Hf, m, r, rfl, e, c.1, hpr, q⟩
    | [], c => exact c.elim
    | _ :: _ :: _, c => exact c.2.elim

/-! in -/
theorem in_core (ok : XOk W N sc n X) {x y : V} {m c : M} {b : Bool} (e : Same Hf H) (c1 : ∃ S, RepM W.G Hf H m x S) (c2 : ∃ S, RepM W.G Hf H c y S) (h : prIn m c = some b) : ∃ ys, b = ((toPys ys).any fun z => PyData.eqv z (toPy (frz m))) ∧ Dp X.K H x (toPy (frz m)) ∧ SeqAt.shaped (toPy (frz m)) = true ∧ SeqAt.shaped (.list (toPys ys)) = true ∧ ∃ a ws, y = .ref a ∧ (SqT X.K H a ws ∨ SqL X.K H a ws) ∧ DpAll X.K H ws (toPys ys) := by
  unfold prIn at h
  split at h
  · rename_i ys hy
    split at h
    · rename_i hc
      rw [Bool.and_eq_true] at hc
      cases h
      obtain ⟨p1, s1⟩ := fitPy_of hc.1
      obtain ⟨p2, s2⟩ := fitPy_of hc.2
      obtain ⟨S2, c2⟩ := c2
      obtain ⟨a, ws, f1, f2, f3⟩ := seqA_rep e c2 hy
      exact ⟨ys, rfl, by rw [ok.K]; exact dp_rep _ _ (cont_rep e c1) p1, s1, s2, a, ws, f1, by rw [ok.K]; exact f2, by rw [ok.K]; exact dp_reps ys ws (RepDs.mono e _ _ f3) p2⟩
    · cases h
  · cases h
theorem dpAll_reads {pins : List (Addr × Obj)} {s : Shared} {a : Addr} {ws : List V} {ds : List PyData} (I : Inv X pins σ H s) (h : SqT X.K H a ws) (d : DpAll X.K H ws ds) : ∃ as, Reads s.heap (.ref a) (.tuple ds) as := Dp.reads I (.tuple ds) (.ref a) (.ref a) (.tup h d) rfl
theorem opG_in (ok : XOk W N sc n X) : OpR X (compareOp .In) fun x y H Q => rPr W.G .inn [x, y] H Q := by
  intro pins s σ H x y v u Q I rx ry hq
  obtain ⟨Hf, m, c, r, e, c1, c2, hpr, q⟩ := rPr2 hq
  replace hpr : (prIn m c).map (fun b => M.imm (.bl b)) = some r := hpr
  cases hb : prIn m c with
  | none => rw [hb] at hpr; cases hpr
  | some b =>
    rw [hb] at hpr
    cases hpr
    obtain ⟨ys, rfl, d1, s1, s2, a, ws, rfl, f2, f3⟩ := in_core ok e c1 c2 hb
    have hu := units64 ok.room
    rcases f2 with f2 | f2
    · cases (show u = Value.ref a from ry)
      obtain ⟨as, r1⟩ := Dp.reads I _ x v d1 rx
      obtain ⟨bs, r2⟩ := dpAll_reads I f2 f3
      exact SeqAt.in_tuple_reads r2 r1 (SeqAt.canLay_of_shaped s2) (SeqAt.canLay_of_shaped s1) (room_in_shaped s1 hu) ⟨.bl _, H, I, rfl, q _ H (res_imm rfl)⟩
    · exact op_inD hu pins s σ H x _ v u Q I rx ry ⟨_, _, d1, .lst f2 f3, s1, s2, q _ H (res_imm rfl)⟩
theorem opG_notin (ok : XOk W N sc n X) : OpR X (compareOp .NotIn) fun x y H Q => rPr W.G .notin [x, y] H Q := by
  intro pins s σ H x y v u Q I rx ry hq
  obtain ⟨Hf, m, c, r, e, c1, c2, hpr, q⟩ := rPr2 hq
  replace hpr : (prIn m c).map (fun b => M.imm (.bl (!b))) = some r := hpr
  cases hb : prIn m c with
  | none => rw [hb] at hpr; cases hpr
  | some b =>
    rw [hb] at hpr
    cases hpr
    obtain ⟨ys, rfl, d1, s1, s2, a, ws, rfl, f2, f3⟩ := in_core ok e c1 c2 hb
    have hu := units64 ok.room
    rcases f2 with f2 | f2
    · cases (show u = Value.ref a from ry)
      obtain ⟨as, r1⟩ := Dp.reads I _ x v d1 rx
      obtain ⟨bs, r2⟩ := dpAll_reads I f2 f3
      exact SeqAt.notIn_tuple_reads r2 r1 (SeqAt.canLay_of_shaped s2) (SeqAt.canLay_of_shaped s1) (room_in_shaped s1 hu) ⟨.bl _, H, I, rfl, q _ H (res_imm rfl)⟩
    · exact op_notInD hu pins s σ H x _ v u Q I rx ry ⟨_, _, d1, .lst f2 f3, s1, s2, q _ H (res_imm rfl)⟩

/-! the shapes of the expressions -/
theorem hp_bin {a b : Expr} {op : Operator} {p : Pr} {pos : Pos} (ho : OpR X (binaryOp op) fun x y H Q => rPr G p [x, y] H Q) : ∀ ts, PEs X [a, b] ts → PE X (.BinOp a op b pos) (tPr G p ts) := fun ts h => by
  cases h with
  | cons h1 h => cases h with
    | cons h2 h => cases h; exact pe_op ho h1.1 h2.1
theorem hp_cmp {a b : Expr} {op : CmpOp} {p : Pr} {pos : Pos} (ho : OpR X (compareOp op) fun x y H Q => rPr G p [x, y] H Q) (hm : behindInMarks op b = false) : ∀ ts, PEs X [a, b] ts → PE X (.Compare a [op] [b] pos) (tPr G p ts) := fun ts h => by
  cases h with
  | cons h1 h => cases h with
    | cons h2 h => cases h; exact pe_cmpR ho h1.1 h2.1 hm
theorem ht_cmp {a b : Expr} {op : CmpOp} {p : Pr} {pos : Pos} (ho : OpR X (compareOp op) fun x y H Q => rPr G p [x, y] H Q) (hm : behindInMarks op b = false) : ∀ ts, PEs X [a, b] ts → PT X (.Compare a [op] [b] pos) (tTest (tPr G p ts)) := fun ts h => by
  cases h with
  | cons h1 h => cases h with
    | cons h2 h => cases h; exact pt_cmpR ho h1.1 h2.1 hm
theorem hp_neg {a : Expr} {pos : Pos} : ∀ ts, PEs X [a] ts → PE X (.UnaryOp .USub a pos) (tPr G .neg ts) := fun ts h => by
  cases h with
  | cons h1 h =>
    cases h
    refine pe_un (r := fun x H Q => rPr G .neg [x] H Q) (fun pins s σ H x v Q I rx hq => ?_) h1.1
    obtain ⟨Hf, m, r, e, c1, hpr, q⟩ := rPr1 hq
    replace hpr : (intM m).map (fun i => M.imm (.int (-i))) = some r := hpr
    cases m with
    | imm d =>
      cases d with
      | int i => cases hpr; exact un_neg pins s σ H x v Q I rx ⟨i, imm_rep c1, q _ H (res_imm rfl)⟩
      | _ => cases hpr
    | _ => cases hpr
theorem stepV_ix (hK : X.K = G.K) {u w : V} {k : Int} {Q : VK} (h : StepV G H u (.ix k) w) (q : Q w H) : rIx X.K u (.int k) H Q := by
  rw [hK]
  rcases h with ⟨a, vs, e1, f1 | f1, f2⟩ | ⟨z, c, e1, f1, f2, f3⟩
  · exact .inl ⟨a, vs, k, w, e1, rfl, f1, f2, q⟩
  · exact .inr (.inl ⟨a, vs, k, w, e1, rfl, f1, f2, q⟩)
  · subst f3
    exact .inr (.inr ⟨z, k, c, e1, rfl, f1, f2, q⟩)
theorem atI_idx {α : Type} {xs : List α} {k : Int} {j : Nat} {x : α} (h1 : ixN xs.length k = some j) (h2 : xs[j]? = some x) : L2.atI xs k = some x := by
  unfold L2.atI
  rw [h1]
  exact h2
theorem ixG (hK : X.K = G.K) : IxR X fun x y H Q => rPr G .item [x, y] H Q := by
  intro value slice pins s σ H x y v u Q I rx ry hq hs
  obtain ⟨Hf, m, c, r, e, c1, c2, hpr, q⟩ := rPr2 hq
  replace hpr : prItem m c = some r := hpr
  unfold prItem at hpr
  split at hpr
  · rename_i k
    have hy : y = .int k := imm_rep c2
    subst hy
    split at hpr
    · rename_i d hg
      cases hpr
      refine ix_seq value slice pins s σ H x _ v u Q I rx ry ?_ hs
      cases m with
      | imm d0 =>
        obtain ⟨w, d', g1, g2, g3⟩ := chain_imm (imm_rep c1) hg
        cases g2
        obtain ⟨w', g1, g4⟩ := g1
        have g4 : w = w' := g4
        subst g4
        exact stepV_ix hK (g1.mono e) (q _ H (res_imm g3))
      | lst ms =>
        obtain ⟨S, a, vs, S', e1, e2, h1, h2⟩ := c1
        unfold getP at hg
        split at hg
        · rename_i m1 hm
          have hm1 : m1 = .imm d := by cases m1 <;> exact Option.some.inj hg
          subst hm1
          obtain ⟨j, q1, q2⟩ := atI_set hm
          obtain ⟨w, T1, T2, g1, g2, g3, g4⟩ := RepMs.get h2 q2
          exact stepV_ix hK (.inl ⟨a, vs, e1, .inl (SqL.of h1), atI_idx (by rw [h2.length]; exact q1) g1⟩) (q _ H (res_imm g3.2))
        · cases hg
      | _ => cases hg
    · cases hpr
  · cases hpr
theorem hp_item {a b : Expr} {pos : Pos} (hK : X.K = G.K) (hp : PlainIx b) : ∀ ts, PEs X [a, b] ts → PE X (.Subscript a b pos) (tPr G .item ts) := fun ts h => by
  cases h with
  | cons h1 h => cases h with
    | cons h2 h => cases h; exact pe_ix (ixG hK) h1.1 h2.1 hp
theorem hp_call {es : List Expr} {e : Expr} {x : Str} {id : String} {p : Pr} {pn pos : Pos} (hc : CallR X (.builtin id) fun xs H Q => rPr G p xs H Q) (hg : Gl X x) (hm : X.mg x = none) (hv : bootBuiltins x = some (.builtin id)) (hn : x ≠ "__name__") (hdb : (x == ("__debug__" : Str)) = false)
    (hpl : (backTo pos (starEach (e :: es) X.env)).any (·.1) = false) : ∀ ts, PEs X (e :: es) ts → PE X (.Call (.Name x pn) (e :: es) [] pos) (tPr G p ts) := fun ts h => by
  have hst : starEach (e :: es) X.env = (false, eval e X.env) :: starEach es X.env := by cases h with | cons a b => exact starEach_ne a.2 es X.env
  rw [hst] at hpl
  exact pe_callB hc hg hm hv (pa_all h) hn hdb hst (Bool.or_eq_false_iff.mp hpl).2
theorem hp_callTy {es : List Expr} {e : Expr} {x : Str} {id : String} {p : Pr} {pn pos : Pos} (hc : CallR X (.type id) fun xs H Q => rPr G p xs H Q) (hg : Gl X x) (hm : X.mg x = none) (hv : bootBuiltins x = some (.type id)) (hn : x ≠ "__name__") (hdb : (x == ("__debug__" : Str)) = false)
    (hpl : (backTo pos (starEach (e :: es) X.env)).any (·.1) = false) : ∀ ts, PEs X (e :: es) ts → PE X (.Call (.Name x pn) (e :: es) [] pos) (tPr G p ts) := fun ts h => by
  have hst : starEach (e :: es) X.env = (false, eval e X.env) :: starEach es X.env := by cases h with | cons a b => exact starEach_ne a.2 es X.env
  rw [hst] at hpl
  exact pe_callTy hc hg hm hv (pa_all h) hn hdb hst (Bool.or_eq_false_iff.mp hpl).2

/-! built-in functions -/
theorem callG_len (hK : X.K = G.K) : CallR X (.builtin "len") fun xs H Q => rPr G .len xs H Q := call_imp call_len fun xs H Q h => by
  obtain ⟨x, Hf, m, r, rfl, e, c1, hpr, q⟩ := rPr1' h (fun ms r h => match ms, h with | [_], _ => rfl | [], h => nomatch h | _ :: _ :: _, h => nomatch h)
  replace hpr : prLen m = some r := hpr
  unfold prLen at hpr
  split at hpr
  · rename_i ds
    cases hpr
    obtain ⟨a, vs, f1, f2, f3⟩ := imm_rep c1
    subst f1
    exact ⟨_, ds.length, rfl, .inr ⟨vs, by rw [hK]; exact same_sqT e f2, f3.length.symm⟩, q _ H (res_imm rfl)⟩
  · rename_i ds
    cases hpr
    obtain ⟨a, vs, f1, f2, f3⟩ := imm_rep c1
    subst f1
    exact ⟨_, ds.length, rfl, .inl ⟨vs, SqL.of (e _ _ f2), f3.length.symm⟩, q _ H (res_imm rfl)⟩
  · rename_i ds
    cases hpr
    obtain ⟨a, vs, f1, f2, f3⟩ := imm_rep c1
    subst f1
    exact ⟨_, ds.length, rfl, .inl ⟨vs, by rw [hK]; exact e.seq f2, f3.length.symm⟩, q _ H (res_imm rfl)⟩
  · rename_i ms
    cases hpr
    obtain ⟨S, a, vs, S', f1, f2, f3, f4⟩ := c1
    subst f1
    exact ⟨_, ms.length, rfl, .inl ⟨vs, SqL.of f3, f4.length.symm⟩, q _ H (res_imm rfl)⟩
  · rename_i z
    by_cases hz : z.length ≤ sizeLine
    · rw [if_pos hz] at hpr
      cases hpr
      have hx : x = .str z := imm_rep c1
      subst hx
      exact ⟨_, z.length, rfl, ⟨hz, rfl⟩, q _ H (res_imm rfl)⟩
    · rw [if_neg hz] at hpr; cases hpr
  · cases hpr
theorem dInts_rep : ∀ {ds : List D} {ws : List V} {l : List Int}, RepDs G H ds ws → dInts ds = some l → ws = l.map V.int
  | [], ws, l, h, e => by cases e; exact h
  | d :: ds, ws, l, ⟨v, vr, e1, h1, h2⟩, e => by
    subst e1
    cases d with
    | int i =>
      unfold dInts at e
      split at e
      · rename_i l' hl
        cases e
        rw [dInts_rep h2 hl, show v = .int i from h1]
        rfl
      · cases e
    | _ => cases e
theorem dBools_rep : ∀ {ds : List D} {ws : List V} {l : List Bool}, RepDs G H ds ws → dBools ds = some l → ws = l.map V.bl
  | [], ws, l, h, e => by cases e; exact h
  | d :: ds, ws, l, ⟨v, vr, e1, h1, h2⟩, e => by
    subst e1
    cases d with
    | bl i =>
      unfold dBools at e
      split at e
      · rename_i l' hl
        cases e
        rw [dBools_rep h2 hl, show v = .bl i from h1]
        rfl
      · cases e
    | _ => cases e
theorem callG_sum (ok : XOk W N sc n X) : CallR X (.builtin "sum") fun xs H Q => rPr W.G .sum xs H Q := by
  intro pins s σ H xs us Q I rx h
  obtain ⟨x, Hf, m, r, rfl, e, ⟨S, c1⟩, hpr, q⟩ := rPr1' h (fun ms r h => match ms, h with | [_], _ => rfl | [], h => nomatch h | _ :: _ :: _, h => nomatch h)
  replace hpr : (match seqA m with | some ds => (dInts ds).map fun l => M.imm (.int l.sum) | none => none) = some r := hpr
  split at hpr
  · rename_i ds hs
    cases hd : dInts ds with
    | none => rw [hd] at hpr; cases hpr
    | some l =>
      rw [hd] at hpr
      cases hpr
      obtain ⟨a, ws, f1, f2, f3⟩ := seqA_rep e c1 hs
      subst f1
      have := dInts_rep f3 hd
      subst this
      rcases f2 with f2 | f2
      · obtain ⟨u, rfl, ru⟩ := vals1 rx
        cases ru
        obtain ⟨its, rv, p, _⟩ := I.tuple (by rw [ok.K]; exact f2)
        have hi := rv.ints
        obtain ⟨ys, ey⟩ := hi.allInts.items
        have hn : numsOf (intItems ys).toList = l := by rw [← ey]; exact hi.numsOf
        rw [nums_intItems] at hn
        have ht : s.heap.IsTuple a its.toArray := p
        rw [ey] at ht
        refine PySem.W.ktm_sumG (I.ok.hd ok.calm) ht fun h' tk t' hk => ?_
        rw [preSum_eq, List.take_of_length_le (by simp), hn]
        exact ⟨.int _, H, I.kept hk, ⟨_, rfl⟩, q _ H (res_imm rfl)⟩
      · exact cr_sum ok.calm pins s σ H _ us Q I rx ⟨a, l, rfl, by rw [ok.K]; exact f2, q _ H (res_imm rfl)⟩
  · cases hpr
theorem ints_reps : ∀ {l : List Int}, RepDs G H (l.map D.int) (l.map V.int)
  | [] => rfl
  | x :: l => ⟨.int x, l.map V.int, rfl, rfl, ints_reps⟩
theorem one1 {p : Pr} (h : ∀ ms, ms.length ≠ 1 → primM p ms = none) : ∀ ms r, primM p ms = some r → ms.length = 1 := fun ms r e => by
  by_cases q : ms.length = 1
  · exact q
  · rw [h ms q] at e; cases e
theorem callG_sorted (ok : XOk W N sc n X) : CallR X (.builtin "sorted") fun xs H Q => rPr W.G .sorted xs H Q := call_imp cr_sortedI fun xs H Q h => by
  obtain ⟨x, Hf, m, r, rfl, e, ⟨S, c1⟩, hpr, q⟩ := rPr1' h (fun ms r h => match ms, h with | [_], _ => rfl | [], h => nomatch h | _ :: _ :: _, h => nomatch h)
  replace hpr : (match seqF m with | some ds => (dInts ds).map fun l => M.lst (((isort l).map D.int).map .imm) | none => none) = some r := hpr
  split at hpr
  · rename_i ds hs
    cases hd : dInts ds with
    | none => rw [hd] at hpr; cases hpr
    | some l =>
      rw [hd] at hpr
      cases hpr
      obtain ⟨a, ws, f1, f2, f3⟩ := seqF_rep e c1 hs
      subst f1
      have := dInts_rep f3 hd
      subst this
      refine ⟨a, l, rfl, by rw [ok.K]; exact f2, fun ns' p h1 h2 hp => ?_⟩
      have en : ns' = isort l := sorted_uniq (h1.trans (isort_perm l).symm) h2 (isort_sorted l)
      subst en
      exact q _ _ (res_lst hp ints_reps)
  · cases hpr
/-- max(t), a tuple of ints -/
theorem max_tup {prog : Program} {w : World} {A : Around} {E : Value → Shared → Prop} {s : Shared} {a : Addr} {ys : Array (Int × Tok)} {Q : Value → Shared → Prop} (hA : A.handled = none) (ht : s.heap.IsTuple a (intItems ys)) (h0 : 0 < ys.size)
    (k : ∀ v h' tk, (intItems ys)[argBest (fun i j => decide (numAt ys i > numAt ys j)) (ys.size - 1)]? = some v → (∀ b o, s.heap.get? b = some o → h'.get? b = some o) → Q v { s with heap := h', toks := tk }) :
    wpAny (model prog w) A (call (.builtin "max") [.ref a]) Q E s := by
  have lt : a < s.heap.objs.size := by
    obtain ⟨o, e, _⟩ := ht
    exact Heap.lt_size e
  generalize hO : ({ cls := .type "tuple_iterator", data := .fields #[.ref a, .int 0 0] } : Obj) = o1
  have hz : (s.heap.push o1).objs.size = s.heap.objs.size + 1 := Heap.size_push ..
  refine call_max_walk (wpAny_pyIter_tuple ht ?_)
  rw [hO]
  refine ⟨s.heap.objs.size, [s.heap.objs.size, a], [s.heap.objs.size], _, _, _, _, rfl, Walks.tuple (A := A.in1) hA s.heap.objs.size a (Nat.ne_of_lt lt) (intItems ys), ⟨⟨o1, Heap.get?_push_size _ (by subst hO; rfl), by subst hO; rfl, by subst hO; rfl⟩, ht.push _⟩, fun b hb => ?_, by simpa [intItems] using h0, CmpOf.ints_gt (numAt ys) (fun _ _ => intItems_at), fun v h' tk hP hk => ?_⟩
  · show b < (s.heap.push o1).objs.size
    rw [hz]
    rcases List.mem_cons.mp hb with e | hb
    · rw [e]; exact Nat.lt_succ_self _
    · rw [List.mem_singleton.mp hb]; exact Nat.lt_succ_of_lt lt
  · refine k v h' tk (by simpa [intItems] using hP) fun b o e => hk b o (fun hm => ?_) (Heap.get?_push_of_some _ e)
    have e1 : b = s.heap.objs.size := List.mem_singleton.mp hm
    have := Heap.lt_size e
    rw [e1] at this
    exact Nat.lt_irrefl _ this
theorem callG_max1 (ok : XOk W N sc n X) : CallR X (.builtin "max") fun xs H Q => rPr W.G .max1 xs H Q := by
  intro pins s σ H xs us Q I rx h
  obtain ⟨x, Hf, m, r, rfl, e, ⟨S, c1⟩, hpr, q⟩ := rPr1' h (fun ms r h => match ms, h with | [_], _ => rfl | [], h => nomatch h | _ :: _ :: _, h => nomatch h)
  replace hpr : (match seqA m with | some ds => (match dInts ds with | some (x :: l) => some (M.imm (.int (maxL x l))) | _ => none) | none => none) = some r := hpr
  split at hpr
  · rename_i ds hs
    split at hpr
    · rename_i y l hd
      cases hpr
      obtain ⟨a, ws, f1, f2, f3⟩ := seqA_rep e c1 hs
      subst f1
      have := dInts_rep f3 hd
      subst this
      have fin : ∀ z, z ∈ y :: l → (∀ b ∈ y :: l, b ≤ z) → Q (.int z) H := fun z h1 h2 => by
        have en : z = maxL y l := Int.le_antisymm ((maxL_ok l y).2 z h1) (h2 _ (maxL_ok l y).1)
        subst en
        exact q _ H (res_imm rfl)
      rcases f2 with f2 | f2
      · obtain ⟨u, rfl, ru⟩ := vals1 rx
        cases ru
        obtain ⟨its, rv, p, _⟩ := I.tuple (by rw [ok.K]; exact f2)
        have hi := rv.ints
        obtain ⟨ys, ey⟩ := hi.allInts.items
        have hn : numsOf (intItems ys).toList = y :: l := by rw [← ey]; exact hi.numsOf
        rw [nums_intItems] at hn
        have ht : s.heap.IsTuple a its.toArray := p
        rw [ey] at ht
        have hsz : 0 < ys.size := by
          have := congrArg List.length hn
          rw [List.length_map, Array.length_toList] at this
          rw [this]
          exact Nat.succ_pos _
        refine max_tup (I.ok.hd ok.calm) ht hsz fun v h' tk hv hk => ?_
        obtain ⟨t, rfl⟩ := intItems_at hv
        obtain ⟨h1, h2⟩ := argBest_gt (numAt ys) (ys.size - 1)
        refine ⟨.int _, H, I.kept hk, ⟨_, rfl⟩, fin _ ?_ fun b hb => ?_⟩
        · rw [← hn, numAt_eq]
          exact PySem.getD_mem (by rw [List.length_map, Array.length_toList]; omega)
        · rw [← hn] at hb
          obtain ⟨j, hj, rfl⟩ := mem_getD hb
          rw [List.length_map, Array.length_toList] at hj
          rw [← numAt_eq]
          exact h2 j (by omega)
      · exact cr_max ok.calm pins s σ H _ us Q I rx ⟨a, y :: l, rfl, by rw [ok.K]; exact f2, Nat.succ_pos _, fin⟩
    · cases hpr
  · cases hpr
theorem callG_min1 (ok : XOk W N sc n X) : CallR X (.builtin "min") fun xs H Q => rPr W.G .min1 xs H Q := call_imp (cr_min ok.calm) fun xs H Q h => by
  obtain ⟨x, Hf, m, r, rfl, e, ⟨S, c1⟩, hpr, q⟩ := rPr1' h (fun ms r h => match ms, h with | [_], _ => rfl | [], h => nomatch h | _ :: _ :: _, h => nomatch h)
  replace hpr : (match seqF m with | some ds => (match dInts ds with | some (x :: l) => some (M.imm (.int (minL x l))) | _ => none) | none => none) = some r := hpr
  split at hpr
  · rename_i ds hs
    split at hpr
    · rename_i y l hd
      cases hpr
      obtain ⟨a, ws, f1, f2, f3⟩ := seqF_rep e c1 hs
      subst f1
      have := dInts_rep f3 hd
      subst this
      refine ⟨a, y :: l, rfl, by rw [ok.K]; exact f2, Nat.succ_pos _, fun z h1 h2 => ?_⟩
      have en : z = minL y l := Int.le_antisymm (h2 _ (minL_ok l y).1) ((minL_ok l y).2 z h1)
      subst en
      exact q _ H (res_imm rfl)
    · cases hpr
  · cases hpr
theorem repDs_rev : ∀ {ds : List D} {ws : List V}, RepDs G H ds ws → RepDs G H ds.reverse ws.reverse
  | [], ws, h => by have h : ws = [] := h; subst h; exact rfl
  | d :: ds, _, ⟨v, vr, e1, h1, h2⟩ => by
    subst e1
    rw [List.reverse_cons, List.reverse_cons]
    exact RepDs.append (repDs_rev h2) ⟨v, [], rfl, h1, rfl⟩
/-- the closure of what an expression asks for, under weaker wishes -/
def tMo (t : TE) : TE := fun σ H Q => ∃ Q0 : VK, t σ H Q0 ∧ ∀ x H1, Q0 x H1 → Q x H1
theorem pe_mo {e : Expr} {t : TE} (h : PE X e t) : PE X e (tMo t) := ⟨fun pins s σ H Q I ⟨Q0, q, k⟩ => wpAny_mono (h.run pins s σ H Q0 I q) (fun v s1 ⟨x, H1, I1, r1, q1⟩ => ⟨x, H1, I1, r1, k x H1 q1⟩) fun _ _ z => z⟩
theorem PE.imp' {e : Expr} {t t' : TE} (h : PE X e t) (k : ∀ σ H Q, t' σ H Q → t σ H Q) : PE X e t' := ⟨fun pins s σ H Q I q => h.run pins s σ H Q I (k _ _ _ q)⟩
theorem hp_soSet {a : Expr} {p p2 q pos : Pos} (ok : XOk W N sc n X) (hg : Gl X "sorted") (hm : X.mg "sorted" = none) (hg2 : Gl X "set") (hm2 : X.mg "set" = none) : ∀ ts, PEs X [a] ts → PE X (.Call (.Name "sorted" p) [.Call (.Name "set" p2) [a] [] q] [] pos) (tPr W.G .sortedSet ts) := fun ts h => by
  cases h with
  | cons h1 h =>
    cases h
    rename_i ta
    refine PE.imp' (pe_soSet hg hm hg2 hm2 (pe_mo h1.1) ok.calm (starEach_ne h1.2 _ _)) fun σ H Q k => ?_
    have key : ∀ x H', rPr W.G .sortedSet [x] H' Q → ∃ (l : Addr) (ns : List Int), x = .ref l ∧ SqL X.K H' l (ns.map V.int) ∧ ns.length ≤ 4000 ∧ ∀ p, H' p = none → Q (.ref p) (upd H' p (.lst ((sset ns).map V.int))) := fun x H' k => by
      obtain ⟨Hf, m, r, e, ⟨S, c1⟩, hpr, q⟩ := rPr1 k
      replace hpr : (match seqF m with | some ds => (match dInts ds with | some l => if l.length ≤ 4000 then some (M.lst (((sset l).map D.int).map .imm)) else none | none => none) | none => none) = some r := hpr
      split at hpr
      · rename_i ds hs
        split at hpr
        · rename_i l hd
          split at hpr
          · rename_i hl
            cases hpr
            obtain ⟨a, ws, f1, f2, f3⟩ := seqF_rep e c1 hs
            subst f1
            have := dInts_rep f3 hd
            subst this
            exact ⟨a, l, rfl, by rw [ok.K]; exact f2, hl, fun p hp => q _ _ (res_lst hp ints_reps)⟩
          · cases hpr
        · cases hpr
      · cases hpr
    exact ⟨_, k, key⟩
theorem hp_rev {a : Expr} {k : Nat} {p1 p2 p3 pos : Pos} (hK : X.K = G.K) : ∀ ts, PEs X [a] ts → PE X (.Subscript a (.Slice none none (some (.UnaryOp .USub (.Constant (.int 1) k p1) p2)) p3) pos) (tPr G .rev ts) := fun ts h => by
  cases h with
  | cons h1 h =>
    cases h
    refine PE.imp' (pe_revL (pe_mo h1.1)) fun σ H Q k => ?_
    have key : ∀ x H', rPr G .rev [x] H' Q → ∃ a xs, x = .ref a ∧ SqL X.K H' a xs ∧ ∀ p, H' p = none → Q (.ref p) (upd H' p (.lst xs.reverse)) := fun x H' k => by
      obtain ⟨Hf, m, r, e, ⟨S, c1⟩, hpr, q⟩ := rPr1 k
      replace hpr : (match seqF m with | some ds => some (M.lst (ds.reverse.map .imm)) | none => none) = some r := hpr
      split at hpr
      · rename_i ds hs
        cases hpr
        obtain ⟨a, ws, f1, f2, f3⟩ := seqF_rep e c1 hs
        subst f1
        exact ⟨a, ws, rfl, by rw [hK]; exact f2, fun p hp => q _ _ (res_lst hp (repDs_rev f3))⟩
      · cases hpr
    exact ⟨_, k, key⟩
theorem callG_all (ok : XOk W N sc n X) : CallR X (.builtin "all") fun xs H Q => rPr W.G .allB xs H Q := call_imp (cr_all ok.calm) fun xs H Q h => by
  obtain ⟨x, Hf, m, r, rfl, e, ⟨S, c1⟩, hpr, q⟩ := rPr1' h (fun ms r h => match ms, h with | [_], _ => rfl | [], h => nomatch h | _ :: _ :: _, h => nomatch h)
  replace hpr : (match seqF m with | some ds => (dBools ds).map fun l => M.imm (.bl (l.all id)) | none => none) = some r := hpr
  split at hpr
  · rename_i ds hs
    cases hd : dBools ds with
    | none => rw [hd] at hpr; cases hpr
    | some l =>
      rw [hd] at hpr
      cases hpr
      obtain ⟨a, ws, f1, f2, f3⟩ := seqF_rep e c1 hs
      subst f1
      have := dBools_rep f3 hd
      subst this
      exact ⟨a, l, rfl, by rw [ok.K]; exact f2, q _ H (res_imm rfl)⟩
  · cases hpr
theorem callG_any (ok : XOk W N sc n X) : CallR X (.builtin "any") fun xs H Q => rPr W.G .anyB xs H Q := call_imp (cr_any ok.calm) fun xs H Q h => by
  obtain ⟨x, Hf, m, r, rfl, e, ⟨S, c1⟩, hpr, q⟩ := rPr1' h (fun ms r h => match ms, h with | [_], _ => rfl | [], h => nomatch h | _ :: _ :: _, h => nomatch h)
  replace hpr : (match seqF m with | some ds => (dBools ds).map fun l => M.imm (.bl (l.any id)) | none => none) = some r := hpr
  split at hpr
  · rename_i ds hs
    cases hd : dBools ds with
    | none => rw [hd] at hpr; cases hpr
    | some l =>
      rw [hd] at hpr
      cases hpr
      obtain ⟨a, ws, f1, f2, f3⟩ := seqF_rep e c1 hs
      subst f1
      have := dBools_rep f3 hd
      subst this
      exact ⟨a, l, rfl, by rw [ok.K]; exact f2, q _ H (res_imm rfl)⟩
  · cases hpr
theorem callG_abs : CallR X (.builtin "abs") fun xs H Q => rPr G .abs xs H Q := call_imp call_abs fun xs H Q h => by
  obtain ⟨x, Hf, m, r, rfl, e, c1, hpr, q⟩ := rPr1' h (fun ms r h => match ms, h with | [_], _ => rfl | [], h => nomatch h | _ :: _ :: _, h => nomatch h)
  replace hpr : (intM m).map (fun i => M.imm (.int (if i < 0 then -i else i))) = some r := hpr
  cases m with
  | imm d =>
    cases d with
    | int i =>
      cases hpr
      have hx : x = .int i := imm_rep c1
      subst hx
      exact ⟨i, rfl, q _ H (res_imm rfl)⟩
    | _ => cases hpr
  | _ => cases hpr
theorem callG_int : CallR X (.type "int") fun xs H Q => rPr G .int xs H Q := call_imp call_int1 fun xs H Q h => by
  obtain ⟨x, Hf, m, r, rfl, e, c1, hpr, q⟩ := rPr1' h (fun ms r h => match ms, h with | [_], _ => rfl | [], h => nomatch h | _ :: _ :: _, h => nomatch h)
  replace hpr : prInt m = some r := hpr
  unfold prInt at hpr
  split at hpr
  · rename_i i
    cases hpr
    have hx : x = .int i := imm_rep c1
    subst hx
    exact .inl ⟨i, rfl, q _ H (res_imm rfl)⟩
  · rename_i b
    cases hpr
    have hx : x = .bl b := imm_rep c1
    subst hx
    exact .inr ⟨b, rfl, q _ H (res_imm rfl)⟩
  · cases hpr
theorem rPr2' {p : Pr} {xs : List V} {Q : VK} (h : rPr G p xs H Q) (hp : ∀ ms r, primM p ms = some r → ms.length = 2) : ∃ x y Hf m n r, xs = [x, y] ∧ Same Hf H ∧ (∃ S, RepM G Hf H m x S) ∧ (∃ S, RepM G Hf H n y S) ∧ primM p [m, n] = some r ∧ ∀ v H', ResM G Hf H r v H' → Q v H' := by
  obtain ⟨Hf, ms, r, e, c, hpr, q⟩ := id h
  have hl := hp ms r hpr
  match ms, hl with
  | [m, n], _ =>
    match xs, c with
    | [x, y], c => exact ⟨x, y, Hf, m, n, r, rfl, e, c.1, c.2.1, hpr, q⟩
    | [], c => exact c.elim
    | [_], c => exact c.2.elim
    | _ :: _ :: _ :: _, c => exact c.2.2.elim
theorem callG_max2 (ok : XOk W N sc n X) : CallR X (.builtin "max") fun xs H Q => rPr W.G .max2 xs H Q := call_imp (call_max2 ok.calm) fun xs H Q h => by
  obtain ⟨x, y, Hf, m, k, r, rfl, e, c1, c2, hpr, q⟩ := rPr2' h (fun ms r h => match ms, h with | [_, _], _ => rfl | [], h => nomatch h | [_], h => nomatch h | _ :: _ :: _ :: _, h => nomatch h)
  obtain ⟨i, j, d, rfl, rfl, ha, rfl⟩ := arithM_some (p := .max2) hpr
  cases ha
  have h1 : x = .int i := imm_rep c1
  have h2 : y = .int j := imm_rep c2
  subst h1 h2
  exact ⟨i, j, rfl, q _ H (res_imm rfl)⟩
theorem callG_min2 (ok : XOk W N sc n X) : CallR X (.builtin "min") fun xs H Q => rPr W.G .min2 xs H Q := call_imp (call_min2 ok.calm) fun xs H Q h => by
  obtain ⟨x, y, Hf, m, k, r, rfl, e, c1, c2, hpr, q⟩ := rPr2' h (fun ms r h => match ms, h with | [_, _], _ => rfl | [], h => nomatch h | [_], h => nomatch h | _ :: _ :: _ :: _, h => nomatch h)
  obtain ⟨i, j, d, rfl, rfl, ha, rfl⟩ := arithM_some (p := .min2) hpr
  cases ha
  have h1 : x = .int i := imm_rep c1
  have h2 : y = .int j := imm_rep c2
  subst h1 h2
  exact ⟨i, j, rfl, q _ H (res_imm rfl)⟩
theorem callG_tuple (hK : X.K = G.K) : CallR X (.type "tuple") fun xs H Q => rPr G .tuple xs H Q := by
  intro pins s σ H xs us Q I rx h
  obtain ⟨x, Hf, m, r, rfl, e, c1, hpr, q⟩ := rPr1' h (fun ms r h => match ms, h with | [_], _ => rfl | [], h => nomatch h | _ :: _ :: _, h => nomatch h)
  replace hpr : (seqA m).map (fun ds => M.imm (.tup ds)) = some r := hpr
  obtain ⟨u, rfl, ru⟩ := vals1 rx
  refine rl_tuple pins s σ H x u Q I ru ?_
  cases hs : seqA m with
  | none => rw [hs] at hpr; cases hpr
  | some ds =>
    rw [hs] at hpr
    cases hpr
    by_cases ht : ∃ ds, m = .imm (.tup ds)
    · obtain ⟨ds', rfl⟩ := ht
      cases hs
      obtain ⟨a, vs, f1, f2, f3⟩ := imm_rep c1
      subst f1
      exact .inr ⟨a, vs, rfl, by rw [hK]; exact same_sqT e f2, q _ H (res_imm ⟨a, vs, rfl, f2, f3⟩)⟩
    · have hs' : seqF m = some ds := by
        cases m with
        | imm d => cases d with
          | tup ds => exact absurd ⟨ds, rfl⟩ ht
          | _ => exact hs
        | _ => exact hs
      obtain ⟨S, c1⟩ := c1
      obtain ⟨a, ws, f1, f2, f3⟩ := seqF_rep e c1 hs'
      subst f1
      exact .inl ⟨a, ws, rfl, by rw [hK]; exact f2, fun p hp => q _ _ (res_tup hp f3)⟩
theorem callG_list (hK : X.K = G.K) : CallR X (.type "list") fun xs H Q => rPr G .list xs H Q := call_imp call_list_of fun xs H Q h => by
  obtain ⟨x, Hf, m, r, rfl, e, ⟨S, c1⟩, hpr, q⟩ := rPr1' h (fun ms r h => match ms, h with | [_], _ => rfl | [], h => nomatch h | _ :: _ :: _, h => nomatch h)
  replace hpr : (seqA m).map (fun ds => M.lst (ds.map .imm)) = some r := hpr
  cases hs : seqA m with
  | none => rw [hs] at hpr; cases hpr
  | some ds =>
    rw [hs] at hpr
    cases hpr
    obtain ⟨a, ws, f1, f2, f3⟩ := seqA_rep e c1 hs
    subst f1
    exact ⟨a, ws, rfl, by rw [hK]; exact f2.symm, fun p hp => q _ _ (res_lst hp f3)⟩
theorem callG_repr (ok : XOk W N sc n X) : CallR X (.builtin "repr") fun xs H Q => rPr W.G .repr xs H Q := by
  intro pins s σ H xs us Q I rx h
  obtain ⟨x, Hf, m, r, rfl, e, c1, hpr, q⟩ := rPr1' h (fun ms r h => match ms, h with | [_], _ => rfl | [], h => nomatch h | _ :: _ :: _, h => nomatch h)
  replace hpr : prRepr m = some r := hpr
  obtain ⟨u, rfl, ru⟩ := vals1 rx
  unfold prRepr at hpr
  split at hpr
  · rename_i hc
    cases hpr
    rw [Bool.and_eq_true, Bool.and_eq_true, Bool.and_eq_true, decide_eq_true_eq, decide_eq_true_eq] at hc
    obtain ⟨⟨⟨h1, h2⟩, h3⟩, h4⟩ := hc
    have dp : Dp X.K H x (toPy (frz m)) := by rw [ok.K]; exact dp_rep _ _ (cont_rep e c1) h1
    have fin : ∀ h' u tk, (∀ b o, s.heap.get? b = some o → h'.get? b = some o) → EP X pins σ Q (.str (toPy (frz m)).shown u) { s with heap := h', toks := tk } := fun h' u tk hk => ⟨.str _, H, I.kept hk, ⟨_, rfl⟩, q _ H (res_imm rfl)⟩
    have nd : ∀ d : D, pyOk d = true → (toPy d).hasDict = false := by
      have key : ∀ d : D, pyOk d = true → (toPy d).hasDict = false := fun d => D.rec
        (motive_1 := fun d => pyOk d = true → (toPy d).hasDict = false) (motive_2 := fun ds => pyOks ds = true → PyData.hasDictAll (toPys ds) = false)
        (fun _ => rfl) (fun _ _ => rfl) (fun _ _ => rfl) (fun _ _ => rfl) (fun ds ih k => by simpa [toPy, PyData.hasDict] using ih k) (fun ds ih k => by simpa [toPy, PyData.hasDict] using ih k) (fun ds ih k => by simpa [toPy, PyData.hasDict] using ih k)
        (fun _ _ _ k => by cases k) (fun _ _ _ k => by cases k) (fun _ _ _ _ k => by cases k) (fun _ => rfl) (fun d ds ih1 ih2 k => by
          have k : (pyOk d && pyOks ds) = true := k
          rw [Bool.and_eq_true] at k
          simp [toPys, PyData.hasDictAll, ih1 k.1, ih2 k.2]) d
      exact key
    have hu := units64 ok.room
    cases hd : toPy (frz m) with
    | none => 
      rw [hd] at dp
      cases dp
      cases ru
      rw [hd] at fin
      exact PySem.P.repr_of_none (fin s.heap _ _ fun _ _ k => k)
    | bool b =>
      rw [hd] at dp
      cases dp
      cases ru
      rw [hd] at fin
      exact PySem.P.repr_of_bool (fin s.heap _ _ fun _ _ k => k)
    | int i =>
      rw [hd] at dp h2
      cases dp
      obtain ⟨t, rfl⟩ := ru
      rw [hd] at fin
      exact PySem.P.repr_of_int (by simpa [PyData.showable] using h2) (fin s.heap _ _ fun _ _ k => k)
    | str z =>
      rw [hd] at dp h4
      cases dp
      obtain ⟨t, rfl⟩ := ru
      rw [hd] at fin
      exact PySem.P.repr_of_str (fin s.heap _ _ fun _ _ k => k) h4
    | list ds =>
      obtain ⟨as, r1⟩ := Dp.reads I _ x u dp ru
      have hdd := nd _ h1
      rw [hd] at dp
      cases dp with
      | lst a b =>
        cases ru
        exact repr_of_reads' r1 h2 (fun z => by rw [hdd] at z; cases z) ok.gd (by omega) (fun _ _ k => k) fin h4
    | tuple ds =>
      obtain ⟨as, r1⟩ := Dp.reads I _ x u dp ru
      have hdd := nd _ h1
      rw [hd] at dp
      cases dp with
      | tup a b =>
        cases ru
        exact repr_of_reads' r1 h2 (fun z => by rw [hdd] at z; cases z) ok.gd (by omega) (fun _ _ k => k) fin h4
    | dict kvs => rw [hd] at dp; cases dp
  · cases hpr
end
end Mini

set_option Elab.async false
set_option linter.all false
set_option maxRecDepth 100000
set_option maxHeartbeats 4000000
set_option autoImplicit false
namespace Mini
open PySem PySem.Spec PyProof.Rows L2
section
variable {W : Wd} {Z : WX} {X : Cx} {N : List Str} {sc : Scope} {n : Nat} {σ : L2.St} {H H' Hf Hf' : Hp} {env env' : Env} {T T' L : Cells} {C : Ct} {pr : Nat → Bool} {G : Gk}
theorem enumD_get : ∀ {ds : List D} {k i : Nat}, (enumD k ds)[i]? = (ds[i]?).map fun d => D.tup [.int ((k + i : Nat) : Int), d]
  | [], k, i => by simp [enumD]
  | d :: ds, k, 0 => by simp [enumD]
  | d :: ds, k, i + 1 => by
    have := enumD_get (ds := ds) (k := k + 1) (i := i)
    have e : k + 1 + i = k + (i + 1) := by omega
    simpa [enumD, e] using this
theorem enumD_len : ∀ (ds : List D) (k : Nat), (enumD k ds).length = ds.length
  | [], k => rfl
  | d :: ds, k => by show (enumD (k + 1) ds).length + 1 = ds.length + 1; rw [enumD_len ds]
theorem walks_enum {ds : List D} {a : Addr} {vs : List V} (h : SqL G.K Hf a vs) (r : RepDs G Hf ds vs) : Walks G Hf (enumD 0 ds) (Ite G.K a) := fun i H e => by
  refine ⟨fun hi => ⟨vs, e.seq h, by rw [enumD_len] at hi; rw [r.length]; exact hi⟩, fun d hd => ?_⟩
  rw [enumD_get] at hd
  cases q : ds[i]? with
  | none => rw [q] at hd; cases hd
  | some d0 =>
    rw [q] at hd
    cases hd
    obtain ⟨v, hv, rv⟩ := r.get q
    refine ⟨⟨vs, v, e.seq h, hv⟩, fun x H' y => ?_⟩
    obtain ⟨p, x0, rfl, hp, rfl, hx⟩ := y
    have := hx vs (e.seq h)
    rw [hv] at this
    cases this
    exact .inr ⟨p, [.int ((0 + i : Nat) : Int), d0], [.int (i : Nat), v], hp, rfl, ⟨_, _, rfl, by rw [Nat.zero_add]; rfl, v, [], rfl, rv, rfl⟩, .inl ⟨rfl, rfl⟩⟩
theorem zipD_get : ∀ {xs ys : List D} {i : Nat} {d : D}, (zipD xs ys)[i]? = some d → ∃ x y, xs[i]? = some x ∧ ys[i]? = some y ∧ d = .tup [x, y]
  | [], ys, i, d, h => by simp [zipD] at h
  | x :: xs, [], i, d, h => by simp [zipD] at h
  | x :: xs, y :: ys, 0, d, h => by
    have h : (D.tup [x, y] :: zipD xs ys)[0]? = some d := h
    simp at h
    exact ⟨x, y, by simp, by simp, h.symm⟩
  | x :: xs, y :: ys, i + 1, d, h => by
    have h : (D.tup [x, y] :: zipD xs ys)[i + 1]? = some d := h
    obtain ⟨u, w, h1, h2, h3⟩ := zipD_get (xs := xs) (ys := ys) (i := i) (by simpa using h)
    exact ⟨u, w, by simpa using h1, by simpa using h2, h3⟩
theorem zipD_end : ∀ {xs ys : List D} {i : Nat}, (zipD xs ys).length ≤ i → xs.length ≤ i ∨ ys.length ≤ i
  | [], ys, i, h => .inl (Nat.zero_le _)
  | x :: xs, [], i, h => .inr (Nat.zero_le _)
  | x :: xs, y :: ys, i, h => by
    have h : (zipD xs ys).length + 1 ≤ i := h
    rcases zipD_end (xs := xs) (ys := ys) (i := i - 1) (by omega) with q | q
    · exact .inl (by simp; omega)
    · exact .inr (by simp; omega)
theorem walks_zip {xs ys : List D} {a b : Addr} {vs ws : List V} (h1 : SqL G.K Hf a vs) (r1 : RepDs G Hf xs vs) (h2 : SqL G.K Hf b ws) (r2 : RepDs G Hf ys ws) : Walks G Hf (zipD xs ys) (Itz G.K a b) := fun i H e => by
  refine ⟨fun hi => ⟨vs, ws, e.seq h1, e.seq h2, by rw [r1.length, r2.length]; exact zipD_end hi⟩, fun d hd => ?_⟩
  obtain ⟨x, y, q1, q2, rfl⟩ := zipD_get hd
  obtain ⟨v, hv, rv⟩ := r1.get q1
  obtain ⟨w, hw, rw'⟩ := r2.get q2
  refine ⟨⟨vs, ws, v, w, e.seq h1, e.seq h2, hv, hw⟩, fun z H' hz => ?_⟩
  obtain ⟨p, x0, y0, rfl, hp, rfl, f1, f2⟩ := hz
  have g1 := f1 vs (e.seq h1)
  have g2 := f2 ws (e.seq h2)
  rw [hv] at g1
  rw [hw] at g2
  cases g1
  cases g2
  exact .inr ⟨p, [x, y], [v, w], hp, rfl, ⟨v, _, rfl, rv, w, [], rfl, rw', rfl⟩, .inl ⟨rfl, rfl⟩⟩
theorem walks_zipT {xs ys : List D} {a b : Addr} {vs ws : List V} (h1 : SqT G.K Hf a vs) (r1 : RepDs G Hf xs vs) (h2 : SqT G.K Hf b ws) (r2 : RepDs G Hf ys ws) : Walks G Hf (zipD xs ys) (RZ.ItzT G.K a b) := fun i H e => by
  refine ⟨fun hi => ⟨vs, ws, same_sqT e h1, same_sqT e h2, by rw [r1.length, r2.length]; exact zipD_end hi⟩, fun d hd => ?_⟩
  obtain ⟨x, y, q1, q2, rfl⟩ := zipD_get hd
  obtain ⟨v, hv, rv⟩ := r1.get q1
  obtain ⟨w, hw, rw'⟩ := r2.get q2
  refine ⟨⟨vs, ws, v, w, same_sqT e h1, same_sqT e h2, hv, hw⟩, fun z H' hz => ?_⟩
  obtain ⟨p, x0, y0, rfl, hp, rfl, f1, f2⟩ := hz
  have g1 := f1 vs (same_sqT e h1)
  have g2 := f2 ws (same_sqT e h2)
  rw [hv] at g1
  rw [hw] at g2
  cases g1
  cases g2
  exact .inr ⟨p, [x, y], [v, w], hp, rfl, ⟨v, _, rfl, rv, w, [], rfl, rw', rfl⟩, .inl ⟨rfl, rfl⟩⟩
theorem sit_zip {elts : List Expr} {kk : Nat} {tpos : Pos} {a a2 : Expr} {p q : EvP} {b b2 : Bool} {pn pos : Pos} (ok : XOk W N sc n X) (hg : Gl X "zip") (hm : X.mg "zip" = none) (hn : NoStar a) (hn2 : NoStar a2) (h : SV W Z X b a p.v) (h' : SV W Z X b2 a2 q.v) :
    SIter W Z X (.Tuple elts kk tpos) (.Call (.Name "zip" pn) [a, a2] [] pos) (pIter .zip [p, q]) := by
  obtain ⟨t, h1, h2⟩ := h
  obtain ⟨t', h1', h2'⟩ := h'
  refine ⟨_, RZ.pi_zipA hg hm (pa_cons h1 (pa_cons h1' pa_nil (starEach_ne hn2 _ _)) (starEach_ne hn _ _)) (starEach_ne hn _ _) (by rw [starEach_ne hn2]; rfl), fun σ H Hf env T R s g => h2 σ H Hf env T _ s ?_⟩
  have g : Good ((pItems [p, q] env).bind fun ms env => ofO (itemsOf .zip (frzs ms)) env) _ _ := g
  rw [good_bind, pItems_two] at g
  refine g.mono (fun m env1 k v H1 Hf1 e1 _ s1 => ?_) fun _ _ x => x
  refine h2' σ H1 Hf1 env1 ((v, m) :: T) _ s1 (k.mono (fun m2 env2 k v2 H2 Hf2 e2 _ s2 => ?_) fun x env2 kx => px_cons e1 kx)
  have k : Good (ofO (zipOf (frz m) (frz m2)) env2) _ _ := k
  obtain ⟨Hf3, e3, s3⟩ := s2.freeze
  obtain ⟨Hf4, e4, s4⟩ := s3.tail.freeze
  have r1 := s4.front.head
  have r2 := RepD.mono e4 _ _ s3.front.head
  have s5 := s4.tail
  have e5 : Same Hf Hf4 := ((e1.trans e2).trans e3).trans e4
  cases hz : zipOf (frz m) (frz m2) with
  | none => rw [hz] at k; exact k.elim
  | some ds =>
    rw [hz] at k
    have lists : ∀ {xs ys : List D} {va vb : Addr} {vs ws : List V}, v = .ref va → v2 = .ref vb → SqL W.G.K Hf4 va vs → RepDs W.G Hf4 xs vs → SqL W.G.K Hf4 vb ws → RepDs W.G Hf4 ys ws → ds = zipD xs ys →
        ∃ a b xs ys, [v, v2] = [V.ref a, V.ref b] ∧ ((SqL X.K H2 a xs ∧ SqL X.K H2 b ys ∧ R (Itz X.K a b) H2) ∨ (SqT X.K H2 a xs ∧ SqT X.K H2 b ys ∧ R (RZ.ItzT X.K a b) H2)) := by
      intro xs ys va vb vs ws e1' e2' q1 q2 q3 q4 q5
      subst e1' e2' q5
      rw [ok.K]
      exact ⟨va, vb, vs, ws, rfl, .inl ⟨s5.same.seq q1, s5.same.seq q3, k _ H2 Hf4 e5 s5 (walks_zip q1 q2 q3 q4)⟩⟩
    unfold zipOf at hz
    split at hz
    · rename_i xs ys ea eb
      cases hz
      rw [ea] at r1
      rw [eb] at r2
      obtain ⟨va, vs, rfl, q1, q2⟩ := r1
      obtain ⟨vb, ws, rfl, q3, q4⟩ := r2
      refine ⟨va, vb, vs, ws, rfl, .inr ?_⟩
      rw [ok.K]
      exact ⟨same_sqT s5.same q1, same_sqT s5.same q3, k _ H2 Hf4 e5 s5 (walks_zipT q1 q2 q3 q4)⟩
    · rename_i xs ys ea eb
      cases hz
      rw [ea] at r1
      rw [eb] at r2
      obtain ⟨va, vs, f1, q1, q2⟩ := r1
      obtain ⟨vb, ws, f2, q3, q4⟩ := r2
      exact lists f1 f2 (SqL.of q1) q2 (SqL.of q3) q4 rfl
    · rename_i xs ys ea eb
      cases hz
      rw [ea] at r1
      rw [eb] at r2
      obtain ⟨va, vs, f1, q1, q2⟩ := r1
      obtain ⟨vb, ws, f2, q3, q4⟩ := r2
      exact lists f1 f2 (SqL.of q1) q2 q3 q4 rfl
    · rename_i xs ys ea eb
      cases hz
      rw [ea] at r1
      rw [eb] at r2
      obtain ⟨va, vs, f1, q1, q2⟩ := r1
      obtain ⟨vb, ws, f2, q3, q4⟩ := r2
      exact lists f1 f2 q1 q2 (SqL.of q3) q4 rfl
    · rename_i xs ys ea eb
      cases hz
      rw [ea] at r1
      rw [eb] at r2
      obtain ⟨va, vs, f1, q1, q2⟩ := r1
      obtain ⟨vb, ws, f2, q3, q4⟩ := r2
      exact lists f1 f2 q1 q2 q3 q4 rfl
    · cases hz
theorem sit_enum {elts : List Expr} {kk : Nat} {tpos : Pos} {a : Expr} {p : EvP} {b : Bool} {pn pos : Pos} (ok : XOk W N sc n X) (hg : Gl X "enumerate") (hm : X.mg "enumerate" = none) (hn : NoStar a) (h : SV W Z X b a p.v) :
    SIter W Z X (.Tuple elts kk tpos) (.Call (.Name "enumerate" pn) [a] [] pos) (pIter .enum [p]) := by
  obtain ⟨t, h1, h2⟩ := h
  refine ⟨_, pi_enum hg hm (pa_cons h1 pa_nil (starEach_ne hn _ _)) (by rw [starEach_ne hn]; rfl), fun σ H Hf env T R s g => h2 σ H Hf env T _ s ?_⟩
  have g : Good ((pItems [p] env).bind fun ms env => ofO (itemsOf .enum (frzs ms)) env) _ _ := g
  rw [good_bind, pItems_one] at g
  refine g.mono (fun m env1 k v H1 Hf1 e1 _ s1 => ?_) fun _ _ x => x
  have k : Good (ofO (enumOf (frz m)) env1) _ _ := k
  obtain ⟨Hf2, e2, s2⟩ := s1.freeze
  have r1 := s2.front.head
  cases hz : enumOf (frz m) with
  | none => rw [hz] at k; exact k.elim
  | some ds =>
    rw [hz] at k
    unfold enumOf at hz
    split at hz
    · rename_i xs ea
      cases hz
      rw [ea] at r1
      obtain ⟨va, vs, rfl, q1, q2⟩ := r1
      refine ⟨va, vs, rfl, ?_⟩
      rw [ok.K]
      exact ⟨s2.same.seq (SqL.of q1), k _ H1 Hf2 (e1.trans e2) s2.tail (walks_enum (SqL.of q1) q2)⟩
    · rename_i xs ea
      cases hz
      rw [ea] at r1
      obtain ⟨va, vs, rfl, q1, q2⟩ := r1
      refine ⟨va, vs, rfl, ?_⟩
      rw [ok.K]
      exact ⟨s2.same.seq q1, k _ H1 Hf2 (e1.trans e2) s2.tail (walks_enum q1 q2)⟩
    · cases hz
end
end Mini

set_option Elab.async false
set_option linter.all false
set_option maxRecDepth 100000
set_option maxHeartbeats 4000000
set_option autoImplicit false
namespace Mini
open PySem PySem.Spec PyProof.Rows L2
section
variable {W : Wd} {Z : WX} {X : Cx} {N : List Str} {sc : Scope} {n : Nat} {σ : L2.St} {H H' Hf Hf' : Hp} {env env' : Env} {T T' L : Cells} {C : Ct} {pr : Nat → Bool} {G : Gk}

/-! slices -/
def SO (W : Wd) (Z : WX) (X : Cx) (b : Bool) (e : Option Expr) (f : Env → R (Option Int)) : Prop := ∃ t, PO X e t ∧ ∀ σ H Hf env T Q, Sta W.G Hf H σ env T →
  Good (f env) (fun o env' => ∀ H' Hf', Same Hf Hf' → (b = true → Same H H') → Sta W.G Hf' H' σ env' T → Q o H') (PX W Z σ Hf T) → t σ H Q
theorem so_none : SO W Z X true none (pPart none) := ⟨_, po_none, fun σ H Hf env T Q s g => g H Hf (Same.refl _) (fun _ => Same.refl _) s⟩
theorem so_some {e : Expr} {p : EvP} {b : Bool} (h : SV W Z X b e p.v) : SO W Z X b (some e) (pPart (some p)) := by
  obtain ⟨t, p1, q1⟩ := h
  refine ⟨_, po_some p1, fun σ H Hf env T Q s g => q1 σ H Hf env T _ s ?_⟩
  unfold pPart at g
  rw [good_bind] at g
  refine g.mono (fun m env1 k v H1 Hf1 e1 e2 s1 => ?_) fun _ _ x => x
  cases q : intM m with
  | none => simp only [q] at k; exact k.elim
  | some i =>
    simp only [q] at k
    have hm : m = .imm (.int i) := by
      cases m with
      | imm d => cases d <;> cases q; rfl
      | _ => cases q
    subst hm
    exact ⟨i, s1.front.head, k H1 Hf1 e1 e2 s1.tail⟩
theorem ar_move {v : V} {a : A} (h : AR H σ [v] [a] L) (k : ∀ i p, a = .ref i p → p = [] ∨ Same H H') : AR H' σ [v] [a] L := by
  cases a with
  | val m => exact h
  | ref i p =>
    obtain ⟨⟨v0, c1, c2⟩, hL⟩ := h
    refine ⟨⟨v0, c1, ?_⟩, hL⟩
    rcases k i p rfl with rfl | e
    · exact c2
    · exact c2.mono e
theorem RepDs.cut {ds : List D} {ws : List V} (h : RepDs G Hf ds ws) (lo hi : Option Int) : RepDs G Hf (cutD ds lo hi) (cutV ws lo hi) := by
  unfold cutD cutV
  rw [h.length]
  exact (h.drop _).take _
def rSlG (G : Gk) : V → Option Int → Option Int → Hp → VK → Prop := fun x lo hi H Q => ∃ Hf m r, Same Hf H ∧ (∃ S, RepM G Hf H m x S) ∧ sliceM m lo hi = some r ∧ ∀ v H', ResM G Hf H r v H' → Q v H'
theorem slG (hK : X.K = G.K) : SlR X (rSlG G) := by
  intro pins s σ H x v vl vu lo hi sl Q I rx hs pl pu hq
  obtain ⟨Hf, m, r, e, c1, hpr, q⟩ := hq
  unfold sliceM at hpr
  split at hpr
  · rename_i ds
    cases hpr
    obtain ⟨a, ws, f1, f2, f3⟩ := imm_rep c1
    refine sl_tupA pins s σ H x v vl vu lo hi sl Q I rx hs pl pu ⟨a, ws, f1, by rw [hK]; exact same_sqT e f2, fun hw => ?_, fun _ p hp => q _ _ (res_tup hp (f3.cut lo hi))⟩
    have hcut : cutD ds lo hi = ds := by
      unfold cutD
      rw [f3.length] at hw
      rw [hw.1, hw.2]
      simp
    rw [hcut] at q
    exact q _ H (res_imm ⟨a, ws, rfl, f2, f3⟩)
  · rename_i z
    by_cases hz : z.length ≤ sizeLine
    · rw [if_pos hz] at hpr
      cases hpr
      refine sl_str pins s σ H x v vl vu lo hi sl Q I rx hs pl pu ⟨z, imm_rep c1, hz, ?_⟩
      have e1 : cutS z lo hi = ⟨(cutD z.cps.toList lo hi).toArray⟩ := by
        unfold cutS cutD
        have : z.length = z.cps.toList.length := by simp [Str.length]
        rw [this]
      rw [e1]
      exact q _ H (res_imm rfl)
    · rw [if_neg hz] at hpr; cases hpr
  · split at hpr
    · rename_i ds hd
      cases hpr
      obtain ⟨S, c1⟩ := c1
      obtain ⟨a, ws, f1, f2, f3⟩ := seqF_rep e c1 hd
      exact sl_list pins s σ H x v vl vu lo hi sl Q I rx hs pl pu ⟨a, ws, f1, by rw [hK]; exact f2, fun p hp => q _ _ (res_lst hp (f3.cut lo hi))⟩
    · cases hpr
theorem sv_slice {e : Expr} {lo hi : Option Expr} {f : Env → R A} {pl ph : Option EvP} {b b1 b2 : Bool} {p2 pos : Pos} (ok : XOk W N sc n X) (hf : SA W Z X b e f) (hlo : SO W Z X b1 lo (pPart pl)) (hhi : SO W Z X b2 hi (pPart ph))
    (hr : ∀ env i p env', f env = .ok (.ref i p) env' → p = [] ∨ (b1 && b2) = true) : SV W Z X false (.Subscript e (.Slice lo hi none p2) pos) (pSlice f pl ph).v := by
  obtain ⟨t, p0, q0⟩ := hf
  obtain ⟨tl, p1, q1⟩ := hlo
  obtain ⟨th, p3, q3⟩ := hhi
  refine ⟨_, pe_slice (slG (G := W.G) ok.K) p0 p1 p3, fun σ H Hf env T Q s g => q0 σ H Hf env T _ s ?_⟩
  have g : Good ((f env).bind fun a env => (pPart pl env).bind fun l env => (pPart ph env).bind fun h env => match res env [a] with
    | some [m] => ofO (sliceM m l h) env
    | _ => .fail) _ _ := g
  rw [good_bind] at g
  refine g.monoE (fun a env1 ea k vs H1 Hf1 L e1 _ ar s1 => ?_) fun _ _ x => x
  obtain ⟨v, rfl⟩ := ar_one ar
  refine ⟨v, rfl, ?_⟩
  rw [good_bind] at k
  refine q1 σ H1 Hf1 env1 (L ++ T) _ s1 (k.mono (fun l env2 k H2 Hf2 e2 f2 s2 => ?_) fun x env2 kx => px_drop e1 kx)
  rw [good_bind] at k
  refine q3 σ H2 Hf2 env2 (L ++ T) _ s2 (k.mono (fun h env3 k H3 Hf3 e3 f3 s3 => ?_) fun x env2 kx => px_drop (e1.trans e2) kx)
  have ar3 : AR H3 σ [v] [a] L := ar_move ar fun i p ha => by
    subst ha
    rcases hr env i p env1 ea with hp | hb
    · exact .inl hp
    · rw [Bool.and_eq_true] at hb
      exact .inr ((f2 hb.1).trans (f3 hb.2))
  cases qr : res env3 [a] with
  | none => simp only [qr] at k; exact k.elim
  | some ms =>
    simp only [qr] at k
    match ms, k with
    | [m], k =>
      have c := conts_of s3 ar3 qr
      cases q : sliceM m l h with
      | none => simp only [q] at k; exact k.elim
      | some r =>
        simp only [q] at k
        refine ⟨Hf3, m, r, s3.same, c.1, q, fun w H4 rr => ?_⟩
        obtain ⟨Hf4, e4, s4⟩ := sta_res s3.drop rr
        exact k w H4 Hf4 (((e1.trans e2).trans e3).trans e4) (fun z => by cases z) s4
    | [], k => exact k.elim
    | _ :: _ :: _, k => exact k.elim
theorem byRef_ok {e : Expr} {ir : E} {p : EvP} {b b' : Bool} (hp : p = ev C pr ir) (h : Snd W Z X b e p) : SA W Z X false e (byRef ir p b') ∧ ∀ env i q env', byRef ir p b' env = .ok (.ref i q) env' → q = [] ∨ b' = true := by
  have key : SA W Z X false e p.a ∧ ∀ env i q env', p.a env = .ok (.ref i q) env' → ir = .place i q := ⟨h.a.weak, fun env i q env' hq => by subst hp; exact ev_ref hq⟩
  cases ir with
  | place j qs =>
    cases qs with
    | nil => exact ⟨key.1, fun env i q env' hq => by cases key.2 env i q env' hq; exact .inl rfl⟩
    | cons x xs =>
      cases b' with
      | true => exact ⟨key.1, fun _ _ _ _ _ => .inr rfl⟩
      | false => exact ⟨(sa_of_sv (f := p.v) h.v).weak, fun env i q env' hq => (mkV_ref (f := p.v) hq).elim⟩
  | _ => exact ⟨key.1, fun env i q env' hq => nomatch key.2 env i q env' hq⟩
end
end Mini

set_option Elab.async false
set_option linter.all false
set_option maxRecDepth 100000
set_option maxHeartbeats 4000000
set_option autoImplicit false
namespace Mini
open PySem PySem.Spec PyProof.Rows L2

/-! from the program's form to the instructions -/
structure Cc where
  N : List Str
  sc : Scope
  fs : List (Str × Nat × Nat)
  bs : List Str
  all : Bool
def litI : Expr → Option Int
  | .Constant (.int i) _ _ => some i
  | .UnaryOp .USub (.Constant (.int i) _ _) _ => some (-i)
  | _ => none
def ixOf : List Str → Str → Nat → Option Nat
  | [], _, _ => none
  | y :: r, x, k => if x == y then some k else ixOf r x (k + 1)
def visB (sc : Scope) (x : Str) : Bool := match sc.names.lookup x with | some .local => true | some .cell => true | some .free => true | _ => false
def glB (sc : Scope) (x : Str) : Bool := match sc.names.lookup x with | some .globalImplicit => true | _ => false
def okName (x : Str) : Bool := !(x == ("__debug__" : Str)) && !(x == ("__classdict__" : Str)) && !(x == ("__name__" : Str))
def cN (c : Cc) (x : Str) : Option Nat := if visB c.sc x && okName x then ixOf c.N x 0 else none
def cP (c : Cc) : Nat → Expr → Option (Nat × List PS)
  | _, .Name x _ => (cN c x).map fun i => (i, [])
  | n + 1, .Subscript o ie _ => match litI ie with
    | some k => match cP c n o with
      | some (i, p) => some (i, p ++ [.ix k])
      | none => none
    | none => none
  | _, _ => none
def bOp : Operator → Option Pr
  | .Add => some .add | .Sub => some .sub | .Mult => some .mul | .FloorDiv => some .fdiv | .Mod => some .mod | .Pow => some .pow
  | _ => none
def cOp : CmpOp → Option Pr
  | .Eq => some .eq | .NotEq => some .ne | .Lt => some .lt | .LtE => some .le | .Gt => some .gt | .GtE => some .ge
  | .Is => some .isN | .IsNot => some .notN | .In => some .inn | .NotIn => some .notin
def cB (x : Str) (k : Nat) : Option Pr :=
  if k == 1 then
    if x == "len" then some .len else if x == "tuple" then some .tuple else if x == "repr" then some .repr else if x == "int" then some .int else if x == "abs" then some .abs
    else if x == "sum" then some .sum else if x == "list" then some .list else if x == "all" then some .allB else if x == "any" then some .anyB
    else if x == "sorted" then some .sorted else if x == "max" then some .max1 else if x == "min" then some .min1 else none
  else if k == 2 then
    if x == "max" then some .max2 else if x == "min" then some .min2 else none
  else none
/-- sorted(set(a)) -/
def cSS (c : Cc) (x : Str) : List Expr → Option Expr
  | [.Call (.Name y _) [a] [] _] => if x == "sorted" && y == "set" && glB c.sc y && decide (y ∈ c.bs) then some a else none
  | _ => none
def mOf (x : Str) (k : Nat) : Option Mt :=
  if k == 1 then if x == "append" then some .append else if x == "extend" then some .extend else if x == "pop" then some .popAt else none
  else if k == 0 then if x == "pop" then some .pop else none
  else none
def plainB : Expr → Bool
  | .Slice _ _ _ _ => false
  | _ => true
def setB : Expr → Bool
  | .Set _ _ _ => true
  | _ => false
def ownOf (c : Cc) (scope : Scope) : List (Str × Nat) := scope.names.filterMap fun y => match y.2 with
  | .local => (ixOf c.N y.1 0).map fun i => (y.1, i)
  | .cell => (ixOf c.N y.1 0).map fun i => (y.1, i)
  | _ => none
def optM {α β : Type} (f : α → Option β) : List α → Option (List β)
  | [] => some []
  | a :: r => match f a with
    | some b => match optM f r with
      | some bs => some (b :: bs)
      | none => none
    | none => none
def cT (c : Cc) : Nat → Expr → Option Tg
  | _, .Name x _ => match cN c x with
    | some i => if decide (c.sc.names.lookup x = some .local) || (c.all && decide (c.sc.names.lookup x = some .cell)) then some (.name i) else none
    | none => none
  | n + 1, .Subscript o ie _ => match litI ie with
    | some k => match cP c n o with
      | some (i, p) => some (.path i p k)
      | none => none
    | none => none
  | n + 1, .Tuple es _ _ => match optM (cT c n) es with
    | some ts => some (.tup ts)
    | none => none
  | _, _ => none
def cBool (f : Expr → Option E) (op : BoolOp) : List Expr → Option E
  | [] => none
  | [x] => f x
  | x :: r => match f x, cBool f op r with
    | some a, some b => some (match op with | .And => .andE a b | .Or => .orE a b)
    | _, _ => none
def cDisp (f : Expr → Option E) : List Expr → Option (List (Bool × E))
  | [] => some []
  | .Starred e _ :: r => match f e, cDisp f r with
    | some a, some b => some ((true, a) :: b)
    | _, _ => none
  | e :: r => match f e, cDisp f r with
    | some a, some b => some ((false, a) :: b)
    | _, _ => none
/-- what is walked: its kind and its parts -/
def tupT : Expr → Bool
  | .Tuple _ _ _ => true
  | _ => false
def cIt (c : Cc) (tg : Expr) : Expr → IK × List Expr
  | .Call (.Name x p) es [] pos => if x == "range" && glB c.sc x && decide (("range" : Str) ∈ c.bs) then (match es with
      | [a] => (.range1, [a])
      | [a, b] => (.range2, [a, b])
      | _ => (.seq, [.Call (.Name x p) es [] pos]))
    else if x == "zip" && glB c.sc x && decide (("zip" : Str) ∈ c.bs) && tupT tg then (match es with
      | [a, b] => (.zip, [a, b])
      | _ => (.seq, [.Call (.Name x p) es [] pos]))
    else if x == "enumerate" && glB c.sc x && decide (("enumerate" : Str) ∈ c.bs) && tupT tg then (match es with
      | [a] => (.enum, [a])
      | _ => (.seq, [.Call (.Name x p) es [] pos]))
    else (.seq, [.Call (.Name x p) es [] pos])
  | e => (.seq, [e])
def cE : Nat → Cc → Expr → Option E
  | 0, _, _ => none
  | n + 1, c, e => match e with
    | .Constant k _ _ => match k with
      | .none => some (.const .non)
      | .bool b => some (.const (.bl b))
      | .int i => some (.const (.int i))
      | .str z => some (.const (.str z))
      | _ => none
    | .Name x p => match cP c n (.Name x p) with
      | some (i, q) => some (.place i q)
      | none => none
    | .Subscript o (.Slice lo hi none _) _ => match cE n c o with
      | some eo => match lo, hi with
        | none, none => some (.prim (.slice false false) [eo])
        | some l, none => match cE n c l with | some el => some (.prim (.slice true false) [eo, el]) | none => none
        | none, some h => match cE n c h with | some eh => some (.prim (.slice false true) [eo, eh]) | none => none
        | some l, some h => match cE n c l, cE n c h with | some el, some eh => some (.prim (.slice true true) [eo, el, eh]) | _, _ => none
      | none => none
    | .Subscript o (.Slice none none (some (.UnaryOp .USub (.Constant (.int 1) _ _) _)) _) _ => match cE n c o with
      | some eo => some (.prim .rev [eo])
      | none => none
    | .Subscript o ie p => match cP c n (.Subscript o ie p) with
      | some (i, q) => some (.place i q)
      | none => if plainB ie then match cE n c o, cE n c ie with
          | some a, some b => some (.prim .item [a, b])
          | _, _ => none
        else none
    | .BinOp a op b _ => match bOp op, cE n c a, cE n c b with
      | some p, some x, some y => some (.prim p [x, y])
      | _, _, _ => none
    | .UnaryOp .USub a _ => match cE n c a with
      | some x => some (.prim .neg [x])
      | none => none
    | .UnaryOp .Not a _ => match cE n c a with
      | some x => some (.notE x)
      | none => none
    | .Compare a [op] [b] _ => match cOp op, cE n c a, cE n c b with
      | some p, some x, some y => if setB b then none else some (.prim p [x, y])
      | _, _, _ => none
    | .Compare a [op, op'] [b, d] _ => match cOp op, cOp op', cE n c a, cE n c b, cE n c d with
      | some p, some q, some x, some y, some z => if setB d then none else some (.cmp2 p q x y z)
      | _, _, _, _, _ => none
    | .BoolOp op es _ => match es with
      | _ :: _ :: _ => cBool (cE n c) op es
      | _ => none
    | .IfExp t a b _ => match cE n c t, cE n c a, cE n c b with
      | some x, some y, some z => some (.ifE x y z)
      | _, _, _ => none
    | .Call (.Name x _) es [] _ => if glB c.sc x && okName x then match c.fs.lookup x with
        | some (i, np) => if es.length == np then match optM (cE n c) es with
            | some irs => some (.call i irs)
            | none => none
          else none
        | none => if decide (x ∈ c.bs) then match cSS c x es with
            | some a => match cE n c a with
              | some ea => some (.prim .sortedSet [ea])
              | none => none
            | none => match cB x es.length, optM (cE n c) es with
              | some p, some irs => some (.prim p irs)
              | _, _ => none
          else none
      else none
    | .Call (.Attribute o x apos) es [] cpos => if apos.endLine == cpos.line then match mOf x es.length, cP c n o, optM (cE n c) es with
        | some k, some (i, p), some irs => some (.chg k i p irs)
        | _, _, _ => none
      else none
    | .List es _ => match optM (cE n c) es with
      | some irs => some (.lstE irs)
      | none => none
    | .Tuple es _ _ => match cDisp (cE n c) es with
      | some l => some (.tupE (l.map (·.1)) (l.map (·.2)))
      | none => none
    | .ListComp elt [⟨tg, iter, ifs, 0⟩] scope _ =>
      let c' : Cc := { c with sc := relS scope c.sc, all := false }
      if blkC c.N c.sc scope (ownOf c scope) && !setB iter && decide (ifs.length ≤ 1) then match cT c' n tg, optM (cE n c) (cIt c tg iter).2, optM (cE n c') ifs, cE n c' elt with
        | some t, some its, some tests, some x => some (.comp x t (cIt c tg iter).1 its tests ((ownOf c scope).map (·.2)))
        | _, _, _, _ => none
      else none
    | _ => none
end Mini

set_option Elab.async false
set_option linter.all false
set_option maxRecDepth 100000
set_option maxHeartbeats 4000000
set_option autoImplicit false
namespace Mini
open PySem PySem.Spec PyProof.Rows L2

structure CxOk (W : Wd) (CXp : CXT) (n : Nat) (c : Cc) (Z : WX) (X : Cx) : Prop where
  ok : XOk W c.N c.sc n X
  pass : ∀ σ, PassesAt CXp X σ fun cls d H => Z cls d σ H
  own : PassesOwn (model X.prog X.w) X.A X.env X.xe
  fn : c.all = true → ∀ x, X.fn x = true
structure WOk (W : Wd) (CXp : CXT) (Tb : List Fn) (n : Nat) (C : Ct) (fs : List (Str × Nat × Nat)) (bs : List Str) : Prop where
  call : C.call = run Tb n
  fns : ∀ x i np, fs.lookup x = some (i, np) → ∃ fa fd ps, ps.length = np ∧ W.mg x = some (.ref fa) ∧ PySem.W.keepIn W.G.K (.ref fa) = true ∧ FnG W CXp n fa fd ps (spOf W Tb n i ps.length) ∧ Binds W.G.K fd ps []
  bls : ∀ x, x ∈ bs → W.mg x = none
  none : ∀ (X : Cx) (σ : L2.St), PassesAt CXp X σ fun _ _ _ => False
section
variable {W : Wd} {CXp : CXT} {Tb : List Fn} {Z : WX} {X : Cx} {n : Nat} {C : Ct} {pr : Nat → Bool} {c : Cc} {fs : List (Str × Nat × Nat)} {bs : List Str}

theorem litI_ok {e : Expr} {k : Int} (h : litI e = some k) : ∃ ti, PE X e ti ∧ (∀ σ H Q, Q (.int k) H → ti σ H Q) ∧ PlainIx e ∧ NoStar e := by
  unfold litI at h
  split at h
  · cases h
    exact ⟨_, pe_int, fun σ H Q q => q, fun _ _ => rfl, (fun _ _ h => by cases h)⟩
  · cases h
    exact ⟨_, pe_un un_neg pe_int, fun σ H Q q => ⟨_, rfl, q⟩, fun _ _ => rfl, (fun _ _ h => by cases h)⟩
  · cases h
theorem ixOf_ok : ∀ {N : List Str} {x : Str} {k i : Nat}, ixOf N x k = some i → k ≤ i ∧ N[i - k]? = some x
  | [], x, k, i, h => by cases h
  | y :: r, x, k, i, h => by
    unfold ixOf at h
    by_cases e : (x == y) = true
    · rw [if_pos e] at h
      cases h
      have e : x = y := by simpa using e
      subst e
      exact ⟨Nat.le_refl _, by simp⟩
    · rw [if_neg e] at h
      obtain ⟨h1, h2⟩ := ixOf_ok h
      refine ⟨by omega, ?_⟩
      have : i - k = (i - (k + 1)) + 1 := by omega
      rw [this]
      simpa using h2
theorem visB_ok {sc : Scope} {x : Str} (h : visB sc x = true) : Vis sc x := by
  unfold visB at h
  unfold Vis
  split at h
  · rename_i q; exact .inl q
  · rename_i q; exact .inr (.inl q)
  · rename_i q; exact .inr (.inr q)
  · cases h
theorem okName_ok {x : Str} (h : okName x = true) : (x == ("__debug__" : Str)) = false ∧ (x == ("__classdict__" : Str)) = false ∧ x ≠ "__name__" := by
  unfold okName at h
  rw [Bool.and_eq_true, Bool.and_eq_true] at h
  refine ⟨by simpa using h.1.1, by simpa using h.1.2, ?_⟩
  have := h.2
  intro e
  rw [e] at this
  simp at this
theorem cN_ok {x : Str} {i : Nat} (h : cN c x = some i) : c.N[i]? = some x ∧ Vis c.sc x ∧ okName x = true := by
  unfold cN at h
  split at h
  · rename_i hc
    rw [Bool.and_eq_true] at hc
    have := (ixOf_ok h).2
    exact ⟨by simpa using this, visB_ok hc.1, hc.2⟩
  · cases h
theorem cP_ok : ∀ {k : Nat} {e : Expr} {i : Nat} {p : List PS}, cP c k e = some (i, p) → XOk W c.N c.sc n X →
    SPl W X e i p ∧ NoStar e ∧ (∀ name, attributeBase e name X.env (eval e X.env) = eval e X.env) ∧ ∀ whole, isTrue e X.env whole = (do let v ← whole; standAt e.pos; holding [v] (truthy v)) := by
  intro k
  induction k with
  | zero =>
    intro e i p h ok
    cases e <;> first | (cases h; done) | skip
    rename_i x pos
    unfold cP at h
    cases q : cN c x with
    | none => rw [q] at h; cases h
    | some j =>
      rw [q] at h
      cases h
      obtain ⟨h1, h2, h3⟩ := cN_ok q
      obtain ⟨n1, n2, _⟩ := okName_ok h3
      exact ⟨spl_var ok h1 h2 n1 n2, (fun _ _ h => by cases h), fun _ => rfl, fun _ => rfl⟩
  | succ k ih =>
    intro e i p h ok
    cases e <;> first | (cases h; done) | skip
    · rename_i o ie pos
      unfold cP at h
      cases q : litI ie with
      | none => simp only [q] at h; cases h
      | some z =>
        simp only [q] at h
        cases q2 : cP c k o with
        | none => simp only [q2] at h; cases h
        | some r =>
          obtain ⟨j, p'⟩ := r
          simp only [q2] at h
          cases h
          obtain ⟨ti, t1, t2, t3, t4⟩ := litI_ok (X := X) q
          obtain ⟨h1, _⟩ := ih q2 ok
          refine ⟨spl_ix ok h1 t1 t2 t3, (fun _ _ h => by cases h), fun _ => rfl, fun _ => rfl⟩
    · rename_i x pos
      unfold cP at h
      cases q : cN c x with
      | none => rw [q] at h; cases h
      | some j =>
        rw [q] at h
        cases h
        obtain ⟨h1, h2, h3⟩ := cN_ok q
        obtain ⟨n1, n2, _⟩ := okName_ok h3
        exact ⟨spl_var ok h1 h2 n1 n2, (fun _ _ h => by cases h), fun _ => rfl, fun _ => rfl⟩
theorem assign_sub {o ie : Expr} {pos : Pos} (hp : plainB ie = true) (v : Value) : assign (.Subscript o ie pos) X.env v = (do
      let ov ← holding [v] (eval o X.env)
      let iv ← holding [v, ov] (eval ie X.env)
      standAt pos
      holding [v, ov, iv] (setItem ov iv v)
      release [v, ov, iv] []) := by
  cases ie <;> first | rfl | cases hp
theorem litI_plain {e : Expr} {k : Int} (h : litI e = some k) : plainB e = true := by
  cases e <;> first | rfl | cases h
theorem bOp_ok {op : Operator} {p : Pr} (h : bOp op = some p) (ok : XOk W c.N c.sc n X) : OpR X (binaryOp op) fun x y H Q => rPr W.G p [x, y] H Q := by
  cases op <;> cases h
  · exact opG_add ok.K
  · exact opG_sub
  · exact opG_mul
  · exact opG_mod
  · exact opG_pow
  · exact opG_fdiv
theorem cOp_ok {op : CmpOp} {p : Pr} (h : cOp op = some p) (ok : XOk W c.N c.sc n X) : OpR X (compareOp op) fun x y H Q => rPr W.G p [x, y] H Q := by
  cases op <;> cases h
  · exact opG_eq ok
  · exact opG_ne ok
  · exact opG_lt
  · exact opG_le
  · exact opG_gt
  · exact opG_ge
  · exact opG_is
  · exact opG_isnot
  · exact opG_in ok
  · exact opG_notin ok
def isSl : Pr → Bool
  | .slice _ _ => true
  | _ => false
theorem pPrX_eq {p : Pr} {l : List (E × EvP)} (h : isSl p = false) : pPrX p l = pPrim p (pArgs l) := by
  cases p <;> first | rfl | cases h
theorem bOp_sl {op : Operator} {p : Pr} (h : bOp op = some p) : isSl p = false := by cases op <;> cases h <;> rfl
theorem cOp_sl {op : CmpOp} {p : Pr} (h : cOp op = some p) : isSl p = false := by cases op <;> cases h <;> rfl
def isCmp : Pr → Bool
  | .eq | .ne | .lt | .le | .gt | .ge | .isN | .notN | .inn | .notin => true
  | _ => false
theorem cOp_cmp {op : CmpOp} {p : Pr} (h : cOp op = some p) : isCmp p = true := by cases op <;> cases h <;> rfl
theorem map_bl {o : Option Bool} {f : Bool → Bool} {m : M} (h : o.map (fun b => M.imm (.bl (f b))) = some m) : ∃ k, m = .imm (.bl k) := by
  cases o with
  | none => cases h
  | some b => cases h; exact ⟨_, rfl⟩
theorem cmp_bl {p : Pr} (hp : isCmp p = true) (ms : List M) (m : M) (h : primM p ms = some m) : ∃ k, m = .imm (.bl k) := by
  have ofI : ∀ {a b : M}, (p = .lt ∨ p = .le ∨ p = .gt ∨ p = .ge) → arithM p a b = some m → ∃ k, m = .imm (.bl k) := fun hq ha => by
    obtain ⟨i, j, d, _, _, hb, rfl⟩ := arithM_some ha
    rcases hq with rfl | rfl | rfl | rfl <;> (cases hb; exact ⟨_, rfl⟩)
  cases p <;> first | (cases hp; done) | skip
  all_goals
    match ms, h with
    | [a, b], h => first
      | exact map_bl (f := fun b => b) h
      | exact map_bl (f := fun b => !b) h
      | exact ofI (by simp) h
      | (have h : (if isNonM b = true then some (M.imm (.bl (isNonM a))) else none) = some m := h
         split at h
         · cases h; exact ⟨_, rfl⟩
         · cases h)
      | (have h : (if isNonM b = true then some (M.imm (.bl (!isNonM a))) else none) = some m := h
         split at h
         · cases h; exact ⟨_, rfl⟩
         · cases h)
    | [], h => cases h
    | [_], h => cases h
    | _ :: _ :: _ :: _, h => cases h
theorem snd_prim {e : Expr} {es : List Expr} {irs : List E} {p : Pr} (ok : XOk W c.N c.sc n X) (h : Snds W Z X C pr es irs) (hs : isSl p = false) (hp : ∀ ts, PEs X es ts → PE X e (tPr W.G p ts))
    (he : ∀ whole, isTrue e X.env whole = (do let v ← whole; standAt e.pos; holding [v] (truthy v))) : Snd W Z X false e (ev C pr (.prim p irs)) := by
  have hv : SV W Z X false e (pPrX p (irs.zip (evs C pr irs))).v := by
    rw [pPrX_eq hs]
    exact sv_prim (sas_args h) hp
  exact snd_mk ok hv he
theorem snd_primT {e : Expr} {es : List Expr} {irs : List E} {p : Pr} (h : Snds W Z X C pr es irs) (hs : isSl p = false) (hc : isCmp p = true) (hp : ∀ ts, PEs X es ts → PE X e (tPr W.G p ts)) (ht : ∀ ts, PEs X es ts → PT X e (tTest (tPr W.G p ts))) : Snd W Z X false e (ev C pr (.prim p irs)) := by
  have key : Snd W Z X false e (mkV (pPrim p (pArgs (irs.zip (evs C pr irs)))).v) := ⟨sv_prim (sas_args h) hp, sa_of_sv (sv_prim (sas_args h) hp), st_prim (sas_args h) (cmp_bl hc) ht⟩
  have e1 : ev C pr (.prim p irs) = mkV (pPrX p (irs.zip (evs C pr irs))).v := rfl
  rw [e1, pPrX_eq hs]
  exact key
theorem no_stars : ∀ {es : List Expr}, (∀ e ∈ es, NoStar e) → ∀ pos, (backTo pos (starEach es X.env)).any (·.1) = false
  | [], _, pos => rfl
  | e :: es, h, pos => by
    rw [starEach_ne (h e List.mem_cons_self)]
    exact no_stars (fun e he => h e (List.mem_cons_of_mem _ he)) pos
theorem snds_ns {es : List Expr} {irs : List E} (h : Snds W Z X C pr es irs) : ∀ e ∈ es, NoStar e := by
  induction h with
  | nil => intro e he; cases he
  | cons a b ih =>
    intro e he
    rcases List.mem_cons.mp he with rfl | he
    · exact a.2
    · exact ih e he
theorem optM_ok {α β : Type} {f : α → Option β} {P : α → β → Prop} : ∀ {l : List α} {r : List β}, optM f l = some r → (∀ a b, f a = some b → P a b) → Paired P l r
  | [], r, h, k => by cases h; exact .nil
  | a :: l, r, h, k => by
    unfold optM at h
    split at h
    · rename_i b q
      split at h
      · rename_i bs q2
        cases h
        exact .cons (k a b q) (optM_ok q2 k)
      · cases h
    · cases h
theorem glB_ok {x : Str} (h : glB c.sc x = true) (ok : XOk W c.N c.sc n X) : Gl X x := by
  unfold glB at h
  split at h
  · rename_i q
    show X.env.scope.names.lookup x = _
    rw [ok.sc]
    exact q
  · cases h
theorem cT_ok : ∀ {k : Nat} {e : Expr} {t : Tg}, cT c k e = some t → XOk W c.N c.sc n X → (c.all = true → ∀ x, X.fn x = true) → STg W X pr e t ∧ NoStar e := by
  intro k
  have nameC : ∀ {x : Str} {pos : Pos} {t : Tg}, (match cN c x with
    | some i => if (decide (c.sc.names.lookup x = some .local) || (c.all && decide (c.sc.names.lookup x = some .cell))) = true then some (Tg.name i) else none
    | none => none) = some t → XOk W c.N c.sc n X → (c.all = true → ∀ x, X.fn x = true) → STg W X pr (.Name x pos) t := by
    intro x pos t h ok hf
    cases q : cN c x with
    | none => simp only [q] at h; cases h
    | some i =>
      simp only [q] at h
      obtain ⟨h1, h2, h3⟩ := cN_ok q
      split at h
      · rename_i hc
        cases h
        rw [Bool.or_eq_true, Bool.and_eq_true, decide_eq_true_eq, decide_eq_true_eq] at hc
        rcases hc with hc | ⟨hc1, hc2⟩
        · exact stg_name ok h1 (.inl hc) (.inr (by rw [ok.sc]; exact hc))
        · exact stg_name ok h1 (.inr hc2) (.inl (hf hc1 x))
      · cases h
  induction k with
  | zero =>
    intro e t h ok hf
    cases e <;> first | (cases h; done) | skip
    exact ⟨nameC h ok hf, (fun _ _ h => by cases h)⟩
  | succ k ih =>
    intro e t h ok hf
    cases e <;> first | (cases h; done) | skip
    · rename_i o ie pos
      unfold cT at h
      cases q : litI ie with
      | none => simp only [q] at h; cases h
      | some z =>
        simp only [q] at h
        cases q2 : cP c k o with
        | none => simp only [q2] at h; cases h
        | some r =>
          obtain ⟨j, p'⟩ := r
          simp only [q2] at h
          cases h
          obtain ⟨ti, t1, t2, t3, t4⟩ := litI_ok (X := X) q
          obtain ⟨h1, _⟩ := cP_ok q2 ok
          exact ⟨stg_path h1 t1 t2 (assign_sub (litI_plain q)), (fun _ _ h => by cases h)⟩
    · rename_i x pos
      exact ⟨nameC h ok hf, (fun _ _ h => by cases h)⟩
    · rename_i es kt pos
      unfold cT at h
      cases q : optM (cT c k) es with
      | none => simp only [q] at h; cases h
      | some ts =>
        simp only [q] at h
        cases h
        have pp := optM_ok (P := fun e t => STg W X pr e t ∧ NoStar e) q fun e t he => ih he ok hf
        have ll := Paired.length pp
        have all : STgs W X pr es ts ∧ ∀ e ∈ es, NoStar e := by
          clear q ll
          induction pp with
          | nil => exact ⟨stgs_nil, fun e he => by cases he⟩
          | cons a b ihp =>
            refine ⟨stgs_cons a.1 ihp.1 a.2, fun e he => ?_⟩
            rcases List.mem_cons.mp he with rfl | he
            · exact a.2
            · exact ihp.2 e he
        exact ⟨stg_tup ok all.1 all.2 ll.symm, (fun _ _ h => by cases h)⟩
end
end Mini

set_option Elab.async false
set_option linter.all false
set_option maxRecDepth 100000
set_option maxHeartbeats 4000000
set_option autoImplicit false
namespace Mini
open PySem PySem.Spec PyProof.Rows L2
section
variable {W : Wd} {CXp : CXT} {Tb : List Fn} {Z : WX} {X : Cx} {n : Nat} {C : Ct} {pr : Nat → Bool} {c : Cc} {fs : List (Str × Nat × Nat)} {bs : List Str}

theorem cB_ok {x : Str} {es : List Expr} {p : Pr} {pn pos : Pos} (h : cB x es.length = some p) (ok : XOk W c.N c.sc n X) (hm : W.mg x = none) (hg : Gl X x) (hn : okName x = true) (hns : ∀ e ∈ es, NoStar e) :
    isSl p = false ∧ ∀ ts, PEs X es ts → PE X (.Call (.Name x pn) es [] pos) (tPr W.G p ts) := by
  obtain ⟨n1, _, n3⟩ := okName_ok hn
  have hpl := no_stars (X := X) hns pos
  have hm : X.mg x = none := by rw [ok.mg]; exact hm
  unfold cB at h
  by_cases h1 : (es.length == 1) = true
  · rw [if_pos h1] at h
    have hl : es.length = 1 := by simpa using h1
    obtain ⟨e, rfl⟩ : ∃ e, es = [e] := by
      match es, hl with
      | [e], _ => exact ⟨e, rfl⟩
    by_cases a : (x == ("len" : Str)) = true
    · rw [if_pos a] at h
      cases h
      have a : x = "len" := by simpa using a
      subst a
      exact ⟨rfl, hp_call (callG_len ok.K) hg hm boot_len n3 n1 hpl⟩
    rw [if_neg a] at h
    by_cases a : (x == ("tuple" : Str)) = true
    · rw [if_pos a] at h
      cases h
      have a : x = "tuple" := by simpa using a
      subst a
      exact ⟨rfl, hp_callTy (callG_tuple ok.K) hg hm (by decide +kernel) n3 n1 hpl⟩
    rw [if_neg a] at h
    by_cases a : (x == ("repr" : Str)) = true
    · rw [if_pos a] at h
      cases h
      have a : x = "repr" := by simpa using a
      subst a
      exact ⟨rfl, hp_call (callG_repr ok) hg hm (by decide +kernel) n3 n1 hpl⟩
    rw [if_neg a] at h
    by_cases a : (x == ("int" : Str)) = true
    · rw [if_pos a] at h
      cases h
      have a : x = "int" := by simpa using a
      subst a
      exact ⟨rfl, hp_callTy callG_int hg hm (by decide +kernel) n3 n1 hpl⟩
    rw [if_neg a] at h
    by_cases a : (x == ("abs" : Str)) = true
    · rw [if_pos a] at h
      cases h
      have a : x = "abs" := by simpa using a
      subst a
      exact ⟨rfl, hp_call callG_abs hg hm (by decide +kernel) n3 n1 hpl⟩
    rw [if_neg a] at h
    by_cases a : (x == ("sum" : Str)) = true
    · rw [if_pos a] at h
      cases h
      have a : x = "sum" := by simpa using a
      subst a
      exact ⟨rfl, hp_call (callG_sum ok) hg hm (by decide +kernel) n3 n1 hpl⟩
    rw [if_neg a] at h
    by_cases a : (x == ("list" : Str)) = true
    · rw [if_pos a] at h
      cases h
      have a : x = "list" := by simpa using a
      subst a
      exact ⟨rfl, hp_callTy (callG_list ok.K) hg hm (by decide +kernel) n3 n1 hpl⟩
    rw [if_neg a] at h
    by_cases a : (x == ("all" : Str)) = true
    · rw [if_pos a] at h
      cases h
      have a : x = "all" := by simpa using a
      subst a
      exact ⟨rfl, hp_call (callG_all ok) hg hm (by decide +kernel) n3 n1 hpl⟩
    rw [if_neg a] at h
    by_cases a : (x == ("any" : Str)) = true
    · rw [if_pos a] at h
      cases h
      have a : x = "any" := by simpa using a
      subst a
      exact ⟨rfl, hp_call (callG_any ok) hg hm (by decide +kernel) n3 n1 hpl⟩
    rw [if_neg a] at h
    by_cases a : (x == ("sorted" : Str)) = true
    · rw [if_pos a] at h
      cases h
      have a : x = "sorted" := by simpa using a
      subst a
      exact ⟨rfl, hp_call (callG_sorted ok) hg hm (by decide +kernel) n3 n1 hpl⟩
    rw [if_neg a] at h
    by_cases a : (x == ("max" : Str)) = true
    · rw [if_pos a] at h
      cases h
      have a : x = "max" := by simpa using a
      subst a
      exact ⟨rfl, hp_call (callG_max1 ok) hg hm (by decide +kernel) n3 n1 hpl⟩
    rw [if_neg a] at h
    by_cases a : (x == ("min" : Str)) = true
    · rw [if_pos a] at h
      cases h
      have a : x = "min" := by simpa using a
      subst a
      exact ⟨rfl, hp_call (callG_min1 ok) hg hm (by decide +kernel) n3 n1 hpl⟩
    rw [if_neg a] at h
    cases h
  rw [if_neg h1] at h
  by_cases h2 : (es.length == 2) = true
  · rw [if_pos h2] at h
    have hl : es.length = 2 := by simpa using h2
    obtain ⟨e, e', rfl⟩ : ∃ e e', es = [e, e'] := by
      match es, hl with
      | [e, e'], _ => exact ⟨e, e', rfl⟩
    by_cases a : (x == ("max" : Str)) = true
    · rw [if_pos a] at h
      cases h
      have a : x = "max" := by simpa using a
      subst a
      exact ⟨rfl, hp_call (callG_max2 ok) hg hm (by decide +kernel) n3 n1 hpl⟩
    rw [if_neg a] at h
    by_cases a : (x == ("min" : Str)) = true
    · rw [if_pos a] at h
      cases h
      have a : x = "min" := by simpa using a
      subst a
      exact ⟨rfl, hp_call (callG_min2 ok) hg hm (by decide +kernel) n3 n1 hpl⟩
    rw [if_neg a] at h
    cases h
  rw [if_neg h2] at h
  cases h
theorem cSS_ok {x : Str} {es : List Expr} {a : Expr} {pn pos : Pos} (h : cSS c x es = some a) (ok : XOk W c.N c.sc n X) (hb : ∀ x, x ∈ c.bs → W.mg x = none) (hx : x ∈ c.bs) (hg : Gl X x) : ∀ ts, PEs X [a] ts → PE X (.Call (.Name x pn) es [] pos) (tPr W.G .sortedSet ts) := by
  unfold cSS at h
  split at h
  · rename_i y p2 a0 q
    split at h
    · rename_i hc
      rw [Bool.and_eq_true, Bool.and_eq_true, Bool.and_eq_true, decide_eq_true_eq] at hc
      obtain ⟨⟨⟨c1, c2⟩, c3⟩, c4⟩ := hc
      cases h
      have c1 : x = "sorted" := by simpa using c1
      have c2 : y = "set" := by simpa using c2
      subst c1 c2
      exact hp_soSet ok hg (by rw [ok.mg]; exact hb _ hx) (glB_ok c3 ok) (by rw [ok.mg]; exact hb _ c4)
    · cases h
  · cases h
theorem seq_case {e tg : Expr} {its : List E} (ok : XOk W c.N c.sc n X) (h : Snds W Z X C pr [e] its) : SIter W Z X tg e (pIter .seq (evs C pr its)) := by
  cases h with
  | cons a b => cases b; exact sit_seq ok a.1.v
theorem cIt_ok {tg iter : Expr} {its : List E} (ok : XOk W c.N c.sc n X) (hb : ∀ x, x ∈ c.bs → W.mg x = none) (h : Snds W Z X C pr (cIt c tg iter).2 its) : SIter W Z X tg iter (pIter (cIt c tg iter).1 (evs C pr its)) := by
  generalize hr : cIt c tg iter = r at h ⊢
  unfold cIt at hr
  split at hr
  · rename_i x p es pos
    by_cases hx : (x == ("range" : Str) && glB c.sc x && decide (("range" : Str) ∈ c.bs)) = true
    · rw [if_pos hx] at hr
      rw [Bool.and_eq_true, Bool.and_eq_true, decide_eq_true_eq] at hx
      have a : x = "range" := by simpa using hx.1.1
      subst a
      have hg := glB_ok hx.1.2 ok
      have hm : X.mg "range" = none := by rw [ok.mg]; exact hb _ hx.2
      split at hr
      · cases hr
        cases h with
        | cons h1 h => cases h; exact sit_range1 hg hm h1.2 h1.1.v
      · cases hr
        cases h with
        | cons h1 h => cases h with
          | cons h2 h => cases h; exact sit_range2 hg hm h1.2 h2.2 h1.1.v h2.1.v
      · cases hr
        exact seq_case ok h
    · rw [if_neg hx] at hr
      by_cases hx2 : (x == ("zip" : Str) && glB c.sc x && decide (("zip" : Str) ∈ c.bs) && tupT tg) = true
      · rw [if_pos hx2] at hr
        rw [Bool.and_eq_true, Bool.and_eq_true, Bool.and_eq_true, decide_eq_true_eq] at hx2
        have a : x = "zip" := by simpa using hx2.1.1.1
        subst a
        have hg := glB_ok hx2.1.1.2 ok
        have hm : X.mg "zip" = none := by rw [ok.mg]; exact hb _ hx2.1.2
        cases tg <;> first | (cases hx2.2; done) | skip
        split at hr
        · cases hr
          cases h with
          | cons h1 h => cases h with
            | cons h2 h => cases h; exact sit_zip ok hg hm h1.2 h2.2 h1.1.v h2.1.v
        · cases hr
          exact seq_case ok h
      · rw [if_neg hx2] at hr
        by_cases hx3 : (x == ("enumerate" : Str) && glB c.sc x && decide (("enumerate" : Str) ∈ c.bs) && tupT tg) = true
        · rw [if_pos hx3] at hr
          rw [Bool.and_eq_true, Bool.and_eq_true, Bool.and_eq_true, decide_eq_true_eq] at hx3
          have a : x = "enumerate" := by simpa using hx3.1.1.1
          subst a
          have hg := glB_ok hx3.1.1.2 ok
          have hm : X.mg "enumerate" = none := by rw [ok.mg]; exact hb _ hx3.1.2
          cases tg <;> first | (cases hx3.2; done) | skip
          split at hr
          · cases hr
            cases h with
            | cons h1 h => cases h; exact sit_enum ok hg hm h1.2 h1.1.v
          · cases hr
            exact seq_case ok h
        · rw [if_neg hx3] at hr
          cases hr
          exact seq_case ok h
  · cases hr
    exact seq_case ok h
theorem noset {iter : Expr} (h : setB iter = false) (x : Value) : foldedSetIterable iter X.env x = pure x := by
  cases iter <;> first | rfl | cases h
theorem nomarks {op : CmpOp} {b : Expr} (h : setB b = false) : behindInMarks op b = false := by
  cases b <;> first | rfl | cases h
theorem ix_plain {e : Expr} (h : plainB e = true) : PlainIx e := by
  cases e <;> first | (exact fun _ _ => rfl) | cases h
def CLift (W : Wd) (CXp : CXT) (n : Nat) (C : Ct) (c : Cc) (e : Expr) (ir : E) : Prop := ∀ pr Z X, CxOk W CXp n c Z X → Snd W Z X (inertE ir) e (ev C pr ir) ∧ NoStar e
theorem snds_of {es : List Expr} {irs : List E} (h : Paired (CLift W CXp n C c) es irs) (cx : CxOk W CXp n c Z X) : Snds W Z X C pr es irs := by
  induction h with
  | nil => exact .nil
  | cons a b ih => exact .cons (a pr Z X cx) ih
theorem cBool_ok {f : Expr → Option E} {op : BoolOp} {pos : Pos} (cx : CxOk W CXp n c Z X) : ∀ {es : List Expr} {ir : E}, cBool f op es = some ir → (∀ e ir, f e = some ir → Snd W Z X (inertE ir) e (ev C pr ir)) →
    SV W Z X false (.BoolOp op es pos) (ev C pr ir).v ∧ (∃ t, PW X (.BoolOp op es pos) t ∧ ∀ σ H Hf env T Q, Sta W.G Hf H σ env T → Good ((ev C pr ir).t env) (PT' W σ Hf T Q) (PX W Z σ Hf T) → t σ H Q)
  | [], ir, h, k => by cases h
  | [x], ir, h, k => by
    have hx := k x ir h
    obtain ⟨t, p1, q1⟩ := hx.v.weak
    obtain ⟨t2, p2, q2⟩ := hx.t
    exact ⟨⟨t, pe_one p1, q1⟩, t2, by cases op; exact pw_and1 p2; exact pw_or1 p2, q2⟩
  | x :: y :: r, ir, h, k => by
    unfold cBool at h
    split at h
    · rename_i a b ha hb
      cases h
      obtain ⟨h1, h2⟩ := cBool_ok (pos := pos) cx hb k
      cases op with
      | And => exact snd_and cx.ok (k x a ha) h1 h2
      | Or => exact snd_or cx.ok (k x a ha) h1 h2
    · cases h
theorem cDisp_ok {f : Expr → Option E} : ∀ {es : List Expr} {l : List (Bool × E)}, cDisp f es = some l → (∀ e ir, f e = some ir → Snd W Z X (inertE ir) e (ev C pr ir) ∧ NoStar e) → DispE W Z X (l.map (·.1)) es (evs C pr (l.map (·.2)))
  | [], l, h, k => by cases h; exact .nil
  | e :: r, l, h, k => by
    by_cases hs : ∃ x p, e = .Starred x p
    · obtain ⟨x, p, rfl⟩ := hs
      unfold cDisp at h
      split at h
      · rename_i a b ha hb
        cases h
        exact .star (k x a ha).1 (cDisp_ok hb k)
      · cases h
    · have h : (match f e, cDisp f r with
        | some a, some b => some ((false, a) :: b)
        | _, _ => none) = some l := by
        cases e <;> first | exact h | exact absurd ⟨_, _, rfl⟩ hs
      split at h
      · rename_i a b ha hb
        cases h
        exact .one (k e a ha).2 (k e a ha).1 (cDisp_ok hb k)
      · cases h
theorem pSl_ok {o : Expr} {lo hi : Option Expr} {p2 pos : Pos} {x : E} {f : EvP} (ok : XOk W c.N c.sc n X) (h : SV W Z X false (.Subscript o (.Slice lo hi none p2) pos) f.v) : Snd W Z X false (.Subscript o (.Slice lo hi none p2) pos) (mkV f.v) := snd_mk ok h fun _ => rfl
theorem blk_ok (wo : WOk W CXp Tb n C fs bs) (cx : CxOk W CXp n c Z X) (scope : Scope) : ∀ s H A cl fp, CxOk W CXp n { c with sc := relS scope c.sc, all := false } ZF (blkX X scope s H A cl fp) := fun s H A cl fp => by
  refine ⟨⟨cx.ok.P, cx.ok.w, cx.ok.K, cx.ok.mg, cx.ok.base, cx.ok.nm, cx.ok.nd, ?_, cx.ok.calm, cx.ok.room, cx.ok.gd⟩, fun σ => wo.none _ σ, PassesOwn.never, fun h => nomatch h⟩
  show relabel scope X.env = relS scope c.sc
  rw [← cx.ok.sc]
  rfl
end
end Mini

set_option Elab.async false
set_option linter.all false
set_option maxRecDepth 100000
set_option maxHeartbeats 4000000
set_option autoImplicit false
namespace Mini
open PySem PySem.Spec PyProof.Rows L2
section
variable {W : Wd} {CXp : CXT} {Tb : List Fn} {Z : WX} {X : Cx} {n : Nat} {C : Ct} {pr : Nat → Bool} {c : Cc} {fs : List (Str × Nat × Nat)} {bs : List Str}

theorem mOf_ok {x : Str} {k : Nat} {m : Mt} (h : mOf x k = some m) : (k = 1 ∨ k = 0) ∧ Slot "list" x (slotOf m) ∧ typeOf (.builtin (slotOf m)) = pure (.type "method_descriptor") ∧ ∀ X, MutR X m := by
  unfold mOf at h
  by_cases h1 : (k == 1) = true
  · rw [if_pos h1] at h
    have hk : k = 1 := by simpa using h1
    by_cases a : (x == ("append" : Str)) = true
    · rw [if_pos a] at h
      cases h
      have a : x = "append" := by simpa using a
      subst a
      exact ⟨.inl hk, PySem.F.slot_list_append, by rfl, fun X => mutR_append⟩
    rw [if_neg a] at h
    by_cases a : (x == ("extend" : Str)) = true
    · rw [if_pos a] at h
      cases h
      have a : x = "extend" := by simpa using a
      subst a
      exact ⟨.inl hk, PySem.F.slot_list_extend, by rfl, fun X => mutR_extend⟩
    rw [if_neg a] at h
    by_cases a : (x == ("pop" : Str)) = true
    · rw [if_pos a] at h
      cases h
      have a : x = "pop" := by simpa using a
      subst a
      exact ⟨.inl hk, PySem.F.slot_list_pop, by rfl, fun X => mutR_popAt⟩
    rw [if_neg a] at h
    cases h
  rw [if_neg h1] at h
  by_cases h2 : (k == 0) = true
  · rw [if_pos h2] at h
    have hk : k = 0 := by simpa using h2
    by_cases a : (x == ("pop" : Str)) = true
    · rw [if_pos a] at h
      cases h
      have a : x = "pop" := by simpa using a
      subst a
      exact ⟨.inr hk, PySem.F.slot_list_pop, by rfl, fun X => mutR_pop⟩
    rw [if_neg a] at h
    cases h
  rw [if_neg h2] at h
  cases h
theorem cE_ok (wo : WOk W CXp Tb n C fs bs) : ∀ (k : Nat) (c : Cc) (e : Expr) (ir : E), c.fs = fs → c.bs = bs → cE k c e = some ir → CLift W CXp n C c e ir := by
  intro k
  induction k with
  | zero => intro c e ir _ _ h; cases h
  | succ k ih =>
    intro c e ir hfs hbs h pr Z X cx
    have ok := cx.ok
    have IH : ∀ e ir, cE k c e = some ir → Snd W Z X (inertE ir) e (ev C pr ir) ∧ NoStar e := fun e ir he => ih c e ir hfs hbs he pr Z X cx
    have ns : ∀ {e : Expr}, (∀ x p, e ≠ .Starred x p) → NoStar e := fun h => h
    unfold cE at h
    split at h
    · -- constants
      split at h
      · cases h; exact ⟨snd_mk ok (sv_const pe_non fun _ => rfl) (fun _ => rfl), fun _ _ h => by cases h⟩
      · cases h; exact ⟨snd_mk ok (sv_const pe_bl fun _ => rfl) (fun _ => rfl), fun _ _ h => by cases h⟩
      · cases h; exact ⟨snd_mk ok (sv_const pe_int fun _ => rfl) (fun _ => rfl), fun _ _ h => by cases h⟩
      · cases h; exact ⟨snd_mk ok (sv_const pe_str fun _ => rfl) (fun _ => rfl), fun _ _ h => by cases h⟩
      · cases h
    · -- names
      rename_i x p
      split at h
      · rename_i i q hq
        cases h
        obtain ⟨h1, h2, h3, h4⟩ := cP_ok hq ok
        have hq0 : q = [] := by
          cases k <;> (unfold cP at hq; cases hc : cN c x with
            | none => rw [hc] at hq; cases hq
            | some j => rw [hc] at hq; cases hq; rfl)
        subst hq0
        exact ⟨snd_place ok h1 h4, h2⟩
      · cases h
    · -- slices
      rename_i o lo hi p2 pos
      split at h
      · rename_i eo ho
        obtain ⟨so, _⟩ := IH o eo ho
        have base : ∀ {lo hi : Option Expr} {pl ph : Option EvP} {b1 b2 : Bool}, SO W Z X b1 lo (pPart pl) → SO W Z X b2 hi (pPart ph) → SV W Z X false (.Subscript o (.Slice lo hi none p2) pos) (pSlice (byRef eo (ev C pr eo) (b1 && b2)) pl ph).v := fun h1 h2 => by
          obtain ⟨r1, r2⟩ := byRef_ok rfl so
          exact sv_slice ok r1 h1 h2 (r2)
        split at h
        · cases h
          exact ⟨pSl_ok (x := eo) ok (base so_none so_none), fun _ _ h => by cases h⟩
        · rename_i l
          split at h
          · rename_i el hl
            cases h
            have q := base (so_some (IH l el hl).1.v) so_none
            rw [Bool.and_true] at q
            exact ⟨pSl_ok (x := eo) ok q, fun _ _ h => by cases h⟩
          · cases h
        · rename_i u
          split at h
          · rename_i eh hh
            cases h
            have q := base so_none (so_some (IH u eh hh).1.v)
            rw [Bool.true_and] at q
            exact ⟨pSl_ok (x := eo) ok q, fun _ _ h => by cases h⟩
          · cases h
        · rename_i l u
          split at h
          · rename_i el eh hl hh
            cases h
            exact ⟨pSl_ok (x := eo) ok (base (so_some (IH l el hl).1.v) (so_some (IH u eh hh).1.v)), fun _ _ h => by cases h⟩
          · cases h
      · cases h
    · -- [::-1]
      rename_i o _ _ _ _ _
      split at h
      · rename_i eo ho
        cases h
        exact ⟨snd_prim ok (.cons (IH o eo ho) .nil) rfl (hp_rev ok.K) (fun _ => rfl), fun _ _ h => by cases h⟩
      · cases h
    · -- subscripts
      rename_i o ie p hne hne2
      split at h
      · rename_i i q hq
        cases h
        obtain ⟨h1, h2, h3, h4⟩ := cP_ok hq ok
        have s := snd_place (Z := Z) ok h1 h4
        have hin : inertE (.place i q) = false ∨ inertE (.place i q) = true := by cases inertE (.place i q) <;> simp
        rcases hin with e1 | e1
        · rw [e1]; exact ⟨s.weak, h2⟩
        · rw [e1]; exact ⟨s, h2⟩
      · split at h
        · rename_i hp
          split at h
          · rename_i a b ha hb
            cases h
            exact ⟨snd_prim ok (.cons (IH o a ha) (.cons (IH ie b hb) .nil)) rfl (hp_item ok.K (ix_plain hp)) (fun _ => rfl), fun _ _ h => by cases h⟩
          · cases h
        · cases h
    · -- two-place operators
      rename_i a op b pos
      split at h
      · rename_i p x y hp ha hb
        cases h
        exact ⟨snd_prim ok (.cons (IH a x ha) (.cons (IH b y hb) .nil)) (bOp_sl hp) (hp_bin (bOp_ok hp ok)) (fun _ => rfl), fun _ _ h => by cases h⟩
      · cases h
    · rename_i a pos
      split at h
      · rename_i x ha
        cases h
        exact ⟨snd_prim ok (.cons (IH a x ha) .nil) rfl hp_neg (fun _ => rfl), fun _ _ h => by cases h⟩
      · cases h
    · rename_i a pos
      split at h
      · rename_i x ha
        cases h
        exact ⟨snd_not ok (IH a x ha).1, fun _ _ h => by cases h⟩
      · cases h
    · -- comparisons
      rename_i a op b pos
      split at h
      · rename_i p x y hp ha hb
        split at h
        · cases h
        · rename_i hs
          cases h
          have hm : behindInMarks op b = false := nomarks (by simpa using hs)
          exact ⟨snd_primT (.cons (IH a x ha) (.cons (IH b y hb) .nil)) (cOp_sl hp) (cOp_cmp hp) (hp_cmp (cOp_ok hp ok) hm) (ht_cmp (cOp_ok hp ok) hm), fun _ _ h => by cases h⟩
      · cases h
    · rename_i a op op' b d pos
      split at h
      · rename_i p q x y z hp hq ha hb hd
        split at h
        · cases h
        · rename_i hs
          cases h
          have hm : behindInMarks op' d = false := nomarks (by simpa using hs)
          exact ⟨snd_cmp2 (cOp_ok hp ok) (cOp_ok hq ok) (cmp_bl (cOp_cmp hq)) hm (IH a x ha).1.v (IH b y hb).1.v (IH d z hd).1.v, fun _ _ h => by cases h⟩
      · cases h
    · -- and, or
      rename_i op es pos
      split at h
      · rename_i x y r
        obtain ⟨h1, t, h2, h3⟩ := cBool_ok (pos := pos) cx h fun e ir he => (IH e ir he).1
        have hin : inertE ir = false := by
          unfold cBool at h
          split at h
          · cases h; cases op <;> rfl
          · cases h
        rw [hin]
        have ha : (ev C pr ir).a = (mkV (ev C pr ir).v).a := by
          unfold cBool at h
          split at h
          · cases h; cases op <;> rfl
          · cases h
        exact ⟨⟨h1, by rw [ha]; exact sa_of_sv h1, t, h2.pt, h3⟩, fun _ _ h => by cases h⟩
      · cases h
    · rename_i t a b pos
      split at h
      · rename_i x y z ht ha hb
        cases h
        have hv := snd_if (pos := pos) (IH t x ht).1 (IH a y ha).1 (IH b z hb).1
        exact ⟨⟨hv, sa_of_sv hv, fun _ _ _ => False, ⟨fun _ _ _ _ _ h _ => by rename_i q; exact q.elim⟩, fun _ _ _ _ _ _ _ g => False.elim g⟩, fun _ _ h => by cases h⟩
      · cases h
    · -- calls
      rename_i x pn es pos
      split at h
      · rename_i hg
        rw [Bool.and_eq_true] at hg
        have gl := glB_ok hg.1 ok
        split at h
        · rename_i i np hl
          split at h
          · rename_i hlen
            split at h
            · rename_i irs hi
              cases h
              rw [hfs] at hl
              obtain ⟨fa, fd, ps, w1, w2, w3, w4, w5⟩ := wo.fns x i np hl
              have sn := snds_of (Z := Z) (pr := pr) (X := X) (optM_ok hi fun e ir he => ih c e ir hfs hbs he) cx
              have hln : es.length = ps.length := by rw [w1]; simpa using hlen
              exact ⟨snd_mk ok (sv_call ok wo.call w4 w5 cx.pass gl w2 w3 (okName_ok hg.2).1 hln (no_stars (snds_ns sn) _) sn) (fun _ => rfl), fun _ _ h => by cases h⟩
            · cases h
          · cases h
        · split at h
          · rename_i hb
            rw [decide_eq_true_eq] at hb
            split at h
            · rename_i a hss
              split at h
              · rename_i ea ha
                cases h
                exact ⟨snd_prim ok (.cons (IH a ea ha) .nil) rfl (cSS_ok hss ok (fun x hx => wo.bls x (by rw [← hbs]; exact hx)) hb gl) (fun _ => rfl), fun _ _ h => by cases h⟩
              · cases h
            · split at h
              · rename_i p irs hp hi
                cases h
                have sn := snds_of (Z := Z) (pr := pr) (X := X) (optM_ok hi fun e ir he => ih c e ir hfs hbs he) cx
                obtain ⟨q1, q2⟩ := cB_ok (pn := pn) (pos := pos) hp ok (wo.bls x (by rw [← hbs]; exact hb)) gl hg.2 (snds_ns sn)
                exact ⟨snd_prim ok sn q1 q2 (fun _ => rfl), fun _ _ h => by cases h⟩
              · cases h
          · cases h
      · cases h
    · -- methods
      rename_i o x apos es cpos
      split at h
      · rename_i hline
        split at h
        · rename_i m i p irs hm hp hi
          cases h
          obtain ⟨h1, h2, h3, h4⟩ := cP_ok hp ok
          obtain ⟨k1, k2, k3, k4⟩ := mOf_ok hm
          have sn := snds_of (Z := Z) (pr := pr) (X := X) (optM_ok hi fun e ir he => ih c e ir hfs hbs he) cx
          have hv : SV W Z X false (.Call (.Attribute o x apos) es [] cpos) (pMut m i p (irs.all inertE) (evs C pr irs)).v := by
            rcases k1 with k1 | k1
            · match es, k1, sn with
              | [e], _, sn =>
                have hst : starEach [e] X.env = (false, eval e X.env) :: starEach [] X.env := starEach_ne (snds_ns sn e List.mem_cons_self) [] X.env
                exact sv_chg k2 k3 (k4 X) h1 sn (h3 x) (by rw [hst]; rfl) hline (by rfl)
            · match es, k1, sn with
              | [], _, sn =>
                cases sn
                exact sv_chg0 k2 k3 (k4 X) h1 (h3 x) hline
          exact ⟨snd_mk ok hv (fun _ => rfl), fun _ _ h => by cases h⟩
        · cases h
      · cases h
    · -- displays
      rename_i es pos
      split at h
      · rename_i irs hi
        cases h
        have sn := snds_of (Z := Z) (pr := pr) (X := X) (optM_ok hi fun e ir he => ih c e ir hfs hbs he) cx
        have hv := sv_lst (pos := pos) sn
        have s := snd_mk ok hv (fun _ => rfl)
        cases irs with
        | nil => exact ⟨s, fun _ _ h => by cases h⟩
        | cons a b => exact ⟨s.weak, fun _ _ h => by cases h⟩
      · cases h
    · rename_i es kt pos
      split at h
      · rename_i l hl
        cases h
        have d := cDisp_ok (W := W) (Z := Z) (X := X) (C := C) (pr := pr) hl IH
        cases l with
        | nil =>
          have he : es = [] := by
            cases es with
            | nil => rfl
            | cons e r =>
              exfalso
              cases e <;> (unfold cDisp at hl; split at hl <;> cases hl)
          subst he
          exact ⟨snd_mk ok sv_tup0 (fun _ => rfl), fun _ _ h => by cases h⟩
        | cons a b => exact ⟨snd_mk ok (sv_tup ok d) (fun _ => rfl), fun _ _ h => by cases h⟩
      · cases h
    · -- comprehensions
      rename_i elt tg iter ifs scope pos
      dsimp only at h
      split at h
      · rename_i hc
        rw [Bool.and_eq_true, Bool.and_eq_true, decide_eq_true_eq] at hc
        obtain ⟨⟨hc1, hc2⟩, hc3⟩ := hc
        split at h
        · rename_i t its tests x ht hi hts hx
          cases h
          have bo := blkOk_by hc1
          have bx := blk_ok wo cx scope
          have sn := snds_of (Z := Z) (pr := pr) (X := X) (optM_ok hi fun e ir he => ih c e ir hfs hbs he) cx
          have it := cIt_ok (tg := tg) ok (fun x hx => wo.bls x (by rw [← hbs]; exact hx)) sn
          have hset : setB iter = false := by simpa using hc2
          have st : ∀ s H A cl fp, STs W ZF (blkX X scope s H A cl fp) ifs (pTests (evs C pr tests)) := fun s H A cl fp => by
            have sn2 := snds_of (Z := ZF) (pr := pr) (optM_ok hts fun e ir he => ih { c with sc := relS scope c.sc, all := false } e ir hfs hbs he) (bx s H A cl fp)
            match ifs, tests, hc3, sn2 with
            | [], [], _, _ => exact sts_nil
            | [a], [b], _, .cons q _ => exact sts_one q.1.t
          have hv := sv_comp (pos := pos) ok bo it (fun s H A cl fp => (cT_ok (pr := fun i => !(((ownOf c scope).map (·.2)).contains i)) ht (bx s H A cl fp).ok (bx s H A cl fp).fn).1) st (fun s H A cl fp => ((ih { c with sc := relS scope c.sc, all := false } elt x hfs hbs hx pr ZF _ (bx s H A cl fp)).1.v).weak) (noset hset)
          exact ⟨snd_mk ok hv (fun _ => rfl), fun _ _ h => by cases h⟩
        · cases h
      · cases h
    · cases h
end
end Mini

set_option Elab.async false
set_option linter.all false
set_option maxRecDepth 100000
set_option maxHeartbeats 4000000
set_option autoImplicit false
namespace Mini
open PySem PySem.Spec PyProof.Rows L2

def swNames (sc : Scope) (ts : List Expr) : List Str := ts.filterMap fun
    | .Name id pos => if sc.names.lookup id == some .local && pos.line == ((ts.head?.map (·.pos.line)).getD 0) then some id else none
    | _ => none
theorem sw_eq {ts vs : List Expr} {kt k2 : Nat} {pt pt2 : Pos} {env : PySem.Env} : swappedStores [.Tuple ts kt pt] (.Tuple vs k2 pt2) env =
  (if (!(ts.length == 2 || ts.length == 3) || vs.length != ts.length || env.blockKind != .function) = true then pure none
   else if (vs.any fun | .Starred .. => true | _ => false) = true then pure none
   else if ((swNames env.scope ts).length != ts.length || (swNames env.scope ts).eraseDups.length != (swNames env.scope ts).length) = true then pure none
   else if vs.all (foldedForSure 8) = true then pure none
   else if vs.all (constantsAlone 8) = true then (do unsupported "assign.tuple-of-constant-expressions:order-of-the-stores"; pure (some (swNames env.scope ts))) else pure (some (swNames env.scope ts))) := by
  rfl
def funB (sc : Scope) : Bool := match sc.kind with | .function => true | _ => false
def noStarB : Expr → Bool
  | .Starred _ _ => false
  | _ => true
/-- stored one after another, from the left -/
def plainPar (sc : Scope) (ts es : List Expr) : Bool := !(ts.length == 2 || ts.length == 3) || es.length != ts.length || (swNames sc ts).length != ts.length || es.all (foldedForSure 8)
theorem sw_none {ts vs : List Expr} {kt k2 : Nat} {pt pt2 : Pos} {env : PySem.Env} (h : plainPar env.scope ts vs = true) : swappedStores [.Tuple ts kt pt] (.Tuple vs k2 pt2) env = pure none := by
  rw [sw_eq]
  unfold plainPar at h
  rw [Bool.or_eq_true, Bool.or_eq_true] at h
  split
  · rfl
  · rename_i h1
    split
    · rfl
    · split
      · rfl
      · rename_i h3
        split
        · rfl
        · rename_i h4
          exfalso
          rw [Bool.or_eq_true, Bool.or_eq_true] at h1
          rw [Bool.or_eq_true] at h3
          rcases h with (h | h) | h
          · rw [Bool.or_eq_true] at h
            rcases h with h | h
            · exact h1 (.inl (.inl h))
            · exact h1 (.inl (.inr h))
          · exact h3 (.inl h)
          · exact h4 h
/-- a, b = x, y : the stores from the right -/
def parB (sc : Scope) (xs : List (Str × Pos)) (es : List Expr) : Bool := funB sc && es.all noStarB && !(es.all (foldedForSure 8)) && !(es.all (constantsAlone 8)) &&
  xs.all fun p => decide (sc.names.lookup p.1 = some .local) && (p.2.line == ((xs.head?.map (·.2.line)).getD 0))
theorem sw_some2 {x y : Str} {px py pt pt2 : Pos} {a b : Expr} {kt k2 : Nat} {env : PySem.Env} (h : parB env.scope [(x, px), (y, py)] [a, b] = true) (hxy : x ≠ y) : swappedStores [.Tuple [.Name x px, .Name y py] kt pt] (.Tuple [a, b] k2 pt2) env = pure (some [x, y]) := by
  rw [sw_eq]
  unfold parB at h
  rw [Bool.and_eq_true, Bool.and_eq_true, Bool.and_eq_true, Bool.and_eq_true] at h
  obtain ⟨⟨⟨⟨h1, h2⟩, h3⟩, h4⟩, h5⟩ := h
  have hk : env.blockKind = .function := by
    unfold funB at h1
    unfold Env.blockKind
    cases hq : env.scope.kind <;> rw [hq] at h1 <;> first | rfl | cases h1
  have hs : ([a, b].any fun | .Starred .. => true | _ => false) = false := by
    simp only [List.all_cons, List.all_nil, Bool.and_true, Bool.and_eq_true] at h2
    simp only [List.any_cons, List.any_nil, Bool.or_false, Bool.or_eq_false_iff]
    constructor
    · cases a <;> first | rfl | cases h2.1
    · cases b <;> first | rfl | cases h2.2
  simp only [List.all_cons, List.all_nil, Bool.and_true, Bool.and_eq_true, decide_eq_true_eq, beq_iff_eq, List.head?_cons, Option.map_some, Option.getD_some] at h5
  obtain ⟨⟨l1, _⟩, l2, l3⟩ := h5
  have hn : swNames env.scope [.Name x px, .Name y py] = [x, y] := by
    simp [swNames, l1, l2, l3, Expr.pos]
  have hd : ([x, y] : List Str).eraseDups.length = 2 := by
    have hb : (y == x) = false := beq_eq_false_iff_ne.mpr (Ne.symm hxy)
    simp [List.eraseDups_cons, hb]
  rw [hn, hk]
  rw [if_neg (by simp), if_neg (by rw [hs]; decide), if_neg (by rw [hd]; simp), if_neg (fun z => by rw [z] at h3; cases h3), if_neg (fun z => by rw [z] at h4; cases h4)]
theorem sw_some3 {x y z : Str} {px py pz pt pt2 : Pos} {a b c : Expr} {kt k2 : Nat} {env : PySem.Env} (h : parB env.scope [(x, px), (y, py), (z, pz)] [a, b, c] = true) (hxy : x ≠ y) (hxz : x ≠ z) (hyz : y ≠ z) :
    swappedStores [.Tuple [.Name x px, .Name y py, .Name z pz] kt pt] (.Tuple [a, b, c] k2 pt2) env = pure (some [x, y, z]) := by
  rw [sw_eq]
  unfold parB at h
  rw [Bool.and_eq_true, Bool.and_eq_true, Bool.and_eq_true, Bool.and_eq_true] at h
  obtain ⟨⟨⟨⟨h1, h2⟩, h3⟩, h4⟩, h5⟩ := h
  have hk : env.blockKind = .function := by
    unfold funB at h1
    unfold Env.blockKind
    cases hq : env.scope.kind <;> rw [hq] at h1 <;> first | rfl | cases h1
  have hs : ([a, b, c].any fun | .Starred .. => true | _ => false) = false := by
    simp only [List.all_cons, List.all_nil, Bool.and_true, Bool.and_eq_true] at h2
    simp only [List.any_cons, List.any_nil, Bool.or_false, Bool.or_eq_false_iff]
    refine ⟨?_, ?_, ?_⟩
    · cases a <;> first | rfl | cases h2.1
    · cases b <;> first | rfl | cases h2.2.1
    · cases c <;> first | rfl | cases h2.2.2
  simp only [List.all_cons, List.all_nil, Bool.and_true, Bool.and_eq_true, decide_eq_true_eq, beq_iff_eq, List.head?_cons, Option.map_some, Option.getD_some] at h5
  obtain ⟨⟨l1, _⟩, ⟨l2, l3⟩, l4, l5⟩ := h5
  have hn : swNames env.scope [.Name x px, .Name y py, .Name z pz] = [x, y, z] := by
    simp [swNames, l1, l2, l3, l4, l5, Expr.pos]
  have hd : ([x, y, z] : List Str).eraseDups.length = 3 := by
    have hb : (y == x) = false := beq_eq_false_iff_ne.mpr (Ne.symm hxy)
    have hb2 : (z == x) = false := beq_eq_false_iff_ne.mpr (Ne.symm hxz)
    have hb3 : (z == y) = false := beq_eq_false_iff_ne.mpr (Ne.symm hyz)
    simp [List.eraseDups_cons, hb, hb2, hb3]
  rw [hn, hk]
  rw [if_neg (by simp), if_neg (by rw [hs]; decide), if_neg (by rw [hd]; simp), if_neg (fun z => by rw [z] at h3; cases h3), if_neg (fun z => by rw [z] at h4; cases h4)]

/-! statements -/
def compB : Expr → Bool
  | .ListComp _ _ _ _ => true
  | .SetComp _ _ _ _ => true
  | .DictComp _ _ _ _ _ => true
  | _ => false
def tupB : Expr → Bool
  | .Tuple _ _ _ => true
  | .List _ _ => true
  | _ => false
def prOf (l : List Bool) (i : Nat) : Bool := l.getD i false
def cSet (n : Nat) (c : Cc) (tg value : Expr) : Option S := match tg, value with
  | .Tuple ts _ _, .Tuple es _ _ => match ts, es with
    | [.Name x px, .Name y py], [a, b] => if parB c.sc [(x, px), (y, py)] [a, b] then match cN c x, cN c y, optM (cE n c) [a, b] with
        | some i, some j, some irs => if i != j then some (.setPar [.name i, .name j] irs) else none
        | _, _, _ => none
      else if plainPar c.sc [.Name x px, .Name y py] [a, b] then match optM (cT c n) [.Name x px, .Name y py], optM (cE n c) [a, b] with
        | some tgs, some irs => some (.setPar tgs irs)
        | _, _ => none
      else none
    | [.Name x px, .Name y py, .Name z pz], [a, b, d] => if parB c.sc [(x, px), (y, py), (z, pz)] [a, b, d] then match cN c x, cN c y, cN c z, optM (cE n c) [a, b, d] with
        | some i, some j, some l, some irs => if i != j && i != l && j != l then some (.setPar [.name i, .name j, .name l] irs) else none
        | _, _, _, _ => none
      else if plainPar c.sc [.Name x px, .Name y py, .Name z pz] [a, b, d] then match optM (cT c n) [.Name x px, .Name y py, .Name z pz], optM (cE n c) [a, b, d] with
        | some tgs, some irs => some (.setPar tgs irs)
        | _, _ => none
      else none
    | ts, es => if plainPar c.sc ts es && decide (ts.length ≤ 100) then match optM (cT c n) ts, optM (cE n c) es with
        | some tgs, some irs => some (.setPar tgs irs)
        | _, _ => none
      else none
  | .Name y py, .ListComp elt [⟨tg, iter, ifs, 0⟩] scope pos =>
    let c' : Cc := { c with sc := relS scope c.sc, all := false }
    if blkC c.N c.sc scope (ownOf c scope) && !setB iter && decide (ifs.length ≤ 1) && funB c.sc && decide (c.sc.names.lookup y = some .local) && (py.line == pos.line) && !(scope.names.any fun (n, k) => n == y && (k == .local || k == .cell)) then
      match cN c y, cT c' n tg, optM (cE n c) (cIt c tg iter).2, optM (cE n c') ifs, cE n c' elt with
      | some i, some t, some its, some tests, some x => some (.set (.name i) (.comp x t (cIt c tg iter).1 its tests ((ownOf c scope).map (·.2))))
      | _, _, _, _, _ => none
    else none
  | .Subscript o ie p, value => if compB value || !plainB ie then none else match litI ie with
    | some k => match cP c n o, cE n c value with
      | some (i, q), some x => some (.set (.path i q k) x)
      | _, _ => none
    | none => match cP c n o, cE n c ie, cE n c value with
      | some (i, q), some y, some x => some (.setItem i q y x)
      | _, _, _ => none
  | tg, value => if compB value || (tupB tg && tupB value) then none else match cT c n tg, cE n c value with
    | some t, some x => some (.set t x)
    | _, _ => none
def aOp : Operator → Option Pr
  | .Add => some .add | .Sub => some .sub | _ => none
def cS : Nat → Cc → List Bool → Stmt → Option S
  | 0, _, _, _ => none
  | n + 1, c, prs, st => match st with
    | .Assign [tg] value _ => cSet n c tg value
    | .AugAssign (.Name x _) op e _ => match aOp op, cN c x, cE n c e with
      | some p, some i, some y => if decide (c.sc.names.lookup x = some .local) then some (.aug i p y) else none
      | _, _, _ => none
    | .Expr (.Constant (.str _) _ _) _ => some .pass
    | .Expr e _ => if compB e then none else match cE n c e with
      | some x => some (.expr x)
      | none => none
    | .Return none _ => some .retN
    | .Return (some e) _ => match e with
      | .Name x _ => match cN c x with
        | some i => if prOf prs i then some (.ret (.place i [])) else some (.retVar i)
        | none => none
      | e => match cE n c e with
        | some y => some (.ret y)
        | none => none
    | .If t a b _ => match cE n c t, optM (cS n c prs) a, optM (cS n c prs) b with
      | some x, some y, some z => some (.ifS x y z)
      | _, _, _ => none
    | .While t b [] _ => match cE n c t, optM (cS n c prs) b with
      | some x, some y => some (.whileS x y)
      | _, _ => none
    | .For tg iter b [] _ => if setB iter then none else match cT c n tg, optM (cE n c) (cIt c tg iter).2, optM (cS n c prs) b with
      | some t, some its, some y => some (.forS t (cIt c tg iter).1 its y)
      | _, _, _ => none
    | .Break _ => some .brk
    | .Continue _ => some .cont
    | .Pass _ => some .pass
    | _ => none
section
variable {W : Wd} {CXp : CXT} {Tb : List Fn} {Z : WX} {X : Cx} {n : Nat} {C : Ct} {pr : Nat → Bool} {c : Cc} {fs : List (Str × Nat × Nat)} {bs : List Str}
theorem swaps_no {tg e : Expr} {l : Nat} (h : compB e = false) : swapsWithSole [tg] e l X.env = pure false := by
  cases e <;> first | rfl | cases h
theorem swapsN_no {e : Expr} {l : Nat} (h : compB e = false) : swapsWith e none l X.env = pure false := by
  cases e <;> first | rfl | cases h
theorem sw_no {tg e : Expr} (h : (tupB tg && tupB e) = false) : swappedStores [tg] e X.env = pure none := by
  cases tg <;> first | rfl | (cases e <;> first | rfl | cases h)
theorem each_one {tg : Expr} (h : NoStar tg) : (assignEach [tg] X.env).map (·.2) = [assign tg X.env] := by
  cases tg <;> first | rfl | exact absurd rfl (h _ _)
theorem assignEach_ok : ∀ {ts : List Expr}, (∀ e ∈ ts, NoStar e) → (assignEach ts X.env).length = ts.length ∧ (assignEach ts X.env).findIdx? (·.1) = none
  | [], _ => ⟨rfl, rfl⟩
  | e :: es, h => by
    obtain ⟨h1, h2⟩ := assignEach_ok fun e he => h e (List.mem_cons_of_mem _ he)
    have h0 := h e List.mem_cons_self
    have he : assignEach (e :: es) X.env = (false, assign e X.env) :: assignEach es X.env := by cases e <;> first | rfl | exact absurd rfl (h0 _ _)
    rw [he]
    refine ⟨by rw [List.length_cons, List.length_cons, h1], ?_⟩
    rw [List.findIdx?_cons, h2]
    rfl
theorem stgs_of {ts : List Expr} {tgs : List Tg} (h : Paired (fun e t => STg W X pr e t ∧ NoStar e) ts tgs) : STgs W X pr ts tgs ∧ ∀ e ∈ ts, NoStar e := by
  induction h with
  | nil => exact ⟨stgs_nil, fun e he => by cases he⟩
  | cons a b ih =>
    refine ⟨stgs_cons a.1 ih.1 a.2, fun e he => ?_⟩
    rcases List.mem_cons.mp he with rfl | he
    · exact a.2
    · exact ih.2 e he
end
end Mini

set_option Elab.async false
set_option linter.all false
set_option maxRecDepth 100000
set_option maxHeartbeats 4000000
set_option autoImplicit false
namespace Mini
open PySem PySem.Spec PyProof.Rows L2
section
variable {W : Wd} {CXp : CXT} {Tb : List Fn} {Z : WX} {X : Cx} {n : Nat} {C : Ct} {pr : Nat → Bool} {c : Cc} {fs : List (Str × Nat × Nat)} {bs : List Str}
theorem ip_of {op : Operator} {p : Pr} (h : aOp op = some p) : ∃ f : Int → Int → Int, PIp X op (ipI f) ∧ ∀ a b, augI p a b = some (f a b) := by
  cases op <;> cases h
  · exact ⟨_, ip_add, fun _ _ => rfl⟩
  · exact ⟨_, ip_sub, fun _ _ => rfl⟩
theorem ss_aug {e : Expr} {pe : EvP} {i : Nat} {x : Str} {op : Operator} {p : Pr} {px pos : Pos} {b : Bool} (ok : XOk W c.N c.sc n X) (hi : c.N[i]? = some x) (hx : c.sc.names.lookup x = some .local) (ho : aOp op = some p) (h : SV W Z X b e pe.v) : SS W Z X pr (.AugAssign (.Name x px) op e pos) (sAug pr i p pe) := by
  obtain ⟨te, p1, q1⟩ := h
  obtain ⟨f, p2, hf⟩ := ip_of (X := X) ho
  refine ⟨_, ps_aug (by rw [ok.nm]; exact ok.nd) (by rw [ok.nm]; exact hi) (.inl (by rw [ok.sc]; exact hx)) p1 p2 (.inr (by rw [ok.sc]; exact hx)), fun σ H Hf env T D s g => ?_⟩
  unfold sAug at g
  split at g
  · rename_i a ha
    obtain ⟨v, hv, o⟩ := s.slot ha
    have hva : v = .int a := o.head
    subst hva
    refine ⟨_, hv, q1 σ H Hf env T _ s ?_⟩
    rw [good_bind] at g
    refine g.mono (fun m env1 k w H1 Hf1 e1 _ s1 => ?_) fun _ _ x => x.here (Same.refl _)
    split at k
    · rename_i z
      have hw : w = .int z := s1.front.head
      rw [hf] at k
      by_cases hp : pr i = true
      · simp only [if_pos hp] at k; exact k.elim
      · simp only [if_neg hp] at k
        exact ⟨a, z, rfl, hw, k _ H1 Hf1 e1 (Agree.set hp) (Sta.store (s1.tail.imm rfl))⟩
    · exact k.elim
  · exact g.elim
theorem par_of {ts es : List Expr} {tgs : List Tg} {irs : List E} {k kt k2 : Nat} {pt pt2 pos : Pos} (wo : WOk W CXp Tb n C fs bs) (cx : CxOk W CXp n c Z X) (hfs : c.fs = fs) (hbs : c.bs = bs) (hp : plainPar c.sc ts es = true) (hl : ts.length ≤ 100) (h1 : optM (cT c k) ts = some tgs) (h2 : optM (cE k c) es = some irs) :
    SS W Z X pr (.Assign [.Tuple ts kt pt] (.Tuple es k2 pt2) pos) (evS C pr (.setPar tgs irs)) := by
  have sn := snds_of (Z := Z) (pr := pr) (X := X) (optM_ok h2 fun e ir he => cE_ok wo k c e ir hfs hbs he) cx
  have pp := optM_ok (P := fun e t => STg W X pr e t ∧ NoStar e) h1 fun e t he => cT_ok he cx.ok cx.fn
  obtain ⟨s1, s2⟩ := stgs_of pp
  obtain ⟨a1, a2⟩ := assignEach_ok (X := X) s2
  exact ss_par cx.ok s1 sn (Paired.length pp).symm (by have := sizeLine_eq; omega) a1 a2 (sw_none (by rw [cx.ok.sc]; exact hp))
theorem cSet_ok {k : Nat} {tg value : Expr} {s : S} {pos : Pos} (wo : WOk W CXp Tb n C fs bs) (cx : CxOk W CXp n c Z X) (hfs : c.fs = fs) (hbs : c.bs = bs) (h : cSet k c tg value = some s) : SS W Z X pr (.Assign [tg] value pos) (evS C pr s) := by
  have ok := cx.ok
  have IH : ∀ e ir, cE k c e = some ir → Snd W Z X (inertE ir) e (ev C pr ir) ∧ NoStar e := fun e ir he => cE_ok wo k c e ir hfs hbs he pr Z X cx
  have SN : ∀ {es irs}, optM (cE k c) es = some irs → Snds W Z X C pr es irs := fun hi => snds_of (optM_ok hi fun e ir he => cE_ok wo k c e ir hfs hbs he) cx
  unfold cSet at h
  split at h
  · rename_i ts kt pt es k2 pt2
    split at h
    · rename_i x px y py a b
      split at h
      · rename_i hp
        split at h
        · rename_i i j irs hi hj hir
          split at h
          · rename_i hij
            cases h
            have hij : i ≠ j := by simpa using hij
            obtain ⟨i1, _, _⟩ := cN_ok hi
            obtain ⟨j1, _, _⟩ := cN_ok hj
            have hxy : x ≠ y := fun e => by
              subst e
              have := (List.getElem?_inj (List.getElem?_eq_some_iff.mp i1).1 ok.nd).mp (i1.trans j1.symm)
              exact hij this
            have hp' := hp
            unfold parB at hp'
            simp only [Bool.and_eq_true, List.all_cons, List.all_nil, Bool.and_true, decide_eq_true_eq] at hp'
            exact ss_par2 ok i1 j1 hij hp'.2.1.1 hp'.2.2.1 (SN hir) (sw_some2 (by rw [ok.sc]; exact hp) hxy)
          · cases h
        · cases h
      · split at h
        · rename_i hp
          split at h
          · rename_i tgs irs h1 h2
            cases h
            exact par_of wo cx hfs hbs hp (by simp) h1 h2
          · cases h
        · cases h
    · rename_i x px y py z pz a b d
      split at h
      · rename_i hp
        split at h
        · rename_i i j l irs hi hj hl hir
          split at h
          · rename_i hij
            cases h
            have hij : (i ≠ j ∧ i ≠ l) ∧ j ≠ l := by simpa using hij
            obtain ⟨⟨hij, hil⟩, hjl⟩ := hij
            obtain ⟨i1, _, _⟩ := cN_ok hi
            obtain ⟨j1, _, _⟩ := cN_ok hj
            obtain ⟨l1, _, _⟩ := cN_ok hl
            have dist : ∀ {i j : Nat} {x y : Str}, c.N[i]? = some x → c.N[j]? = some y → i ≠ j → x ≠ y := fun i1 j1 hij e => by
              subst e
              exact hij ((List.getElem?_inj (List.getElem?_eq_some_iff.mp i1).1 ok.nd).mp (i1.trans j1.symm))
            have hp' := hp
            unfold parB at hp'
            simp only [Bool.and_eq_true, List.all_cons, List.all_nil, Bool.and_true, decide_eq_true_eq] at hp'
            exact ss_par3 ok i1 j1 l1 hij hil hjl hp'.2.1.1 hp'.2.2.1.1 hp'.2.2.2.1 (SN hir) (sw_some3 (by rw [ok.sc]; exact hp) (dist i1 j1 hij) (dist i1 l1 hil) (dist j1 l1 hjl))
          · cases h
        · cases h
      · split at h
        · rename_i hp
          split at h
          · rename_i tgs irs h1 h2
            cases h
            exact par_of wo cx hfs hbs hp (by simp) h1 h2
          · cases h
        · cases h
    · split at h
      · rename_i hp
        rw [Bool.and_eq_true, decide_eq_true_eq] at hp
        split at h
        · rename_i tgs irs h1 h2
          cases h
          exact par_of wo cx hfs hbs hp.1 hp.2 h1 h2
        · cases h
      · cases h
  · rename_i y py elt tg iter ifs scope cpos
    dsimp only at h
    split at h
    · rename_i hc
      simp only [Bool.and_eq_true, decide_eq_true_eq] at hc
      obtain ⟨⟨⟨⟨⟨⟨hc1, hc2⟩, hc3⟩, hc4⟩, hc5⟩, hc6⟩, hc7⟩ := hc
      split at h
      · rename_i i t its tests x hi ht his hts hx
        cases h
        have bo := blkOk_by hc1
        have bx := blk_ok wo cx scope
        have it := cIt_ok (tg := tg) ok (fun x hx => wo.bls x (by rw [← hbs]; exact hx)) (SN his)
        have hset : setB iter = false := by simpa using hc2
        have st : ∀ s H A cl fp, STs W ZF (blkX X scope s H A cl fp) ifs (pTests (evs C pr tests)) := fun s H A cl fp => by
          have sn2 := snds_of (Z := ZF) (pr := pr) (optM_ok hts fun e ir he => cE_ok wo k { c with sc := relS scope c.sc, all := false } e ir hfs hbs he) (bx s H A cl fp)
          match ifs, tests, hc3, sn2 with
          | [], [], _, _ => exact sts_nil
          | [a], [b], _, .cons q _ => exact sts_one q.1.t
        have hfun : c.sc.kind = .function := by
          unfold funB at hc4
          cases hq : c.sc.kind <;> rw [hq] at hc4 <;> first | rfl | cases hc4
        exact ss_setLc (pr := pr) ok (cN_ok hi).1 hc5 hfun hc6 (by simpa using hc7) bo it (fun s H A cl fp => (cT_ok (pr := fun i => !(((ownOf c scope).map (·.2)).contains i)) ht (bx s H A cl fp).ok (bx s H A cl fp).fn).1) st (fun s H A cl fp => ((cE_ok wo k { c with sc := relS scope c.sc, all := false } elt x hfs hbs hx pr ZF _ (bx s H A cl fp)).1.v).weak) (noset hset)
      · cases h
    · cases h
  · rename_i o ie p
    split at h
    · cases h
    · rename_i hc
      rw [Bool.or_eq_true] at hc
      have hc1 : compB value = false := by
        cases q : compB value with
        | true => exact absurd (.inl q) hc
        | false => rfl
      have hc2 : plainB ie = true := by
        cases q : plainB ie with
        | true => rfl
        | false => exact absurd (.inr (by rw [q]; rfl)) hc
      split at h
      · rename_i z hz
        split at h
        · rename_i i q x ho hx
          cases h
          obtain ⟨ti, t1, t2, t3, t4⟩ := litI_ok (X := X) hz
          obtain ⟨h1, _⟩ := cP_ok ho ok
          exact ss_set (stg_path h1 t1 t2 (assign_sub hc2)) (IH value x hx).1.v (swaps_no hc1) (sw_no (by rfl)) (by rfl)
        · cases h
      · split at h
        · rename_i i q y x ho hy hx
          cases h
          obtain ⟨h1, _⟩ := cP_ok ho ok
          exact ss_setItem h1 (IH value x hx).1.v (IH ie y hy).1.v (assign_sub hc2) (swaps_no hc1) (sw_no (by rfl))
        · cases h
  · split at h
    · cases h
    · rename_i hc
      rw [Bool.or_eq_true] at hc
      have hc1 : compB value = false := by
        cases q : compB value with
        | true => exact absurd (.inl q) hc
        | false => rfl
      have hc2 : (tupB tg && tupB value) = false := by
        cases q : (tupB tg && tupB value) with
        | true => exact absurd (.inr q) hc
        | false => rfl
      split at h
      · rename_i t x ht hx
        cases h
        obtain ⟨h1, h2⟩ := cT_ok (pr := pr) ht ok cx.fn
        exact ss_set h1 (IH value x hx).1.v (swaps_no hc1) (sw_no hc2) (each_one h2)
      · cases h
theorem sss_of {sts : List Stmt} {ss : List S} (h : Paired (fun st s => SS W Z X pr st (evS C pr s)) sts ss) : SSs W Z X pr sts (evSs C pr ss) := by
  induction h with
  | nil => exact sss_nil
  | cons a b ih => exact sss_cons a ih
theorem cS_ok (wo : WOk W CXp Tb n C fs bs) (cx : CxOk W CXp n c Z X) (hfs : c.fs = fs) (hbs : c.bs = bs) (prs : List Bool) : ∀ (k : Nat) (st : Stmt) (s : S), cS k c prs st = some s → SS W Z X (prOf prs) st (evS C (prOf prs) s) := by
  intro k
  induction k with
  | zero => intro st s h; cases h
  | succ k ih =>
    intro st s h
    have ok := cx.ok
    have IH : ∀ e ir, cE k c e = some ir → Snd W Z X (inertE ir) e (ev C (prOf prs) ir) ∧ NoStar e := fun e ir he => cE_ok wo k c e ir hfs hbs he (prOf prs) Z X cx
    have SN : ∀ {es irs}, optM (cE k c) es = some irs → Snds W Z X C (prOf prs) es irs := fun hi => snds_of (optM_ok hi fun e ir he => cE_ok wo k c e ir hfs hbs he) cx
    have SB : ∀ {sts ss}, optM (cS k c prs) sts = some ss → SSs W Z X (prOf prs) sts (evSs C (prOf prs) ss) := fun hi => sss_of (optM_ok hi ih)
    unfold cS at h
    split at h
    · exact cSet_ok wo cx hfs hbs h
    · rename_i x px op e pos
      split at h
      · rename_i p i y hp hi hy
        split at h
        · rename_i hl
          cases h
          exact ss_aug ok (cN_ok hi).1 (by simpa using hl) hp (IH e y hy).1.v
        · cases h
      · cases h
    · cases h; exact ss_doc
    · rename_i e pos _
      split at h
      · cases h
      · rename_i hc
        split at h
        · rename_i x hx
          cases h
          exact ss_expr (IH e x hx).1.v (swapsN_no (by simpa using hc))
        · cases h
    · cases h; exact ss_retN
    · rename_i e pos
      split at h
      · rename_i x px
        split at h
        · rename_i i hi
          obtain ⟨h1, h2, h3⟩ := cN_ok hi
          obtain ⟨n1, n2, _⟩ := okName_ok h3
          have sp : SPl W X (.Name x px) i [] := spl_var ok h1 h2 n1 n2
          split at h
          · cases h
            exact ss_ret (p := pPlace i []) (sv_place sp)
          · cases h
            exact ss_retVar sp
        · cases h
      · split at h
        · rename_i y hy
          cases h
          exact ss_ret (IH e y hy).1.v
        · cases h
    · rename_i t a b pos
      split at h
      · rename_i x y z hx hy hz
        cases h
        exact ss_if (pc := ev C (prOf prs) x) (IH t x hx).1.t (SB hy) (SB hz)
      · cases h
    · rename_i t b pos
      split at h
      · rename_i x y hx hy
        cases h
        exact ss_while (pc := ev C (prOf prs) x) cx.own (IH t x hx).1.t (SB hy)
      · cases h
    · rename_i tg iter b pos
      split at h
      · cases h
      · rename_i hs
        split at h
        · rename_i t its y ht hi hy
          cases h
          exact ss_for ok cx.own (cIt_ok (tg := tg) ok (fun x hx => wo.bls x (by rw [← hbs]; exact hx)) (SN hi)) (cT_ok ht ok cx.fn).1 (SB hy) (noset (by simpa using hs))
        · cases h
    · cases h; exact ss_break
    · cases h; exact ss_continue
    · cases h; exact ss_pass
    · cases h
end
end Mini

set_option Elab.async false
set_option linter.all false
set_option maxRecDepth 100000
set_option maxHeartbeats 4000000
set_option autoImplicit false
namespace Mini
open PySem PySem.Spec PyProof.Rows L2
section
variable {W : Wd} {CXp : CXT} {Tb : List Fn} {Z : WX} {X : Cx} {n : Nat} {C : Ct} {pr : Nat → Bool} {c : Cc} {fs : List (Str × Nat × Nat)} {bs : List Str} {σ τ : L2.St} {H H' Hf Hf' : Hp} {G : Gk}

theorem cells_step (σ : L2.St) (x : Option M) (a : Env) : cells σ (x :: a) = (match σ.head?, x with | some (some v), some m => [(v, m)] | _, _ => []) ++ cells σ.tail a := by
  cases σ with
  | nil => cases a <;> rfl
  | cons o σ => cases o <;> cases x <;> rfl
theorem cells_nil (σ : L2.St) : cells σ ([] : Env) = [] := by cases σ with
  | nil => rfl
  | cons o σ => cases o <;> rfl
theorem tail_get {α : Type} (l : List α) (i : Nat) : l.tail[i]? = l[i + 1]? := by cases l <;> simp
theorem cells_ext : ∀ (a a' : Env) (σ τ : L2.St), (∀ i, gt a i = gt a' i) → (∀ i m, gt a i = some m → σ[i]? = τ[i]?) → cells σ a = cells τ a'
  | [], [], σ, τ, _, _ => by rw [cells_nil, cells_nil]
  | [], y :: a', σ, τ, h, k => by
    have h0 : none = y := h 0
    subst h0
    rw [cells_step τ, ← cells_ext [] a' σ.tail τ.tail (fun i => h (i + 1)) (fun i m q => by cases q)]
    rw [cells_nil, cells_nil]
    cases τ with
    | nil => rfl
    | cons o τ => cases o <;> rfl
  | x :: a, [], σ, τ, h, k => by
    have h0 : x = none := h 0
    subst h0
    rw [cells_step σ, cells_ext a [] σ.tail τ.tail (fun i => h (i + 1)) (fun i m q => by rw [tail_get, tail_get]; exact k (i + 1) m q)]
    rw [cells_nil, cells_nil]
    cases σ with
    | nil => rfl
    | cons o σ => cases o <;> rfl
  | x :: a, y :: a', σ, τ, h, k => by
    have h0 : x = y := h 0
    subst h0
    rw [cells_step σ, cells_step τ, cells_ext a a' σ.tail τ.tail (fun i => h (i + 1)) (fun i m q => by rw [tail_get, tail_get]; exact k (i + 1) m q)]
    cases x with
    | none =>
      have e : ∀ o : Option (Option V), (match o, (none : Option M) with | some (some v), some m => [(v, m)] | _, _ => ([] : Cells)) = [] := fun o => by
        cases o with
        | none => rfl
        | some o => cases o <;> rfl
      rw [e, e]
    | some m =>
      have e := k 0 m rfl
      have e : σ.head? = τ.head? := by simpa [List.head?_eq_getElem?] using e
      rw [e]
theorem pick_ex (env : Env) (p : Nat → Bool) : ∃ a : Env, a.length = env.length ∧ ∀ i, gt a i = if p i = true then gt env i else none := by
  induction env generalizing p with
  | nil => exact ⟨[], rfl, fun i => by split <;> rfl⟩
  | cons o env ih =>
    obtain ⟨a, h1, h2⟩ := ih fun i => p (i + 1)
    refine ⟨(if p 0 = true then o else none) :: a, by rw [List.length_cons, List.length_cons, h1], fun i => ?_⟩
    cases i with
    | zero => rfl
    | succ i => exact h2 i
theorem gt_finOf {F : Fn} {env : Env} {i : Nat} : gt (finOf F env) i = if (decide (i < F.np) && protB F i) = true then gt env i else none := by
  have e : ∀ (l : Env) (i : Nat), gt l i = (l[i]?).join := by
    intro l
    induction l with
    | nil => intro i; simp [gt]
    | cons o l ih => intro i; cases i with
      | zero => simp [gt]
      | succ i => simp [gt, ih]
  rw [e]
  unfold finOf
  rw [List.getElem?_map]
  by_cases hi : i < F.np
  · rw [List.getElem?_range hi]
    simp [hi]
  · rw [List.getElem?_eq_none (by simp; omega)]
    simp [hi]
/-- what a call leaves of its parameters -/
theorem fin_cells {F : Fn} {env : Env} {vs : List V} {N : List Str} (hl : vs.length = F.np) (hp : ∀ i, prOf F.prot i = true → i < F.np → σ[i]? = (L2.start N vs)[i]?) : ∃ D, (cells σ env).Perm (D ++ cells (vs.map some) (finOf F env)) := by
  obtain ⟨a, a1, a2⟩ := pick_ex env fun i => decide (i < F.np) && protB F i
  obtain ⟨b, b1, b2⟩ := pick_ex env fun i => !(decide (i < F.np) && protB F i)
  refine ⟨cells σ b, ?_⟩
  have e : cells (vs.map some) (finOf F env) = cells σ a := (cells_ext a (finOf F env) σ (vs.map some) (fun i => by rw [a2, gt_finOf]) (fun i m q => by
    rw [a2] at q
    split at q
    · rename_i hc
      rw [Bool.and_eq_true, decide_eq_true_eq] at hc
      rw [hp i hc.2 hc.1]
      unfold L2.start
      rw [List.getElem?_append_left (by simp; omega)]
    · cases q)).symm
  rw [e]
  refine (cells_split b1 a1 fun i => ?_)
  rw [a2, b2]
  cases (decide (i < F.np) && protB F i) <;> simp
theorem cells_start {vs : List V} {ms : List M} : ∀ {k j : Nat}, ms.length = vs.length → cells (vs.map some ++ List.replicate k none) (ms.map some ++ List.replicate j none) = vs.zip ms := by
  induction vs generalizing ms with
  | nil =>
    intro k j hl
    have : ms = [] := List.eq_nil_of_length_eq_zero hl
    subst this
    have key : ∀ (k j : Nat), cells (List.replicate k none) (List.replicate j none : Env) = [] := by
      intro k
      induction k with
      | zero => intro j; cases j <;> rfl
      | succ k ih => intro j; cases j with
        | zero => rfl
        | succ j => exact ih j
    exact key k j
  | cons v vs ih =>
    intro k j hl
    cases ms with
    | nil => cases hl
    | cons m ms =>
      show (v, m) :: cells (vs.map some ++ List.replicate k none) (ms.map some ++ List.replicate j none) = _
      rw [ih (by simpa using hl)]
      rfl
/-- THE RULE for a def where no repr is under way -/
theorem fnG_of {k : Nat} {f : Addr} {name qual : Str} {params : Arguments} {body : List Stmt} {scope : Scope} {dV kV doc pm cdv ct oc : Value} {an od : Option Addr} {osl : Array (Option Value)} {N ps : List Str} {sp : Sp}
    (known : W.G.K.lookup f = some ⟨oc, od, .func (PySem.W.fnOf name qual params body scope dV kV doc pm an cdv ct), osl⟩) (code : PySem.W.codeIn W.G.K cdv qual = true) (S : FnScope N ps scope) (len : ∀ vs H Q E, sp vs H Q E → vs.length = ps.length)
    (walk : ∀ (A : Around) (outer : List PySem.Env) (s : Shared) (H : Hp) (vs : List V) (Q : VK) (E : XK), Room k (A.deeper (envOfC qual scope s.heap.objs.size f cdv)) → A.guards = some [] → sp vs H Q E →
      ∃ t, PSs (cxOf CXp W.P W.w W.G.K W.mg W.base N qual scope f cdv A outer s H E) body t ∧ t { nx := fun _ H' => Q .non H', rt := Q } (L2.start N vs) H) : FnG W CXp (k + 1) f (PySem.W.fnOf name qual params body scope dV kV doc pm an cdv ct) ps sp where
  len := len
  run := fun A outer s H args us vs Q E room gd e0 binds rel promise => by
    have nvs := len _ _ _ _ promise
    have there : W.G.K.In s.heap := e0.mod.kin.keeps fun b o e => (e0.bs b o e).1
    have nolim : s.heap.NoLimit := e0.mod.nolimit.keeps fun b o e => (e0.bs b o e).1
    have kinds : ∀ y ∈ ps.zip us, scope.names.lookup y.1 = some .local ∨ (scope.names.lookup y.1 = some .cell ∧ ((cellsFrom (s.heap.objs.size + 1) scope.names []).lookup y.1).isSome = true) := by
      rintro ⟨nm, v⟩ hy
      exact (S.par nm (List.of_mem_zip hy).1).imp id fun q => ⟨q, PySem.W.cellsFrom_some _ _ _ (.inl q)⟩
    refine codeAny_call_function room.depth (there _ _ known) rfl S.co S.gen rfl (PySem.W.codeRec_of there code) (binds _ _ _ _ (wpAny_newFunctionEnv_cells S.kind kinds fun env he s1 x => ?_))
    subst he
    refine ⟨nolim.keeps x.toInCall.keep, codeAny_func ?_⟩
    obtain ⟨t, ht, reads⟩ := walk A outer s H vs Q E (room.deeper _) gd promise
    have I : Inv (cxOf CXp W.P W.w W.G.K W.mg W.base N qual scope f cdv A outer s H E) [] (L2.start N vs) H s1 := inv_start S room.hd e0 nvs rel x
    refine wpAny_mono (ht.run [] s1 (L2.start N vs) H _ I reads) (fun fl s2 post => ?_) fun _ _ z => z
    match fl, post with
    | .ret u, ⟨v, _, H2, J, rv, q⟩ => exact ⟨v, H2, J.os, J.bare, J.base, J.hok, rv, q⟩
    | .next, ⟨_, H2, J, q⟩ => exact ⟨V.non, H2, J.os, J.bare, J.base, J.hok, rfl, q⟩
    | .brk, ⟨_, _, _, q⟩ => exact False.elim q
    | .cont, ⟨_, _, _, q⟩ => exact False.elim q
/-- a row of defs -/
structure FI where
  x : Str
  st : Stmt
  N : List Str
  ps : List Str
  prs : List Bool
def fsFrom : Nat → List FI → List (Str × Nat × Nat)
  | _, [] => []
  | k, F :: r => (F.x, k, F.ps.length) :: fsFrom (k + 1) r
theorem fsFrom_ok : ∀ {L : List FI} {k : Nat} {x : Str} {i np : Nat}, (fsFrom k L).lookup x = some (i, np) → ∃ F, k ≤ i ∧ L[i - k]? = some F ∧ F.x = x ∧ F.ps.length = np
  | [], k, x, i, np, h => by cases h
  | F :: r, k, x, i, np, h => by
    have h : List.lookup x ((F.x, k, F.ps.length) :: fsFrom (k + 1) r) = some (i, np) := h
    rw [List.lookup_cons] at h
    cases e : (x == F.x) with
    | true =>
      rw [e] at h
      cases h
      have e : x = F.x := by simpa using e
      exact ⟨F, Nat.le_refl _, by simp, e.symm, rfl⟩
    | false =>
      rw [e] at h
      obtain ⟨F', h1, h2, h3⟩ := fsFrom_ok h
      refine ⟨F', by omega, ?_, h3⟩
      have : i - k = (i - (k + 1)) + 1 := by omega
      rw [this]
      simpa using h2
def ccOf (L : List FI) (bs : List Str) (F : FI) : Cc := ⟨F.N, defScope F.st, fsFrom 0 L, bs, true⟩
def cFn (fuel : Nat) (L : List FI) (bs : List Str) (F : FI) : Option Fn := match optM (cS fuel (ccOf L bs F) F.prs) (defBody F.st) with
  | some body => some ⟨F.ps.length, F.N.length, F.prs, body⟩
  | none => none
theorem tab_ok {L : List FI} {fuel : Nat} (ht : optM (cFn fuel L bs) L = some Tb) (hb : ∀ x, x ∈ bs → W.mg x = none)
    (hf : ∀ (i : Nat) (F : FI), L[i]? = some F → ∃ fa fd, W.mg F.x = some (.ref fa) ∧ Fun W.G.K F.x F.x F.st fa fd ∧ Binds W.G.K fd F.ps [] ∧ FnScope F.N F.ps (defScope F.st)) :
    ∀ (n i : Nat) (F : FI) (fa : Addr) (fd : FuncData), L[i]? = some F → W.mg F.x = some (.ref fa) → Fun W.G.K F.x F.x F.st fa fd → FnScope F.N F.ps (defScope F.st) → FnG W CX0 n fa fd F.ps (spOf W Tb n i F.ps.length) := by
  have hT : ∀ (i : Nat) (F : FI), L[i]? = some F → ∃ body, Tb[i]? = some ⟨F.ps.length, F.N.length, F.prs, body⟩ ∧ optM (cS fuel (ccOf L bs F) F.prs) (defBody F.st) = some body := by
    have pp := optM_ok (P := fun F (G : Fn) => cFn fuel L bs F = some G) ht fun a b h => h
    clear ht
    intro i F hi
    have key : ∀ {l : List FI} {T : List Fn}, Paired (fun F (G : Fn) => cFn fuel L bs F = some G) l T → ∀ {i : Nat} {F : FI}, l[i]? = some F → ∃ G, T[i]? = some G ∧ cFn fuel L bs F = some G := by
      intro l T h
      induction h with
      | nil => intro i F h; simp at h
      | cons a b ih =>
        intro i F h
        cases i with
        | zero =>
          simp at h
          subst h
          exact ⟨_, rfl, a⟩
        | succ i => simpa using ih (by simpa using h)
    obtain ⟨G, g1, g2⟩ := key pp hi
    unfold cFn at g2
    split at g2
    · rename_i body hb
      cases g2
      exact ⟨body, g1, hb⟩
    · cases g2
  intro n
  induction n with
  | zero =>
    intro i F fa fd hi hm hF hS
    refine ⟨fun vs H Q E h => h.1, fun A outer s H args us vs Q E _ _ _ _ _ h => ?_⟩
    obtain ⟨_, Hf, ms, Tm, _, _, g⟩ := h
    exact g.elim
  | succ n ih =>
    intro i F fa fd hi hm hF hS
    obtain ⟨oc, od, kV, doc, pm, an, cdv, ct, osl, rfl, lk, hcd⟩ := hF.ex
    obtain ⟨body, hTb, hcomp⟩ := hT i F hi
    refine fnG_of lk hcd hS (fun vs H Q E h => h.1) fun A outer s H vs Q E hr gd h => ?_
    obtain ⟨hnp, Hf, ms, Tm, hml, own, g⟩ := h
    let C : Ct := ⟨run Tb n, fun g => match Tb[g]? with | some G => G.prot | none => []⟩
    have wo : WOk W CX0 Tb n C (fsFrom 0 L) bs := ⟨rfl, fun x j np hl => by
      obtain ⟨F', h1, h2, h3, h4⟩ := fsFrom_ok hl
      obtain ⟨fa', fd', m1, m2, m3, m4⟩ := hf (j - 0) F' h2
      subst h3
      exact ⟨fa', fd', F'.ps, h4, m1, m2.kp, ih j F' fa' fd' h2 m1 m2 m4, m3⟩, hb, fun X σ _ _ _ _ _ _ h => h.elim⟩
    let X := (cxOf CX0 W.P W.w W.G.K W.mg W.base F.N F.x (defScope F.st) fa cdv A outer s H E).nox
    have cx : CxOk W CX0 n (ccOf L bs F) (fun cls d _ H => E cls d H) X := ⟨⟨rfl, rfl, rfl, rfl, rfl, rfl, hS.nd, rfl, rfl, hr, gd⟩, fun σ _ _ _ _ _ _ h => h.elim, PassesOwn.never, fun _ _ => rfl⟩
    obtain ⟨t, p, q⟩ := sss_of (optM_ok hcomp fun st s hs => cS_ok wo cx rfl rfl F.prs fuel st s hs)
    refine ⟨t, p.nox, q (L2.start F.N vs) H Hf (ms.map some ++ List.replicate (F.N.length - F.ps.length) none) Tm _ ⟨⟨?_, ?_⟩, ?_⟩ ?_⟩
    · unfold L2.start
      rw [List.length_append, List.length_append, List.length_map, List.length_map, List.length_replicate, List.length_replicate, hml, hnp]
    · intro j m hj
      have hj2 := gt_some.mp hj
      have hlt : j < ms.length := by
        by_cases hlt : j < ms.length
        · exact hlt
        · rw [List.getElem?_append_right (by simp; omega), List.getElem?_replicate] at hj2
          split at hj2 <;> cases hj2
      refine ⟨vs[j]'(by omega), ?_⟩
      unfold L2.start
      rw [List.getElem?_append_left (by simp; omega), List.getElem?_map, List.getElem?_eq_getElem (by omega)]
      rfl
    · unfold L2.start
      rw [cells_start hml]
      exact own
    · have g : GoodC (match Tb[i]? with
        | some F => if ms.length = F.np then match evSs C (protB F) F.body (ms.map some ++ List.replicate (F.nn - F.np) none) with
          | .ok (.rt m) env => .ok m (finOf F env)
          | .ok .nx env => .ok (.imm .non) (finOf F env)
          | .ok _ _ => .fail
          | .exc x env => .exc x (finOf F env)
          | .fail => .fail
        else .fail
        | none => .fail) _ _ := g
      rw [hTb] at g
      simp only [] at g
      rw [if_pos (by rw [hml, hnp])] at g
      have fin : ∀ {σ' : L2.St} {env : Env}, Agree (prOf F.prs) (L2.start F.N vs) σ' → ∃ D, (cells σ' env).Perm (D ++ cells (vs.map some) (finOf ⟨F.ps.length, F.N.length, F.prs, body⟩ env)) := fun {σ' env} a => fin_cells (F := ⟨F.ps.length, F.N.length, F.prs, body⟩) (N := F.N) hnp fun j hj _ => a.2 j hj
      have hev : evSs C (protB ⟨F.ps.length, F.N.length, F.prs, body⟩) body (ms.map some ++ List.replicate (F.N.length - F.ps.length) none) = evSs C (prOf F.prs) body (ms.map some ++ List.replicate (F.N.length - F.ps.length) none) := rfl
      rw [hev] at g
      cases hr2 : evSs C (prOf F.prs) body (ms.map some ++ List.replicate (F.N.length - F.ps.length) none) with
      | fail => rw [hr2] at g; exact g.elim
      | exc x env =>
        rw [hr2] at g
        intro σ' a cls d H' Hf' e st r
        obtain ⟨D, pm⟩ := fin (env := env) a
        exact g cls d H' Hf' e (Own.right (L := D) (Own.perm (by rw [← List.append_assoc]; exact pm.append_right _) st.2)) r
      | ok fl env =>
        rw [hr2] at g
        cases fl with
        | rt m =>
          intro v σ' H' Hf' e a st
          obtain ⟨D, pm⟩ := fin (env := env) a
          refine g v H' Hf' e (Own.right (L := D) (Own.perm ?_ st.front))
          refine (List.Perm.cons _ (pm.append_right _)).trans ?_
          rw [List.append_assoc]
          exact List.perm_middle.symm
        | nx =>
          intro σ' H' Hf' e a st
          obtain ⟨D, pm⟩ := fin (env := env) a
          refine g .non H' Hf' e (Own.imm (Own.right (L := D) (Own.perm ?_ st.2)) rfl)
          rw [← List.append_assoc]
          exact pm.append_right _
        | bk => exact g.elim
        | ct => exact g.elim
end
end Mini

set_option Elab.async false
set_option linter.all false
set_option maxRecDepth 100000
set_option maxHeartbeats 4000000
set_option autoImplicit false
namespace Mini
open PySem PySem.Spec PyProof.Rows L2

/-- the script as the law's def gets it -/
def scriptM (ns : List Int) : M := .imm (.frl (ns.map D.int))
/-- what is to be shown of the instructions -/
def LawOk (Tb : List Fn) (k i n : Nat) : Prop := ∀ ns : List Int, ns.length ≤ n → GoodC (run Tb k i [scriptM ns]) (fun m _ => m = .imm (.bl true)) fun _ _ => False
theorem repDs_ints {G : Gk} {H : Hp} : ∀ ns : List Int, RepDs G H (ns.map D.int) (ns.map V.int)
  | [] => rfl
  | n :: ns => ⟨.int n, _, rfl, rfl, repDs_ints ns⟩
section
variable {P : Program} {w : World} {K : PySem.W.Frag} {ca ea : Nat → Addr} {mg mb : Str → Option Value} {k i n : Nat} {fa a : Addr} {fd : FuncData} {x : Str} {Tb : List Fn} {t : Shared} {vs : List Value} {ns : List Int}
theorem top_sp {W : Wd} {H : Hp} (law : LawOk Tb k i n) (hn : ns.length ≤ n) (h : SqL W.G.K H a (ns.map V.int)) : spOf W Tb k i 1 [.ref a] H (fun v _ => v = .bl true) fun _ _ _ => False := by
  refine ⟨rfl, H, [scriptM ns], [], rfl, ⟨Same.refl _, [], ?_, List.nodup_nil, fun b hb => by cases hb⟩, ?_⟩
  · exact ⟨.ref a, [], [], [], rfl, rfl, ⟨rfl, a, ns.map V.int, rfl, h, repDs_ints ns⟩, rfl, rfl⟩
  · have g := law ns hn
    cases r : run Tb k i [scriptM ns] with
    | fail => rw [r] at g; exact g
    | exc y fin => rw [r] at g; exact g.elim
    | ok m fin =>
      rw [r] at g
      have g : m = .imm (.bl true) := g
      subst g
      intro v H' Hf' e o
      exact o.head
/-- the law's own call -/
theorem law_callG (KX : K.In t.heap) (glob : t.heap.Ns mainGlobals mg) (built : t.heap.Ns builtinsNs mb) (same : ∀ y : Str, y ≠ "__name__" → mb y = bootBuiltins y) (nolim : t.heap.NoLimit) (nogen : t.gens = #[])
    (scr : t.heap.get? a = some { cls := .type "list", data := .seq vs.toArray }) (are : IntsAre vs ns) (few : ns.length ≤ sizeLine) (room : Room k callerA)
    (F : ∀ base : Heap, K.In base → base.Ns mainGlobals mg → FnG ⟨P, w, ⟨K, ca⟩, mg, base, ea⟩ CX0 k fa fd [x] (spOf ⟨P, w, ⟨K, ca⟩, mg, base, ea⟩ Tb k i 1)) (binds : ∀ (s : Shared) (u : Value), BindsTo s fd ⟨[u], []⟩ [(x, u)])
    (law : LawOk Tb k i n) (hn : ns.length ≤ n) :
    codeAny (model P w) callerA (.call (.ref fa) ⟨[.ref a], []⟩) (fun r s' => r = .ok (.ret (.bool true)) ∧ OldK t.heap s'.heap ∧ s'.os = t.os ∧ AllBare s'.gens) t := by
  have vals := vals_ints are
  have lens := are.length
  have main : ∀ H : Hp, Only H → SqL K H a (ns.map V.int) → HOk P w H t.heap → (∀ b, H b ≠ none → b = a) → (H a ≠ none → K.lookup a = none) →
      codeAny (model P w) callerA (.call (.ref fa) ⟨[.ref a], []⟩) (fun r s' => r = .ok (.ret (.bool true)) ∧ OldK t.heap s'.heap ∧ s'.os = t.os ∧ AllBare s'.gens) t := by
    intro H only seq holds alone own
    have unseen : ∀ {b : Addr} {o : Obj}, t.heap.get? b = some o → H b = none → (hidT t.heap H).get? b = some o := fun e1 e2 => hidT_get e1 e2
    have dicts : ∀ {b : Addr} {o : Obj} {es : Array DictEntry} {ep : Nat}, t.heap.get? b = some o → o.data = .dict es ep → H b = none := by
      intro b o es ep e1 e2
      cases q : H b with
      | none => rfl
      | some u =>
        have hb : b = a := alone b (by rw [q]; exact fun z => by cases z)
        rw [hb, scr] at e1
        cases e1
        have e2 : Data.seq vs.toArray _ = Data.dict es ep := e2
        cases e2
    have spaces : ∀ {b : Addr} {m : Str → Option Value}, t.heap.Ns b m → (hidT t.heap H).Ns b m := by
      rintro b m ⟨o, es, ep, e1, e2, r⟩
      exact ⟨o, es, ep, unseen e1 (dicts e1 e2), e2, r⟩
    have inB : K.In (hidT t.heap H) := by
      intro b o e
      refine unseen (KX b o e) ?_
      cases q : H b with
      | none => rfl
      | some u =>
        have hb : b = a := alone b (by rw [q]; exact fun z => by cases z)
        subst hb
        rw [own (by rw [q]; exact fun z => by cases z)] at e
        cases e
    have module : Mod K mg (hidT t.heap H) := ⟨inB, spaces glob, ⟨mb, spaces built, same⟩, nolim.imp fun mc h => ⟨spaces h.1, h.2⟩⟩
    have start0 : Env0 P w K mg (hidT t.heap H) callerA [] t H := ⟨rfl, module, fun b o e => of_hidT e, Nat.le_of_eq (hidT_size _ _), trivial, fun b hb => (by cases hb), holds, .of_eq nogen⟩
    have goes := (F _ inB (spaces glob)).run callerA [] t H ⟨[.ref a], []⟩ [.ref a] [.ref a] _ _ room rfl start0 (binds t (.ref a)) (.cons rfl .nil) (top_sp (W := ⟨P, w, ⟨K, ca⟩, mg, hidT t.heap H, ea⟩) law hn seq)
    refine codeAny_mono goes fun r s' h => ?_
    match r, h with
    | .error e, h => exact False.elim h
    | .ok .next, h => exact False.elim h
    | .ok .brk, h => exact False.elim h
    | .ok .cont, h => exact False.elim h
    | .ok (.ret u), ⟨v, H', os, bare, un, holds', rv, q⟩ =>
      have q : v = .bl true := q
      subst q
      obtain rfl : u = Value.bool true := rv
      refine ⟨rfl, OldK.of_keep fun b o e => ?_, os, bare⟩
      cases q : H b with
      | none => exact un.keep b o e q (by intro z; cases z) (by simp)
      | some u =>
        rcases only b with z | ⟨ob, xs, z⟩
        · rw [q] at z; cases z
        · have z2 := un.frzs b ob _ z
          have g1 := (holds b _ z).1
          have g2 := (holds' b _ z2).1
          rw [e] at g1
          cases g1
          exact g2
  cases hk : K.lookup a with
  | some o =>
    have e := KX a o hk
    rw [scr] at e
    cases e
    exact main (fun _ => none) (fun _ => .inl rfl) (.inr ⟨_, vs.toArray, _, hk, rfl, rfl, rfl, by rw [List.size_toArray, lens]; exact few, by simpa using vals⟩) (fun b u z => by cases (show (none : Option HO) = some u from z)) (fun b z => absurd rfl z) fun z => absurd rfl z
  | none =>
    let H0 : Hp := fun b => if b = a then some (.frz { cls := .type "list", data := .seq vs.toArray } (.lst (ns.map V.int))) else none
    have at_a : H0 a = some (.frz { cls := .type "list", data := .seq vs.toArray } (.lst (ns.map V.int))) := if_pos rfl
    have off_a : ∀ b, b ≠ a → H0 b = none := fun b hb => if_neg hb
    refine main H0 (fun b => ?_) (.inl (.inr ⟨_, at_a⟩)) (fun b u z => ?_) (fun b z => ?_) fun _ => hk
    · by_cases hb : b = a
      · exact .inr ⟨_, _, by rw [hb]; exact at_a⟩
      · exact .inl (off_a b hb)
    · by_cases hb : b = a
      · subst hb
        rw [at_a] at z
        cases z
        exact ⟨scr, by rw [List.length_map]; exact few, vs, _, vals, scr⟩
      · rw [off_a b hb] at z; cases z
    · by_cases hb : b = a
      · exact hb
      · exact absurd (off_a b hb) z
end
/-- the goal that the kit's head leaves, from the law of the instructions -/
theorem walkG {l : PySem.W.OpenLaw} {n k i : Nat} {q : Program} {loose : List Str} {XP : (Str → Option Value) → Heap → Prop} {YP : World → Heap → Prop} {d : DefRec} {K : Params → PySem.W.Frag} {ca ea : Nat → Addr} {x : Str} {Tb : List Fn}
    (most : l.most = some n) (few : n ≤ sizeLine) (nodef : d.params.defaults = []) (room : Room k callerA) (inn : ∀ (w : World) (h : Heap), YP w h → (K w.params).In h)
    (F : ∀ (w : World) (mg : Str → Option Value) (fa : Addr) (h : Heap), (K w.params).In h → h.Ns mainGlobals mg → mg d.name = some (.ref fa) →
      ∃ fd : FuncData, (∀ (s : Shared) (u : Value), BindsTo s fd ⟨[u], []⟩ [(x, u)]) ∧
        ∀ base : Heap, (K w.params).In base → base.Ns mainGlobals mg → FnG ⟨l.prog, w, ⟨K w.params, ca⟩, mg, base, ea⟩ CX0 k fa fd [x] (spOf ⟨l.prog, w, ⟨K w.params, ca⟩, mg, base, ea⟩ Tb k i 1))
    (law : LawOk Tb k i n) : PySem.W.WalkO q loose XP YP l.row.toRowW d [] (fun f vs => PySem.call f vs) := by
  refine Att.attach_call most nodef fun w s0 t mg mb fa o pm cd doc a vs ns G Y ho hd hcd hmg hobj hints hlen hg => ?_
  have KX := inn w _ Y
  obtain ⟨fd, hb, hF⟩ := F w mg fa _ KX G.T.g hmg
  exact law_callG KX G.T.g G.T.b G.T.builtins G.T.nolimit hg hobj hints (Nat.le_trans hlen few) room hF hb law hlen
end Mini

set_option Elab.async false
set_option linter.all false
set_option maxRecDepth 100000
set_option maxHeartbeats 4000000
set_option autoImplicit false
namespace Mini
open PySem PySem.Spec PyProof.Rows L2
@[simp] theorem bind_ok' {α β : Type} (a : α) (env : Env) (f : α → Env → R β) : (R.ok a env).bind f = f a env := rfl
/-- an int, a bool, a text as trees -/
abbrev mI (i : Int) : M := .imm (.int i)
abbrev mB (b : Bool) : M := .imm (.bl b)
def toCR (F : Fn) : R Flw → CR
  | .ok (.rt m) env => .ok m (finOf F env)
  | .ok .nx env => .ok (.imm .non) (finOf F env)
  | .ok _ _ => .fail
  | .exc x env => .exc x (finOf F env)
  | .fail => .fail
noncomputable def ctOf (T : List Fn) (n : Nat) : Ct := ⟨run T n, fun g => match T[g]? with | some G => G.prot | none => []⟩
theorem run_eq (T : List Fn) (n f : Nat) (ms : List M) (F : Fn) (h : T[f]? = some F) (hl : ms.length = F.np) : run T (n + 1) f ms = toCR F (evSs (ctOf T n) (protB F) F.body (ms.map some ++ List.replicate (F.nn - F.np) none)) := by
  have e : run T (n + 1) f ms = (match T[f]? with
    | some F => if ms.length = F.np then toCR F (evSs (ctOf T n) (protB F) F.body (ms.map some ++ List.replicate (F.nn - F.np) none)) else .fail
    | none => .fail : CR) := by
    cases hf : T[f]? with
    | none => show (match T[f]? with | some F => _ | none => CR.fail) = _; rw [hf]
    | some G =>
      show (match T[f]? with | some F => _ | none => CR.fail) = _
      rw [hf]
      simp only []
      by_cases q : ms.length = G.np
      · rw [if_pos q, if_pos q]
        show (match evSs (ctOf T n) (protB G) G.body (ms.map some ++ List.replicate (G.nn - G.np) none) with
          | .ok (.rt m) env => .ok m (finOf G env)
          | .ok .nx env => .ok (.imm .non) (finOf G env)
          | .ok _ _ => .fail
          | .exc x env => .exc x (finOf G env)
          | .fail => .fail : CR) = _
        cases evSs (ctOf T n) (protB G) G.body (ms.map some ++ List.replicate (G.nn - G.np) none) with
        | ok f env => cases f <;> rfl
        | exc x env => rfl
        | fail => rfl
      · rw [if_neg q, if_neg q]
  rw [e, h]
  simp only []
  rw [if_pos hl]
end Mini

set_option Elab.async false
set_option linter.all false
set_option maxRecDepth 100000
set_option maxHeartbeats 4000000
set_option autoImplicit false
namespace Mini
open PySem PySem.Spec PyProof.Rows L2
section
variable {C : Ct} {pr : Nat → Bool} {env env' : Env} {X : Exn → Env → Prop} {i : Nat} {p : List PS} {d : D} {e a b : E} {es : List E} {r : List (E × EvP)}
/-- a def's run -/
theorem run_good {T : List Fn} {n f : Nat} {ms : List M} {F : Fn} {K : M → List (Option M) → Prop} {Xc : Exn → List (Option M) → Prop} (env0 : Env) (h : T[f]? = some F) (hl : ms.length = F.np) (he : ms.map some ++ List.replicate (F.nn - F.np) none = env0)
    (g : Good (evSs (ctOf T n) (protB F) F.body env0) (fun fl env => match fl with
      | .rt m => K m (finOf F env)
      | .nx => K (.imm .non) (finOf F env)
      | _ => False) (fun x env => Xc x (finOf F env))) : GoodC (run T (n + 1) f ms) K Xc := by
  subst he
  rw [run_eq T n f ms F h hl]
  cases q : evSs (ctOf T n) (protB F) F.body (ms.map some ++ List.replicate (F.nn - F.np) none) with
  | fail => rw [q] at g; exact g
  | exc x env => rw [q] at g; exact g
  | ok fl env => rw [q] at g; cases fl <;> exact g
theorem GoodC.mono {r : CR} {K K' : M → List (Option M) → Prop} {Xc Xc' : Exn → List (Option M) → Prop} (h : GoodC r K Xc) (k : ∀ m fin, K m fin → K' m fin) (x : ∀ e fin, Xc e fin → Xc' e fin) : GoodC r K' Xc' := by
  cases r with
  | ok m fin => exact k m fin h
  | exc e fin => exact x e fin h
  | fail => exact h
/-! expressions -/
theorem g_const {K : M → Env → Prop} (k : K (.imm d) env) : Good ((ev C pr (.const d)).v env) K X := k
theorem g_place {K : M → Env → Prop} (h : getE env i p = some (.imm d)) (k : K (.imm d) env) : Good ((ev C pr (.place i p)).v env) K X := by
  show Good (match getE env i p with
    | some (.imm d) => .ok (.imm d) env
    | some m => match putE env i p (.imm (frz m)) with
      | some env' => .ok (.imm (frz m)) env'
      | none => .fail
    | none => .fail : R M) K X
  rw [h]
  exact k
theorem g_placeF {m : M} {K : M → Env → Prop} (h : getE env i p = some m) (hm : isImm m = false) (h2 : putE env i p (.imm (frz m)) = some env') (k : K (.imm (frz m)) env') : Good ((ev C pr (.place i p)).v env) K X := by
  show Good (match getE env i p with
    | some (.imm d) => .ok (.imm d) env
    | some m => match putE env i p (.imm (frz m)) with
      | some env' => .ok (.imm (frz m)) env'
      | none => .fail
    | none => .fail : R M) K X
  rw [h]
  cases m with
  | imm d => cases hm
  | _ => simp only [h2]; exact k
theorem ga_imm {K : A → Env → Prop} (h : getE env i p = some (.imm d)) (k : K (.val (.imm d)) env) : Good ((ev C pr (.place i p)).a env) K X := by
  show Good (match getE env i p with
    | some (.imm d) => .ok (.val (.imm d)) env
    | some _ => .ok (.ref i p) env
    | none => .fail : R A) K X
  rw [h]
  exact k
theorem ga_ref {ms : List M} {K : A → Env → Prop} (h : getE env i p = some (.lst ms)) (k : K (.ref i p) env) : Good ((ev C pr (.place i p)).a env) K X := by
  show Good (match getE env i p with
    | some (.imm d) => .ok (.val (.imm d)) env
    | some _ => .ok (.ref i p) env
    | none => .fail : R A) K X
  rw [h]
  exact k
def isPlace : E → Bool
  | .place _ _ => true
  | _ => false
theorem ga_val {K : A → Env → Prop} (hp : isPlace e = false) (k : Good ((ev C pr e).v env) (fun m env => K (.val m) env) X) : Good ((ev C pr e).a env) K X := by
  have key : ∀ f : Env → R M, Good (f env) (fun m env => K (.val m) env) X → Good ((mkV f).a env) K X := fun f h => good_bind.mpr h
  cases e <;> first | exact key _ k | cases hp
def refOk (e : E) (r : List (E × EvP)) : Bool := match e with
  | .place _ (_ :: _) => r.all fun q => inertE q.1
  | _ => true
theorem gs_nil {K : List A → Env → Prop} (k : K [] env) : Good (pArgs [] env) K X := k
theorem gs_cons {pe : EvP} {K : List A → Env → Prop} (h : refOk e r = true) (k : Good (pe.a env) (fun a env => Good (pArgs r env) (fun as env => K (a :: as) env) X) X) : Good (pArgs ((e, pe) :: r) env) K X := by
  have key : Good ((pe.a env).bind fun a env => (pArgs r env).bind fun as env => .ok (a :: as) env) K X := by
    rw [good_bind]
    exact k.mono (fun a env k => good_bind.mpr k) fun _ _ x => x
  cases e with
  | place i p =>
    cases p with
    | nil => exact key
    | cons s q =>
      have h : (r.all fun q => inertE q.1) = true := h
      show Good ((if (r.all fun q => inertE q.1) = true then pe.a env else _).bind _) K X
      rw [if_pos h]
      exact key
  | _ => exact key
theorem gs_consV {pe : EvP} {K : List A → Env → Prop} (h : refOk e r = false) (k : Good (pe.v env) (fun m env => Good (pArgs r env) (fun as env => K (.val m :: as) env) X) X) : Good (pArgs ((e, pe) :: r) env) K X := by
  cases e with
  | place i p =>
    cases p with
    | nil => cases h
    | cons s q =>
      have h : (r.all fun q => inertE q.1) = false := h
      show Good ((if (r.all fun q => inertE q.1) = true then pe.a env else _).bind _) K X
      rw [if_neg (by rw [h]; exact Bool.false_ne_true), good_bind, good_bind]
      exact k.mono (fun a env k => good_bind.mpr k) fun _ _ x => x
  | _ => cases h
theorem g_prim {q : Pr} {K : M → Env → Prop} (hs : isSl q = false) (k : Good (pArgs (es.zip (evs C pr es)) env) (fun as env => ∃ ms, res env as = some ms ∧ ∃ m, primM q ms = some m ∧ K m env) X) : Good ((ev C pr (.prim q es)).v env) K X := by
  show Good ((pPrX q (es.zip (evs C pr es))).v env) K X
  rw [pPrX_eq hs]
  show Good ((pArgs (es.zip (evs C pr es)) env).bind fun as env => match res env as with
    | some ms => ofO (primM q ms) env
    | none => .fail) K X
  rw [good_bind]
  refine k.mono (fun as env k => ?_) fun _ _ x => x
  obtain ⟨ms, h1, m, h2, k⟩ := k
  rw [h1]
  simp only [h2]
  exact k
theorem gt_v {K : Bool → Env → Prop} (h : ∀ env, (ev C pr e).t env = ((ev C pr e).v env).bind fun m env => ofO (truM m) env) (k : Good ((ev C pr e).v env) (fun m env => ∃ b, truM m = some b ∧ K b env) X) : Good ((ev C pr e).t env) K X := by
  rw [h, good_bind]
  refine k.mono (fun m env k => ?_) fun _ _ x => x
  obtain ⟨b, h, k⟩ := k
  rw [h]
  exact k
theorem gt_not {K : Bool → Env → Prop} (k : Good ((ev C pr a).t env) (fun b env => K (!b) env) X) : Good ((ev C pr (.notE a)).t env) K X := good_bind.mpr k
theorem gt_and {K : Bool → Env → Prop} (k : Good ((ev C pr a).t env) (fun c env => if c = true then Good ((ev C pr b).t env) K X else K false env) X) : Good ((ev C pr (.andE a b)).t env) K X := by
  refine good_bind.mpr (k.mono (fun c env k => ?_) fun _ _ x => x)
  cases c <;> exact k
theorem gt_or {K : Bool → Env → Prop} (k : Good ((ev C pr a).t env) (fun c env => if c = true then K true env else Good ((ev C pr b).t env) K X) X) : Good ((ev C pr (.orE a b)).t env) K X := by
  refine good_bind.mpr (k.mono (fun c env k => ?_) fun _ _ x => x)
  cases c <;> exact k
theorem g_and {K : M → Env → Prop} (k : Good ((ev C pr a).v env) (fun m env => ∃ c, truM m = some c ∧ if c = true then Good ((ev C pr b).v env) K X else K m env) X) : Good ((ev C pr (.andE a b)).v env) K X := by
  refine good_bind.mpr (k.mono (fun m env k => ?_) fun _ _ x => x)
  obtain ⟨c, h, k⟩ := k
  rw [h]
  cases c <;> exact k
theorem g_tup {st : List Bool} {K : M → Env → Prop} (k : Good (pItemsS st (evs C pr es) env) (fun ds env => ds.length ≤ sizeLine ∧ K (.imm (.tup ds)) env) X) : Good ((ev C pr (.tupE st es)).v env) K X := by
  refine good_bind.mpr (k.mono (fun ds env k => ?_) fun _ _ x => x)
  rw [if_pos k.1]
  exact k.2
theorem gi_nil {K : List D → Env → Prop} (k : K [] env) : Good (pItemsS [] [] env) K X := k
theorem gi_one {st : List Bool} {pe : EvP} {ps : List EvP} {K : List D → Env → Prop} (k : Good (pe.v env) (fun m env => Good (pItemsS st ps env) (fun ds env => K (frz m :: ds) env) X) X) : Good (pItemsS (false :: st) (pe :: ps) env) K X :=
  good_bind.mpr (k.mono (fun m env k => good_bind.mpr k) fun _ _ x => x)
theorem g_lst {K : M → Env → Prop} (k : Good (pItems (evs C pr es) env) (fun ms env => ms.length ≤ sizeLine ∧ K (.lst ms) env) X) : Good ((ev C pr (.lstE es)).v env) K X := by
  refine good_bind.mpr (k.mono (fun ds env k => ?_) fun _ _ x => x)
  rw [if_pos k.1]
  exact k.2
theorem gm_nil {K : List M → Env → Prop} (k : K [] env) : Good (pItems [] env) K X := k
theorem gm_cons {pe : EvP} {ps : List EvP} {K : List M → Env → Prop} (k : Good (pe.v env) (fun m env => Good (pItems ps env) (fun ms env => K (m :: ms) env) X) X) : Good (pItems (pe :: ps) env) K X :=
  good_bind.mpr (k.mono (fun m env k => good_bind.mpr k) fun _ _ x => x)
theorem g_sl2 {i1 : E} {hi : Bool} {K : M → Env → Prop} {lo : Bool} (hl : lo = !hi) (k : Good (byRef e (ev C pr e) (inertE i1) env) (fun a env => Good ((ev C pr i1).v env) (fun z env => ∃ k m, z = .imm (.int k) ∧ res env [a] = some [m] ∧ ∃ r, sliceM m (if lo then some k else none) (if hi then some k else none) = some r ∧ K r env) X) X) : Good ((ev C pr (.prim (.slice lo hi) [e, i1])).v env) K X := by
  have fin : ∀ {a : A} {env : Env}, Good ((ev C pr i1).v env) (fun z env => ∃ k m, z = .imm (.int k) ∧ res env [a] = some [m] ∧ ∃ r, sliceM m (if lo then some k else none) (if hi then some k else none) = some r ∧ K r env) X →
      Good (((ev C pr i1).v env).bind fun m env => match intM m with | some i => (.ok (some i) env : R (Option Int)) | none => .fail) (fun o env => ∃ k m, o = some k ∧ res env [a] = some [m] ∧ ∃ r, sliceM m (if lo then some k else none) (if hi then some k else none) = some r ∧ K r env) X := fun h => by
    refine good_bind.mpr (h.mono (fun z env h => ?_) fun _ _ x => x)
    obtain ⟨k, m, rfl, h⟩ := h
    exact ⟨k, m, rfl, h⟩
  cases hi with
  | true =>
    subst hl
    show Good ((byRef e (ev C pr e) (inertE i1) env).bind fun a env => (pPart none env).bind fun l env => (pPart (some (ev C pr i1)) env).bind fun h env => match res env [a] with
      | some [m] => ofO (sliceM m l h) env
      | _ => .fail) K X
    refine good_bind.mpr (k.mono (fun a env k => good_bind.mpr (good_bind.mpr ((fin k).mono (fun o env h => ?_) fun _ _ x => x))) fun _ _ x => x)
    obtain ⟨k, m, rfl, h1, r, h2, h3⟩ := h
    rw [h1]
    have h2 : sliceM m none (some k) = some r := h2
    simp only [h2]
    exact h3
  | false =>
    subst hl
    show Good ((byRef e (ev C pr e) (inertE i1) env).bind fun a env => (pPart (some (ev C pr i1)) env).bind fun l env => (pPart none env).bind fun h env => match res env [a] with
      | some [m] => ofO (sliceM m l h) env
      | _ => .fail) K X
    refine good_bind.mpr (k.mono (fun a env k => good_bind.mpr ((fin k).mono (fun o env h => good_bind.mpr ?_) fun _ _ x => x)) fun _ _ x => x)
    obtain ⟨k, m, rfl, h1, r, h2, h3⟩ := h
    show Good (match res env [a] with
      | some [m] => ofO (sliceM m (some k) none) env
      | _ => .fail) K X
    rw [h1]
    have h2 : sliceM m (some k) none = some r := h2
    simp only [h2]
    exact h3
/-! calls -/
theorem gc_nil {K : List A → Env → Prop} (k : K [] env) : Good (pArgsC [] env) K X := k
theorem gc_var {r : List (E × EvP)} {K : List A → Env → Prop} (k : Good ((ev C pr (.place i [])).a env) (fun a env => Good (pArgsC r env) (fun as env => K (a :: as) env) X) X) : Good (pArgsC ((.place i [], ev C pr (.place i [])) :: r) env) K X :=
  good_bind.mpr (k.mono (fun m env k => good_bind.mpr k) fun _ _ x => x)
def isVar : E → Bool
  | .place _ [] => true
  | _ => false
theorem gc_val {pe : EvP} {r : List (E × EvP)} {K : List A → Env → Prop} (h : isVar e = false) (k : Good (pe.v env) (fun m env => Good (pArgsC r env) (fun as env => K (.val m :: as) env) X) X) : Good (pArgsC ((e, pe) :: r) env) K X := by
  have key : Good (((pe.v env).bind fun m env => (.ok (.val m) env : R A)).bind fun a env => (pArgsC r env).bind fun as env => .ok (a :: as) env) K X := by
    rw [good_bind, good_bind]
    exact k.mono (fun a env k => good_bind.mpr k) fun _ _ x => x
  cases e with
  | place i p => cases p with
    | nil => cases h
    | cons s q => exact key
  | _ => exact key
theorem g_call {f : Nat} {K : M → Env → Prop} (k : Good (pArgsC (es.zip (evs C pr es)) env) (fun as env => ∃ ms env1, takeA as (C.prot f) env = some (ms, env1) ∧ GoodC (C.call f ms) (fun m fin => K m (giveA as (C.prot f) fin env1)) (fun x fin => X x (giveA as (C.prot f) fin env1))) X) : Good ((ev C pr (.call f es)).v env) K X := by
  refine good_bind.mpr (k.mono (fun as env k => ?_) fun _ _ x => x)
  obtain ⟨ms, env1, h1, h2⟩ := k
  unfold doCall
  rw [h1]
  simp only []
  cases q : C.call f ms with
  | fail => rw [q] at h2; exact h2
  | ok m fin => rw [q] at h2; exact h2
  | exc x fin => rw [q] at h2; exact h2
theorem g_chg {m : Mt} {ms0 : List M} {K : M → Env → Prop} (ho : (p.isEmpty || es.all inertE) = true) (h0 : getE env i p = some (.lst ms0)) (k : Good (pItems (evs C pr es) env) (fun as env => ∃ ms, getE env i p = some (.lst ms) ∧ ∃ r ms', mutM m ms as = some (r, ms') ∧ ∃ env', putE env i p (.lst ms') = some env' ∧ K r env') X) : Good ((ev C pr (.chg m i p es)).v env) K X := by
  show Good (if (p.isEmpty || es.all inertE) = true then match getE env i p with
    | some (.lst _) => (pItems (evs C pr es) env).bind fun as env => match getE env i p with
      | some (.lst ms) => match mutM m ms as with
        | some (m, ms') => match putE env i p (.lst ms') with
          | some env' => .ok m env'
          | none => .fail
        | none => .fail
      | _ => .fail
    | _ => .fail
  else (.fail : R M)) K X
  rw [if_pos ho, h0]
  refine good_bind.mpr (k.mono (fun as env k => ?_) fun _ _ x => x)
  obtain ⟨ms, h1, r, ms', h2, env', h3, k⟩ := k
  simp only [h1, h2, h3]
  exact k
/-! statements -/
section
variable {K : Flw → Env → Prop} {s : S} {ss s2 : List S}
theorem s_nil (k : K .nx env) : Good (evSs C pr [] env) K X := k
theorem s_cons (k : Good (evS C pr s env) (fun f env => match f with
    | .nx => Good (evSs C pr ss env) K X
    | f => K f env) X) : Good (evSs C pr (s :: ss) env) K X := by
  refine good_bind.mpr (k.mono (fun f env k => ?_) fun _ _ x => x)
  cases f <;> exact k
theorem s_set {tg : Tg} (k : Good ((ev C pr e).v env) (fun m env => ∃ env', bindT pr tg m env = some env' ∧ K .nx env') X) : Good (evS C pr (.set tg e) env) K X := by
  refine good_bind.mpr (k.mono (fun m env k => ?_) fun _ _ x => x)
  obtain ⟨env', h, k⟩ := k
  rw [h]
  exact k
theorem s_par {tgs : List Tg} (k : Good (pItems (evs C pr es) env) (fun ms env => ∃ env', bindTs pr tgs ms env = some env' ∧ K .nx env') X) : Good (evS C pr (.setPar tgs es) env) K X := by
  refine good_bind.mpr (k.mono (fun m env k => ?_) fun _ _ x => x)
  obtain ⟨env', h, k⟩ := k
  rw [h]
  exact k
theorem s_expr (k : Good ((ev C pr e).v env) (fun m env => K .nx env) X) : Good (evS C pr (.expr e) env) K X := good_bind.mpr k
theorem s_ret (k : Good ((ev C pr e).v env) (fun m env => K (.rt m) env) X) : Good (evS C pr (.ret e) env) K X := good_bind.mpr k
theorem s_retVar {m : M} (h : gt env i = some m) (hp : pr i = false) (k : K (.rt m) (env.set i none)) : Good (evS C pr (.retVar i) env) K X := by
  show Good (match gt env i with
      | some m => if pr i then .fail else .ok (.rt m) (env.set i none)
      | none => .fail : R Flw) K X
  rw [h]
  simp only [hp]
  exact k
theorem s_if {t : E} (k : Good ((ev C pr t).t env) (fun b env => if b = true then Good (evSs C pr ss env) K X else Good (evSs C pr s2 env) K X) X) : Good (evS C pr (.ifS t ss s2) env) K X := by
  refine good_bind.mpr (k.mono (fun b env k => ?_) fun _ _ x => x)
  cases b <;> exact k
theorem s_while {t : E} (k : Good ((ev C pr t).t env) (fun b env => if b = true then Good (evSs C pr ss env) (fun f env => match f with
    | .nx => Good (evS C pr (.whileS t ss) env) K X
    | .ct => Good (evS C pr (.whileS t ss) env) K X
    | .bk => K .nx env
    | .rt m => K (.rt m) env) X else K .nx env) X) : Good (evS C pr (.whileS t ss) env) K X := by
  show Good (whileR (whileSt (ev C pr t) (evSs C pr ss)) env) K X
  rw [whileR_eq]
  have e1 : whileSt (ev C pr t) (evSs C pr ss) env = ((ev C pr t).t env).bind fun k env => if k then (evSs C pr ss env).bind fun f env => match f with
    | .nx => .ok none env
    | .ct => .ok none env
    | .bk => .ok (some .nx) env
    | .rt m => .ok (some (.rt m)) env
    else .ok (some .nx) env := rfl
  rw [e1]
  cases q : (ev C pr t).t env with
  | fail => rw [q] at k; exact k
  | exc x env1 => rw [q] at k; exact k
  | ok b env1 =>
    rw [q] at k
    cases b with
    | false => exact k
    | true =>
      have k : Good (evSs C pr ss env1) (fun f env => match f with
        | .nx => Good (evS C pr (.whileS t ss) env) K X
        | .ct => Good (evS C pr (.whileS t ss) env) K X
        | .bk => K .nx env
        | .rt m => K (.rt m) env) X := k
      show Good (match (evSs C pr ss env1).bind fun f env => match f with
        | .nx => .ok none env
        | .ct => .ok none env
        | .bk => .ok (some .nx) env
        | .rt m => .ok (some (.rt m)) env with
        | .ok none env' => whileR (whileSt (ev C pr t) (evSs C pr ss)) env'
        | .ok (some f) env' => .ok f env'
        | .exc x env' => .exc x env'
        | .fail => .fail) K X
      cases q2 : evSs C pr ss env1 with
      | fail => rw [q2] at k; exact k
      | exc x env2 => rw [q2] at k; exact k
      | ok f env2 =>
        rw [q2] at k
        cases f <;> exact k
theorem s_for {tg : Tg} {k : IK} (g : Good (pItems (evs C pr es) env) (fun ms env => ∃ ds, itemsOf k (frzs ms) = some ds ∧ Good (forLoop (fun d env => match bindT pr tg (.imm d) env with
      | some env' => evSs C pr ss env'
      | none => .fail) ds env) K X) X) : Good (evS C pr (.forS tg k es ss) env) K X := by
  show Good ((pIter k (evs C pr es) env).bind _) K X
  rw [good_bind]
  unfold pIter
  rw [good_bind]
  refine g.mono (fun ms env h => ?_) fun _ _ x => x
  obtain ⟨ds, h1, h2⟩ := h
  rw [h1]
  exact h2
/-- a loop by an invariant of what is left -/
theorem for_inv {step : D → EvS} (I : List D → Env → Prop) (h : ∀ d ds env, I (d :: ds) env → Good (step d env) (fun f env => match f with
    | .nx => I ds env
    | .ct => I ds env
    | .bk => K .nx env
    | .rt m => K (.rt m) env) X) (hn : ∀ env, I [] env → K .nx env) : ∀ (ds : List D) (env : Env), I ds env → Good (forLoop step ds env) K X
  | [], env, i => hn env i
  | d :: ds, env, i => by
    show Good ((step d env).bind fun f env => match f with
      | .nx => forLoop step ds env
      | .ct => forLoop step ds env
      | .bk => .ok .nx env
      | .rt m => .ok (.rt m) env) K X
    rw [good_bind]
    refine (h d ds env i).mono (fun f env k => ?_) fun _ _ x => x
    cases f with
    | nx => exact for_inv I h hn ds env k
    | ct => exact for_inv I h hn ds env k
    | bk => exact k
    | rt m => exact k
theorem for_step {step : EvS} {tg : Tg} {d : D} {env2 : Env} (h : bindT pr tg (.imm d) env = some env2) (k : Good (step env2) K X) : Good (match bindT pr tg (.imm d) env with
      | some env' => step env'
      | none => .fail : R Flw) K X := by
  rw [h]
  exact k
end
theorem g_comp {elt : E} {tg : Tg} {k : IK} {ifs : List E} {own : List Nat} {K : M → Env → Prop} (g : Good (pItems (evs C pr es) env) (fun ms env => ∃ ds, itemsOf k (frzs ms) = some ds ∧ Good (compLoop (fun i => !(own.contains i)) tg (ev C pr elt) (evs C pr ifs) own ds (wipeE env own)) (fun ms env' => ms.length ≤ sizeLine ∧ K (.lst ms) (backE env env' own)) (fun _ _ => False)) X) : Good ((ev C pr (.comp elt tg k es ifs own)).v env) K X := by
  show Good ((pIter k (evs C pr es) env).bind fun ds env => (noExc (compLoop (fun i => !(own.contains i)) tg (ev C pr elt) (evs C pr ifs) own ds (wipeE env own))).bind fun ms env' => if ms.length ≤ sizeLine then .ok (.lst ms) (backE env env' own) else .fail) K X
  rw [good_bind]
  unfold pIter
  rw [good_bind]
  refine g.mono (fun ms env h => ?_) fun _ _ x => x
  obtain ⟨ds, h1, h2⟩ := h
  rw [h1]
  show Good ((noExc _).bind _) K X
  rw [good_bind, good_noExc]
  refine h2.mono (fun ms env' h => ?_) fun _ _ x => x
  rw [if_pos h.1]
  exact h.2
/-- a comprehension without tests, by an invariant -/
theorem comp_inv {elt : EvP} {tg : Tg} {own : List Nat} {pr' : Nat → Bool} (I : List D → List M → Env → Prop) {K : List M → Env → Prop} (h : ∀ d ds acc env, I (d :: ds) acc env → ∃ env2, bindT pr' tg (.imm d) (wipeE env own) = some env2 ∧ Good (elt.v env2) (fun m env => I ds (acc ++ [m]) (wipeE env own)) X) (hn : ∀ acc env, I [] acc env → K acc env) :
    ∀ (ds : List D) (acc : List M) (env : Env), I ds acc env → Good (compLoop pr' tg elt [] own ds env) (fun ms env => K (acc ++ ms) env) X
  | [], acc, env, i => by
    show K (acc ++ []) env
    rw [List.append_nil]
    exact hn acc env i
  | d :: ds, acc, env, i => by
    obtain ⟨env2, h1, h2⟩ := h d ds acc env i
    unfold compLoop
    rw [h1]
    suffices go : Good ((elt.v env2).bind fun m env => (compLoop pr' tg elt [] own ds (wipeE env own)).bind fun ms env => .ok (m :: ms) env) (fun ms env => K (acc ++ ms) env) X from go
    rw [good_bind]
    refine h2.mono (fun m env k => ?_) fun _ _ x => x
    rw [good_bind]
    refine (comp_inv I h hn ds (acc ++ [m]) (wipeE env own) k).mono (fun ms env k => ?_) fun _ _ x => x
    show K (acc ++ m :: ms) env
    rw [List.append_assoc] at k
    exact k

/-! the same, by the syntax alone -/
noncomputable def zipE (C : Ct) (pr : Nat → Bool) : List E → List (E × EvP)
  | [] => []
  | e :: r => (e, ev C pr e) :: zipE C pr r
theorem zipE_eq : ∀ es : List E, es.zip (evs C pr es) = zipE C pr es
  | [] => rfl
  | e :: r => by
    show (e, ev C pr e) :: r.zip (evs C pr r) = _
    rw [zipE_eq r]
    rfl
theorem zipE_all : ∀ es : List E, ((zipE C pr es).all fun q => inertE q.1) = es.all inertE
  | [] => rfl
  | e :: r => by
    show (inertE e && ((zipE C pr r).all fun q => inertE q.1)) = (inertE e && r.all inertE)
    rw [zipE_all r]
def refE (e : E) (r : List E) : Bool := match e with
  | .place _ (_ :: _) => r.all inertE
  | _ => true
theorem refE_eq (e : E) (r : List E) : refOk e (zipE C pr r) = refE e r := by
  cases e with
  | place i p => cases p with
    | nil => rfl
    | cons s q => exact zipE_all r
  | _ => rfl
theorem w_prim {q : Pr} {K : M → Env → Prop} (hs : isSl q = false) (k : Good (pArgs (zipE C pr es) env) (fun as env => ∃ ms, res env as = some ms ∧ ∃ m, primM q ms = some m ∧ K m env) X) : Good ((ev C pr (.prim q es)).v env) K X := g_prim hs (by rw [zipE_eq]; exact k)
theorem w_nil {K : List A → Env → Prop} (k : K [] env) : Good (pArgs (zipE C pr []) env) K X := k
theorem w_cons {K : List A → Env → Prop} (h : refE e es = true) (k : Good ((ev C pr e).a env) (fun a env => Good (pArgs (zipE C pr es) env) (fun as env => K (a :: as) env) X) X) : Good (pArgs (zipE C pr (e :: es)) env) K X := gs_cons (by rw [refE_eq]; exact h) k
theorem w_consV {K : List A → Env → Prop} (h : refE e es = false) (k : Good ((ev C pr e).v env) (fun m env => Good (pArgs (zipE C pr es) env) (fun as env => K (.val m :: as) env) X) X) : Good (pArgs (zipE C pr (e :: es)) env) K X := gs_consV (by rw [refE_eq]; exact h) k
theorem w_call {f : Nat} {K : M → Env → Prop} (k : Good (pArgsC (zipE C pr es) env) (fun as env => ∃ ms env1, takeA as (C.prot f) env = some (ms, env1) ∧ GoodC (C.call f ms) (fun m fin => K m (giveA as (C.prot f) fin env1)) (fun x fin => X x (giveA as (C.prot f) fin env1))) X) : Good ((ev C pr (.call f es)).v env) K X := g_call (by rw [zipE_eq]; exact k)
theorem wc_nil {K : List A → Env → Prop} (k : K [] env) : Good (pArgsC (zipE C pr []) env) K X := k
theorem wc_var {K : List A → Env → Prop} (k : Good ((ev C pr (.place i [])).a env) (fun a env => Good (pArgsC (zipE C pr es) env) (fun as env => K (a :: as) env) X) X) : Good (pArgsC (zipE C pr (.place i [] :: es)) env) K X := gc_var k
theorem wc_val {K : List A → Env → Prop} (h : isVar e = false) (k : Good ((ev C pr e).v env) (fun m env => Good (pArgsC (zipE C pr es) env) (fun as env => K (.val m :: as) env) X) X) : Good (pArgsC (zipE C pr (e :: es)) env) K X := gc_val h k
theorem wm_nil {K : List M → Env → Prop} (k : K [] env) : Good (pItems (evs C pr []) env) K X := k
theorem wm_cons {K : List M → Env → Prop} (k : Good ((ev C pr e).v env) (fun m env => Good (pItems (evs C pr es) env) (fun ms env => K (m :: ms) env) X) X) : Good (pItems (evs C pr (e :: es)) env) K X := gm_cons k
theorem wi_nil {K : List D → Env → Prop} (k : K [] env) : Good (pItemsS [] (evs C pr []) env) K X := k
theorem wi_one {st : List Bool} {K : List D → Env → Prop} (k : Good ((ev C pr e).v env) (fun m env => Good (pItemsS st (evs C pr es) env) (fun ds env => K (frz m :: ds) env) X) X) : Good (pItemsS (false :: st) (evs C pr (e :: es)) env) K X := gi_one k
theorem wt_prim {q : Pr} {K : Bool → Env → Prop} (k : Good ((ev C pr (.prim q es)).v env) (fun m env => ∃ b, truM m = some b ∧ K b env) X) : Good ((ev C pr (.prim q es)).t env) K X := gt_v (fun _ => rfl) k
theorem wt_call {f : Nat} {K : Bool → Env → Prop} (k : Good ((ev C pr (.call f es)).v env) (fun m env => ∃ b, truM m = some b ∧ K b env) X) : Good ((ev C pr (.call f es)).t env) K X := gt_v (fun _ => rfl) k
theorem wt_place {m : M} {K : Bool → Env → Prop} (h : getE env i p = some m) (k : ∃ b, truM m = some b ∧ K b env) : Good ((ev C pr (.place i p)).t env) K X := by
  obtain ⟨b, h2, k⟩ := k
  show Good (match getE env i p with
    | some m => ofO (truM m) env
    | none => .fail : R Bool) K X
  rw [h]
  show Good (ofO (truM m) env) K X
  rw [h2]
  exact k
/-! single instructions -/
theorem p_one {o : Option M} {m : M} {Q : M → Prop} (h : o = some m) (k : Q m) : ∃ m, o = some m ∧ Q m := ⟨m, h, k⟩
theorem p_any {α : Type} {o : Option α} {m : α} {Q : α → Prop} (h : o = some m) (k : Q m) : ∃ m, o = some m ∧ Q m := ⟨m, h, k⟩
open Classical in
theorem p_fdiv {a b : Int} {Q : M → Prop} (hd : DivOk b) (k : Q (mI (a.fdiv b))) : ∃ m, primM .fdiv [mI a, mI b] = some m ∧ Q m := ⟨_, by
  show (if DivOk b then some (D.int (a.fdiv b)) else none).map M.imm = _
  rw [if_pos hd]
  rfl, k⟩
theorem p_mod {a b : Int} {Q : M → Prop} (hd : b ≠ 0) (k : Q (mI (a.fmod b))) : ∃ m, primM .mod [mI a, mI b] = some m ∧ Q m := ⟨_, by
  show (if b = 0 then none else some (D.int (a.fmod b))).map M.imm = _
  rw [if_neg hd]
  rfl, k⟩
open Classical in
theorem p_mul {a b : Int} {Q : M → Prop} (hd : MulOk a b) (k : Q (mI (a * b))) : ∃ m, primM .mul [mI a, mI b] = some m ∧ Q m := ⟨_, by
  show (if MulOk a b then some (M.imm (D.int (a * b))) else none) = _
  rw [if_pos hd], k⟩
open Classical in
theorem p_pow {a b : Int} {Q : M → Prop} (hd : CPow a b) (k : Q (mI (a ^ b.toNat))) : ∃ m, primM .pow [mI a, mI b] = some m ∧ Q m := ⟨_, by
  show (if CPow a b then some (D.int (a ^ b.toNat)) else none).map M.imm = _
  rw [if_pos hd]
  rfl, k⟩
theorem mul_l {a b : Int} (h : a.natAbs < 2 ^ 64) : MulOk a b := .inl (.inl h)
theorem mul_r {a b : Int} (h : b.natAbs < 2 ^ 64) : MulOk a b := .inl (.inr h)
theorem if_dec {p : Prop} [Decidable p] {A B : Prop} (h : p → A) (k : ¬ p → B) : if decide p = true then A else B := by
  by_cases hp : p
  · rw [if_pos (by simpa using hp)]; exact h hp
  · rw [if_neg (by simpa using hp)]; exact k hp
theorem if_t {A B : Prop} (h : A) : if true = true then A else B := by rw [if_pos rfl]; exact h
theorem if_f {A B : Prop} (h : B) : if false = true then A else B := by rw [if_neg Bool.false_ne_true]; exact h
theorem if_b {b : Bool} {A B : Prop} (h : b = true → A) (k : b = false → B) : if b = true then A else B := by cases b; exact if_f (k rfl); exact if_t (h rfl)
end
end Mini

set_option Elab.async false
set_option linter.all false
set_option maxRecDepth 100000
set_option maxHeartbeats 4000000
set_option autoImplicit false
namespace Mini
open PySem PySem.Spec PyProof.Rows L2
abbrev XP := Exn → Env → Prop
/-! the goals by their kinds -/
@[irreducible] def vE (C : Ct) (pr : Nat → Bool) (e : E) (env : Env) (K : M → Env → Prop) (X : XP) : Prop := Good ((ev C pr e).v env) K X
@[irreducible] def aE (C : Ct) (pr : Nat → Bool) (e : E) (env : Env) (K : A → Env → Prop) (X : XP) : Prop := Good ((ev C pr e).a env) K X
@[irreducible] def tE (C : Ct) (pr : Nat → Bool) (e : E) (env : Env) (K : Bool → Env → Prop) (X : XP) : Prop := Good ((ev C pr e).t env) K X
@[irreducible] def sE (C : Ct) (pr : Nat → Bool) (s : S) (env : Env) (K : Flw → Env → Prop) (X : XP) : Prop := Good (evS C pr s env) K X
@[irreducible] def bE (C : Ct) (pr : Nat → Bool) (s : List S) (env : Env) (K : Flw → Env → Prop) (X : XP) : Prop := Good (evSs C pr s env) K X
@[irreducible] def asE (C : Ct) (pr : Nat → Bool) (es : List E) (env : Env) (K : List A → Env → Prop) (X : XP) : Prop := Good (pArgs (zipE C pr es) env) K X
@[irreducible] def acE (C : Ct) (pr : Nat → Bool) (es : List E) (env : Env) (K : List A → Env → Prop) (X : XP) : Prop := Good (pArgsC (zipE C pr es) env) K X
@[irreducible] def msE (C : Ct) (pr : Nat → Bool) (es : List E) (env : Env) (K : List M → Env → Prop) (X : XP) : Prop := Good (pItems (evs C pr es) env) K X
@[irreducible] def isE (C : Ct) (pr : Nat → Bool) (st : List Bool) (es : List E) (env : Env) (K : List D → Env → Prop) (X : XP) : Prop := Good (pItemsS st (evs C pr es) env) K X
/-- the end of an instruction: o is what it gives -/
@[irreducible] def pE {α : Type} (o : Option α) (K : α → Prop) : Prop := ∃ m, o = some m ∧ K m
/-- what a call promises -/
@[irreducible] def cE' (r : CR) (K : M → List (Option M) → Prop) (X : Exn → List (Option M) → Prop) : Prop := GoodC r K X
section
variable {C : Ct} {pr : Nat → Bool} {env env' : Env} {X : XP} {i : Nat} {p : List PS} {d : D} {e a b : E} {es : List E}
/-- what is walked -/
@[irreducible] def iO (k : IK) (ms : List M) (Q : List D → Prop) : Prop := ∃ ds, itemsOf k (frzs ms) = some ds ∧ Q ds
theorem iO_seq {ms : List M} {ds : List D} {Q : List D → Prop} (h : itemsOf .seq (frzs ms) = some ds) (q : Q ds) : iO .seq ms Q := by unfold iO; exact ⟨ds, h, q⟩
theorem iO_mk {k : IK} {ms : List M} {ds : List D} {Q : List D → Prop} (h : itemsOf k (frzs ms) = some ds) (q : Q ds) : iO k ms Q := by unfold iO; exact ⟨ds, h, q⟩
theorem iO_to {k : IK} {ms : List M} {Q : List D → Prop} (h : iO k ms Q) : ∃ ds, itemsOf k (frzs ms) = some ds ∧ Q ds := by unfold iO at h; exact h
theorem pE_mk {α : Type} {o : Option α} {K : α → Prop} (m : α) (h : o = some m) (k : K m) : pE o K := by unfold pE; exact ⟨m, h, k⟩
theorem pE_to {α : Type} {o : Option α} {K : α → Prop} (h : pE o K) : ∃ m, o = some m ∧ K m := by unfold pE at h; exact h
theorem x_const {K : M → Env → Prop} (k : K (.imm d) env) : vE C pr (.const d) env K X := by unfold vE; exact g_const k
theorem x_place {m : M} {K : M → Env → Prop} (h : getE env i p = some m) (hm : isImm m = true) (k : K m env) : vE C pr (.place i p) env K X := by
  unfold vE
  cases m with
  | imm d => exact g_place h k
  | _ => cases hm
theorem x_placeF {m : M} {env' : Env} {K : M → Env → Prop} (h : getE env i p = some m) (hm : isImm m = false) (h2 : putE env i p (.imm (frz m)) = some env') (k : K (.imm (frz m)) env') : vE C pr (.place i p) env K X := by unfold vE; exact g_placeF h hm h2 k
theorem xa_imm {K : A → Env → Prop} (h : getE env i p = some (.imm d)) (k : K (.val (.imm d)) env) : aE C pr (.place i p) env K X := by unfold aE; exact ga_imm h k
theorem xa_ref {ms : List M} {K : A → Env → Prop} (h : getE env i p = some (.lst ms)) (k : K (.ref i p) env) : aE C pr (.place i p) env K X := by unfold aE; exact ga_ref h k
theorem xa_val {K : A → Env → Prop} (hp : isPlace e = false) (k : vE C pr e env (fun m env => K (.val m) env) X) : aE C pr e env K X := by unfold aE; unfold vE at k; exact ga_val hp k
theorem x_prim {q : Pr} {K : M → Env → Prop} (hs : isSl q = false) (k : asE C pr es env (fun as env => pE (res env as) fun ms => pE (primM q ms) fun m => K m env) X) : vE C pr (.prim q es) env K X := by
  unfold vE
  unfold asE at k
  exact w_prim hs (k.mono (fun as env k => (pE_to k).imp fun ms k => ⟨k.1, pE_to k.2⟩) fun _ _ x => x)
theorem xs_nil {K : List A → Env → Prop} (k : K [] env) : asE C pr [] env K X := by unfold asE; exact w_nil k
theorem xs_cons {K : List A → Env → Prop} (h : refE e es = true) (k : aE C pr e env (fun a env => asE C pr es env (fun as env => K (a :: as) env) X) X) : asE C pr (e :: es) env K X := by
  unfold asE aE at *
  exact w_cons h k
theorem xs_consV {K : List A → Env → Prop} (h : refE e es = false) (k : vE C pr e env (fun m env => asE C pr es env (fun as env => K (.val m :: as) env) X) X) : asE C pr (e :: es) env K X := by
  unfold asE vE at *
  exact w_consV h k
theorem x_call {T : List Fn} {n f : Nat} {K : M → Env → Prop} (k : acE (ctOf T n) pr es env (fun as env => pE (takeA as ((ctOf T n).prot f) env) fun q => cE' (run T n f q.1) (fun m fin => K m (giveA as ((ctOf T n).prot f) fin q.2)) (fun x fin => X x (giveA as ((ctOf T n).prot f) fin q.2))) X) : vE (ctOf T n) pr (.call f es) env K X := by
  unfold vE
  unfold acE at k
  refine w_call (k.mono (fun as env k => ?_) fun _ _ x => x)
  obtain ⟨q, h, k⟩ := pE_to k
  unfold cE' at k
  exact ⟨q.1, q.2, h, k⟩
theorem c_use {r : CR} {K K' : M → List (Option M) → Prop} {Xc : Exn → List (Option M) → Prop} (h : GoodC r K' fun _ _ => False) (k : ∀ m fin, K' m fin → K m fin) : cE' r K Xc := by unfold cE'; exact h.mono k fun _ _ x => x.elim
theorem xc_nil {K : List A → Env → Prop} (k : K [] env) : acE C pr [] env K X := by unfold acE; exact wc_nil k
theorem xc_var {K : List A → Env → Prop} (k : aE C pr (.place i []) env (fun a env => acE C pr es env (fun as env => K (a :: as) env) X) X) : acE C pr (.place i [] :: es) env K X := by
  unfold acE aE at *
  exact wc_var k
theorem xc_val {K : List A → Env → Prop} (h : isVar e = false) (k : vE C pr e env (fun m env => acE C pr es env (fun as env => K (.val m :: as) env) X) X) : acE C pr (e :: es) env K X := by
  unfold acE vE at *
  exact wc_val h k
theorem xm_nil {K : List M → Env → Prop} (k : K [] env) : msE C pr [] env K X := by unfold msE; exact wm_nil k
theorem xm_cons {K : List M → Env → Prop} (k : vE C pr e env (fun m env => msE C pr es env (fun ms env => K (m :: ms) env) X) X) : msE C pr (e :: es) env K X := by
  unfold msE vE at *
  exact wm_cons k
theorem xi_nil {K : List D → Env → Prop} (k : K [] env) : isE C pr [] [] env K X := by unfold isE; exact wi_nil k
theorem xi_one {st : List Bool} {K : List D → Env → Prop} (k : vE C pr e env (fun m env => isE C pr st es env (fun ds env => K (frz m :: ds) env) X) X) : isE C pr (false :: st) (e :: es) env K X := by
  unfold isE vE at *
  exact wi_one k
theorem x_tup {st : List Bool} {K : M → Env → Prop} (k : isE C pr st es env (fun ds env => ds.length ≤ 100 ∧ K (.imm (.tup ds)) env) X) : vE C pr (.tupE st es) env K X := by
  unfold vE
  unfold isE at k
  exact g_tup (k.mono (fun ds env k => ⟨by have := sizeLine_eq; omega, k.2⟩) fun _ _ x => x)
theorem x_lst {K : M → Env → Prop} (k : msE C pr es env (fun ms env => ms.length ≤ 100 ∧ K (.lst ms) env) X) : vE C pr (.lstE es) env K X := by
  unfold vE
  unfold msE at k
  exact g_lst (k.mono (fun ds env k => ⟨by have := sizeLine_eq; omega, k.2⟩) fun _ _ x => x)
theorem xt_prim {q : Pr} {K : Bool → Env → Prop} (k : vE C pr (.prim q es) env (fun m env => pE (truM m) fun b => K b env) X) : tE C pr (.prim q es) env K X := by
  unfold tE
  unfold vE at k
  exact wt_prim (k.mono (fun m env k => pE_to k) fun _ _ x => x)
theorem xt_call {f : Nat} {K : Bool → Env → Prop} (k : vE C pr (.call f es) env (fun m env => pE (truM m) fun b => K b env) X) : tE C pr (.call f es) env K X := by
  unfold tE
  unfold vE at k
  exact wt_call (k.mono (fun m env k => pE_to k) fun _ _ x => x)
theorem xt_place {m : M} {K : Bool → Env → Prop} (h : getE env i p = some m) (k : pE (truM m) fun b => K b env) : tE C pr (.place i p) env K X := by unfold tE; exact wt_place h (pE_to k)
theorem xt_not {K : Bool → Env → Prop} (k : tE C pr a env (fun b env => K (!b) env) X) : tE C pr (.notE a) env K X := by unfold tE at *; exact gt_not k
theorem xt_and {K : Bool → Env → Prop} (k : tE C pr a env (fun c env => if c = true then tE C pr b env K X else K false env) X) : tE C pr (.andE a b) env K X := by unfold tE at *; exact gt_and k
theorem xt_or {K : Bool → Env → Prop} (k : tE C pr a env (fun c env => if c = true then K true env else tE C pr b env K X) X) : tE C pr (.orE a b) env K X := by unfold tE at *; exact gt_or k
theorem x_and {K : M → Env → Prop} (k : vE C pr a env (fun m env => pE (truM m) fun c => if c = true then vE C pr b env K X else K m env) X) : vE C pr (.andE a b) env K X := by
  unfold vE at *
  exact g_and (k.mono (fun m env k => pE_to k) fun _ _ x => x)
theorem x_chg {m : Mt} {ms0 : List M} {K : M → Env → Prop} (ho : (p.isEmpty || es.all inertE) = true) (h0 : getE env i p = some (.lst ms0)) (k : msE C pr es env (fun as env => pE (getE env i p) fun o => pE (match o with | .lst ms => mutM m ms as | _ => none) fun q => pE (putE env i p (.lst q.2)) fun env' => K q.1 env') X) : vE C pr (.chg m i p es) env K X := by
  unfold vE
  unfold msE at k
  refine g_chg ho h0 (k.mono (fun as env k => ?_) fun _ _ x => x)
  obtain ⟨o, h1, k1⟩ := pE_to k
  obtain ⟨q, h2, k2⟩ := pE_to k1
  obtain ⟨env', h3, k3⟩ := pE_to k2
  cases o with
  | lst ms => exact ⟨ms, h1, q.1, q.2, h2, env', h3, k3⟩
  | _ => cases h2
theorem x_sl2 {i1 : E} {lo hi : Bool} {K : M → Env → Prop} (hl : lo = !hi) (hp : isVar e = true) (k : aE C pr e env (fun a env => vE C pr i1 env (fun z env => pE (intM z) fun k => pE (res env [a]) fun ms => pE (match ms with | [m] => sliceM m (if lo then some k else none) (if hi then some k else none) | _ => none) fun r => K r env) X) X) : vE C pr (.prim (.slice lo hi) [e, i1]) env K X := by
  unfold vE aE at *
  refine g_sl2 hl ?_
  have hb : byRef e (ev C pr e) (inertE i1) = (ev C pr e).a := by
    cases e with
    | place j q => cases q with
      | nil => rfl
      | cons s q => cases hp
    | _ => cases hp
  rw [hb]
  refine k.mono (fun a env k => k.mono (fun z env k => ?_) fun _ _ x => x) fun _ _ x => x
  obtain ⟨kz, h1, k1⟩ := pE_to k
  obtain ⟨ms, h2, k2⟩ := pE_to k1
  obtain ⟨r, h3, k3⟩ := pE_to k2
  have hz : z = .imm (.int kz) := by
    cases z with
    | imm d => cases d <;> cases h1; rfl
    | _ => cases h1
  match ms, h3, h2 with
  | [m], h3, h2 => exact ⟨kz, m, hz, h2, r, h3, k3⟩
  | [], h3, _ => cases h3
  | _ :: _ :: _, h3, _ => cases h3
theorem x_sl3 {i1 i2 : E} {K : M → Env → Prop} (hp : isVar e = true) (k : aE C pr e env (fun a env => vE C pr i1 env (fun z env => pE (intM z) fun k => vE C pr i2 env (fun y env => pE (intM y) fun l => pE (res env [a]) fun ms => pE (match ms with | [m] => sliceM m (some k) (some l) | _ => none) fun r => K r env) X) X) X) : vE C pr (.prim (.slice true true) [e, i1, i2]) env K X := by
  unfold vE aE at *
  have hb : byRef e (ev C pr e) (inertE i1 && inertE i2) = (ev C pr e).a := by
    cases e with
    | place j q => cases q with
      | nil => rfl
      | cons s q => cases hp
    | _ => cases hp
  show Good ((byRef e (ev C pr e) (inertE i1 && inertE i2) env).bind fun a env => (pPart (some (ev C pr i1)) env).bind fun l env => (pPart (some (ev C pr i2)) env).bind fun h env => match res env [a] with
      | some [m] => ofO (sliceM m l h) env
      | _ => .fail) K X
  rw [hb]
  refine good_bind.mpr (k.mono (fun a env k => good_bind.mpr (good_bind.mpr (k.mono (fun z env k => ?_) fun _ _ x => x))) fun _ _ x => x)
  obtain ⟨kz, h1, k⟩ := pE_to k
  rw [h1]
  refine good_bind.mpr (good_bind.mpr (k.mono (fun y env k => ?_) fun _ _ x => x))
  obtain ⟨ky, h2, k1⟩ := pE_to k
  rw [h2]
  obtain ⟨ms, h3, k2⟩ := pE_to k1
  obtain ⟨r, h4, k3⟩ := pE_to k2
  show Good (match res env [a] with
      | some [m] => ofO (sliceM m (some kz) (some ky)) env
      | _ => .fail) K X
  rw [h3]
  match ms, h4 with
  | [m], h4 =>
    have h4 : sliceM m (some kz) (some ky) = some r := h4
    simp only [h4]
    exact k3
  | [], h4 => cases h4
  | _ :: _ :: _, h4 => cases h4
/-! instructions -/
theorem q_fdiv {a b : Int} {Q : M → Prop} (hd : DivOk b) (k : Q (mI (a.fdiv b))) : pE (primM .fdiv [mI a, mI b]) Q := by unfold pE; exact p_fdiv hd k
theorem q_mod {a b : Int} {Q : M → Prop} (hd : b ≠ 0) (k : Q (mI (a.fmod b))) : pE (primM .mod [mI a, mI b]) Q := by unfold pE; exact p_mod hd k
theorem q_mul {a b : Int} {Q : M → Prop} (hd : MulOk a b) (k : Q (mI (a * b))) : pE (primM .mul [mI a, mI b]) Q := by unfold pE; exact p_mul hd k
theorem q_pow {a b : Int} {Q : M → Prop} (hd : CPow a b) (k : Q (mI (a ^ b.toNat))) : pE (primM .pow [mI a, mI b]) Q := by unfold pE; exact p_pow hd k
theorem q_any {α : Type} {o : Option α} {m : α} {Q : α → Prop} (h : o = some m) (k : Q m) : pE o Q := pE_mk m h k
/-! statements -/
section
variable {K : Flw → Env → Prop} {s : S} {ss s2 : List S}
theorem y_nil (k : K .nx env) : bE C pr [] env K X := by unfold bE; exact s_nil k
/-- what comes behind a statement -/
def nxt (C : Ct) (pr : Nat → Bool) (ss : List S) (K : Flw → Env → Prop) (X : XP) : Flw → Env → Prop
  | .nx, env => bE C pr ss env K X
  | f, env => K f env
theorem y_cons (k : sE C pr s env (nxt C pr ss K X) X) : bE C pr (s :: ss) env K X := by
  unfold bE sE at *
  refine s_cons (k.mono (fun f env k => ?_) fun _ _ x => x)
  cases f with
  | nx => unfold nxt bE at k; exact k
  | _ => exact k
theorem y_nx (k : bE C pr ss env K X) : nxt C pr ss K X .nx env := k
theorem y_rt {m : M} (k : K (.rt m) env) : nxt C pr ss K X (.rt m) env := k
theorem y_set {tg : Tg} (k : vE C pr e env (fun m env => pE (bindT pr tg m env) fun env' => K .nx env') X) : sE C pr (.set tg e) env K X := by
  unfold sE vE at *
  exact s_set (k.mono (fun m env k => pE_to k) fun _ _ x => x)
theorem y_par {tgs : List Tg} (k : msE C pr es env (fun ms env => pE (bindTs pr tgs ms env) fun env' => K .nx env') X) : sE C pr (.setPar tgs es) env K X := by
  unfold sE msE at *
  exact s_par (k.mono (fun m env k => pE_to k) fun _ _ x => x)
theorem y_expr (k : vE C pr e env (fun m env => K .nx env) X) : sE C pr (.expr e) env K X := by unfold sE vE at *; exact s_expr k
theorem y_ret (k : vE C pr e env (fun m env => K (.rt m) env) X) : sE C pr (.ret e) env K X := by unfold sE vE at *; exact s_ret k
theorem y_retVar {m : M} (h : gt env i = some m) (hp : pr i = false) (k : K (.rt m) (env.set i none)) : sE C pr (.retVar i) env K X := by unfold sE; exact s_retVar h hp k
theorem y_if {t : E} (k : tE C pr t env (fun b env => if b = true then bE C pr ss env K X else bE C pr s2 env K X) X) : sE C pr (.ifS t ss s2) env K X := by
  unfold sE tE bE at *
  exact s_if k
/-- what comes behind a turn of a while -/
def whn (C : Ct) (pr : Nat → Bool) (t : E) (ss : List S) (K : Flw → Env → Prop) (X : XP) : Flw → Env → Prop
  | .nx, env => sE C pr (.whileS t ss) env K X
  | .ct, env => sE C pr (.whileS t ss) env K X
  | .bk, env => K .nx env
  | .rt m, env => K (.rt m) env
theorem y_while {t : E} (k : tE C pr t env (fun b env => if b = true then bE C pr ss env (whn C pr t ss K X) X else K .nx env) X) : sE C pr (.whileS t ss) env K X := by
  unfold sE tE bE at *
  refine s_while (k.mono (fun b env k => ?_) fun _ _ x => x)
  cases b with
  | false => exact k
  | true =>
    have k : Good (evSs C pr ss env) (whn C pr t ss K X) X := k
    rw [if_pos rfl]
    refine k.mono (fun f env k => ?_) fun _ _ x => x
    cases f <;> first | (unfold whn sE at k; exact k) | exact k
/-- what comes behind a turn of a for -/
def frn (I : Env → Prop) (K : Flw → Env → Prop) : Flw → Env → Prop
  | .nx, env => I env
  | .ct, env => I env
  | .bk, env => K .nx env
  | .rt m, env => K (.rt m) env
/-- a for, by an invariant of what is left -/
@[irreducible] def fE (C : Ct) (pr : Nat → Bool) (tg : Tg) (ss : List S) (ds : List D) (env : Env) (K : Flw → Env → Prop) (X : XP) : Prop := Good (forLoop (fun d env => match bindT pr tg (.imm d) env with
      | some env' => evSs C pr ss env'
      | none => .fail) ds env) K X
theorem y_for {tg : Tg} {k : IK} (g : msE C pr es env (fun ms env => iO k ms fun ds => fE C pr tg ss ds env K X) X) : sE C pr (.forS tg k es ss) env K X := by
  unfold sE msE at *
  refine s_for (g.mono (fun ms env g => ?_) fun _ _ x => x)
  obtain ⟨ds, h, g⟩ := iO_to g
  unfold fE at g
  exact ⟨ds, h, g⟩
theorem f_inv {tg : Tg} {ds : List D} (I : List D → Env → Prop) (i : I ds env) (h : ∀ d ds env, I (d :: ds) env → pE (bindT pr tg (.imm d) env) fun env2 => bE C pr ss env2 (frn (I ds) K) X) (hn : ∀ env, I [] env → K .nx env) : fE C pr tg ss ds env K X := by
  unfold fE
  refine for_inv I (fun d ds env i => ?_) hn ds env i
  obtain ⟨env2, h1, h2⟩ := pE_to (h d ds env i)
  rw [h1]
  unfold bE at h2
  refine h2.mono (fun f env k => ?_) fun _ _ x => x
  cases f <;> exact k
end
/-- a comprehension without tests -/
@[irreducible] def lE (C : Ct) (pr : Nat → Bool) (tg : Tg) (elt : E) (own : List Nat) (ds : List D) (env : Env) (K : List M → Env → Prop) : Prop := Good (compLoop (fun i => !(own.contains i)) tg (ev C pr elt) [] own ds env) K (fun _ _ => False)
theorem x_comp {elt : E} {tg : Tg} {k : IK} {own : List Nat} {K : M → Env → Prop} (g : msE C pr es env (fun ms env => iO k ms fun ds => lE C pr tg elt own ds (wipeE env own) (fun ms env' => ms.length ≤ 10000 ∧ K (.lst ms) (backE env env' own))) X) : vE C pr (.comp elt tg k es [] own) env K X := by
  unfold vE msE at *
  refine g_comp (g.mono (fun ms env h => ?_) fun _ _ x => x)
  obtain ⟨ds, h1, h2⟩ := iO_to h
  unfold lE at h2
  exact ⟨ds, h1, h2.mono (fun ms env h => ⟨by have := sizeLine_eq; omega, h.2⟩) fun _ _ x => x⟩
theorem l_inv {elt : E} {tg : Tg} {own : List Nat} {ds : List D} {K : List M → Env → Prop} (I : List D → List M → Env → Prop) (i : I ds [] env) (h : ∀ d ds acc env, I (d :: ds) acc env → pE (bindT (fun i => !(own.contains i)) tg (.imm d) (wipeE env own)) fun env2 => vE C pr elt env2 (fun m env => I ds (acc ++ [m]) (wipeE env own)) (fun _ _ => False)) (hn : ∀ acc env, I [] acc env → K acc env) : lE C pr tg elt own ds env K := by
  unfold lE
  have := comp_inv (elt := ev C pr elt) (pr' := fun i => !(own.contains i)) (tg := tg) (own := own) (X := fun _ _ => False) I (K := K) (fun d ds acc env i => by
    obtain ⟨env2, h1, h2⟩ := pE_to (h d ds acc env i)
    unfold vE at h2
    exact ⟨env2, h1, h2⟩) hn ds [] env i
  exact this
theorem run_ok {T : List Fn} {n f : Nat} {ms : List M} {F : Fn} {K : M → List (Option M) → Prop} (env0 : Env) (h : T[f]? = some F) (hl : ms.length = F.np) (he : ms.map some ++ List.replicate (F.nn - F.np) none = env0)
    (g : bE (ctOf T n) (protB F) F.body env0 (fun fl env => match fl with
      | .rt m => K m (finOf F env)
      | .nx => K (.imm .non) (finOf F env)
      | _ => False) (fun x env => False)) : GoodC (run T (n + 1) f ms) K fun _ _ => False := by
  unfold bE at g
  exact run_good env0 h hl he g
end
end Mini

set_option Elab.async false
set_option linter.all false
set_option maxRecDepth 100000
set_option maxHeartbeats 4000000
set_option autoImplicit false
namespace Mini
open PySem PySem.Spec PyProof.Rows L2
abbrev iD (l : List Int) : List D := l.map D.int
abbrev iM (l : List Int) : List M := l.map mI
theorem imms_ints : ∀ l : List Int, imms (iM l) = some (iD l)
  | [] => rfl
  | x :: l => by
    show (match imms (iM l) with | some ds => some (D.int x :: ds) | none => none) = _
    rw [imms_ints l]
    rfl
theorem frzs_ints : ∀ l : List Int, frzs (iM l) = iD l
  | [] => rfl
  | x :: l => by show D.int x :: frzs (iM l) = _; rw [frzs_ints l]; rfl
theorem dInts_ints : ∀ l : List Int, dInts (iD l) = some l
  | [] => rfl
  | x :: l => by
    show (match dInts (iD l) with | some l => some (x :: l) | none => none) = _
    rw [dInts_ints l]
theorem toPys_ints : ∀ l : List Int, toPys (iD l) = l.map PyData.int
  | [] => rfl
  | x :: l => by show PyData.int x :: toPys (iD l) = _; rw [toPys_ints l]; rfl
theorem pyOks_ints : ∀ l : List Int, pyOks (iD l) = true
  | [] => rfl
  | x :: l => by show (true && pyOks (iD l)) = true; rw [pyOks_ints l]; rfl
theorem canLay_ints : ∀ l : List Int, PyData.canLayAll0 (l.map PyData.int) = true
  | [] => rfl
  | x :: l => by
    rw [List.map_cons, PyData.canLayAll0, canLay_ints l]
    rfl
theorem depth_ints : ∀ l : List Int, PyData.depthAll (l.map PyData.int) = 0
  | [] => rfl
  | x :: l => by
    rw [List.map_cons, PyData.depthAll, depth_ints l]
    rfl
theorem fit_lst (l : List Int) : fitPy (.lst (iD l)) = true := by
  unfold fitPy SeqAt.shaped
  show (pyOks (iD l) && ((PyData.list (toPys (iD l))).canLay0 && decide ((PyData.list (toPys (iD l))).depth ≤ 64))) = true
  rw [pyOks_ints, toPys_ints, PyData.canLay0, canLay_ints, PyData.depth, depth_ints]
  rfl
theorem fit_tup (l : List Int) : fitPy (.tup (iD l)) = true := by
  unfold fitPy SeqAt.shaped
  show (pyOks (iD l) && ((PyData.tuple (toPys (iD l))).canLay0 && decide ((PyData.tuple (toPys (iD l))).depth ≤ 64))) = true
  rw [pyOks_ints, toPys_ints, PyData.canLay0, canLay_ints, PyData.depth, depth_ints]
  rfl
theorem eqM_nil (l : List Int) : eqM (.lst (iM l)) (.lst []) = some l.isEmpty := by
  show (if (fitPy (.lst (frzs (iM l))) && fitPy (.lst (frzs []))) = true then some (PyData.eqv (.list (toPys (frzs (iM l)))) (.list (toPys (frzs [])))) else none) = _
  rw [frzs_ints, fit_lst, show fitPy (.lst (frzs [])) = true from fit_lst []]
  rw [if_pos (by rfl), toPys_ints]
  cases l with
  | nil => rfl
  | cons x l => rfl
theorem eqv_ints : ∀ l k : List Int, PyData.eqvAll (l.map PyData.int) (k.map PyData.int) = decide (l = k)
  | [], [] => rfl
  | [], y :: k => by simp [PyData.eqvAll]
  | x :: l, [] => by simp [PyData.eqvAll]
  | x :: l, y :: k => by
    rw [List.map_cons, List.map_cons, PyData.eqvAll, eqv_ints l k, PyData.eqv]
    by_cases h : x = y <;> by_cases h2 : l = k <;> simp [h, h2]
theorem eqM_tup (l k : List Int) : eqM (.imm (.tup (iD l))) (.imm (.tup (iD k))) = some (decide (l = k)) := by
  show (if (fitPy (.tup (iD l)) && fitPy (.tup (iD k))) = true then some (PyData.eqv (.tuple (toPys (iD l))) (.tuple (toPys (iD k)))) else none) = _
  rw [fit_tup, fit_tup, if_pos (by rfl), toPys_ints, toPys_ints, PyData.eqv, eqv_ints]
theorem showable_ints : ∀ l : List Int, (∀ x ∈ l, x.natAbs.log2 < 1920) → PyData.showableAll (l.map PyData.int) = true
  | [], _ => rfl
  | x :: l, h => by
    rw [List.map_cons, PyData.showableAll, showable_ints l fun y hy => h y (List.mem_cons_of_mem _ hy), PyData.showable]
    simp [h x List.mem_cons_self]
theorem shown_ints : ∀ l : List Int, PyData.shownAll (l.map PyData.int) = l.map fun i => Str.ofString (toString i)
  | [] => rfl
  | x :: l => by
    rw [List.map_cons, PyData.shownAll, shown_ints l]
    rfl
theorem piled_ints : ∀ l : List Int, (∀ x ∈ l, x.natAbs.log2 < 1920) → piled (l.map fun i => Str.ofString (toString i)) ≤ 1923 * l.length
  | [], _ => Nat.zero_le _
  | x :: l, h => by
    have h1 := piled_ints l fun y hy => h y (List.mem_cons_of_mem _ hy)
    have h2 := int_text_len_1921 (h x List.mem_cons_self)
    rw [List.map_cons, piled_cons, List.length_cons]
    omega
/-- a tuple of ints, as repr has it -/
def shT (l : List Int) : Str := PyData.shown (.tuple (l.map PyData.int))
theorem repr_tup (l : List Int) (h : ∀ x ∈ l, x.natAbs.log2 < 1920) (hl : l.length ≤ 1000) : prRepr (.imm (.tup (iD l))) = some (.imm (.str (shT l))) := by
  have e : toPy (.tup (iD l)) = .tuple (l.map PyData.int) := by show PyData.tuple (toPys (iD l)) = _; rw [toPys_ints]
  have e1 : pyOk (.tup (iD l)) = true := pyOks_ints l
  have e2 : PyData.showable (.tuple (l.map PyData.int)) = true := by rw [PyData.showable]; exact showable_ints l h
  have e3 : (PyData.tuple (l.map PyData.int)).depth ≤ 64 := by rw [PyData.depth, depth_ints]; decide
  have e4 : (PyData.shown (.tuple (l.map PyData.int))).length ≤ sizeLine := by
    rw [PyData.shown, shown_ints]
    have h1 := fmt_text (l.map fun i => Str.ofString (toString i))
    have h2 := piled_ints l h
    have := sizeLine_eq
    omega
  unfold prRepr
  show (if (pyOk (.tup (iD l)) && PyData.showable (toPy (.tup (iD l))) && decide ((toPy (.tup (iD l))).depth ≤ 64) && decide ((PyData.shown (toPy (.tup (iD l)))).length ≤ sizeLine)) = true then some (M.imm (.str (PyData.shown (toPy (.tup (iD l)))))) else none) = _
  rw [e, e1, e2]
  rw [if_pos (by simp [e3, e4])]
  rfl
section
variable {C : Ct} {pr : Nat → Bool} {env env' : Env} {X : XP} {i : Nat} {p : List PS} {d : D} {e a b : E} {es : List E}
theorem q_neNil {l : List Int} {Q : M → Prop} (k : Q (mB (!l.isEmpty))) : pE (primM .ne [.lst (iM l), .lst []]) Q := pE_mk _ (by show (eqM (.lst (iM l)) (.lst [])).map _ = _; rw [eqM_nil]; rfl) k
theorem q_append {ms : List M} {m : M} {Q : M × List M → Prop} (h : ms.length ≤ 10000) (k : Q (.imm .non, ms ++ [m])) : pE (mutM .append ms [m]) Q := pE_mk _ (by
  show (if ms.length < sizeLine then some (M.imm .non, ms ++ [m]) else none) = _
  rw [if_pos (by have := sizeLine_eq; omega)]) k
theorem q_extend {ms ns : List M} {ds : List D} {Q : M × List M → Prop} (h : imms ns = some ds) (hl : ms.length + ds.length ≤ 10000) (k : Q (.imm .non, ms ++ ds.map M.imm)) : pE (mutM .extend ms [.lst ns]) Q := pE_mk _ (by
  show (match imms ns with
    | some ds => if ms.length + ds.length ≤ sizeLine then some (M.imm .non, ms ++ ds.map M.imm) else none
    | none => none) = _
  rw [h]
  simp only []
  rw [if_pos (by have := sizeLine_eq; omega)]) k
theorem q_tuple {l : List Int} {Q : M → Prop} (k : Q (.imm (.tup (iD l)))) : pE (primM .tuple [.lst (iM l)]) Q := pE_mk _ (by show (imms (iM l)).map _ = _; rw [imms_ints]; rfl) k
theorem q_sum {l : List Int} {Q : M → Prop} (k : Q (mI l.sum)) : pE (primM .sum [.imm (.tup (iD l))]) Q := pE_mk _ (by show (dInts (iD l)).map _ = _; rw [dInts_ints]; rfl) k
theorem q_repr {l : List Int} {Q : M → Prop} (h : ∀ x ∈ l, x.natAbs.log2 < 1920) (hl : l.length ≤ 1000) (k : Q (.imm (.str (shT l)))) : pE (primM .repr [.imm (.tup (iD l))]) Q := pE_mk _ (repr_tup l h hl) k
theorem q_eqT {l k : List Int} {Q : M → Prop} (h : Q (mB (decide (l = k)))) : pE (primM .eq [.imm (.tup (iD l)), .imm (.tup (iD k))]) Q := pE_mk _ (by show (eqM _ _).map _ = _; rw [eqM_tup]; rfl) h
theorem getE_last {ms : List M} {m : M} (h : gt env i = some (.lst (ms ++ [m]))) : getE env i [.ix (-1)] = some m := by
  unfold getE
  rw [h]
  show (match L2.atI (ms ++ [m]) (-1) with | some m => getP m [] | none => none) = _
  rw [atI_last]
  cases m <;> rfl
theorem ixN_last (k : Nat) : ixN (k + 1) (-1) = some k := by
  have h := atI_last (List.replicate k ()) ()
  unfold ixN
  rw [if_neg (by decide), if_pos (by omega)]
  congr 1
  omega
theorem setL_last {ms : List M} {m0 m : M} (h : gt env i = some (.lst (ms ++ [m0]))) : setL env i [] (-1) m = some (env.set i (some (.lst (ms ++ [m])))) := by
  unfold setL getE
  rw [h]
  show (match ixN (ms ++ [m0]).length (-1) with
    | some j => putE env i [] (.lst ((ms ++ [m0]).set j m))
    | none => none) = _
  rw [List.length_append, List.length_singleton, ixN_last]
  show putE env i [] (.lst ((ms ++ [m0]).set ms.length m)) = _
  unfold putE
  rw [h]
  show some (env.set i (some (.lst ((ms ++ [m0]).set ms.length m)))) = _
  rw [List.set_append_right _ _ (Nat.le_refl _)]
  simp
theorem q_pathLast {ms : List M} {m0 m : M} {Q : Env → Prop} (h : gt env i = some (.lst (ms ++ [m0]))) (k : Q (env.set i (some (.lst (ms ++ [m]))))) : pE (bindT pr (.path i [] (-1)) m env) Q := pE_mk _ (setL_last h) k
theorem q_res1 {ms : List M} {Q : List M → Prop} (h : getE env i [] = some (.lst ms)) (k : Q [.lst ms]) : pE (res env [.ref i []]) Q := pE_mk _ (by unfold res; rw [h]; rfl) k
end
end Mini

set_option Elab.async false
set_option linter.all false
set_option maxRecDepth 100000
set_option maxHeartbeats 4000000
set_option autoImplicit false
namespace Mini
open PySem PySem.Spec PyProof.Rows L2
/-- a def's promise, not to be run by the unifier -/
@[irreducible] def cG (r : CR) (K : M → List (Option M) → Prop) : Prop := GoodC r K fun _ _ => False
theorem cG_to {r : CR} {K : M → List (Option M) → Prop} (h : cG r K) : GoodC r K fun _ _ => False := by unfold cG at h; exact h
theorem cG_run {T : List Fn} {n f : Nat} {ms : List M} {F : Fn} {K : M → List (Option M) → Prop} (env0 : Env) (h : T[f]? = some F) (hl : ms.length = F.np) (he : ms.map some ++ List.replicate (F.nn - F.np) none = env0)
    (g : bE (ctOf T n) (protB F) F.body env0 (fun fl env => match fl with
      | .rt m => K m (finOf F env)
      | .nx => K (.imm .non) (finOf F env)
      | _ => False) (fun x env => False)) : cG (run T (n + 1) f ms) K := by
  unfold cG
  exact run_ok env0 h hl he g
theorem cG_use {r : CR} {K K' : M → List (Option M) → Prop} {Xc : Exn → List (Option M) → Prop} (h : cG r K') (k : ∀ m fin, K' m fin → K m fin) : cE' r K Xc := c_use (cG_to h) k
theorem cG_mono {r : CR} {K K' : M → List (Option M) → Prop} (h : cG r K') (k : ∀ m fin, K' m fin → K m fin) : cG r K := by
  unfold cG at *
  exact h.mono k fun _ _ x => x
theorem iO_r1 {i : Int} {Q : List D → Prop} (k : Q (rangeD 0 i.toNat)) : iO .range1 [mI i] Q := iO_mk (ds := rangeD 0 i.toNat) rfl k
theorem iO_r2 {i j : Int} {Q : List D → Prop} (k : Q (rangeD i (j - i).toNat)) : iO .range2 [mI i, mI j] Q := iO_mk (ds := rangeD i (j - i).toNat) rfl k
theorem drop_range {lo : Int} {n f : Nat} {d : D} {ds : List D} (h : (rangeD lo n).drop f = d :: ds) : f < n ∧ d = .int (lo + f) ∧ ds = (rangeD lo n).drop (f + 1) := by
  have hlt : f < (rangeD lo n).length := by
    by_cases q : f < (rangeD lo n).length
    · exact q
    · rw [List.drop_of_length_le (by omega)] at h; cases h
  rw [List.drop_eq_getElem_cons hlt] at h
  obtain ⟨h1, h2⟩ := List.cons.inj h
  have := rangeD_get (lo := lo) (k := n) (i := f) (d := d) (by rw [List.getElem?_eq_getElem hlt, h1])
  exact ⟨this.1, this.2, h2.symm⟩
theorem range_drop_all {lo : Int} {n f : Nat} (h : (rangeD lo n).drop f = []) (hf : f ≤ n) : f = n := by
  have := congrArg List.length h
  rw [List.length_drop, rangeD_len, List.length_nil] at this
  omega
theorem cutD_map {α β : Type} (f : α → β) (l : List α) (lo hi : Option Int) : cutD (l.map f) lo hi = (cutD l lo hi).map f := by
  unfold cutD
  rw [List.length_map, List.map_take, List.map_drop]
section
variable {C : Ct} {pr : Nat → Bool} {env env' : Env} {X : XP} {i : Nat} {p : List PS} {d : D} {e a b : E} {es : List E} {K : Flw → Env → Prop} {ss : List S}
/-! loops -/
theorem f_map {α : Type} {f : α → D} {tg : Tg} {l : List α} (I : List α → List α → Env → Prop) (i : I [] l env) (h : ∀ done x todo env, l = done ++ x :: todo → I done (x :: todo) env → pE (bindT pr tg (.imm (f x)) env) fun env2 => bE C pr ss env2 (frn (I (done ++ [x]) todo) K) X) (hn : ∀ env, I l [] env → K .nx env) : fE C pr tg ss (l.map f) env K X := by
  refine f_inv (fun rest env => ∃ done todo, l = done ++ todo ∧ rest = todo.map f ∧ I done todo env) ⟨[], l, rfl, rfl, i⟩ (fun d ds env q => ?_) (fun env q => ?_)
  · obtain ⟨done, todo, e1, e2, q⟩ := q
    match todo, e2 with
    | x :: todo, e2 =>
      obtain ⟨rfl, rfl⟩ := List.cons.inj e2
      obtain ⟨env2, h1, h2⟩ := pE_to (h done x todo env e1 q)
      refine pE_mk env2 h1 ?_
      unfold bE at h2 ⊢
      refine h2.mono (fun f env k => ?_) fun _ _ x => x
      have e3 : l = done ++ [x] ++ todo := by rw [e1]; simp
      cases f with
      | nx => exact ⟨done ++ [x], todo, e3, rfl, k⟩
      | ct => exact ⟨done ++ [x], todo, e3, rfl, k⟩
      | bk => exact k
      | rt m => exact k
  · obtain ⟨done, todo, e1, e2, q⟩ := q
    match todo, e2 with
    | [], _ =>
      rw [List.append_nil] at e1
      subst e1
      exact hn env q
theorem f_range {tg : Tg} {lo : Int} {n : Nat} (I : Nat → Env → Prop) (i : I 0 env) (h : ∀ k env, k < n → I k env → pE (bindT pr tg (mI (lo + k)) env) fun env2 => bE C pr ss env2 (frn (I (k + 1)) K) X) (hn : ∀ env, I n env → K .nx env) : fE C pr tg ss (rangeD lo n) env K X := by
  refine f_inv (fun rest env => ∃ k, k ≤ n ∧ rest = (rangeD lo n).drop k ∧ I k env) ⟨0, Nat.zero_le _, rfl, i⟩ (fun d ds env q => ?_) (fun env q => ?_)
  · obtain ⟨k, hk, e, q⟩ := q
    obtain ⟨k1, rfl, rfl⟩ := drop_range e.symm
    obtain ⟨env2, h1, h2⟩ := pE_to (h k env k1 q)
    refine pE_mk env2 h1 ?_
    unfold bE at h2 ⊢
    refine h2.mono (fun f env r => ?_) fun _ _ x => x
    cases f with
    | nx => exact ⟨k + 1, k1, rfl, r⟩
    | ct => exact ⟨k + 1, k1, rfl, r⟩
    | bk => exact r
    | rt m => exact r
  · obtain ⟨k, hk, e, q⟩ := q
    have := range_drop_all e.symm hk
    subst this
    exact hn env q
theorem l_range {elt : E} {tg : Tg} {own : List Nat} {lo : Int} {n : Nat} {K : List M → Env → Prop} (I : Nat → List M → Env → Prop) (i : I 0 [] env) (h : ∀ k acc env, k < n → I k acc env → pE (bindT (fun i => !(own.contains i)) tg (mI (lo + k)) (wipeE env own)) fun env2 => vE C pr elt env2 (fun m env => I (k + 1) (acc ++ [m]) (wipeE env own)) (fun _ _ => False)) (hn : ∀ acc env, I n acc env → K acc env) : lE C pr tg elt own (rangeD lo n) env K := by
  refine l_inv (fun rest acc env => ∃ k, k ≤ n ∧ rest = (rangeD lo n).drop k ∧ I k acc env) ⟨0, Nat.zero_le _, rfl, i⟩ (fun d ds acc env q => ?_) (fun acc env q => ?_)
  · obtain ⟨k, hk, e, q⟩ := q
    obtain ⟨k1, rfl, rfl⟩ := drop_range e.symm
    obtain ⟨env2, h1, h2⟩ := pE_to (h k acc env k1 q)
    refine pE_mk env2 h1 ?_
    unfold vE at h2 ⊢
    exact h2.mono (fun m env r => ⟨k + 1, k1, rfl, r⟩) fun _ _ x => x
  · obtain ⟨k, hk, e, q⟩ := q
    have := range_drop_all e.symm hk
    subst this
    exact hn acc env q
theorem l_pure {α : Type} {f : α → D} {g : α → M} {elt : E} {tg : Tg} {own : List Nat} {l : List α} {K : List M → Env → Prop} (hw : wipeE env own = env) (h : ∀ x ∈ l, pE (bindT (fun i => !(own.contains i)) tg (.imm (f x)) env) fun env2 => vE C pr elt env2 (fun m env3 => m = g x ∧ wipeE env3 own = env) (fun _ _ => False)) (k : K (l.map g) env) : lE C pr tg elt own (l.map f) env K := by
  refine l_inv (fun rest acc env2 => ∃ done todo, l = done ++ todo ∧ rest = todo.map f ∧ acc = done.map g ∧ env2 = env) ⟨[], l, rfl, rfl, rfl, rfl⟩ (fun d ds acc env2 q => ?_) (fun acc env2 q => ?_)
  · obtain ⟨done, todo, e1, e2, rfl, rfl⟩ := q
    match todo, e2 with
    | x :: todo, e2 =>
      obtain ⟨rfl, rfl⟩ := List.cons.inj e2
      obtain ⟨env3, h1, h2⟩ := pE_to (h x (by rw [e1]; simp))
      rw [hw]
      refine pE_mk env3 h1 ?_
      unfold vE at h2 ⊢
      refine h2.mono (fun m env4 r => ?_) fun _ _ x => x
      obtain ⟨rfl, r⟩ := r
      exact ⟨done ++ [x], todo, by rw [e1]; simp, rfl, by simp, r⟩
  · obtain ⟨done, todo, e1, e2, rfl, rfl⟩ := q
    match todo, e2 with
    | [], _ =>
      rw [List.append_nil] at e1
      subst e1
      exact k
/-! comprehensions with one test -/
@[irreducible] def lT (C : Ct) (pr : Nat → Bool) (tg : Tg) (elt t : E) (own : List Nat) (ds : List D) (env : Env) (K : List M → Env → Prop) : Prop := Good (compLoop (fun i => !(own.contains i)) tg (ev C pr elt) [ev C pr t] own ds env) K (fun _ _ => False)
theorem x_compT {elt t : E} {tg : Tg} {k : IK} {own : List Nat} {K : M → Env → Prop} (g : msE C pr es env (fun ms env => iO k ms fun ds => lT C pr tg elt t own ds (wipeE env own) (fun ms env' => ms.length ≤ 10000 ∧ K (.lst ms) (backE env env' own))) X) : vE C pr (.comp elt tg k es [t] own) env K X := by
  unfold vE msE at *
  refine g_comp (g.mono (fun ms env h => ?_) fun _ _ x => x)
  obtain ⟨ds, h1, h2⟩ := iO_to h
  unfold lT at h2
  exact ⟨ds, h1, h2.mono (fun ms env h => ⟨by have := sizeLine_eq; omega, h.2⟩) fun _ _ x => x⟩
/-- what comes behind the test -/
def tst (C : Ct) (pr : Nat → Bool) (elt : E) (own : List Nat) (I0 : Env → Prop) (I1 : M → Env → Prop) (b : Bool) (env : Env) : Prop := if b = true then vE C pr elt env (fun m env => I1 m (wipeE env own)) (fun _ _ => False) else I0 (wipeE env own)
theorem lT_inv {elt t : E} {tg : Tg} {own : List Nat} {K : List M → Env → Prop} (I : List D → List M → Env → Prop) (h : ∀ d ds acc env, I (d :: ds) acc env → pE (bindT (fun i => !(own.contains i)) tg (.imm d) (wipeE env own)) fun env2 => tE C pr t env2 (tst C pr elt own (I ds acc) fun m => I ds (acc ++ [m])) (fun _ _ => False)) (hn : ∀ acc env, I [] acc env → K acc env) :
    ∀ (ds : List D) (acc : List M) (env : Env), I ds acc env → Good (compLoop (fun i => !(own.contains i)) tg (ev C pr elt) [ev C pr t] own ds env) (fun ms env => K (acc ++ ms) env) (fun _ _ => False)
  | [], acc, env, i => by
    show K (acc ++ []) env
    rw [List.append_nil]
    exact hn acc env i
  | d :: ds, acc, env, i => by
    obtain ⟨env2, h1, h2⟩ := pE_to (h d ds acc env i)
    unfold compLoop
    rw [h1]
    suffices go : Good ((pTests [ev C pr t] env2).bind fun k env => if k
      then ((ev C pr elt).v env).bind fun m env => (compLoop (fun i => !(own.contains i)) tg (ev C pr elt) [ev C pr t] own ds (wipeE env own)).bind fun ms env => .ok (m :: ms) env
      else compLoop (fun i => !(own.contains i)) tg (ev C pr elt) [ev C pr t] own ds (wipeE env own)) (fun ms env => K (acc ++ ms) env) (fun _ _ => False) from go
    rw [good_bind]
    unfold pTests
    rw [good_bind]
    unfold tE at h2
    refine h2.mono (fun c env3 k => ?_) fun _ _ x => x
    cases c with
    | false =>
      exact lT_inv I h hn ds acc _ k
    | true =>
      show Good (((ev C pr elt).v env3).bind _) _ _
      rw [good_bind]
      have k : vE C pr elt env3 (fun m env => I ds (acc ++ [m]) (wipeE env own)) (fun _ _ => False) := k
      unfold vE at k
      refine k.mono (fun m env4 k => ?_) fun _ _ x => x
      rw [good_bind]
      refine (lT_inv I h hn ds (acc ++ [m]) (wipeE env4 own) k).mono (fun ms env k => ?_) fun _ _ x => x
      show K (acc ++ m :: ms) env
      rw [List.append_assoc] at k
      exact k
theorem lt_inv {elt t : E} {tg : Tg} {own : List Nat} {ds : List D} {K : List M → Env → Prop} (I : List D → List M → Env → Prop) (i : I ds [] env) (h : ∀ d ds acc env, I (d :: ds) acc env → pE (bindT (fun i => !(own.contains i)) tg (.imm d) (wipeE env own)) fun env2 => tE C pr t env2 (tst C pr elt own (I ds acc) fun m => I ds (acc ++ [m])) (fun _ _ => False)) (hn : ∀ acc env, I [] acc env → K acc env) : lT C pr tg elt t own ds env K := by
  unfold lT
  exact lT_inv I h hn ds [] env i
theorem lt_pure {α : Type} {f : α → D} {g : α → M} (q : α → Bool) {elt t : E} {tg : Tg} {own : List Nat} {l : List α} {K : List M → Env → Prop} (hw : wipeE env own = env)
    (h : ∀ x ∈ l, pE (bindT (fun i => !(own.contains i)) tg (.imm (f x)) env) fun env2 => tE C pr t env2 (fun c env3 => c = q x ∧ if c = true then vE C pr elt env3 (fun m env4 => m = g x ∧ wipeE env4 own = env) (fun _ _ => False) else wipeE env3 own = env) (fun _ _ => False)) (k : K ((l.filter q).map g) env) : lT C pr tg elt t own (l.map f) env K := by
  refine lt_inv (fun rest acc env2 => ∃ done todo, l = done ++ todo ∧ rest = todo.map f ∧ acc = (done.filter q).map g ∧ env2 = env) ⟨[], l, rfl, rfl, rfl, rfl⟩ (fun d ds acc env2 z => ?_) (fun acc env2 z => ?_)
  · obtain ⟨done, todo, e1, e2, rfl, rfl⟩ := z
    match todo, e2 with
    | x :: todo, e2 =>
      obtain ⟨rfl, rfl⟩ := List.cons.inj e2
      obtain ⟨env3, h1, h2⟩ := pE_to (h x (by rw [e1]; simp))
      rw [hw]
      refine pE_mk env3 h1 ?_
      unfold tE at h2 ⊢
      refine h2.mono (fun c env4 r => ?_) fun _ _ x => x
      obtain ⟨r1, r2⟩ := r
      have e3 : l = done ++ [x] ++ todo := by rw [e1]; simp
      cases c with
      | false =>
        rw [if_neg Bool.false_ne_true] at r2
        show ∃ done' todo', _
        refine ⟨done ++ [x], todo, e3, rfl, ?_, r2⟩
        rw [List.filter_append, List.filter_cons_of_neg (by rw [← r1]; exact Bool.false_ne_true)]
        simp
      | true =>
        rw [if_pos rfl] at r2
        show vE _ _ _ _ _ _
        unfold vE at r2 ⊢
        refine r2.mono (fun m env5 r => ?_) fun _ _ x => x
        obtain ⟨rfl, r⟩ := r
        refine ⟨done ++ [x], todo, e3, rfl, ?_, r⟩
        rw [List.filter_append, List.filter_cons_of_pos r1.symm]
        simp
  · obtain ⟨done, todo, e1, e2, rfl, rfl⟩ := z
    match todo, e2 with
    | [], _ =>
      rw [List.append_nil] at e1
      subst e1
      exact k
end
/-! sizes of ints -/
def nb (k : Nat) (x : Int) : Prop := x.natAbs < 2 ^ k
theorem nb.mono {k m : Nat} {x : Int} (h : nb k x) (hk : k ≤ m) : nb m x := Nat.lt_of_lt_of_le h (Nat.pow_le_pow_right (by decide) hk)
theorem nb.mul {k m : Nat} {x y : Int} (h : nb k x) (h2 : nb m y) : nb (k + m) (x * y) := by
  unfold nb at *
  rw [Int.natAbs_mul, Nat.pow_add]
  exact Nat.mul_lt_mul'' h h2
theorem nb.add {k : Nat} {x y : Int} (h : nb k x) (h2 : nb k y) : nb (k + 1) (x + y) := by
  unfold nb at *
  have := Int.natAbs_add_le x y
  rw [Nat.pow_succ]
  omega
theorem nb.sub {k : Nat} {x y : Int} (h : nb k x) (h2 : nb k y) : nb (k + 1) (x - y) := by
  unfold nb at *
  have := Int.natAbs_sub_le x y
  rw [Nat.pow_succ]
  omega
theorem nb.neg {k : Nat} {x : Int} (h : nb k x) : nb k (-x) := by unfold nb at *; rwa [Int.natAbs_neg]
theorem nb.fmod {k : Nat} {x c : Int} (hc : 0 < c) (h : nb k c) : nb k (x.fmod c) := by
  have h1 := Int.fmod_nonneg_of_pos x hc
  have h2 := Int.fmod_lt_of_pos x hc
  unfold nb at *
  omega
theorem nb.fdiv {k : Nat} {x c : Int} (hc : 0 < c) (h : nb k x) : nb k (x.fdiv c) := by
  rw [Int.fdiv_eq_ediv_of_nonneg _ (by omega)]
  have h1 := Int.mul_ediv_add_emod x c
  have h2 := Int.emod_nonneg x (show c ≠ 0 by omega)
  have h3 := Int.emod_lt_of_pos x hc
  unfold nb at *
  by_cases hx : 0 ≤ x
  · have h4 := Int.ediv_nonneg hx (show (0 : Int) ≤ c by omega)
    have h5 := Int.ediv_le_self c hx
    omega
  · have h4 : x / c ≤ -1 := by
      have := Int.ediv_le_ediv hc (show x ≤ -1 by omega)
      have h5 : (-1 : Int) / c = -1 := by
        rw [Int.neg_one_ediv]
        rw [Int.sign_eq_one_of_pos hc]
      omega
    have h5 : x ≤ x / c := Int.le_ediv_of_mul_le hc (by
      have : x * c ≤ x * 1 := Int.mul_le_mul_of_nonpos_left (by omega) (by omega)
      omega)
    omega
theorem nb.log {k : Nat} {x : Int} (h : nb k x) : x.natAbs.log2 ≤ k := by
  unfold nb at h
  by_cases h0 : x.natAbs = 0
  · rw [h0]; exact Nat.zero_le _
  · exact Nat.le_of_lt ((Nat.log2_lt h0).mpr h)
theorem nb.mulOk {k m : Nat} {x y : Int} (h : nb k x) (h2 : nb m y) (hk : k + m < 1000000) : MulOk x y := .inr (by
  have := h.log
  have := h2.log
  omega)
theorem nb.divOk {k : Nat} {x : Int} (h : nb k x) (h0 : x ≠ 0) (hk : k < 9000) : DivOk x := ⟨h0, by have := h.log; omega⟩
theorem q_sumL {l : List Int} {Q : M → Prop} (k : Q (mI l.sum)) : pE (primM .sum [.lst (iM l)]) Q := pE_mk _ (by show (match imms (iM l) with | some ds => (dInts ds).map fun (l : List Int) => M.imm (.int l.sum) | none => none) = _; rw [imms_ints]; show (dInts (iD l)).map _ = _; rw [dInts_ints]; rfl) k
end Mini

set_option Elab.async false
set_option linter.all false
set_option maxRecDepth 100000
set_option maxHeartbeats 4000000
set_option autoImplicit false
namespace Mini
open PySem PySem.Spec PyProof.Rows L2
theorem ixN_zero (n : Nat) : ixN (n + 1) 0 = some 0 := by
  unfold ixN
  rw [if_pos (Int.le_refl 0), if_pos (by omega)]
  rfl
theorem atI_zero {α : Type} (x : α) (l : List α) : L2.atI (x :: l) 0 = some x := by
  unfold L2.atI
  rw [List.length_cons, ixN_zero]
  rfl
theorem atI_at {l : List Int} {k : Nat} (h : k < l.length) : L2.atI (iM l) k = some (mI l[k]) := atI_nat (xs := iM l) (j := k) (v := mI l[k]) (by simp [iM, h])
theorem atI_mem {l : List Int} {k : Int} (h0 : 0 ≤ k) (h1 : k < l.length) : ∃ z, z ∈ l ∧ L2.atI (iM l) k = some (mI z) := by
  have hlt : k.toNat < l.length := by omega
  refine ⟨l[k.toNat], List.getElem_mem hlt, ?_⟩
  have h := atI_at (l := l) (k := k.toNat) hlt
  rwa [Int.toNat_of_nonneg h0] at h
theorem q_item {l : List Int} {k z : Int} {Q : M → Prop} (h : L2.atI (iM l) k = some (mI z)) (kk : Q (mI z)) : pE (primM .item [.lst (iM l), mI k]) Q := pE_mk _ (by
  show (match getP (.lst (iM l)) [.ix k] with
    | some (.imm d) => some (M.imm d)
    | _ => none) = _
  have e : getP (.lst (iM l)) [.ix k] = some (mI z) := by
    show (match L2.atI (iM l) k with | some m => getP m [] | none => none) = _
    rw [h]
    rfl
  rw [e]) kk
section
variable {C : Ct} {pr : Nat → Bool} {env : Env} {X : XP} {tg : Tg} {ss : List S} {ds ds' : List D} {e t : E} {own : List Nat}
theorem x_callF {T : List Fn} {n f : Nat} {F : Fn} {es : List E} {K : M → Env → Prop} (h : T[f]? = some F) (k : acE (ctOf T n) pr es env (fun as env => pE (takeA as F.prot env) fun q => cE' (run T n f q.1) (fun m fin => K m (giveA as F.prot fin q.2)) (fun x fin => X x (giveA as F.prot fin q.2))) X) : vE (ctOf T n) pr (.call f es) env K X := by
  refine x_call ?_
  have e : (ctOf T n).prot f = F.prot := by
    show (match T[f]? with | some G => G.prot | none => []) = _
    rw [h]
  rw [e]
  exact k
theorem fE_eq {K : Flw → Env → Prop} (h : ds = ds') (k : fE C pr tg ss ds' env K X) : fE C pr tg ss ds env K X := by rw [h]; exact k
theorem lE_eq {K : List M → Env → Prop} (h : ds = ds') (k : lE C pr tg e own ds' env K) : lE C pr tg e own ds env K := by rw [h]; exact k
theorem lT_eq {K : List M → Env → Prop} (h : ds = ds') (k : lT C pr tg e t own ds' env K) : lT C pr tg e t own ds env K := by rw [h]; exact k
end
theorem frzs_imm : ∀ l : List D, frzs (l.map M.imm) = l
  | [] => rfl
  | d :: l => by show d :: frzs (l.map M.imm) = _; rw [frzs_imm l]
theorem cut_ints (ns : List Int) (lo hi : Option Int) : frzs ((cutD (iD ns) lo hi).map M.imm) = iD (cutD ns lo hi) := by rw [frzs_imm, cutD_map]
theorem cutD_len {α : Type} (l : List α) (lo hi : Option Int) : (cutD l lo hi).length ≤ l.length := by
  unfold cutD
  rw [List.length_take, List.length_drop]
  omega
/-! reprs of lists of ints -/
def shL (l : List Int) : Str := PyData.shown (.list (l.map PyData.int))
theorem sum_le_piled : ∀ ts : List Str, (ts.map (·.length)).sum ≤ piled ts
  | [] => Nat.zero_le _
  | t :: ts => by
    have := sum_le_piled ts
    rw [piled_cons, List.map_cons, List.sum_cons]
    omega
theorem repr_lst (l : List Int) (h : ∀ x ∈ l, x.natAbs.log2 < 1920) (hl : l.length ≤ 1000) : prRepr (.lst (iM l)) = some (.imm (.str (shL l))) := by
  have e0 : frz (.lst (iM l)) = .lst (iD l) := by show D.lst (frzs (iM l)) = _; rw [frzs_ints]
  have e : toPy (.lst (iD l)) = .list (l.map PyData.int) := by show PyData.list (toPys (iD l)) = _; rw [toPys_ints]
  have e1 : pyOk (.lst (iD l)) = true := pyOks_ints l
  have e2 : PyData.showable (.list (l.map PyData.int)) = true := by rw [PyData.showable]; exact showable_ints l h
  have e3 : (PyData.list (l.map PyData.int)).depth ≤ 64 := by rw [PyData.depth, depth_ints]; decide
  have e4 : (PyData.shown (.list (l.map PyData.int))).length ≤ sizeLine := by
    rw [PyData.shown, shown_ints]
    have h1 := listText_len_le (l.map fun i => Str.ofString (toString i))
    have h2 := piled_ints l h
    rw [List.length_map] at h1
    have := sizeLine_eq
    have h3 : ((l.map fun i => Str.ofString (toString i)).map (·.length)).sum ≤ 1923 * l.length := Nat.le_trans (sum_le_piled _) h2
    omega
  unfold prRepr
  rw [e0]
  show (if (pyOk (.lst (iD l)) && PyData.showable (toPy (.lst (iD l))) && decide ((toPy (.lst (iD l))).depth ≤ 64) && decide ((PyData.shown (toPy (.lst (iD l)))).length ≤ sizeLine)) = true then some (M.imm (.str (PyData.shown (toPy (.lst (iD l)))))) else none) = _
  rw [e, e1, e2]
  rw [if_pos (by simp [e3, e4])]
  rfl
theorem q_reprL {l : List Int} {Q : M → Prop} (h : ∀ x ∈ l, x.natAbs.log2 < 1920) (hl : l.length ≤ 1000) (k : Q (.imm (.str (shL l)))) : pE (primM .repr [.lst (iM l)]) Q := pE_mk _ (repr_lst l h hl) k
theorem eqM_lst (l k : List Int) : eqM (.lst (iM l)) (.lst (iM k)) = some (decide (l = k)) := by
  show (if (fitPy (.lst (frzs (iM l))) && fitPy (.lst (frzs (iM k)))) = true then some (PyData.eqv (.list (toPys (frzs (iM l)))) (.list (toPys (frzs (iM k))))) else none) = _
  rw [frzs_ints, frzs_ints, fit_lst, fit_lst, if_pos (by rfl), toPys_ints, toPys_ints, PyData.eqv, eqv_ints]
theorem q_eqL {l k : List Int} {Q : M → Prop} (h : Q (mB (decide (l = k)))) : pE (primM .eq [.lst (iM l), .lst (iM k)]) Q := pE_mk _ (by show (eqM _ _).map _ = _; rw [eqM_lst]; rfl) h
theorem q_neL {l k : List Int} {Q : M → Prop} (h : Q (mB (!decide (l = k)))) : pE (primM .ne [.lst (iM l), .lst (iM k)]) Q := pE_mk _ (by show (eqM _ _).map _ = _; rw [eqM_lst]; rfl) h
theorem q_p6 {Q : M → Prop} (k : Q (mI 1000000)) : pE (primM .pow [mI 10, mI 6]) Q := q_pow ⟨by decide, by decide, by decide⟩ k
theorem q_p8 {Q : M → Prop} (k : Q (mI 100000000)) : pE (primM .pow [mI 10, mI 8]) Q := q_pow ⟨by decide, by decide, by decide⟩ k
theorem q_p9 {Q : M → Prop} (k : Q (mI 1000000000)) : pE (primM .pow [mI 10, mI 9]) Q := q_pow ⟨by decide, by decide, by decide⟩ k
theorem q_p10 {Q : M → Prop} (k : Q (mI 10000000000)) : pE (primM .pow [mI 10, mI 10]) Q := q_pow ⟨by decide, by decide, by decide⟩ k
theorem q_p12 {Q : M → Prop} (k : Q (mI 1000000000000)) : pE (primM .pow [mI 10, mI 12]) Q := q_pow ⟨by decide, by decide, by decide⟩ k
theorem q_p18 {Q : M → Prop} (k : Q (mI 1000000000000000000)) : pE (primM .pow [mI 10, mI 18]) Q := q_pow ⟨by decide, by decide, by decide⟩ k
theorem q_p19 {Q : M → Prop} (k : Q (mI 10000000000000000000)) : pE (primM .pow [mI 10, mI 19]) Q := q_pow ⟨by decide, by decide, by decide⟩ k
theorem q_p20 {Q : M → Prop} (k : Q (mI 100000000000000000000)) : pE (primM .pow [mI 10, mI 20]) Q := q_pow ⟨by decide, by decide, by decide⟩ k
theorem q_p28 {Q : M → Prop} (k : Q (mI 10000000000000000000000000000)) : pE (primM .pow [mI 10, mI 28]) Q := q_pow ⟨by decide, by decide, by decide⟩ k
theorem q_p29 {Q : M → Prop} (k : Q (mI 100000000000000000000000000000)) : pE (primM .pow [mI 10, mI 29]) Q := q_pow ⟨by decide, by decide, by decide⟩ k
theorem q_p30 {Q : M → Prop} (k : Q (mI 1000000000000000000000000000000)) : pE (primM .pow [mI 10, mI 30]) Q := q_pow ⟨by decide, by decide, by decide⟩ k
theorem q_p39 {Q : M → Prop} (k : Q (mI 1000000000000000000000000000000000000000)) : pE (primM .pow [mI 10, mI 39]) Q := q_pow ⟨by decide, by decide, by decide⟩ k
end Mini

set_option Elab.async false
set_option linter.all false
set_option maxRecDepth 100000
set_option maxHeartbeats 4000000
set_option autoImplicit false
namespace Mini
open PySem PySem.Spec PyProof.Rows L2
/-! calls and stores whose environments stay written out -/
@[irreducible] def takE (as : List A) (bs : List Bool) (env : Env) (K : List M → Env → Prop) : Prop := ∃ ms env', takeA as bs env = some (ms, env') ∧ K ms env'
@[irreducible] def gvE (as : List A) (bs : List Bool) (fin : List (Option M)) (env : Env) (K : Env → Prop) : Prop := K (giveA as bs fin env)
section
variable {C : Ct} {pr : Nat → Bool} {env env' : Env} {X : XP} {as : List A} {bs : List Bool} {b : Bool} {m : M} {fin : List (Option M)} {e t : E} {es : List E}
theorem x_callN {T : List Fn} {n f : Nat} {F : Fn} {K : M → Env → Prop} (h : T[f]? = some F) (k : acE (ctOf T n) pr es env (fun as env => takE as F.prot env fun ms env1 => cE' (run T n f ms) (fun m fin => gvE as F.prot fin env1 fun env2 => K m env2) (fun x fin => X x (giveA as F.prot fin env1))) X) : vE (ctOf T n) pr (.call f es) env K X := by
  refine x_callF h ?_
  unfold takE gvE at k
  unfold acE at k ⊢
  refine k.mono (fun as env k => ?_) fun _ _ x => x
  obtain ⟨ms, env', h, k⟩ := k
  exact pE_mk (ms, env') h k
theorem tk_nil {K : List M → Env → Prop} (k : K [] env) : takE [] bs env K := by unfold takE; exact ⟨[], env, by cases bs <;> rfl, k⟩
theorem tk_val {K : List M → Env → Prop} (k : takE as bs.tail env fun ms => K (m :: ms)) : takE (.val m :: as) bs env K := by
  unfold takE at *
  obtain ⟨ms, env', h, k⟩ := k
  refine ⟨m :: ms, env', ?_, k⟩
  show (match takeA as bs.tail env with | some (ms, env') => some (m :: ms, env') | none => none) = _
  rw [h]
theorem tk_ref {i : Nat} {env1 : Env} {K : List M → Env → Prop} (h : gt env i = some m) (h1 : env.set i none = env1) (k : takE as bs env1 fun ms => K (m :: ms)) : takE (.ref i [] :: as) (true :: bs) env K := by
  unfold takE at *
  subst h1
  obtain ⟨ms, env', h2, k⟩ := k
  refine ⟨m :: ms, env', ?_, k⟩
  show (match gt env i with
    | some m => if (true :: bs).head? = some true then
        match takeA as (true :: bs).tail (env.set i none) with
        | some (ms, env') => some (m :: ms, env')
        | none => none
      else _
    | none => none) = _
  rw [h]
  simp only []
  rw [if_pos (by rfl)]
  show (match takeA as bs (env.set i none) with
        | some (ms, env') => some (m :: ms, env')
        | none => none) = _
  rw [h2]
theorem gv_nil {K : Env → Prop} (k : K env) : gvE [] bs fin env K := by unfold gvE; exact k
theorem gv_val {K : Env → Prop} (k : gvE as bs.tail fin.tail env K) : gvE (.val m :: as) bs fin env K := by unfold gvE at *; exact k
theorem gv_ref {i : Nat} {p : List PS} {o : Option M} {env1 : Env} {K : Env → Prop} (h : env.set i o = env1) (k : gvE as bs fin env1 K) : gvE (.ref i p :: as) (true :: bs) (o :: fin) env K := by
  unfold gvE at *
  subst h
  have e : giveA (.ref i p :: as) (true :: bs) (o :: fin) env = giveA as bs fin (if (true :: bs).head? = some true then env.set i ((o :: fin).head?.join) else env) := rfl
  rw [e, if_pos (by rfl)]
  cases o <;> exact k
theorem q_name {i : Nat} {Q : Env → Prop} {env1 : Env} (hp : pr i = false) (h : env.set i (some m) = env1) (k : Q env1) : pE (bindT pr (.name i) m env) Q := pE_mk env1 (by
  show (if pr i then none else some (env.set i (some m))) = _
  rw [hp, if_neg Bool.false_ne_true, h]) k

theorem q_name0 {o : Option M} {r : Env} {Q : Env → Prop} (hp : pr 0 = false) (k : Q (some m :: r)) : pE (bindT pr (.name 0) m (o :: r)) Q := q_name hp rfl k
theorem tk_ref0 {r : Env} {K : List M → Env → Prop} (k : takE as bs (none :: r) fun ms => K (m :: ms)) : takE (.ref 0 [] :: as) (true :: bs) (some m :: r) K := tk_ref rfl rfl k
theorem gv_ref0 {p : List PS} {o o2 : Option M} {r : Env} {K : Env → Prop} (k : gvE as bs fin (o :: r) K) : gvE (.ref 0 p :: as) (true :: bs) (o :: fin) (o2 :: r) K := gv_ref rfl k
theorem q_name1 {o0 : Option M} {o : Option M} {r : Env} {Q : Env → Prop} (hp : pr 1 = false) (k : Q (o0 :: some m :: r)) : pE (bindT pr (.name 1) m (o0 :: o :: r)) Q := q_name hp rfl k
theorem tk_ref1 {o0 : Option M} {r : Env} {K : List M → Env → Prop} (k : takE as bs (o0 :: none :: r) fun ms => K (m :: ms)) : takE (.ref 1 [] :: as) (true :: bs) (o0 :: some m :: r) K := tk_ref rfl rfl k
theorem gv_ref1 {o0 : Option M} {p : List PS} {o o2 : Option M} {r : Env} {K : Env → Prop} (k : gvE as bs fin (o0 :: o :: r) K) : gvE (.ref 1 p :: as) (true :: bs) (o :: fin) (o0 :: o2 :: r) K := gv_ref rfl k
theorem x_comp1 {o0 : Option M} {o : Option M} {r : Env} {elt : E} {tg : Tg} {k : IK} {K : M → Env → Prop} (g : msE C pr es (o0 :: o :: r) (fun ms env => iO k ms fun ds => lE C pr tg elt [1] ds (env.set 1 none) (fun ms env' => ms.length ≤ 10000 ∧ K (.lst ms) (backE env env' [1]))) X) : vE C pr (.comp elt tg k es [] [1]) (o0 :: o :: r) K X := x_comp g
theorem q_name2 {o0 o1 : Option M} {o : Option M} {r : Env} {Q : Env → Prop} (hp : pr 2 = false) (k : Q (o0 :: o1 :: some m :: r)) : pE (bindT pr (.name 2) m (o0 :: o1 :: o :: r)) Q := q_name hp rfl k
theorem tk_ref2 {o0 o1 : Option M} {r : Env} {K : List M → Env → Prop} (k : takE as bs (o0 :: o1 :: none :: r) fun ms => K (m :: ms)) : takE (.ref 2 [] :: as) (true :: bs) (o0 :: o1 :: some m :: r) K := tk_ref rfl rfl k
theorem gv_ref2 {o0 o1 : Option M} {p : List PS} {o o2 : Option M} {r : Env} {K : Env → Prop} (k : gvE as bs fin (o0 :: o1 :: o :: r) K) : gvE (.ref 2 p :: as) (true :: bs) (o :: fin) (o0 :: o1 :: o2 :: r) K := gv_ref rfl k
theorem x_comp2 {o0 o1 : Option M} {o : Option M} {r : Env} {elt : E} {tg : Tg} {k : IK} {K : M → Env → Prop} (g : msE C pr es (o0 :: o1 :: o :: r) (fun ms env => iO k ms fun ds => lE C pr tg elt [2] ds (env.set 2 none) (fun ms env' => ms.length ≤ 10000 ∧ K (.lst ms) (backE env env' [2]))) X) : vE C pr (.comp elt tg k es [] [2]) (o0 :: o1 :: o :: r) K X := x_comp g
theorem q_name3 {o0 o1 o2 : Option M} {o : Option M} {r : Env} {Q : Env → Prop} (hp : pr 3 = false) (k : Q (o0 :: o1 :: o2 :: some m :: r)) : pE (bindT pr (.name 3) m (o0 :: o1 :: o2 :: o :: r)) Q := q_name hp rfl k
theorem tk_ref3 {o0 o1 o2 : Option M} {r : Env} {K : List M → Env → Prop} (k : takE as bs (o0 :: o1 :: o2 :: none :: r) fun ms => K (m :: ms)) : takE (.ref 3 [] :: as) (true :: bs) (o0 :: o1 :: o2 :: some m :: r) K := tk_ref rfl rfl k
theorem gv_ref3 {o0 o1 o2 : Option M} {p : List PS} {o o2 : Option M} {r : Env} {K : Env → Prop} (k : gvE as bs fin (o0 :: o1 :: o2 :: o :: r) K) : gvE (.ref 3 p :: as) (true :: bs) (o :: fin) (o0 :: o1 :: o2 :: o2 :: r) K := gv_ref rfl k
theorem x_comp3 {o0 o1 o2 : Option M} {o : Option M} {r : Env} {elt : E} {tg : Tg} {k : IK} {K : M → Env → Prop} (g : msE C pr es (o0 :: o1 :: o2 :: o :: r) (fun ms env => iO k ms fun ds => lE C pr tg elt [3] ds (env.set 3 none) (fun ms env' => ms.length ≤ 10000 ∧ K (.lst ms) (backE env env' [3]))) X) : vE C pr (.comp elt tg k es [] [3]) (o0 :: o1 :: o2 :: o :: r) K X := x_comp g
theorem q_name4 {o0 o1 o2 o3 : Option M} {o : Option M} {r : Env} {Q : Env → Prop} (hp : pr 4 = false) (k : Q (o0 :: o1 :: o2 :: o3 :: some m :: r)) : pE (bindT pr (.name 4) m (o0 :: o1 :: o2 :: o3 :: o :: r)) Q := q_name hp rfl k
theorem tk_ref4 {o0 o1 o2 o3 : Option M} {r : Env} {K : List M → Env → Prop} (k : takE as bs (o0 :: o1 :: o2 :: o3 :: none :: r) fun ms => K (m :: ms)) : takE (.ref 4 [] :: as) (true :: bs) (o0 :: o1 :: o2 :: o3 :: some m :: r) K := tk_ref rfl rfl k
theorem gv_ref4 {o0 o1 o2 o3 : Option M} {p : List PS} {o o2 : Option M} {r : Env} {K : Env → Prop} (k : gvE as bs fin (o0 :: o1 :: o2 :: o3 :: o :: r) K) : gvE (.ref 4 p :: as) (true :: bs) (o :: fin) (o0 :: o1 :: o2 :: o3 :: o2 :: r) K := gv_ref rfl k
theorem x_comp4 {o0 o1 o2 o3 : Option M} {o : Option M} {r : Env} {elt : E} {tg : Tg} {k : IK} {K : M → Env → Prop} (g : msE C pr es (o0 :: o1 :: o2 :: o3 :: o :: r) (fun ms env => iO k ms fun ds => lE C pr tg elt [4] ds (env.set 4 none) (fun ms env' => ms.length ≤ 10000 ∧ K (.lst ms) (backE env env' [4]))) X) : vE C pr (.comp elt tg k es [] [4]) (o0 :: o1 :: o2 :: o3 :: o :: r) K X := x_comp g
theorem q_name5 {o0 o1 o2 o3 o4 : Option M} {o : Option M} {r : Env} {Q : Env → Prop} (hp : pr 5 = false) (k : Q (o0 :: o1 :: o2 :: o3 :: o4 :: some m :: r)) : pE (bindT pr (.name 5) m (o0 :: o1 :: o2 :: o3 :: o4 :: o :: r)) Q := q_name hp rfl k
theorem x_comp5 {o0 o1 o2 o3 o4 : Option M} {o : Option M} {r : Env} {elt : E} {tg : Tg} {k : IK} {K : M → Env → Prop} (g : msE C pr es (o0 :: o1 :: o2 :: o3 :: o4 :: o :: r) (fun ms env => iO k ms fun ds => lE C pr tg elt [5] ds (env.set 5 none) (fun ms env' => ms.length ≤ 10000 ∧ K (.lst ms) (backE env env' [5]))) X) : vE C pr (.comp elt tg k es [] [5]) (o0 :: o1 :: o2 :: o3 :: o4 :: o :: r) K X := x_comp g
theorem q_name6 {o0 o1 o2 o3 o4 o5 : Option M} {o : Option M} {r : Env} {Q : Env → Prop} (hp : pr 6 = false) (k : Q (o0 :: o1 :: o2 :: o3 :: o4 :: o5 :: some m :: r)) : pE (bindT pr (.name 6) m (o0 :: o1 :: o2 :: o3 :: o4 :: o5 :: o :: r)) Q := q_name hp rfl k
theorem x_comp6 {o0 o1 o2 o3 o4 o5 : Option M} {o : Option M} {r : Env} {elt : E} {tg : Tg} {k : IK} {K : M → Env → Prop} (g : msE C pr es (o0 :: o1 :: o2 :: o3 :: o4 :: o5 :: o :: r) (fun ms env => iO k ms fun ds => lE C pr tg elt [6] ds (env.set 6 none) (fun ms env' => ms.length ≤ 10000 ∧ K (.lst ms) (backE env env' [6]))) X) : vE C pr (.comp elt tg k es [] [6]) (o0 :: o1 :: o2 :: o3 :: o4 :: o5 :: o :: r) K X := x_comp g
theorem q_name7 {o0 o1 o2 o3 o4 o5 o6 : Option M} {o : Option M} {r : Env} {Q : Env → Prop} (hp : pr 7 = false) (k : Q (o0 :: o1 :: o2 :: o3 :: o4 :: o5 :: o6 :: some m :: r)) : pE (bindT pr (.name 7) m (o0 :: o1 :: o2 :: o3 :: o4 :: o5 :: o6 :: o :: r)) Q := q_name hp rfl k
theorem x_comp7 {o0 o1 o2 o3 o4 o5 o6 : Option M} {o : Option M} {r : Env} {elt : E} {tg : Tg} {k : IK} {K : M → Env → Prop} (g : msE C pr es (o0 :: o1 :: o2 :: o3 :: o4 :: o5 :: o6 :: o :: r) (fun ms env => iO k ms fun ds => lE C pr tg elt [7] ds (env.set 7 none) (fun ms env' => ms.length ≤ 10000 ∧ K (.lst ms) (backE env env' [7]))) X) : vE C pr (.comp elt tg k es [] [7]) (o0 :: o1 :: o2 :: o3 :: o4 :: o5 :: o6 :: o :: r) K X := x_comp g
theorem q_name8 {o0 o1 o2 o3 o4 o5 o6 o7 : Option M} {o : Option M} {r : Env} {Q : Env → Prop} (hp : pr 8 = false) (k : Q (o0 :: o1 :: o2 :: o3 :: o4 :: o5 :: o6 :: o7 :: some m :: r)) : pE (bindT pr (.name 8) m (o0 :: o1 :: o2 :: o3 :: o4 :: o5 :: o6 :: o7 :: o :: r)) Q := q_name hp rfl k
theorem x_comp8 {o0 o1 o2 o3 o4 o5 o6 o7 : Option M} {o : Option M} {r : Env} {elt : E} {tg : Tg} {k : IK} {K : M → Env → Prop} (g : msE C pr es (o0 :: o1 :: o2 :: o3 :: o4 :: o5 :: o6 :: o7 :: o :: r) (fun ms env => iO k ms fun ds => lE C pr tg elt [8] ds (env.set 8 none) (fun ms env' => ms.length ≤ 10000 ∧ K (.lst ms) (backE env env' [8]))) X) : vE C pr (.comp elt tg k es [] [8]) (o0 :: o1 :: o2 :: o3 :: o4 :: o5 :: o6 :: o7 :: o :: r) K X := x_comp g
theorem q_name9 {o0 o1 o2 o3 o4 o5 o6 o7 o8 : Option M} {o : Option M} {r : Env} {Q : Env → Prop} (hp : pr 9 = false) (k : Q (o0 :: o1 :: o2 :: o3 :: o4 :: o5 :: o6 :: o7 :: o8 :: some m :: r)) : pE (bindT pr (.name 9) m (o0 :: o1 :: o2 :: o3 :: o4 :: o5 :: o6 :: o7 :: o8 :: o :: r)) Q := q_name hp rfl k
theorem x_comp9 {o0 o1 o2 o3 o4 o5 o6 o7 o8 : Option M} {o : Option M} {r : Env} {elt : E} {tg : Tg} {k : IK} {K : M → Env → Prop} (g : msE C pr es (o0 :: o1 :: o2 :: o3 :: o4 :: o5 :: o6 :: o7 :: o8 :: o :: r) (fun ms env => iO k ms fun ds => lE C pr tg elt [9] ds (env.set 9 none) (fun ms env' => ms.length ≤ 10000 ∧ K (.lst ms) (backE env env' [9]))) X) : vE C pr (.comp elt tg k es [] [9]) (o0 :: o1 :: o2 :: o3 :: o4 :: o5 :: o6 :: o7 :: o8 :: o :: r) K X := x_comp g
theorem q_name10 {o0 o1 o2 o3 o4 o5 o6 o7 o8 o9 : Option M} {o : Option M} {r : Env} {Q : Env → Prop} (hp : pr 10 = false) (k : Q (o0 :: o1 :: o2 :: o3 :: o4 :: o5 :: o6 :: o7 :: o8 :: o9 :: some m :: r)) : pE (bindT pr (.name 10) m (o0 :: o1 :: o2 :: o3 :: o4 :: o5 :: o6 :: o7 :: o8 :: o9 :: o :: r)) Q := q_name hp rfl k
theorem x_comp10 {o0 o1 o2 o3 o4 o5 o6 o7 o8 o9 : Option M} {o : Option M} {r : Env} {elt : E} {tg : Tg} {k : IK} {K : M → Env → Prop} (g : msE C pr es (o0 :: o1 :: o2 :: o3 :: o4 :: o5 :: o6 :: o7 :: o8 :: o9 :: o :: r) (fun ms env => iO k ms fun ds => lE C pr tg elt [10] ds (env.set 10 none) (fun ms env' => ms.length ≤ 10000 ∧ K (.lst ms) (backE env env' [10]))) X) : vE C pr (.comp elt tg k es [] [10]) (o0 :: o1 :: o2 :: o3 :: o4 :: o5 :: o6 :: o7 :: o8 :: o9 :: o :: r) K X := x_comp g
theorem q_name11 {o0 o1 o2 o3 o4 o5 o6 o7 o8 o9 o10 : Option M} {o : Option M} {r : Env} {Q : Env → Prop} (hp : pr 11 = false) (k : Q (o0 :: o1 :: o2 :: o3 :: o4 :: o5 :: o6 :: o7 :: o8 :: o9 :: o10 :: some m :: r)) : pE (bindT pr (.name 11) m (o0 :: o1 :: o2 :: o3 :: o4 :: o5 :: o6 :: o7 :: o8 :: o9 :: o10 :: o :: r)) Q := q_name hp rfl k
theorem x_comp11 {o0 o1 o2 o3 o4 o5 o6 o7 o8 o9 o10 : Option M} {o : Option M} {r : Env} {elt : E} {tg : Tg} {k : IK} {K : M → Env → Prop} (g : msE C pr es (o0 :: o1 :: o2 :: o3 :: o4 :: o5 :: o6 :: o7 :: o8 :: o9 :: o10 :: o :: r) (fun ms env => iO k ms fun ds => lE C pr tg elt [11] ds (env.set 11 none) (fun ms env' => ms.length ≤ 10000 ∧ K (.lst ms) (backE env env' [11]))) X) : vE C pr (.comp elt tg k es [] [11]) (o0 :: o1 :: o2 :: o3 :: o4 :: o5 :: o6 :: o7 :: o8 :: o9 :: o10 :: o :: r) K X := x_comp g
theorem q_name12 {o0 o1 o2 o3 o4 o5 o6 o7 o8 o9 o10 o11 : Option M} {o : Option M} {r : Env} {Q : Env → Prop} (hp : pr 12 = false) (k : Q (o0 :: o1 :: o2 :: o3 :: o4 :: o5 :: o6 :: o7 :: o8 :: o9 :: o10 :: o11 :: some m :: r)) : pE (bindT pr (.name 12) m (o0 :: o1 :: o2 :: o3 :: o4 :: o5 :: o6 :: o7 :: o8 :: o9 :: o10 :: o11 :: o :: r)) Q := q_name hp rfl k
theorem x_comp12 {o0 o1 o2 o3 o4 o5 o6 o7 o8 o9 o10 o11 : Option M} {o : Option M} {r : Env} {elt : E} {tg : Tg} {k : IK} {K : M → Env → Prop} (g : msE C pr es (o0 :: o1 :: o2 :: o3 :: o4 :: o5 :: o6 :: o7 :: o8 :: o9 :: o10 :: o11 :: o :: r) (fun ms env => iO k ms fun ds => lE C pr tg elt [12] ds (env.set 12 none) (fun ms env' => ms.length ≤ 10000 ∧ K (.lst ms) (backE env env' [12]))) X) : vE C pr (.comp elt tg k es [] [12]) (o0 :: o1 :: o2 :: o3 :: o4 :: o5 :: o6 :: o7 :: o8 :: o9 :: o10 :: o11 :: o :: r) K X := x_comp g
theorem q_name13 {o0 o1 o2 o3 o4 o5 o6 o7 o8 o9 o10 o11 o12 : Option M} {o : Option M} {r : Env} {Q : Env → Prop} (hp : pr 13 = false) (k : Q (o0 :: o1 :: o2 :: o3 :: o4 :: o5 :: o6 :: o7 :: o8 :: o9 :: o10 :: o11 :: o12 :: some m :: r)) : pE (bindT pr (.name 13) m (o0 :: o1 :: o2 :: o3 :: o4 :: o5 :: o6 :: o7 :: o8 :: o9 :: o10 :: o11 :: o12 :: o :: r)) Q := q_name hp rfl k
theorem x_comp13 {o0 o1 o2 o3 o4 o5 o6 o7 o8 o9 o10 o11 o12 : Option M} {o : Option M} {r : Env} {elt : E} {tg : Tg} {k : IK} {K : M → Env → Prop} (g : msE C pr es (o0 :: o1 :: o2 :: o3 :: o4 :: o5 :: o6 :: o7 :: o8 :: o9 :: o10 :: o11 :: o12 :: o :: r) (fun ms env => iO k ms fun ds => lE C pr tg elt [13] ds (env.set 13 none) (fun ms env' => ms.length ≤ 10000 ∧ K (.lst ms) (backE env env' [13]))) X) : vE C pr (.comp elt tg k es [] [13]) (o0 :: o1 :: o2 :: o3 :: o4 :: o5 :: o6 :: o7 :: o8 :: o9 :: o10 :: o11 :: o12 :: o :: r) K X := x_comp g
/-- the environment behind a comprehension with one variable -/
theorem back1 {i : Nat} {env0 env1 env2 : Env} {K : Env → Prop} (h : env1.set i (gt env0 i) = env2) (k : K env2) : K (backE env0 env1 [i]) := by
  subst h
  exact k

/-! ends of instructions, by heads that the unifier does not open -/
@[irreducible] def prE (p : Pr) (ms : List M) (Q : M → Prop) : Prop := ∃ m, primM p ms = some m ∧ Q m
@[irreducible] def rsE (env : Env) (as : List A) (Q : List M → Prop) : Prop := ∃ ms, res env as = some ms ∧ Q ms
@[irreducible] def bdE (pr : Nat → Bool) (tg : Tg) (m : M) (env : Env) (Q : Env → Prop) : Prop := ∃ env', bindT pr tg m env = some env' ∧ Q env'
@[irreducible] def bsE (pr : Nat → Bool) (tgs : List Tg) (ms : List M) (env : Env) (Q : Env → Prop) : Prop := ∃ env', bindTs pr tgs ms env = some env' ∧ Q env'
@[irreducible] def trE (m : M) (Q : Bool → Prop) : Prop := ∃ b, truM m = some b ∧ Q b
theorem pr_of {p : Pr} {ms : List M} {Q : M → Prop} (h : pE (primM p ms) Q) : prE p ms Q := by unfold prE; exact pE_to h
theorem rs_to {as : List A} {Q : List M → Prop} (h : rsE env as Q) : pE (res env as) Q := by unfold rsE at h; obtain ⟨m, h, k⟩ := h; exact pE_mk m h k
theorem bd_of {tg : Tg} {Q : Env → Prop} (h : pE (bindT pr tg m env) Q) : bdE pr tg m env Q := by unfold bdE; exact pE_to h
theorem bd_to {tg : Tg} {Q : Env → Prop} (h : bdE pr tg m env Q) : pE (bindT pr tg m env) Q := by unfold bdE at h; obtain ⟨m, h, k⟩ := h; exact pE_mk m h k
theorem bs_of {tgs : List Tg} {ms : List M} {Q : Env → Prop} (h : pE (bindTs pr tgs ms env) Q) : bsE pr tgs ms env Q := by unfold bsE; exact pE_to h
theorem bs_to {tgs : List Tg} {ms : List M} {Q : Env → Prop} (h : bsE pr tgs ms env Q) : pE (bindTs pr tgs ms env) Q := by unfold bsE at h; obtain ⟨m, h, k⟩ := h; exact pE_mk m h k
theorem tr_any {Q : Bool → Prop} (h : truM m = some b) (k : Q b) : trE m Q := by unfold trE; exact ⟨b, h, k⟩
theorem tr_bl {Q : Bool → Prop} (k : Q b) : trE (mB b) Q := tr_any rfl k
theorem tr_to {Q : Bool → Prop} (h : trE m Q) : pE (truM m) Q := by unfold trE at h; obtain ⟨m, h, k⟩ := h; exact pE_mk m h k
theorem pr_to {p : Pr} {ms : List M} {Q : M → Prop} (h : prE p ms Q) : pE (primM p ms) Q := by unfold prE at h; obtain ⟨m, h, k⟩ := h; exact pE_mk m h k
theorem pE_mono {α : Type} {o : Option α} {K K' : α → Prop} (h : pE o K) (k : ∀ a, K a → K' a) : pE o K' := by
  obtain ⟨m, h1, h2⟩ := pE_to h
  exact pE_mk m h1 (k m h2)
theorem vE_mono {K K' : M → Env → Prop} (h : vE C pr e env K X) (k : ∀ a env, K a env → K' a env) : vE C pr e env K' X := by
  unfold vE at *
  exact h.mono k fun _ _ x => x
theorem x_primN {q : Pr} {K : M → Env → Prop} (hs : isSl q = false) (k : asE C pr es env (fun as env => rsE env as fun ms => prE q ms fun m => K m env) X) : vE C pr (.prim q es) env K X := by
  refine x_prim hs ?_
  unfold asE at *
  exact k.mono (fun as env k => pE_mono (rs_to k) fun ms k => pr_to k) fun _ _ x => x
theorem xt_primN {q : Pr} {K : Bool → Env → Prop} (k : vE C pr (.prim q es) env (fun m env => trE m fun b => K b env) X) : tE C pr (.prim q es) env K X := xt_prim (vE_mono k fun m env k => tr_to k)
theorem xt_callN {f : Nat} {K : Bool → Env → Prop} (k : vE C pr (.call f es) env (fun m env => trE m fun b => K b env) X) : tE C pr (.call f es) env K X := xt_call (vE_mono k fun m env k => tr_to k)
theorem xt_placeN {i : Nat} {p : List PS} {K : Bool → Env → Prop} (h : getE env i p = some m) (k : trE m fun b => K b env) : tE C pr (.place i p) env K X := xt_place h (tr_to k)
theorem x_andN {a c : E} {K : M → Env → Prop} (k : vE C pr a env (fun m env => trE m fun b => if b = true then vE C pr c env K X else K m env) X) : vE C pr (.andE a c) env K X := x_and (vE_mono k fun m env k => tr_to k)
theorem y_setN {tg : Tg} {K : Flw → Env → Prop} (k : vE C pr e env (fun m env => bdE pr tg m env fun env' => K .nx env') X) : sE C pr (.set tg e) env K X := y_set (vE_mono k fun m env k => bd_to k)
theorem y_parN {tgs : List Tg} {K : Flw → Env → Prop} (k : msE C pr es env (fun ms env => bsE pr tgs ms env fun env' => K .nx env') X) : sE C pr (.setPar tgs es) env K X := by
  refine y_par ?_
  unfold msE at *
  exact k.mono (fun ms env k => bs_to k) fun _ _ x => x
theorem rs_nil {Q : List M → Prop} (k : Q []) : rsE env [] Q := by unfold rsE; exact ⟨[], rfl, k⟩
theorem rs_val {Q : List M → Prop} (k : rsE env as fun ms => Q (m :: ms)) : rsE env (.val m :: as) Q := by
  unfold rsE at *
  obtain ⟨ms, h, k⟩ := k
  refine ⟨m :: ms, ?_, k⟩
  show (match res env as with | some ms => some (m :: ms) | none => none) = _
  rw [h]
theorem rs_ref {i : Nat} {p : List PS} {Q : List M → Prop} {xs : List M} (h0 : getE env i p = some (.lst xs)) (k : rsE env as fun ms => Q (.lst xs :: ms)) : rsE env (.ref i p :: as) Q := by
  unfold rsE at *
  obtain ⟨ms, h, k⟩ := k
  refine ⟨.lst xs :: ms, ?_, k⟩
  unfold res
  rw [h0]
  simp only []
  rw [h]
theorem pr_any {p : Pr} {ms : List M} {Q : M → Prop} (h : primM p ms = some m) (k : Q m) : prE p ms Q := by unfold prE; exact ⟨m, h, k⟩
def okAny : Pr → Bool
  | .isN => true
  | .notN => true
  | .len => true
  | .max2 => true
  | .min2 => true
  | .list => true
  | .tuple => true
  | .int => true
  | .abs => true
  | .isinst _ => true
  | _ => false
theorem pr_anyX {p : Pr} {ms : List M} {Q : M → Prop} (hq : okAny p = true) (h : primM p ms = some m) (k : Q m) : prE p ms Q := by unfold prE; exact ⟨m, h, k⟩
theorem pr_fdiv {a b : Int} {Q : M → Prop} (hd : DivOk b) (k : Q (mI (a.fdiv b))) : prE .fdiv [mI a, mI b] Q := pr_of (q_fdiv hd k)
theorem pr_mod {a b : Int} {Q : M → Prop} (hd : b ≠ 0) (k : Q (mI (a.fmod b))) : prE .mod [mI a, mI b] Q := pr_of (q_mod hd k)
theorem pr_mul {a b : Int} {Q : M → Prop} (hd : MulOk a b) (k : Q (mI (a * b))) : prE .mul [mI a, mI b] Q := pr_of (q_mul hd k)
theorem pr_pow {a b : Int} {Q : M → Prop} (hd : CPow a b) (k : Q (mI (a ^ b.toNat))) : prE .pow [mI a, mI b] Q := pr_of (q_pow hd k)
theorem pr_add {a b : Int} {Q : M → Prop} (k : Q (mI (a + b))) : prE .add [mI a, mI b] Q := pr_any rfl k
theorem pr_sub {a b : Int} {Q : M → Prop} (k : Q (mI (a - b))) : prE .sub [mI a, mI b] Q := pr_any rfl k
theorem pr_neg {a : Int} {Q : M → Prop} (k : Q (mI (-a))) : prE .neg [mI a] Q := pr_any rfl k
theorem pr_abs {a : Int} {Q : M → Prop} (k : Q (mI (if a < 0 then -a else a))) : prE .abs [mI a] Q := pr_any rfl k
theorem pr_int {a : Int} {Q : M → Prop} (k : Q (mI a)) : prE .int [mI a] Q := pr_any rfl k
theorem pr_intB {Q : M → Prop} (k : Q (mI (if b then 1 else 0))) : prE .int [mB b] Q := pr_any rfl k
theorem pr_lt {a b : Int} {Q : M → Prop} (k : Q (mB (decide (a < b)))) : prE .lt [mI a, mI b] Q := pr_any rfl k
theorem pr_le {a b : Int} {Q : M → Prop} (k : Q (mB (decide (a ≤ b)))) : prE .le [mI a, mI b] Q := pr_any rfl k
theorem pr_gt {a b : Int} {Q : M → Prop} (k : Q (mB (decide (b < a)))) : prE .gt [mI a, mI b] Q := pr_any rfl k
theorem pr_ge {a b : Int} {Q : M → Prop} (k : Q (mB (decide (b ≤ a)))) : prE .ge [mI a, mI b] Q := pr_any rfl k
theorem eqM_int (a c : Int) : eqM (mI a) (mI c) = some (decide (a = c)) := by
  have f : ∀ x : Int, fitPy (.int x) = true := fun x => by
    unfold fitPy SeqAt.shaped
    show (true && ((PyData.int x).canLay0 && decide ((PyData.int x).depth ≤ 64))) = true
    rw [PyData.canLay0, PyData.depth]
    rfl
  show (if (fitPy (.int a) && fitPy (.int c)) = true then some (PyData.eqv (.int a) (.int c)) else none) = _
  rw [f, f, if_pos (by rfl), PyData.eqv]
  by_cases h : a = c <;> simp [h]
theorem pr_eq {a c : Int} {Q : M → Prop} (k : Q (mB (decide (a = c)))) : prE .eq [mI a, mI c] Q := pr_any (by show (eqM (mI a) (mI c)).map (fun b => M.imm (.bl b)) = _; rw [eqM_int]; rfl) k
theorem pr_ne {a c : Int} {Q : M → Prop} (k : Q (mB (!decide (a = c)))) : prE .ne [mI a, mI c] Q := pr_any (by show (eqM (mI a) (mI c)).map (fun b => M.imm (.bl (!b))) = _; rw [eqM_int]; rfl) k
theorem pr_neNil {l : List Int} {Q : M → Prop} (k : Q (mB (!l.isEmpty))) : prE .ne [.lst (iM l), .lst []] Q := pr_of (q_neNil k)
theorem pr_tuple {l : List Int} {Q : M → Prop} (k : Q (.imm (.tup (iD l)))) : prE .tuple [.lst (iM l)] Q := pr_of (q_tuple k)
theorem pr_sum {l : List Int} {Q : M → Prop} (k : Q (mI l.sum)) : prE .sum [.imm (.tup (iD l))] Q := pr_of (q_sum k)
theorem pr_sumL {l : List Int} {Q : M → Prop} (k : Q (mI l.sum)) : prE .sum [.lst (iM l)] Q := pr_of (q_sumL k)
theorem pr_eqT {l k : List Int} {Q : M → Prop} (h : Q (mB (decide (l = k)))) : prE .eq [.imm (.tup (iD l)), .imm (.tup (iD k))] Q := pr_of (q_eqT h)
theorem pr_eqL {l k : List Int} {Q : M → Prop} (h : Q (mB (decide (l = k)))) : prE .eq [.lst (iM l), .lst (iM k)] Q := pr_of (q_eqL h)
theorem pr_neL {l k : List Int} {Q : M → Prop} (h : Q (mB (!decide (l = k)))) : prE .ne [.lst (iM l), .lst (iM k)] Q := pr_of (q_neL h)
theorem pr_item {l : List Int} {k z : Int} {Q : M → Prop} (h : L2.atI (iM l) k = some (mI z)) (kk : Q (mI z)) : prE .item [.lst (iM l), mI k] Q := pr_of (q_item h kk)
theorem pr_eqS {x y : Str} {Q : M → Prop} (k : Q (mB (x == y))) : prE .eq [.imm (.str x), .imm (.str y)] Q := pr_any rfl k
theorem pr_neS {x y : Str} {Q : M → Prop} (k : Q (mB (!(x == y)))) : prE .ne [.imm (.str x), .imm (.str y)] Q := pr_any rfl k
theorem pr_reprL {l : List Int} {Q : M → Prop} (h : ∀ x ∈ l, x.natAbs.log2 < 1920) (hl : l.length ≤ 1000) (k : Q (.imm (.str (shL l)))) : prE .repr [.lst (iM l)] Q := pr_of (q_reprL h hl k)
theorem pr_repr {l : List Int} {Q : M → Prop} (h : ∀ x ∈ l, x.natAbs.log2 < 1920) (hl : l.length ≤ 1000) (k : Q (.imm (.str (shT l)))) : prE .repr [.imm (.tup (iD l))] Q := pr_of (q_repr h hl k)
theorem pr_lenL {ms : List M} {Q : M → Prop} (k : Q (mI ms.length)) : prE .len [.lst ms] Q := pr_any rfl k
theorem pr_lenT {ds : List D} {Q : M → Prop} (k : Q (mI ds.length)) : prE .len [.imm (.tup ds)] Q := pr_any rfl k
theorem bd_any {tg : Tg} {Q : Env → Prop} (h : bindT pr tg m env = some env') (k : Q env') : bdE pr tg m env Q := by unfold bdE; exact ⟨env', h, k⟩
theorem bd_name {i : Nat} {Q : Env → Prop} {env1 : Env} (hp : pr i = false) (h : env.set i (some m) = env1) (k : Q env1) : bdE pr (.name i) m env Q := bd_of (q_name hp h k)
theorem bd_tup {ts : List Tg} {ds : List D} {Q : Env → Prop} (k : bsE pr ts (ds.map .imm) env Q) : bdE pr (.tup ts) (.imm (.tup ds)) env Q := by unfold bsE at k; unfold bdE; exact k
theorem bs_nil {Q : Env → Prop} (k : Q env) : bsE pr [] [] env Q := bs_of (pE_mk env rfl k)
theorem bs_cons {t : Tg} {ts : List Tg} {ms : List M} {Q : Env → Prop} (k : bdE pr t m env fun env1 => bsE pr ts ms env1 Q) : bsE pr (t :: ts) (m :: ms) env Q := by
  unfold bdE bsE at *
  obtain ⟨env1, h1, env2, h2, k⟩ := k
  refine ⟨env2, ?_, k⟩
  show (match bindT pr t m env with
    | some env' => bindTs pr ts ms env'
    | none => none) = _
  rw [h1]
  exact h2

theorem pr_p6 {Q : M → Prop} (k : Q (mI 1000000)) : prE .pow [mI 10, mI 6] Q := pr_of (q_p6 k)
theorem pr_p8 {Q : M → Prop} (k : Q (mI 100000000)) : prE .pow [mI 10, mI 8] Q := pr_of (q_p8 k)
theorem pr_p9 {Q : M → Prop} (k : Q (mI 1000000000)) : prE .pow [mI 10, mI 9] Q := pr_of (q_p9 k)
theorem pr_p10 {Q : M → Prop} (k : Q (mI 10000000000)) : prE .pow [mI 10, mI 10] Q := pr_of (q_p10 k)
theorem pr_p12 {Q : M → Prop} (k : Q (mI 1000000000000)) : prE .pow [mI 10, mI 12] Q := pr_of (q_p12 k)
theorem pr_p18 {Q : M → Prop} (k : Q (mI 1000000000000000000)) : prE .pow [mI 10, mI 18] Q := pr_of (q_p18 k)
theorem pr_p19 {Q : M → Prop} (k : Q (mI 10000000000000000000)) : prE .pow [mI 10, mI 19] Q := pr_of (q_p19 k)
theorem pr_p20 {Q : M → Prop} (k : Q (mI 100000000000000000000)) : prE .pow [mI 10, mI 20] Q := pr_of (q_p20 k)
theorem pr_p28 {Q : M → Prop} (k : Q (mI 10000000000000000000000000000)) : prE .pow [mI 10, mI 28] Q := pr_of (q_p28 k)
theorem pr_p29 {Q : M → Prop} (k : Q (mI 100000000000000000000000000000)) : prE .pow [mI 10, mI 29] Q := pr_of (q_p29 k)
theorem pr_p30 {Q : M → Prop} (k : Q (mI 1000000000000000000000000000000)) : prE .pow [mI 10, mI 30] Q := pr_of (q_p30 k)
theorem pr_p39 {Q : M → Prop} (k : Q (mI 1000000000000000000000000000000000000000)) : prE .pow [mI 10, mI 39] Q := pr_of (q_p39 k)
theorem bd_name0 {o : Option M} {r : Env} {Q : Env → Prop} (hp : pr 0 = false) (k : Q (some m :: r)) : bdE pr (.name 0) m (o :: r) Q := bd_name hp rfl k
theorem bd_name1 {o0 : Option M} {o : Option M} {r : Env} {Q : Env → Prop} (hp : pr 1 = false) (k : Q (o0 :: some m :: r)) : bdE pr (.name 1) m (o0 :: o :: r) Q := bd_name hp rfl k
theorem bd_name2 {o0 o1 : Option M} {o : Option M} {r : Env} {Q : Env → Prop} (hp : pr 2 = false) (k : Q (o0 :: o1 :: some m :: r)) : bdE pr (.name 2) m (o0 :: o1 :: o :: r) Q := bd_name hp rfl k
theorem bd_name3 {o0 o1 o2 : Option M} {o : Option M} {r : Env} {Q : Env → Prop} (hp : pr 3 = false) (k : Q (o0 :: o1 :: o2 :: some m :: r)) : bdE pr (.name 3) m (o0 :: o1 :: o2 :: o :: r) Q := bd_name hp rfl k
theorem bd_name4 {o0 o1 o2 o3 : Option M} {o : Option M} {r : Env} {Q : Env → Prop} (hp : pr 4 = false) (k : Q (o0 :: o1 :: o2 :: o3 :: some m :: r)) : bdE pr (.name 4) m (o0 :: o1 :: o2 :: o3 :: o :: r) Q := bd_name hp rfl k
theorem bd_name5 {o0 o1 o2 o3 o4 : Option M} {o : Option M} {r : Env} {Q : Env → Prop} (hp : pr 5 = false) (k : Q (o0 :: o1 :: o2 :: o3 :: o4 :: some m :: r)) : bdE pr (.name 5) m (o0 :: o1 :: o2 :: o3 :: o4 :: o :: r) Q := bd_name hp rfl k
theorem bd_name6 {o0 o1 o2 o3 o4 o5 : Option M} {o : Option M} {r : Env} {Q : Env → Prop} (hp : pr 6 = false) (k : Q (o0 :: o1 :: o2 :: o3 :: o4 :: o5 :: some m :: r)) : bdE pr (.name 6) m (o0 :: o1 :: o2 :: o3 :: o4 :: o5 :: o :: r) Q := bd_name hp rfl k
theorem bd_name7 {o0 o1 o2 o3 o4 o5 o6 : Option M} {o : Option M} {r : Env} {Q : Env → Prop} (hp : pr 7 = false) (k : Q (o0 :: o1 :: o2 :: o3 :: o4 :: o5 :: o6 :: some m :: r)) : bdE pr (.name 7) m (o0 :: o1 :: o2 :: o3 :: o4 :: o5 :: o6 :: o :: r) Q := bd_name hp rfl k
theorem bd_name8 {o0 o1 o2 o3 o4 o5 o6 o7 : Option M} {o : Option M} {r : Env} {Q : Env → Prop} (hp : pr 8 = false) (k : Q (o0 :: o1 :: o2 :: o3 :: o4 :: o5 :: o6 :: o7 :: some m :: r)) : bdE pr (.name 8) m (o0 :: o1 :: o2 :: o3 :: o4 :: o5 :: o6 :: o7 :: o :: r) Q := bd_name hp rfl k
theorem bd_name9 {o0 o1 o2 o3 o4 o5 o6 o7 o8 : Option M} {o : Option M} {r : Env} {Q : Env → Prop} (hp : pr 9 = false) (k : Q (o0 :: o1 :: o2 :: o3 :: o4 :: o5 :: o6 :: o7 :: o8 :: some m :: r)) : bdE pr (.name 9) m (o0 :: o1 :: o2 :: o3 :: o4 :: o5 :: o6 :: o7 :: o8 :: o :: r) Q := bd_name hp rfl k
theorem bd_name10 {o0 o1 o2 o3 o4 o5 o6 o7 o8 o9 : Option M} {o : Option M} {r : Env} {Q : Env → Prop} (hp : pr 10 = false) (k : Q (o0 :: o1 :: o2 :: o3 :: o4 :: o5 :: o6 :: o7 :: o8 :: o9 :: some m :: r)) : bdE pr (.name 10) m (o0 :: o1 :: o2 :: o3 :: o4 :: o5 :: o6 :: o7 :: o8 :: o9 :: o :: r) Q := bd_name hp rfl k
theorem bd_name11 {o0 o1 o2 o3 o4 o5 o6 o7 o8 o9 o10 : Option M} {o : Option M} {r : Env} {Q : Env → Prop} (hp : pr 11 = false) (k : Q (o0 :: o1 :: o2 :: o3 :: o4 :: o5 :: o6 :: o7 :: o8 :: o9 :: o10 :: some m :: r)) : bdE pr (.name 11) m (o0 :: o1 :: o2 :: o3 :: o4 :: o5 :: o6 :: o7 :: o8 :: o9 :: o10 :: o :: r) Q := bd_name hp rfl k
theorem bd_name12 {o0 o1 o2 o3 o4 o5 o6 o7 o8 o9 o10 o11 : Option M} {o : Option M} {r : Env} {Q : Env → Prop} (hp : pr 12 = false) (k : Q (o0 :: o1 :: o2 :: o3 :: o4 :: o5 :: o6 :: o7 :: o8 :: o9 :: o10 :: o11 :: some m :: r)) : bdE pr (.name 12) m (o0 :: o1 :: o2 :: o3 :: o4 :: o5 :: o6 :: o7 :: o8 :: o9 :: o10 :: o11 :: o :: r) Q := bd_name hp rfl k
theorem bd_name13 {o0 o1 o2 o3 o4 o5 o6 o7 o8 o9 o10 o11 o12 : Option M} {o : Option M} {r : Env} {Q : Env → Prop} (hp : pr 13 = false) (k : Q (o0 :: o1 :: o2 :: o3 :: o4 :: o5 :: o6 :: o7 :: o8 :: o9 :: o10 :: o11 :: o12 :: some m :: r)) : bdE pr (.name 13) m (o0 :: o1 :: o2 :: o3 :: o4 :: o5 :: o6 :: o7 :: o8 :: o9 :: o10 :: o11 :: o12 :: o :: r) Q := bd_name hp rfl k
theorem id_b {K : Flw → Env → Prop} {ss : List S} (k : bE C pr ss env K X) : bE C pr ss env K X := k
theorem id_s {K : Flw → Env → Prop} {s : S} (k : sE C pr s env K X) : sE C pr s env K X := k
theorem id_v {K : M → Env → Prop} (k : vE C pr e env K X) : vE C pr e env K X := k
theorem id_a {K : A → Env → Prop} (k : aE C pr e env K X) : aE C pr e env K X := k
theorem id_t {K : Bool → Env → Prop} (k : tE C pr e env K X) : tE C pr e env K X := k
theorem id_as {K : List A → Env → Prop} (k : asE C pr es env K X) : asE C pr es env K X := k
theorem id_ac {K : List A → Env → Prop} (k : acE C pr es env K X) : acE C pr es env K X := k
theorem id_ms {K : List M → Env → Prop} (k : msE C pr es env K X) : msE C pr es env K X := k
theorem id_is {st : List Bool} {K : List D → Env → Prop} (k : isE C pr st es env K X) : isE C pr st es env K X := k
theorem id_iO {k : IK} {ms : List M} {Q : List D → Prop} (h : iO k ms Q) : iO k ms Q := h
theorem id_rs {Q : List M → Prop} (k : rsE env as Q) : rsE env as Q := k
theorem id_tr {Q : Bool → Prop} (k : trE m Q) : trE m Q := k
theorem id_tk {K : List M → Env → Prop} (k : takE as bs env K) : takE as bs env K := k
theorem id_gv {K : Env → Prop} (k : gvE as bs fin env K) : gvE as bs fin env K := k
theorem id_bs {tgs : List Tg} {ms : List M} {Q : Env → Prop} (k : bsE pr tgs ms env Q) : bsE pr tgs ms env Q := k
theorem id_bd {tg : Tg} {Q : Env → Prop} (k : bdE pr tg m env Q) : bdE pr tg m env Q := k
theorem id_pr {p : Pr} {ms : List M} {Q : M → Prop} (k : prE p ms Q) : prE p ms Q := k
theorem id_pE {α : Type} {o : Option α} {Q : α → Prop} (k : pE o Q) : pE o Q := k
end
end Mini

set_option Elab.async false
set_option linter.all false
set_option maxRecDepth 100000
set_option maxHeartbeats 4000000
set_option autoImplicit false
namespace Mini
open PySem PySem.Spec PyProof.Rows L2
section
variable {C : Ct} {pr : Nat → Bool} {env env' : Env} {X : XP} {e t elt : E} {es : List E} {tg : Tg} {own : List Nat}
/-! comprehensions that leave the environment as it is, of ints -/
theorem l_pureI {α : Type} {f : α → D} (h : α → Int) {l : List α} {K : List M → Env → Prop} (hw : wipeE env own = env) (g : ∀ x ∈ l, bdE (fun i => !(own.contains i)) tg (.imm (f x)) env fun env2 => vE C pr elt env2 (fun m env3 => m = mI (h x) ∧ wipeE env3 own = env) (fun _ _ => False)) (k : K (iM (l.map h)) env) : lE C pr tg elt own (l.map f) env K :=
  l_pure (g := fun x => mI (h x)) hw (fun x hx => bd_to (g x hx)) (by rw [iM, List.map_map] at k; exact k)
theorem l_pureR {lo : Int} {n : Nat} (h : Nat → Int) {K : List M → Env → Prop} (hw : wipeE env own = env) (g : ∀ k, k < n → bdE (fun i => !(own.contains i)) tg (mI (lo + k)) env fun env2 => vE C pr elt env2 (fun m env3 => m = mI (h k) ∧ wipeE env3 own = env) (fun _ _ => False)) (k : K (iM ((List.range n).map h)) env) : lE C pr tg elt own (rangeD lo n) env K :=
  l_pureI (f := fun (k : Nat) => D.int (lo + k)) h (l := List.range n) hw (fun x hx => g x (List.mem_range.mp hx)) k
theorem lt_pureI {α : Type} {f : α → D} (h : α → Int) (q : α → Bool) {l : List α} {K : List M → Env → Prop} (hw : wipeE env own = env)
    (g : ∀ x ∈ l, bdE (fun i => !(own.contains i)) tg (.imm (f x)) env fun env2 => tE C pr t env2 (fun c env3 => c = q x ∧ if c = true then vE C pr elt env3 (fun m env4 => m = mI (h x) ∧ wipeE env4 own = env) (fun _ _ => False) else wipeE env3 own = env) (fun _ _ => False)) (k : K (iM ((l.filter q).map h)) env) : lT C pr tg elt t own (l.map f) env K :=
  lt_pure (g := fun x => mI (h x)) q hw (fun x hx => bd_to (g x hx)) (by rw [iM, List.map_map] at k; exact k)
theorem lt_pureR {lo : Int} {n : Nat} (h : Nat → Int) (q : Nat → Bool) {K : List M → Env → Prop} (hw : wipeE env own = env)
    (g : ∀ k, k < n → bdE (fun i => !(own.contains i)) tg (mI (lo + k)) env fun env2 => tE C pr t env2 (fun c env3 => c = q k ∧ if c = true then vE C pr elt env3 (fun m env4 => m = mI (h k) ∧ wipeE env4 own = env) (fun _ _ => False) else wipeE env3 own = env) (fun _ _ => False)) (k : K (iM (((List.range n).filter q).map h)) env) : lT C pr tg elt t own (rangeD lo n) env K :=
  lt_pureI (f := fun (k : Nat) => D.int (lo + k)) h q (l := List.range n) hw (fun x hx => g x (List.mem_range.mp hx)) k
theorem seqL_ints (l : List Int) : seqL (.lst (iM l)) = some (iD l) := imms_ints l
theorem pr_addL {l k : List Int} {Q : M → Prop} (h : l.length + k.length ≤ 10000) (q : Q (.lst (iM (l ++ k)))) : prE .add [.lst (iM l), .lst (iM k)] Q := pr_any (by
  show (match seqL (.lst (iM l)), seqL (.lst (iM k)) with
    | some xs, some ys => if xs.length + ys.length ≤ sizeLine then some (M.lst ((xs ++ ys).map .imm)) else none
    | _, _ => none) = _
  rw [seqL_ints, seqL_ints]
  simp only []
  rw [if_pos (by have := sizeLine_eq; simp only [List.length_map]; omega), ← List.map_append, List.map_map]
  rfl) q
theorem pr_sorted {l : List Int} {Q : M → Prop} (q : Q (.lst (iM (isort l)))) : prE .sorted [.lst (iM l)] Q := pr_any (by
  show (match seqL (.lst (iM l)) with | some ds => (dInts ds).map fun (l : List Int) => M.lst (((isort l).map D.int).map .imm) | none => none) = _
  rw [seqL_ints]
  simp only []
  rw [dInts_ints]
  show some (M.lst _) = some (M.lst _)
  rw [List.map_map]
  rfl) q
theorem pr_soSet {l : List Int} {Q : M → Prop} (h : l.length ≤ 4000) (q : Q (.lst (iM (sset l)))) : prE .sortedSet [.lst (iM l)] Q := pr_any (by
  show (match seqL (.lst (iM l)) with | some ds => (match dInts ds with | some l => if l.length ≤ 4000 then some (M.lst (((sset l).map D.int).map .imm)) else none | none => none) | none => none) = _
  rw [seqL_ints]
  simp only []
  rw [dInts_ints]
  simp only []
  rw [if_pos h, List.map_map]
  rfl) q
theorem pr_max1 {x : Int} {l : List Int} {Q : M → Prop} (q : Q (mI (maxL x l))) : prE .max1 [.lst (iM (x :: l))] Q := pr_any (by
  show (match seqL (.lst (iM (x :: l))) with | some ds => (match dInts ds with | some (x :: l) => some (M.imm (.int (maxL x l))) | _ => none) | none => none) = _
  rw [seqL_ints]
  simp only []
  rw [dInts_ints]) q
theorem pr_rev {l : List Int} {Q : M → Prop} (q : Q (.lst (iM l.reverse))) : prE .rev [.lst (iM l)] Q := pr_any (by
  show (match seqL (.lst (iM l)) with | some ds => some (M.lst (ds.reverse.map .imm)) | none => none) = _
  rw [seqL_ints]
  simp only []
  rw [← List.map_reverse, List.map_map]
  rfl) q
theorem dBools_map : ∀ l : List Bool, dBools (l.map D.bl) = some l
  | [] => rfl
  | x :: l => by
    show (match dBools (l.map D.bl) with | some l => some (x :: l) | none => none) = _
    rw [dBools_map l]
theorem imms_map {α : Type} (f : α → D) : ∀ l : List α, imms (l.map fun x => M.imm (f x)) = some (l.map f)
  | [] => rfl
  | x :: l => by
    show (match imms (l.map fun x => M.imm (f x)) with | some ds => some (f x :: ds) | none => none) = _
    rw [imms_map f l]
    rfl
theorem pr_all {l : List Bool} {Q : M → Prop} (q : Q (mB (l.all id))) : prE .allB [.lst (l.map mB)] Q := pr_any (by
  show (match imms (l.map mB) with | some ds => (dBools ds).map fun (l : List Bool) => M.imm (.bl (l.all id)) | none => none) = _
  rw [imms_map]
  simp only []
  rw [dBools_map]
  rfl) q
end
end Mini

set_option Elab.async false
set_option linter.all false
set_option maxRecDepth 100000
set_option maxHeartbeats 4000000
set_option autoImplicit false
namespace Mini
open PySem PySem.Spec PyProof.Rows L2
theorem cutD_drop {α : Type} (l : List α) (k : Nat) : cutD l (some (k : Int)) none = l.drop k := by
  unfold cutD
  rw [HT.sIx_nat, HT.sIx_none]
  by_cases h : k ≤ l.length
  · rw [Nat.min_eq_left h, List.take_of_length_le (by rw [List.length_drop]; omega)]
  · rw [Nat.min_eq_right (by omega), List.drop_of_length_le (Nat.le_refl _), List.drop_of_length_le (by omega)]
    simp
theorem atI_D {l : List Int} {k : Nat} (h : k < l.length) : L2.atI (iD l) k = some (.int l[k]) := atI_nat (xs := iD l) (j := k) (v := D.int l[k]) (by simp [iD, h])
theorem pr_itemT {ds : List D} {k : Int} {d : D} {Q : M → Prop} (h : L2.atI ds k = some d) (kk : Q (.imm d)) : prE .item [.imm (.tup ds), mI k] Q := pr_any (by
  show (match getP (.imm (.tup ds)) [.ix k] with
    | some (.imm d) => some (M.imm d)
    | _ => none) = _
  have e : getP (.imm (.tup ds)) [.ix k] = some (.imm d) := by
    show (match L2.atI ds k with | some d' => getP (.imm d') [] | none => none) = _
    rw [h]
    rfl
  rw [e]) kk
def shI (i : Int) : Str := PyData.shown (.int i)
theorem pr_reprI {i : Int} {Q : M → Prop} (h : i.natAbs.log2 < 1920) (k : Q (.imm (.str (shI i)))) : prE .repr [mI i] Q := pr_any (by
  have e2 : PyData.showable (.int i) = true := by rw [PyData.showable]; simp [h]
  have e4 : (PyData.shown (.int i)).length ≤ sizeLine := by
    have h2 := int_text_len_1921 h
    have := sizeLine_eq
    have e : PyData.shown (.int i) = Str.ofString (toString i) := rfl
    rw [e]
    omega
  show (if (true && PyData.showable (.int i) && decide ((PyData.int i).depth ≤ 64) && decide ((PyData.shown (.int i)).length ≤ sizeLine)) = true then some (M.imm (.str (PyData.shown (.int i)))) else none) = _
  rw [e2, if_pos (by rw [PyData.depth]; simp [e4])]
  rfl) k
section
variable {C : Ct} {pr : Nat → Bool} {env env' : Env} {X : XP} {e t elt : E} {es : List E} {tg : Tg} {own : List Nat}
theorem l_pureB {α : Type} {f : α → D} (h : α → Bool) {l : List α} {K : List M → Env → Prop} (hw : wipeE env own = env) (g : ∀ x ∈ l, bdE (fun i => !(own.contains i)) tg (.imm (f x)) env fun env2 => vE C pr elt env2 (fun m env3 => m = mB (h x) ∧ wipeE env3 own = env) (fun _ _ => False)) (k : K ((l.map h).map mB) env) : lE C pr tg elt own (l.map f) env K :=
  l_pure (g := fun x => mB (h x)) hw (fun x hx => bd_to (g x hx)) (by rw [List.map_map] at k; exact k)
theorem pr_max1T {x : Int} {l : List Int} {Q : M → Prop} (q : Q (mI (maxL x l))) : prE .max1 [.imm (.tup (iD (x :: l)))] Q := pr_any (by
  show (match dInts (iD (x :: l)) with | some (x :: l) => some (M.imm (.int (maxL x l))) | _ => none) = _
  rw [dInts_ints]) q
end
end Mini

set_option Elab.async false
set_option linter.all false
set_option maxRecDepth 100000
set_option maxHeartbeats 4000000
set_option autoImplicit false
namespace Law
open PySem PySem.Spec PyProof.Rows L2 Mini
def topS (i : Nat) : Stmt := PySem.Challenge.pw_allwidths_k10_least_widths_for_lines.main.body.getD i (.Pass ⟨0, 0, 0, 0⟩)
abbrev I_broken : FI := ⟨"broken", topS 1, ["numbers", "gap", "width", "number", "found", "filled_by"], ["numbers", "gap", "width"], [true, true, true]⟩
abbrev I_lines_at_most : FI := ⟨"lines_at_most", topS 2, ["numbers", "gap", "width", "lines", "number"], ["numbers", "gap", "width", "lines"], [true, true, true, true]⟩
abbrev I_stretches : FI := ⟨"stretches", topS 3, ["numbers", "gap", "found", "first", "whole", "number"], ["numbers", "gap"], [true, true]⟩
abbrev I_least_width : FI := ⟨"least_width", topS 4, ["numbers", "gap", "lines", "width"], ["numbers", "gap", "lines"], [true, true, true]⟩
abbrev I__law_spring : FI := ⟨"_law_spring", topS 6, ["_law_script", "_law_cell", "_law_great", "_law_mixed", "_law_more"], ["_law_script"], [true]⟩
abbrev I__law_dip : FI := ⟨"_law_dip", topS 7, ["_law_spring_here", "_law_many", "_law_more", "_law_digit"], ["_law_spring_here", "_law_many"], [true, true]⟩
abbrev I__law_pick : FI := ⟨"_law_pick", topS 8, ["_law_spring_here", "_law_some"], ["_law_spring_here", "_law_some"], [true, true]⟩
abbrev I__law_lengths : FI := ⟨"_law_lengths", topS 9, ["_law_numbers", "_law_gap", "_law_width", "_law_number", "_law_found", "_law_whole"], ["_law_numbers", "_law_gap", "_law_width"], [true, true, true]⟩
abbrev I__law_serves : FI := ⟨"_law_serves", topS 10, ["_law_numbers", "_law_gap", "_law_width", "_law_lines", "_law_one"], ["_law_numbers", "_law_gap", "_law_width", "_law_lines"], [true, true, true, true]⟩
abbrev I_law : FI := ⟨"law", topS 11, ["_law_script", "_law_spring_here", "_law_turn", "_law_numbers", "_law_gap", "_law_lines", "_law_found", "_law_due", "_law_great", "_law_wide", "_law_width", "_law_k"], ["_law_script"], [true]⟩
def tabL : List FI := [I_broken, I_lines_at_most, I_stretches, I_least_width, I__law_spring, I__law_dip, I__law_pick, I__law_lengths, I__law_serves, I_law]
def bsL : List Str := ["abs", "all", "int", "len", "max", "range", "repr", "set", "sorted", "sum", "tuple"]
def b_broken : List S := [.setPar [.name 4, .name 5] [.lstE [], .const (.int 0)],
    .forS (.name 3) .seq [.place 0 []] [.ifS (.andE (.prim .ne [.place 4 [], .lstE []]) (.prim .le [.prim .mul [.prim .add [.prim .add [.place 5 [], .place 1 []], .place 3 []], .place 2 [.ix 1]], .place 2 [.ix 0]])) [.setPar [.path 4 [] (-1), .name 5] [.prim .add [.place 4 [.ix (-1)], .const (.int 1)], .prim .add [.prim .add [.place 5 [], .place 1 []], .place 3 []]]] [.expr (.chg .append 4 [] [.const (.int 1)]),
    .set (.name 5) (.place 3 [])]],
    .ret (.prim .tuple [.place 4 []])]
def b_lines_at_most : List S := [.ret (.andE (.prim .le [.prim .len [.call 0 [.place 0 [], .place 1 [], .tupE [false, false] [.place 2 [], .const (.int 1)]]], .place 3 []]) (.prim .allB [.comp (.prim .le [.place 4 [], .place 2 []]) (.name 4) .seq [.place 0 []] [] [4]]))]
def b_stretches : List S := [.set (.name 2) (.lstE [.const (.int 0)]),
    .forS (.name 3) .range1 [.prim .len [.place 0 []]] [.set (.name 4) (.prim .item [.place 0 [], .place 3 []]),
    .expr (.chg .append 2 [] [.place 4 []]),
    .forS (.name 5) .seq [.prim (.slice true false) [.place 0 [], .prim .add [.place 3 [], .const (.int 1)]]] [.set (.name 4) (.prim .add [.prim .add [.place 4 [], .place 1 []], .place 5 []]),
    .expr (.chg .append 2 [] [.place 4 []])]],
    .ret (.prim .sortedSet [.place 2 []])]
def b_least_width : List S := [.ret (.prim .item [.comp (.place 3 []) (.name 3) .seq [.call 2 [.place 0 [], .place 1 []]] [.call 1 [.place 0 [], .place 1 [], .place 3 [], .place 2 []]] [3], .const (.int 0)])]
def b__law_spring : List S := [.setPar [.name 2, .name 3] [.const (.int 0), .const (.int 2913)],
    .forS (.name 1) .seq [.prim (.slice false true) [.place 0 [], .const (.int 60)]] [.set (.name 4) (.prim .add [.prim .add [.prim .mul [.const (.int 2), .prim .abs [.place 1 []]], .prim .int [.prim .lt [.place 1 [], .const (.int 0)]]], .const (.int 1)]),
    .set (.name 3) (.prim .mod [.prim .int [.prim .add [.prim .mul [.place 3 [], .const (.int 6364136223846793005)], .place 4 []]], .const (.int 2305843009213693951)]),
    .ifS (.prim .ge [.prim .abs [.place 1 []], .prim .pow [.const (.int 10), .const (.int 18)]]) [.set (.name 2) (.prim .add [.prim .mul [.place 2 [], .const (.int 31)], .prim .abs [.place 1 []]])] []],
    .ret (.lstE [.place 2 [], .place 3 [], .const (.int 0)])]
def b__law_dip : List S := [.ifS (.prim .gt [.place 0 [.ix 0], .const (.int 0)]) [.set (.name 3) (.prim .mod [.prim .int [.place 0 [.ix 0]], .place 1 []]),
    .set (.path 0 [] 0) (.prim .fdiv [.place 0 [.ix 0], .place 1 []]),
    .retVar 3] [],
    .set (.path 0 [] 2) (.prim .add [.place 0 [.ix 2], .const (.int 1)]),
    .set (.name 2) (.prim .add [.prim .mul [.const (.int 3037000493), .place 0 [.ix 2]], .const (.int 13)]),
    .set (.path 0 [] 1) (.prim .mod [.prim .int [.prim .add [.prim .mul [.place 0 [.ix 1], .const (.int 2862933555777941757)], .place 2 []]], .const (.int 2305843009213693951)]),
    .ret (.prim .mod [.prim .int [.prim .fdiv [.prim .mod [.prim .int [.prim .mul [.place 0 [.ix 1], .place 0 [.ix 1]]], .const (.int 2305843009213693951)], .const (.int 131071)]], .place 1 []])]
def b__law_pick : List S := [.ret (.prim .item [.place 1 [], .call 5 [.place 0 [], .prim .len [.place 1 []]]])]
def b__law_lengths : List S := [.setPar [.name 4, .name 5] [.lstE [], .const (.int 0)],
    .forS (.name 3) .seq [.place 0 []] [.ifS (.andE (.prim .ne [.place 4 [], .lstE []]) (.prim .le [.prim .mul [.prim .add [.prim .add [.place 5 [], .place 1 []], .place 3 []], .place 2 [.ix 1]], .place 2 [.ix 0]])) [.set (.path 4 [] (-1)) (.prim .add [.place 4 [.ix (-1)], .const (.int 1)]),
    .set (.name 5) (.prim .add [.prim .add [.place 5 [], .place 1 []], .place 3 []])] [.expr (.chg .append 4 [] [.const (.int 1)]),
    .set (.name 5) (.place 3 [])]],
    .ret (.prim .tuple [.place 4 []])]
def b__law_serves : List S := [.ret (.andE (.prim .le [.prim .len [.call 7 [.place 0 [], .place 1 [], .tupE [false, false] [.place 2 [], .const (.int 1)]]], .place 3 []]) (.prim .eq [.comp (.const (.int 1)) (.name 4) .seq [.place 0 []] [.prim .gt [.place 4 [], .place 2 []]] [4], .lstE []]))]
def b_law : List S := [.set (.name 1) (.call 4 [.place 0 []]),
    .forS (.name 2) .range1 [.const (.int 10)] [.set (.name 3) (.prim .tuple [.comp (.call 5 [.place 1 [], .call 6 [.place 1 [], .lstE [.const (.int 1), .const (.int 9), .const (.int 31)]]]) (.name 11) .range1 [.call 5 [.place 1 [], .const (.int 13)]] [] [11]]),
    .set (.name 4) (.call 5 [.place 1 [], .const (.int 10)]),
    .forS (.name 5) .seq [.lstE [.const (.int 1), .const (.int 2), .const (.int 3), .prim .add [.const (.int 1), .call 5 [.place 1 [], .const (.int 14)]], .prim .pow [.const (.int 10), .const (.int 9)]]] [.set (.name 7) (.const (.int 0)),
    .whileS (.notE (.call 8 [.place 3 [], .place 4 [], .place 7 [], .place 5 []])) [.set (.name 7) (.prim .add [.place 7 [], .const (.int 1)])],
    .ifS (.prim .ne [.prim .repr [.call 3 [.place 3 [], .place 4 [], .place 5 []]], .prim .repr [.place 7 []]]) [.ret (.const (.bl false))] []],
    .setPar [.name 8, .name 9] [.prim .tuple [.comp (.call 5 [.place 1 [], .const (.int 1001)]) (.name 11) .range1 [.const (.int 12)] [] [11]], .call 5 [.place 1 [], .const (.int 101)]],
    .set (.name 6) (.comp (.call 3 [.place 8 [], .place 9 [], .place 5 []]) (.name 5) .range2 [.const (.int 1), .const (.int 14)] [] [5]),
    .ifS (.orE (.prim .ne [.place 6 [], .prim .rev [.prim .sorted [.place 6 []]]]) (.orE (.prim .ne [.place 6 [.ix 12], .prim .max1 [.place 8 []]]) (.prim .ne [.place 6 [.ix 0], .prim .add [.prim .sum [.place 8 []], .prim .mul [.const (.int 11), .place 9 []]]]))) [.ret (.const (.bl false))] [],
    .forS (.name 5) .range2 [.const (.int 1), .const (.int 14)] [.set (.name 10) (.prim .item [.place 6 [], .prim .sub [.place 5 [], .const (.int 1)]]),
    .ifS (.orE (.notE (.call 8 [.place 8 [], .place 9 [], .place 10 [], .place 5 []])) (.andE (.prim .gt [.place 10 [], .const (.int 0)]) (.call 8 [.place 8 [], .place 9 [], .prim .sub [.place 10 [], .const (.int 1)], .place 5 []]))) [.ret (.const (.bl false))] []]],
    .ret (.andE (.prim .eq [.call 3 [.tupE [false, false, false] [.const (.int 30), .const (.int 50), .const (.int 20)], .const (.int 5), .const (.int 2)], .const (.int 75)]) (.prim .eq [.call 3 [.tupE [] [], .const (.int 3), .const (.int 1)], .const (.int 0)]))]
def tabF : List Fn := [⟨3, 6, [true, true, true], b_broken⟩, ⟨4, 5, [true, true, true, true], b_lines_at_most⟩, ⟨2, 6, [true, true], b_stretches⟩, ⟨3, 4, [true, true, true], b_least_width⟩, ⟨1, 5, [true], b__law_spring⟩, ⟨2, 4, [true, true], b__law_dip⟩, ⟨2, 2, [true, true], b__law_pick⟩, ⟨3, 6, [true, true, true], b__law_lengths⟩, ⟨4, 5, [true, true, true, true], b__law_serves⟩, ⟨1, 12, [true], b_law⟩]
theorem comp_ok : optM (cFn 40 tabL bsL) tabL = some tabF := by kernel_rfl
end Law

set_option Elab.async false
set_option linter.all false
set_option maxRecDepth 100000
set_option maxHeartbeats 4000000
set_option autoImplicit false
namespace Br
open Mini
/-! numbers broken into lines -/
def stepB (gap a b : Int) (s : List Int × Int) (x : Int) : List Int × Int := if s.1 ≠ [] ∧ (s.2 + gap + x) * b ≤ a then (s.1.dropLast ++ [s.1.getLastD 0 + 1], s.2 + gap + x) else (s.1 ++ [1], x)
def brk (gap a b : Int) (l : List Int) : List Int := (l.foldl (stepB gap a b) ([], 0)).1
def stepN (g w : Int) (s : Nat × Int) (x : Int) : Nat × Int := if s.1 ≠ 0 ∧ s.2 + g + x ≤ w then (s.1, s.2 + g + x) else (s.1 + 1, x)
def cnt (g w : Int) (l : List Int) : Nat := (l.foldl (stepN g w) (0, 0)).1
theorem step_len (g w : Int) (s : List Int × Int) (x : Int) : ((stepB g w 1 s x).1.length, (stepB g w 1 s x).2) = stepN g w (s.1.length, s.2) x := by
  unfold stepB stepN
  have e : s.1.length ≠ 0 ↔ s.1 ≠ [] := by rw [Ne, Ne, List.length_eq_zero_iff]
  by_cases h : s.1 ≠ [] ∧ (s.2 + g + x) * 1 ≤ w
  · rw [if_pos h, if_pos ⟨e.mpr h.1, by have := h.2; omega⟩]
    have : s.1.length ≠ 0 := e.mpr h.1
    simp
    omega
  · rw [if_neg h, if_neg (fun q => h ⟨e.mp q.1, by have := q.2; omega⟩)]
    simp
theorem fold_len (g w : Int) : ∀ (l : List Int) (s : List Int × Int), ((l.foldl (stepB g w 1) s).1.length, (l.foldl (stepB g w 1) s).2) = l.foldl (stepN g w) (s.1.length, s.2)
  | [], s => rfl
  | x :: l, s => by
    rw [List.foldl_cons, List.foldl_cons, fold_len g w l, step_len]
theorem brk_len (g w : Int) (l : List Int) : (brk g w 1 l).length = cnt g w l := congrArg Prod.fst (fold_len g w l ([], 0))
/-! the sums of neighbours -/
def runs (g : Int) : Int → List Int → List Int
  | _, [] => []
  | w, y :: t => (w + g + y) :: runs g (w + g + y) t
def allS (g : Int) : List Int → List Int
  | [] => []
  | x :: t => x :: runs g x t ++ allS g t
theorem runs_len (g : Int) : ∀ (t : List Int) (w : Int), (runs g w t).length = t.length
  | [], _ => rfl
  | y :: t, w => by show (runs g (w + g + y) t).length + 1 = _; rw [runs_len g t]; rfl
theorem allS_len (g : Int) : ∀ l : List Int, (allS g l).length ≤ l.length * l.length
  | [] => Nat.le_refl _
  | x :: t => by
    have h := allS_len g t
    show (x :: runs g x t ++ allS g t).length ≤ (t.length + 1) * (t.length + 1)
    rw [List.length_append, List.length_cons, runs_len, Nat.add_mul, Nat.mul_add]
    omega
theorem mem_allS (g : Int) : ∀ {l : List Int} {x : Int}, x ∈ l → x ∈ allS g l
  | y :: t, x, h => by
    rcases List.mem_cons.mp h with e | h
    · subst e; exact List.mem_append_left _ List.mem_cons_self
    · exact List.mem_append_right _ (mem_allS g h)
theorem fold_same (g w : Int) : ∀ (t : List Int) (n : Nat) (s : Int), (∀ z ∈ runs g s t, z ≠ w) → (∀ z ∈ allS g t, z ≠ w) → t.foldl (stepN g w) (n, s) = t.foldl (stepN g (w - 1)) (n, s)
  | [], _, _, _, _ => rfl
  | y :: t, n, s, h1, h2 => by
    have hy := h1 (s + g + y) List.mem_cons_self
    have a1 : ∀ z ∈ runs g (s + g + y) t, z ≠ w := fun z hz => h1 z (List.mem_cons_of_mem _ hz)
    have a2 : ∀ z ∈ runs g y t, z ≠ w := fun z hz => h2 z (List.mem_append_left _ (List.mem_cons_of_mem _ hz))
    have a3 : ∀ z ∈ allS g t, z ≠ w := fun z hz => h2 z (List.mem_append_right _ hz)
    rw [List.foldl_cons, List.foldl_cons]
    have e : stepN g w (n, s) y = stepN g (w - 1) (n, s) y := by
      unfold stepN
      by_cases q : n ≠ 0 ∧ s + g + y ≤ w
      · rw [if_pos q, if_pos ⟨q.1, by have := q.2; show s + g + y ≤ w - 1; omega⟩]
      · rw [if_neg q, if_neg (fun r => q ⟨r.1, by have : s + g + y ≤ w - 1 := r.2; show s + g + y ≤ w; omega⟩)]
    rw [← e]
    unfold stepN
    split
    · exact fold_same g w t _ _ a1 a3
    · exact fold_same g w t _ _ a2 a3
/-! which widths serve -/
def srv (l : List Int) (g w k : Int) : Bool := decide ((cnt g w l : Int) ≤ k) && l.all fun x => decide (x ≤ w)
theorem srv_iff {l : List Int} {g w k : Int} : srv l g w k = true ↔ (cnt g w l : Int) ≤ k ∧ ∀ x ∈ l, x ≤ w := by
  unfold srv
  simp [List.all_eq_true]
theorem cnt_same {l : List Int} {g w : Int} (h : ∀ z ∈ allS g l, z ≠ w) : cnt g w l = cnt g (w - 1) l := by
  unfold cnt
  match l, h with
  | [], _ => rfl
  | x :: t, h =>
    rw [List.foldl_cons, List.foldl_cons]
    have e : ∀ w', stepN g w' (0, 0) x = (1, x) := fun w' => by unfold stepN; rw [if_neg (fun q => q.1 rfl)]
    rw [e, e, fold_same g w t 1 x (fun z hz => h z (List.mem_append_left _ (List.mem_cons_of_mem _ hz))) (fun z hz => h z (List.mem_append_right _ hz))]
theorem srv_same {l : List Int} {g w k : Int} (h : ∀ z ∈ allS g l, z ≠ w) : srv l g w k = srv l g (w - 1) k := by
  have e : ∀ x ∈ l, (x ≤ w ↔ x ≤ w - 1) := fun x hx => by have := h x (mem_allS g hx); omega
  rw [Bool.eq_iff_iff, srv_iff, srv_iff, cnt_same h]
  exact ⟨fun q => ⟨q.1, fun x hx => (e x hx).mp (q.2 x hx)⟩, fun q => ⟨q.1, fun x hx => (e x hx).mpr (q.2 x hx)⟩⟩
/-- the least width that serves -/
def Lst (l : List Int) (g k w : Int) : Prop := 0 ≤ w ∧ srv l g w k = true ∧ ∀ v, 0 ≤ v → v < w → srv l g v k = false
theorem lst_uniq {l : List Int} {g k w v : Int} (h : Lst l g k w) (h2 : Lst l g k v) : w = v := by
  rcases Int.lt_trichotomy w v with q | q | q
  · have := h2.2.2 w h.1 q; rw [h.2.1] at this; cases this
  · exact q
  · have := h.2.2 v h2.1 q; rw [h2.2.1] at this; cases this
theorem lst_ex {l : List Int} {g k : Int} : ∀ n : Nat, srv l g n k = true → ∃ w, Lst l g k w ∧ w ≤ n := fun n => by
  induction n using Nat.strongRecOn with
  | _ n ih =>
    intro h
    by_cases q : ∃ m : Nat, m < n ∧ srv l g m k = true
    · obtain ⟨m, h1, h2⟩ := q
      obtain ⟨w, a, b⟩ := ih m h1 h2
      exact ⟨w, a, by omega⟩
    · refine ⟨n, ⟨Int.natCast_nonneg n, h, fun v h0 h1 => ?_⟩, Int.le_refl _⟩
      cases e : srv l g v k with
      | false => rfl
      | true =>
        exfalso
        refine q ⟨v.toNat, by omega, ?_⟩
        rw [Int.toNat_of_nonneg h0]
        exact e
def ext (g : Int) : Int → List Int → Int
  | w, [] => w
  | w, y :: t => ext g (w + g + y) t
theorem ext_ge (g : Int) (hg : 0 ≤ g) : ∀ (t : List Int) (w : Int), (∀ y ∈ t, 0 ≤ y) → w ≤ ext g w t
  | [], _, _ => Int.le_refl _
  | y :: t, w, h => by
    have h1 := ext_ge g hg t (w + g + y) fun z hz => h z (List.mem_cons_of_mem _ hz)
    have h2 := h y List.mem_cons_self
    show w ≤ ext g (w + g + y) t
    omega
theorem ext_sum (g : Int) : ∀ (t : List Int) (w : Int), ext g w t = w + t.sum + t.length * g
  | [], w => by simp [ext]
  | y :: t, w => by
    show ext g (w + g + y) t = _
    rw [ext_sum g t, List.sum_cons, List.length_cons, Int.natCast_add, Int.add_mul]
    simp
    omega
theorem fold_one (g w : Int) (hg : 0 ≤ g) : ∀ (t : List Int) (s : Int), (∀ y ∈ t, 0 ≤ y) → ext g s t ≤ w → t.foldl (stepN g w) (1, s) = (1, ext g s t)
  | [], _, _, _ => rfl
  | y :: t, s, h, he => by
    have he : ext g (s + g + y) t ≤ w := he
    have h1 := ext_ge g hg t (s + g + y) fun z hz => h z (List.mem_cons_of_mem _ hz)
    rw [List.foldl_cons]
    have e : stepN g w (1, s) y = (1, s + g + y) := by unfold stepN; rw [if_pos ⟨Nat.one_ne_zero, by show s + g + y ≤ w; omega⟩]
    rw [e]
    exact fold_one g w hg t _ (fun z hz => h z (List.mem_cons_of_mem _ hz)) he
theorem mem_ext (g : Int) (hg : 0 ≤ g) : ∀ (t : List Int) (w : Int), 0 ≤ w → (∀ y ∈ t, 0 ≤ y) → ∀ y ∈ t, y ≤ ext g w t
  | z :: t, w, hw, h, y, hy => by
    have hz := h z List.mem_cons_self
    rcases List.mem_cons.mp hy with e | hy
    · subst e
      have := ext_ge g hg t (w + g + y) fun z hz => h z (List.mem_cons_of_mem _ hz)
      show y ≤ ext g (w + g + y) t
      omega
    · exact mem_ext g hg t (w + g + z) (by omega) (fun y hy => h y (List.mem_cons_of_mem _ hy)) y hy
theorem fold_ge (g w : Int) : ∀ (t : List Int) (s : Nat × Int), s.1 ≤ (t.foldl (stepN g w) s).1 ∧ (t.foldl (stepN g w) s).1 ≤ s.1 + t.length
  | [], s => ⟨Nat.le_refl _, Nat.le_refl _⟩
  | y :: t, s => by
    have h := fold_ge g w t (stepN g w s y)
    have e : s.1 ≤ (stepN g w s y).1 ∧ (stepN g w s y).1 ≤ s.1 + 1 := by unfold stepN; split <;> exact ⟨by simp, by simp⟩
    rw [List.foldl_cons, List.length_cons]
    omega
theorem one_fold (g w : Int) : ∀ (t : List Int) (s : Int), t ≠ [] → (t.foldl (stepN g w) (1, s)).1 ≤ 1 → ext g s t ≤ w
  | [], _, h, _ => absurd rfl h
  | y :: t, s, _, h => by
    rw [List.foldl_cons] at h
    by_cases q : s + g + y ≤ w
    · have e : stepN g w (1, s) y = (1, s + g + y) := by unfold stepN; rw [if_pos ⟨Nat.one_ne_zero, q⟩]
      rw [e] at h
      match t, h with
      | [], _ => exact q
      | z :: t, h => exact one_fold g w (z :: t) _ (by simp) h
    · have e : stepN g w (1, s) y = (2, y) := by unfold stepN; rw [if_neg (fun r => q r.2)]
      rw [e] at h
      have := (fold_ge g w t (2, y)).1
      have h3 : (2 : Nat) ≤ _ := this
      omega
theorem cnt_le (g w : Int) (l : List Int) : cnt g w l ≤ l.length := by
  have := (fold_ge g w l (0, 0)).2
  unfold cnt
  simpa using this
/-- all on one line -/
theorem tot_serves {x : Int} {t : List Int} {g w k : Int} (hg : 0 ≤ g) (h : ∀ y ∈ x :: t, 0 ≤ y) (hk : 1 ≤ k) (hw : ext g x t ≤ w) : srv (x :: t) g w k = true := by
  have hx := h x List.mem_cons_self
  have ht : ∀ y ∈ t, 0 ≤ y := fun y hy => h y (List.mem_cons_of_mem _ hy)
  rw [srv_iff]
  refine ⟨?_, fun y hy => ?_⟩
  · have e : stepN g w (0, 0) x = (1, x) := by unfold stepN; rw [if_neg (fun q => q.1 rfl)]
    unfold cnt
    rw [List.foldl_cons, e, fold_one g w hg t x ht hw]
    exact hk
  · rcases List.mem_cons.mp hy with e | hy
    · subst e
      have := ext_ge g hg t y ht
      omega
    · have := mem_ext g hg t x hx ht y hy
      omega
def tot (g : Int) : List Int → Int
  | [] => 0
  | x :: t => ext g x t
theorem serves_tot {l : List Int} {g k : Int} (hg : 0 ≤ g) (h : ∀ y ∈ l, 0 ≤ y) (hk : 1 ≤ k) : 0 ≤ tot g l ∧ srv l g (tot g l) k = true := by
  match l, h with
  | [], _ => exact ⟨Int.le_refl _, by rw [srv_iff]; exact ⟨by show ((0 : Nat) : Int) ≤ k; simp; omega, fun x hx => by cases hx⟩⟩
  | x :: t, h =>
    refine ⟨?_, tot_serves hg h hk (Int.le_refl _)⟩
    have := ext_ge g hg t x fun y hy => h y (List.mem_cons_of_mem _ hy)
    have := h x List.mem_cons_self
    show 0 ≤ ext g x t
    omega
/-- what the program takes: the first of the sums that serves -/
def lw (l : List Int) (g k : Int) : Int := ((sset (0 :: allS g l)).filter fun w => srv l g w k).headD 0
theorem filter_head {q : Int → Bool} : ∀ {l : List Int} {w : Int}, l.Pairwise (· < ·) → w ∈ l → q w = true → (∀ z ∈ l, z < w → q z = false) → ∃ r, l.filter q = w :: r
  | x :: l, w, hp, hw, h1, h2 => by
    have a := List.pairwise_cons.mp hp
    rcases List.mem_cons.mp hw with e | hw
    · subst e
      exact ⟨_, List.filter_cons_of_pos h1⟩
    · have hx := h2 x List.mem_cons_self (a.1 w hw)
      rw [List.filter_cons_of_neg (by rw [hx]; exact Bool.false_ne_true)]
      exact filter_head a.2 hw h1 fun z hz => h2 z (List.mem_cons_of_mem _ hz)
theorem allS_ge {g : Int} (hg : 0 ≤ g) : ∀ {l : List Int}, (∀ y ∈ l, 0 ≤ y) → ∀ z ∈ allS g l, 0 ≤ z
  | x :: t, h, z, hz => by
    have hx := h x List.mem_cons_self
    have ht : ∀ y ∈ t, 0 ≤ y := fun y hy => h y (List.mem_cons_of_mem _ hy)
    have r : ∀ (t : List Int) (w : Int), 0 ≤ w → (∀ y ∈ t, 0 ≤ y) → ∀ z ∈ runs g w t, 0 ≤ z := by
      intro t
      induction t with
      | nil => intro w _ _ z hz; cases hz
      | cons y t ih =>
        intro w hw h z hz
        have hy := h y List.mem_cons_self
        rcases List.mem_cons.mp hz with e | hz
        · omega
        · exact ih (w + g + y) (by omega) (fun y hy => h y (List.mem_cons_of_mem _ hy)) z hz
    rcases List.mem_append.mp hz with hz | hz
    · rcases List.mem_cons.mp hz with e | hz
      · omega
      · exact r t x hx ht z hz
    · exact allS_ge hg ht z hz
theorem lw_ok {l : List Int} {g k : Int} (hg : 0 ≤ g) (h : ∀ y ∈ l, 0 ≤ y) (hk : 1 ≤ k) : Lst l g k (lw l g k) ∧ lw l g k ≤ tot g l ∧ ∃ r, (sset (0 :: allS g l)).filter (fun w => srv l g w k) = lw l g k :: r := by
  obtain ⟨t0, t1⟩ := serves_tot (l := l) hg h hk
  obtain ⟨w, hw, hle⟩ := lst_ex (l := l) (g := g) (k := k) (tot g l).toNat (by rw [Int.toNat_of_nonneg t0]; exact t1)
  rw [Int.toNat_of_nonneg t0] at hle
  have mem : w ∈ sset (0 :: allS g l) := by
    rw [sset_mem]
    by_cases h0 : w = 0
    · rw [h0]; exact List.mem_cons_self
    · by_cases q : w ∈ allS g l
      · exact List.mem_cons_of_mem _ q
      · exfalso
        have e := srv_same (k := k) (fun z hz (e : z = w) => q (e ▸ hz))
        have h1 := hw.1
        have := hw.2.2 (w - 1) (by omega) (by omega)
        rw [← e, hw.2.1] at this
        cases this
  obtain ⟨r, hr⟩ := filter_head (q := fun w => srv l g w k) (sset_lt _) mem hw.2.1 fun z hz hlt => hw.2.2 z (by
    rw [sset_mem] at hz
    rcases List.mem_cons.mp hz with e | hz
    · omega
    · exact allS_ge hg h z hz) hlt
  have e : lw l g k = w := by unfold lw; rw [hr]; rfl
  rw [e]
  exact ⟨hw, hle, r, hr⟩
theorem lw_mono {l : List Int} {g k : Int} (hg : 0 ≤ g) (h : ∀ y ∈ l, 0 ≤ y) (hk : 1 ≤ k) : lw l g (k + 1) ≤ lw l g k := by
  obtain ⟨a, _, _⟩ := lw_ok (l := l) (k := k) hg h hk
  obtain ⟨b, _, _⟩ := lw_ok (l := l) (k := k + 1) hg h (by omega)
  rcases Int.lt_or_le (lw l g k) (lw l g (k + 1)) with q | q
  · have := b.2.2 _ a.1 q
    have h2 := srv_iff.mp a.2.1
    have h3 : srv l g (lw l g k) (k + 1) = true := srv_iff.mpr ⟨by omega, h2.2⟩
    rw [h3] at this
    cases this
  · exact q
theorem lw_one {x y : Int} {t : List Int} {g : Int} (hg : 0 ≤ g) (h : ∀ z ∈ x :: y :: t, 0 ≤ z) : lw (x :: y :: t) g 1 = (x :: y :: t).sum + (t.length + 1) * g := by
  obtain ⟨a, _, _⟩ := lw_ok (l := x :: y :: t) (k := 1) hg h (by decide)
  have e : Lst (x :: y :: t) g 1 (ext g x (y :: t)) := by
    refine ⟨?_, tot_serves hg h (by decide) (Int.le_refl _), fun v h0 hv => ?_⟩
    · have := ext_ge g hg (y :: t) x fun z hz => h z (List.mem_cons_of_mem _ hz)
      have := h x List.mem_cons_self
      omega
    · cases e : srv (x :: y :: t) g v 1 with
      | false => rfl
      | true =>
        exfalso
        have h1 := (srv_iff.mp e).1
        unfold cnt at h1
        have e2 : stepN g v (0, 0) x = (1, x) := by unfold stepN; rw [if_neg (fun q => q.1 rfl)]
        rw [List.foldl_cons, e2] at h1
        have := one_fold g v (y :: t) x (by simp) (by omega)
        omega
  rw [lst_uniq a e, ext_sum, List.sum_cons, List.length_cons, Int.natCast_add]
  simp
theorem lw_many {x : Int} {t : List Int} {g k : Int} (hg : 0 ≤ g) (h : ∀ z ∈ x :: t, 0 ≤ z) (hk : (t.length : Int) + 1 ≤ k) : lw (x :: t) g k = maxL x t := by
  obtain ⟨a, _, _⟩ := lw_ok (l := x :: t) (k := k) hg h (by omega)
  obtain ⟨m1, m2⟩ := maxL_ok t x
  refine lst_uniq a ⟨h _ m1, ?_, fun v h0 hv => ?_⟩
  · rw [srv_iff]
    refine ⟨?_, m2⟩
    have := cnt_le g (maxL x t) (x :: t)
    rw [List.length_cons] at this
    omega
  · cases e : srv (x :: t) g v k with
    | false => rfl
    | true =>
      exfalso
      have := (srv_iff.mp e).2 _ m1
      omega
theorem tot_le {g B : Int} (hg : 0 ≤ g) (hB : 0 ≤ B) : ∀ l : List Int, (∀ y ∈ l, y ≤ B) → tot g l ≤ l.length * (B + g)
  | [], _ => by simp [tot]
  | x :: t, h => by
    show ext g x t ≤ _
    rw [ext_sum]
    have hs : ∀ t : List Int, (∀ y ∈ t, y ≤ B) → t.sum ≤ t.length * B := by
      intro t
      induction t with
      | nil => intro _; simp
      | cons y t ih =>
        intro h
        have h1 := ih fun z hz => h z (List.mem_cons_of_mem _ hz)
        have h2 := h y List.mem_cons_self
        rw [List.sum_cons, List.length_cons, Int.natCast_add, Int.add_mul]
        simp
        omega
    have h1 := hs t fun z hz => h z (List.mem_cons_of_mem _ hz)
    have h2 := h x List.mem_cons_self
    rw [List.length_cons, Int.natCast_add, Int.add_mul, Int.mul_add]
    simp
    omega
end Br

set_option Elab.async false
set_option linter.all false
set_option maxRecDepth 100000
set_option maxHeartbeats 4000000
set_option autoImplicit false
namespace Law
open PySem PySem.Spec PyProof.Rows L2 Mini
local macro_rules | `(tactic| walk_at "go") => `(tactic| repeat (first
  | (refine id_pr ?_; first | refine pr_add ?_ | refine pr_sub ?_ | refine pr_lt ?_ | refine pr_le ?_ | refine pr_gt ?_ | refine pr_ge ?_ | refine pr_eq ?_ | refine pr_ne ?_ | refine pr_neg ?_ | refine pr_abs ?_ | refine pr_int ?_ | refine pr_intB ?_ | refine pr_lenL ?_ | refine pr_lenT ?_ | refine pr_fdiv ⟨by decide, by decide⟩ ?_ | refine pr_fdiv ?_ ?_ | refine pr_mod (by decide) ?_ | refine pr_mod ?_ ?_ | refine pr_mul (mul_l (by decide)) ?_ | refine pr_mul (mul_r (by decide)) ?_ | refine pr_mul ?_ ?_ | refine pr_p9 ?_ | refine pr_p29 ?_ | refine pr_p28 ?_ | refine pr_p30 ?_ | refine pr_p6 ?_ | refine pr_p12 ?_ | refine pr_p18 ?_ | refine pr_p8 ?_ | refine pr_p20 ?_ | refine pr_p19 ?_ | refine pr_p39 ?_ | refine pr_pow ⟨by decide, by decide, by decide⟩ ?_ | refine pr_pow ?_ ?_ | refine pr_neNil ?_ | refine pr_tuple ?_ | refine pr_sum ?_ | refine pr_sumL ?_ | refine pr_eqT ?_ | refine pr_eqS ?_ | refine pr_neS ?_ | refine pr_anyX rfl rfl ?_)
  | (refine id_v ?_; first | refine x_primN rfl ?_ | refine x_const ?_ | refine x_place rfl rfl ?_ | refine x_callN rfl ?_ | refine x_tup ?_ | refine x_lst ?_ | refine x_comp ?_ | refine x_compT ?_ | refine x_chg rfl rfl ?_ | refine x_andN ?_ | refine x_sl2 rfl rfl ?_ | refine x_sl3 rfl ?_ | refine x_placeF rfl rfl rfl ?_)
  | (refine id_a ?_; first | refine xa_val rfl ?_ | refine xa_imm rfl ?_ | refine xa_ref rfl ?_)
  | (refine id_as ?_; first | refine xs_nil ?_ | refine xs_cons rfl ?_ | refine xs_consV rfl ?_)
  | (refine id_rs ?_; first | refine rs_nil ?_ | refine rs_val ?_ | refine rs_ref rfl ?_)
  | (refine id_b ?_; first | refine y_cons ?_ | refine y_nil ?_)
  | (refine id_s ?_; first | refine y_setN ?_ | refine y_parN ?_ | refine y_expr ?_ | refine y_if ?_ | refine y_for ?_ | refine y_ret ?_ | refine y_retVar rfl rfl ?_)
  | (refine id_ac ?_; first | refine xc_nil ?_ | refine xc_var ?_ | refine xc_val rfl ?_)
  | (refine id_tk ?_; first | refine tk_nil ?_ | refine tk_val ?_ | refine tk_ref0 ?_ | refine tk_ref1 ?_ | refine tk_ref2 ?_ | refine tk_ref3 ?_ | refine tk_ref4 ?_)
  | (refine id_gv ?_; first | refine gv_nil ?_ | refine gv_val ?_ | refine gv_ref0 ?_ | refine gv_ref1 ?_ | refine gv_ref2 ?_ | refine gv_ref3 ?_ | refine gv_ref4 ?_)
  | (refine id_bd ?_; first | refine bd_name0 rfl ?_ | refine bd_name1 rfl ?_ | refine bd_name2 rfl ?_ | refine bd_name3 rfl ?_ | refine bd_name4 rfl ?_ | refine bd_name5 rfl ?_ | refine bd_name6 rfl ?_ | refine bd_name7 rfl ?_ | refine bd_name8 rfl ?_ | refine bd_name9 rfl ?_ | refine bd_name10 rfl ?_ | refine bd_name11 rfl ?_ | refine bd_name12 rfl ?_ | refine bd_name13 rfl ?_ | refine bd_tup ?_ | refine bd_any rfl ?_)
  | (refine id_bs ?_; first | refine bs_nil ?_ | refine bs_cons ?_)
  | (refine id_ms ?_; first | refine xm_nil ?_ | refine xm_cons ?_)
  | (refine id_is ?_; first | refine xi_nil ?_ | refine xi_one ?_)
  | (refine id_t ?_; first | refine xt_primN ?_ | refine xt_callN ?_ | refine xt_and ?_ | refine xt_or ?_ | refine xt_not ?_ | refine xt_placeN rfl ?_)
  | (refine id_tr ?_; first | refine tr_bl ?_ | refine tr_any rfl ?_)
  | (refine id_iO ?_; first | refine iO_seq rfl ?_ | refine iO_r1 ?_ | refine iO_r2 ?_)
  | (refine id_pE ?_; first | refine bd_to ?_ | refine q_any rfl ?_)
  | refine y_nx ?_ | refine y_rt ?_ | refine And.intro (Nat.le_of_ble_eq_true rfl : _ ≤ 100) ?_))
def spM (g x t : Int) : M := .lst [mI g, mI x, mI t]
theorem sq_ok (a : Int) : MulOk (a.fmod 2305843009213693951) (a.fmod 2305843009213693951) := mul_l (by
  have h1 := Int.fmod_nonneg_of_pos a (show (0 : Int) < 2305843009213693951 by decide)
  have h2 := Int.fmod_lt_of_pos a (show (0 : Int) < 2305843009213693951 by decide)
  omega)
theorem nb_of {k : Nat} {x : Int} (m : Nat) (hm : m ≤ k) (h : x.natAbs < 2 ^ m) : nb k x := nb.mono (k := m) h hm
theorem dip_g (n : Nat) (g x t m : Int) (hm : 0 < m) (hd : m < 2 ^ 100) : cG (run tabF (n + 1) 5 [spM g x t, mI m]) (fun r fin => ∃ k g' x' t', r = mI k ∧ 0 ≤ k ∧ k < m ∧ fin = [some (spM g' x' t'), some (mI m)]) := by
  refine cG_run [some (spM g x t), some (mI m), none, none] (F := ⟨2, 4, [true, true], b__law_dip⟩) rfl rfl rfl ?_
  have hd2 : nb 8000 m := nb_of 100 (by decide) (by omega)
  unfold spM
  walk_at "go"
  refine if_dec (fun hg => ?_) (fun hg => ?_)
  · walk_at "go"
    · exact (by omega : m ≠ 0)
    walk_at "go"
    · exact hd2.divOk (by omega) (by decide)
    walk_at "go"
    exact ⟨_, _, _, _, rfl, Int.fmod_nonneg_of_pos _ hm, Int.fmod_lt_of_pos _ hm, rfl⟩
  · walk_at "go"
    · exact sq_ok _
    walk_at "go"
    · exact (by omega : m ≠ 0)
    walk_at "go"
    exact ⟨_, _, _, _, rfl, Int.fmod_nonneg_of_pos _ hm, Int.fmod_lt_of_pos _ hm, rfl⟩
theorem pick_g (n : Nat) (g x t : Int) (l : List Int) (hl : 0 < l.length) (hl2 : l.length ≤ 1000) : cG (run tabF (n + 2) 6 [spM g x t, .lst (iM l)]) (fun r fin => ∃ z g' x' t', r = mI z ∧ z ∈ l ∧ fin = [some (spM g' x' t'), some (.lst (iM l))]) := by
  refine cG_run [some (spM g x t), some (.lst (iM l))] (F := ⟨2, 2, [true, true], b__law_pick⟩) rfl rfl rfl ?_
  have hll : (iM l).length = l.length := by simp
  walk_at "go"
  refine cG_use (dip_g n g x t (iM l).length (by omega) (by omega)) (fun m fin h => ?_)
  obtain ⟨k, g', x', t', rfl, h0, h1, rfl⟩ := h
  walk_at "go"
  obtain ⟨z, hz, ha⟩ := atI_mem h0 (by rw [hll] at h1; exact h1)
  refine pr_item ha ?_
  walk_at "go"
  exact ⟨z, g', x', t', rfl, hz, rfl⟩
theorem spring_g (n : Nat) (ns : List Int) : cG (run tabF (n + 1) 4 [scriptM ns]) (fun r fin => ∃ g x t, r = spM g x t ∧ fin = [some (scriptM ns)]) := by
  refine cG_run [some (scriptM ns), none, none, none, none] (F := ⟨1, 5, [true], b__law_spring⟩) rfl rfl rfl ?_
  walk_at "go"
  refine fE_eq (cut_ints ns _ _) ?_
  refine f_map (f := D.int) (l := _) (fun done todo env => ∃ a b o1 o4, env = [some (scriptM ns), o1, some (mI a), some (mI b), o4]) ⟨_, _, none, none, rfl⟩ (fun done x todo env e h => ?_) (fun env h => ?_)
  · obtain ⟨a, b, o1, o4, rfl⟩ := h
    walk_at "go"
    refine if_dec (fun hb => ?_) (fun hb => ?_)
    · walk_at "go"
      exact ⟨_, _, _, _, rfl⟩
    · walk_at "go"
      exact ⟨_, _, _, _, rfl⟩
  · obtain ⟨a, b, o1, o4, rfl⟩ := h
    walk_at "go"
    exact ⟨_, _, _, rfl, rfl⟩
def nuM (l : List Int) : M := .imm (.tup (iD l))
def wiM (a b : Int) : M := .imm (.tup [.int a, .int b])
end Law

set_option Elab.async false
set_option linter.all false
set_option maxRecDepth 100000
set_option maxHeartbeats 4000000
set_option autoImplicit false
namespace Law
open PySem PySem.Spec PyProof.Rows L2 Mini
local macro_rules | `(tactic| walk_at "go") => `(tactic| repeat (first
  | (refine id_pr ?_; first | refine pr_add ?_ | refine pr_sub ?_ | refine pr_lt ?_ | refine pr_le ?_ | refine pr_gt ?_ | refine pr_ge ?_ | refine pr_eq ?_ | refine pr_ne ?_ | refine pr_neg ?_ | refine pr_abs ?_ | refine pr_int ?_ | refine pr_intB ?_ | refine pr_lenL ?_ | refine pr_lenT ?_ | refine pr_fdiv ⟨by decide, by decide⟩ ?_ | refine pr_fdiv ?_ ?_ | refine pr_mod (by decide) ?_ | refine pr_mod ?_ ?_ | refine pr_mul (mul_l (by decide)) ?_ | refine pr_mul (mul_r (by decide)) ?_ | refine pr_mul ?_ ?_ | refine pr_p9 ?_ | refine pr_p29 ?_ | refine pr_p28 ?_ | refine pr_p30 ?_ | refine pr_p6 ?_ | refine pr_p12 ?_ | refine pr_p18 ?_ | refine pr_p8 ?_ | refine pr_p20 ?_ | refine pr_p19 ?_ | refine pr_p39 ?_ | refine pr_pow ⟨by decide, by decide, by decide⟩ ?_ | refine pr_pow ?_ ?_ | refine pr_neNil ?_ | refine pr_tuple ?_ | refine pr_sum ?_ | refine pr_sumL ?_ | refine pr_eqT ?_ | refine pr_eqS ?_ | refine pr_neS ?_ | refine pr_anyX rfl rfl ?_)
  | (refine id_v ?_; first | refine x_primN rfl ?_ | refine x_const ?_ | refine x_place rfl rfl ?_ | refine x_callN rfl ?_ | refine x_tup ?_ | refine x_lst ?_ | refine x_comp ?_ | refine x_compT ?_ | refine x_chg rfl rfl ?_ | refine x_andN ?_ | refine x_sl2 rfl rfl ?_ | refine x_sl3 rfl ?_ | refine x_placeF rfl rfl rfl ?_)
  | (refine id_a ?_; first | refine xa_val rfl ?_ | refine xa_imm rfl ?_ | refine xa_ref rfl ?_)
  | (refine id_as ?_; first | refine xs_nil ?_ | refine xs_cons rfl ?_ | refine xs_consV rfl ?_)
  | (refine id_rs ?_; first | refine rs_nil ?_ | refine rs_val ?_ | refine rs_ref rfl ?_)
  | (refine id_b ?_; first | refine y_cons ?_ | refine y_nil ?_)
  | (refine id_s ?_; first | refine y_setN ?_ | refine y_parN ?_ | refine y_expr ?_ | refine y_if ?_ | refine y_for ?_ | refine y_ret ?_ | refine y_retVar rfl rfl ?_)
  | (refine id_ac ?_; first | refine xc_nil ?_ | refine xc_var ?_ | refine xc_val rfl ?_)
  | (refine id_tk ?_; first | refine tk_nil ?_ | refine tk_val ?_ | refine tk_ref0 ?_ | refine tk_ref1 ?_ | refine tk_ref2 ?_ | refine tk_ref3 ?_ | refine tk_ref4 ?_)
  | (refine id_gv ?_; first | refine gv_nil ?_ | refine gv_val ?_ | refine gv_ref0 ?_ | refine gv_ref1 ?_ | refine gv_ref2 ?_ | refine gv_ref3 ?_ | refine gv_ref4 ?_)
  | (refine id_bd ?_; first | refine bd_name0 rfl ?_ | refine bd_name1 rfl ?_ | refine bd_name2 rfl ?_ | refine bd_name3 rfl ?_ | refine bd_name4 rfl ?_ | refine bd_name5 rfl ?_ | refine bd_name6 rfl ?_ | refine bd_name7 rfl ?_ | refine bd_name8 rfl ?_ | refine bd_name9 rfl ?_ | refine bd_name10 rfl ?_ | refine bd_name11 rfl ?_ | refine bd_name12 rfl ?_ | refine bd_name13 rfl ?_ | refine bd_tup ?_ | refine bd_any rfl ?_)
  | (refine id_bs ?_; first | refine bs_nil ?_ | refine bs_cons ?_)
  | (refine id_ms ?_; first | refine xm_nil ?_ | refine xm_cons ?_)
  | (refine id_is ?_; first | refine xi_nil ?_ | refine xi_one ?_)
  | (refine id_t ?_; first | refine xt_primN ?_ | refine xt_callN ?_ | refine xt_and ?_ | refine xt_or ?_ | refine xt_not ?_ | refine xt_placeN rfl ?_)
  | (refine id_tr ?_; first | refine tr_bl ?_ | refine tr_any rfl ?_)
  | (refine id_iO ?_; first | refine iO_seq rfl ?_ | refine iO_r1 ?_ | refine iO_r2 ?_)
  | (refine id_pE ?_; first | refine bd_to ?_ | refine q_any rfl ?_)
  | refine y_nx ?_ | refine y_rt ?_ | refine And.intro (Nat.le_of_ble_eq_true rfl : _ ≤ 100) ?_))
open Br
theorem cnt_fold (gap a b : Int) : ∀ (l : List Int) (s : List Int × Int), (l.foldl (stepB gap a b) s).1.length ≤ s.1.length + l.length
  | [], s => Nat.le_refl _
  | x :: l, s => by
    have h := cnt_fold gap a b l (stepB gap a b s x)
    have e : (stepB gap a b s x).1.length ≤ s.1.length + 1 := by
      unfold stepB
      split
      · simp <;> omega
      · simp
    rw [List.foldl_cons, List.length_cons]
    omega
theorem broken_g (n : Nat) (l : List Int) (gap a b : Int) (hl : l.length ≤ 1000) (hb : b.natAbs < 2 ^ 64) :
    cG (run tabF (n + 1) 0 [nuM l, mI gap, wiM a b]) (fun r fin => r = .imm (.tup (iD (brk gap a b l))) ∧ fin = [some (nuM l), some (mI gap), some (wiM a b)]) := by
  refine cG_run [some (nuM l), some (mI gap), some (wiM a b), none, none, none] (F := ⟨3, 6, [true, true, true], b_broken⟩) rfl rfl rfl ?_
  unfold wiM
  walk_at "go"
  refine f_map (f := D.int) (l := l) (fun done todo env => ∃ o, env = [some (nuM l), some (mI gap), some (.imm (.tup [.int a, .int b])), o, some (.lst (iM (done.foldl (stepB gap a b) ([], 0)).1)), some (mI (done.foldl (stepB gap a b) ([], 0)).2)]) ⟨none, rfl⟩ (fun done x todo env hl0 h => ?_) (fun env h => ?_)
  · obtain ⟨o, rfl⟩ := h
    have hcnt := cnt_fold gap a b done ([], 0)
    have hdl : done.length ≤ 1000 := by rw [hl0, List.length_append] at hl; omega
    have next : ∀ s', stepB gap a b (done.foldl (stepB gap a b) ([], 0)) x = s' → (done ++ [x]).foldl (stepB gap a b) ([], 0) = s' := fun s' e => by rw [List.foldl_append]; exact e
    generalize hs : done.foldl (stepB gap a b) ([], 0) = s at hcnt next ⊢
    obtain ⟨fs, w⟩ := s
    walk_at "go"
    refine if_b (fun hne => ?_) (fun hem => ?_)
    · have hne : fs ≠ [] := by intro z; rw [z] at hne; cases hne
      walk_at "go"
      · exact mul_r hb
      walk_at "go"
      refine if_dec (fun hle => ?_) (fun hgt => ?_)
      · have nx := next _ (by unfold stepB; rw [if_pos ⟨hne, hle⟩])
        obtain ⟨l', c, rfl⟩ : ∃ l' c, fs = l' ++ [c] := ⟨fs.dropLast, fs.getLast hne, (List.dropLast_concat_getLast hne).symm⟩
        have em : iM (l' ++ [c]) = iM l' ++ [mI c] := by simp [iM]
        rw [em]
        walk_at "go"
        refine xa_imm (getE_last rfl) ?_
        walk_at "go"
        refine bd_of (q_pathLast rfl ?_)
        walk_at "go"
        refine ⟨some (mI x), ?_⟩
        rw [nx]
        simp [iM, mI]
      · have nx := next _ (by unfold stepB; rw [if_neg (fun z => hgt z.2)])
        walk_at "go"
        refine q_append (by simp [iM] at hcnt ⊢; omega) ?_
        walk_at "go"
        refine ⟨some (mI x), ?_⟩
        rw [nx]
        simp [iM, mI]
    · have hem : fs = [] := by cases fs with
        | nil => rfl
        | cons _ _ => cases hem
      subst hem
      have nx := next _ (by unfold stepB; rw [if_neg (fun z => z.1 rfl)])
      walk_at "go"
      refine ⟨some (mI x), ?_⟩
      rw [nx]
      simp [iM, mI]
  · obtain ⟨o, rfl⟩ := h
    walk_at "go"
    exact ⟨rfl, rfl⟩

theorem lengths_g (n : Nat) (l : List Int) (gap a b : Int) (hl : l.length ≤ 1000) (hb : b.natAbs < 2 ^ 64) :
    cG (run tabF (n + 1) 7 [nuM l, mI gap, wiM a b]) (fun r fin => r = .imm (.tup (iD (brk gap a b l))) ∧ fin = [some (nuM l), some (mI gap), some (wiM a b)]) := by
  refine cG_run [some (nuM l), some (mI gap), some (wiM a b), none, none, none] (F := ⟨3, 6, [true, true, true], b__law_lengths⟩) rfl rfl rfl ?_
  unfold wiM
  walk_at "go"
  refine f_map (f := D.int) (l := l) (fun done todo env => ∃ o, env = [some (nuM l), some (mI gap), some (.imm (.tup [.int a, .int b])), o, some (.lst (iM (done.foldl (stepB gap a b) ([], 0)).1)), some (mI (done.foldl (stepB gap a b) ([], 0)).2)]) ⟨none, rfl⟩ (fun done x todo env hl0 h => ?_) (fun env h => ?_)
  · obtain ⟨o, rfl⟩ := h
    have hcnt := cnt_fold gap a b done ([], 0)
    have hdl : done.length ≤ 1000 := by rw [hl0, List.length_append] at hl; omega
    have next : ∀ s', stepB gap a b (done.foldl (stepB gap a b) ([], 0)) x = s' → (done ++ [x]).foldl (stepB gap a b) ([], 0) = s' := fun s' e => by rw [List.foldl_append]; exact e
    generalize hs : done.foldl (stepB gap a b) ([], 0) = s at hcnt next ⊢
    obtain ⟨fs, w⟩ := s
    walk_at "go"
    refine if_b (fun hne => ?_) (fun hem => ?_)
    · have hne : fs ≠ [] := by intro z; rw [z] at hne; cases hne
      walk_at "go"
      · exact mul_r hb
      walk_at "go"
      refine if_dec (fun hle => ?_) (fun hgt => ?_)
      · have nx := next _ (by unfold stepB; rw [if_pos ⟨hne, hle⟩])
        obtain ⟨l', c, rfl⟩ : ∃ l' c, fs = l' ++ [c] := ⟨fs.dropLast, fs.getLast hne, (List.dropLast_concat_getLast hne).symm⟩
        have em : iM (l' ++ [c]) = iM l' ++ [mI c] := by simp [iM]
        rw [em]
        walk_at "go"
        refine xa_imm (getE_last rfl) ?_
        walk_at "go"
        refine bd_of (q_pathLast rfl ?_)
        walk_at "go"
        refine ⟨some (mI x), ?_⟩
        rw [nx]
        simp [iM, mI]
      · have nx := next _ (by unfold stepB; rw [if_neg (fun z => hgt z.2)])
        walk_at "go"
        refine q_append (by simp [iM] at hcnt ⊢; omega) ?_
        walk_at "go"
        refine ⟨some (mI x), ?_⟩
        rw [nx]
        simp [iM, mI]
    · have hem : fs = [] := by cases fs with
        | nil => rfl
        | cons _ _ => cases hem
      subst hem
      have nx := next _ (by unfold stepB; rw [if_neg (fun z => z.1 rfl)])
      walk_at "go"
      refine ⟨some (mI x), ?_⟩
      rw [nx]
      simp [iM, mI]
  · obtain ⟨o, rfl⟩ := h
    walk_at "go"
    exact ⟨rfl, rfl⟩

end Law

set_option Elab.async false
set_option linter.all false
set_option maxRecDepth 100000
set_option maxHeartbeats 4000000
set_option autoImplicit false
namespace Law
open PySem PySem.Spec PyProof.Rows L2 Mini
local macro_rules | `(tactic| walk_at "go") => `(tactic| repeat (first
  | (refine id_pr ?_; first | refine pr_add ?_ | refine pr_sub ?_ | refine pr_lt ?_ | refine pr_le ?_ | refine pr_gt ?_ | refine pr_ge ?_ | refine pr_eq ?_ | refine pr_ne ?_ | refine pr_neg ?_ | refine pr_abs ?_ | refine pr_int ?_ | refine pr_intB ?_ | refine pr_lenL ?_ | refine pr_lenT ?_ | refine pr_fdiv ⟨by decide, by decide⟩ ?_ | refine pr_fdiv ?_ ?_ | refine pr_mod (by decide) ?_ | refine pr_mod ?_ ?_ | refine pr_mul (mul_l (by decide)) ?_ | refine pr_mul (mul_r (by decide)) ?_ | refine pr_mul ?_ ?_ | refine pr_p9 ?_ | refine pr_p29 ?_ | refine pr_p28 ?_ | refine pr_p30 ?_ | refine pr_p6 ?_ | refine pr_p12 ?_ | refine pr_p18 ?_ | refine pr_p8 ?_ | refine pr_p20 ?_ | refine pr_p19 ?_ | refine pr_p39 ?_ | refine pr_pow ⟨by decide, by decide, by decide⟩ ?_ | refine pr_pow ?_ ?_ | refine pr_neNil ?_ | refine pr_tuple ?_ | refine pr_sum ?_ | refine pr_sumL ?_ | refine pr_eqT ?_ | refine pr_eqS ?_ | refine pr_neS ?_ | refine pr_anyX rfl rfl ?_)
  | (refine id_v ?_; first | refine x_primN rfl ?_ | refine x_const ?_ | refine x_place rfl rfl ?_ | refine x_callN rfl ?_ | refine x_tup ?_ | refine x_lst ?_ | refine x_comp ?_ | refine x_compT ?_ | refine x_chg rfl rfl ?_ | refine x_andN ?_ | refine x_sl2 rfl rfl ?_ | refine x_sl3 rfl ?_ | refine x_placeF rfl rfl rfl ?_)
  | (refine id_a ?_; first | refine xa_val rfl ?_ | refine xa_imm rfl ?_ | refine xa_ref rfl ?_)
  | (refine id_as ?_; first | refine xs_nil ?_ | refine xs_cons rfl ?_ | refine xs_consV rfl ?_)
  | (refine id_rs ?_; first | refine rs_nil ?_ | refine rs_val ?_ | refine rs_ref rfl ?_)
  | (refine id_b ?_; first | refine y_cons ?_ | refine y_nil ?_)
  | (refine id_s ?_; first | refine y_setN ?_ | refine y_parN ?_ | refine y_expr ?_ | refine y_if ?_ | refine y_for ?_ | refine y_ret ?_ | refine y_retVar rfl rfl ?_)
  | (refine id_ac ?_; first | refine xc_nil ?_ | refine xc_var ?_ | refine xc_val rfl ?_)
  | (refine id_tk ?_; first | refine tk_nil ?_ | refine tk_val ?_ | refine tk_ref0 ?_ | refine tk_ref1 ?_ | refine tk_ref2 ?_ | refine tk_ref3 ?_ | refine tk_ref4 ?_)
  | (refine id_gv ?_; first | refine gv_nil ?_ | refine gv_val ?_ | refine gv_ref0 ?_ | refine gv_ref1 ?_ | refine gv_ref2 ?_ | refine gv_ref3 ?_ | refine gv_ref4 ?_)
  | (refine id_bd ?_; first | refine bd_name0 rfl ?_ | refine bd_name1 rfl ?_ | refine bd_name2 rfl ?_ | refine bd_name3 rfl ?_ | refine bd_name4 rfl ?_ | refine bd_name5 rfl ?_ | refine bd_name6 rfl ?_ | refine bd_name7 rfl ?_ | refine bd_name8 rfl ?_ | refine bd_name9 rfl ?_ | refine bd_name10 rfl ?_ | refine bd_name11 rfl ?_ | refine bd_name12 rfl ?_ | refine bd_name13 rfl ?_ | refine bd_tup ?_ | refine bd_any rfl ?_)
  | (refine id_bs ?_; first | refine bs_nil ?_ | refine bs_cons ?_)
  | (refine id_ms ?_; first | refine xm_nil ?_ | refine xm_cons ?_)
  | (refine id_is ?_; first | refine xi_nil ?_ | refine xi_one ?_)
  | (refine id_t ?_; first | refine xt_primN ?_ | refine xt_callN ?_ | refine xt_and ?_ | refine xt_or ?_ | refine xt_not ?_ | refine xt_placeN rfl ?_)
  | (refine id_tr ?_; first | refine tr_bl ?_ | refine tr_any rfl ?_)
  | (refine id_iO ?_; first | refine iO_seq rfl ?_ | refine iO_r1 ?_ | refine iO_r2 ?_)
  | (refine id_pE ?_; first | refine bd_to ?_ | refine q_any rfl ?_)
  | refine y_nx ?_ | refine y_rt ?_ | refine And.intro (Nat.le_of_ble_eq_true rfl : _ ≤ 100) ?_))
open Br
theorem atmost_g (n : Nat) (l : List Int) (gap w k : Int) (hl : l.length ≤ 1000) : cG (run tabF (n + 2) 1 [nuM l, mI gap, mI w, mI k]) (fun r fin => r = mB (srv l gap w k) ∧ fin = [some (nuM l), some (mI gap), some (mI w), some (mI k)]) := by
  refine cG_run [some (nuM l), some (mI gap), some (mI w), some (mI k), none] (F := ⟨4, 5, [true, true, true, true], b_lines_at_most⟩) rfl rfl rfl ?_
  walk_at "go"
  refine cG_use (broken_g n l gap w 1 hl (by decide)) (fun m fin h => ?_)
  obtain ⟨rfl, rfl⟩ := h
  walk_at "go"
  have e1 : (((iD (brk gap w 1 l)).length : Nat) : Int) = (cnt gap w l : Int) := by rw [List.length_map, brk_len]
  rw [e1]
  unfold srv
  refine if_b (fun h1 => ?_) (fun h1 => ?_)
  · walk_at "go"
    refine l_pureB (f := D.int) (fun x => decide (x ≤ w)) (l := l) rfl (fun x hx => ?_) ?_
    · walk_at "go"
      exact ⟨rfl, rfl⟩
    refine ⟨by rw [List.length_map, List.length_map]; omega, ?_⟩
    walk_at "go"
    refine pr_all ?_
    walk_at "go"
    rw [h1, List.all_map]
    exact ⟨rfl, rfl⟩
  · rw [h1]
    walk_at "go"
    exact ⟨rfl, rfl⟩
theorem serves_g (n : Nat) (l : List Int) (gap w k : Int) (hl : l.length ≤ 1000) : cG (run tabF (n + 2) 8 [nuM l, mI gap, mI w, mI k]) (fun r fin => r = mB (srv l gap w k) ∧ fin = [some (nuM l), some (mI gap), some (mI w), some (mI k)]) := by
  refine cG_run [some (nuM l), some (mI gap), some (mI w), some (mI k), none] (F := ⟨4, 5, [true, true, true, true], b__law_serves⟩) rfl rfl rfl ?_
  walk_at "go"
  refine cG_use (lengths_g n l gap w 1 hl (by decide)) (fun m fin h => ?_)
  obtain ⟨rfl, rfl⟩ := h
  walk_at "go"
  have e1 : (((iD (brk gap w 1 l)).length : Nat) : Int) = (cnt gap w l : Int) := by rw [List.length_map, brk_len]
  rw [e1]
  unfold srv
  refine if_b (fun h1 => ?_) (fun h1 => ?_)
  · walk_at "go"
    refine lt_pureI (f := D.int) (fun _ => 1) (fun x => decide (w < x)) (l := l) rfl (fun x hx => ?_) ?_
    · walk_at "go"
      refine ⟨rfl, ?_⟩
      refine if_b (fun _ => ?_) fun _ => rfl
      walk_at "go"
      exact ⟨rfl, rfl⟩
    refine ⟨by simp only [List.length_map]; have := List.length_filter_le (fun x => decide (w < x)) l; omega, ?_⟩
    walk_at "go"
    refine pr_eqL (k := []) ?_
    walk_at "go"
    have e2 : decide ((l.filter fun x => decide (w < x)).map (fun _ => (1 : Int)) = []) = l.all fun x => decide (x ≤ w) := by
      rw [Bool.eq_iff_iff, decide_eq_true_eq, List.map_eq_nil_iff, List.filter_eq_nil_iff, List.all_eq_true]
      constructor
      · intro h x hx
        have := h x hx
        simp at this ⊢
        omega
      · intro h x hx
        have := h x hx
        simp at this ⊢
        omega
    rw [h1, e2]
    exact ⟨rfl, rfl⟩
  · rw [h1]
    walk_at "go"
    exact ⟨rfl, rfl⟩
theorem imApp (l k : List Int) : iM (l ++ k) = iM l ++ iM k := List.map_append
theorem stretches_g (n : Nat) (l : List Int) (gap : Int) (hl : l.length ≤ 30) : cG (run tabF (n + 1) 2 [nuM l, mI gap]) (fun r fin => r = .lst (iM (sset (0 :: allS gap l))) ∧ fin = [some (nuM l), some (mI gap)]) := by
  refine cG_run [some (nuM l), some (mI gap), none, none, none, none] (F := ⟨2, 6, [true, true], b_stretches⟩) rfl rfl rfl ?_
  have hle : (0 :: allS gap l).length ≤ 1000 := by
    have h1 := allS_len gap l
    have h2 : l.length * l.length ≤ 30 * 30 := Nat.mul_le_mul hl hl
    rw [List.length_cons]
    omega
  have hll : ((iD l).length : Int).toNat = l.length := by rw [List.length_map]; rfl
  walk_at "go"
  rw [hll]
  refine f_range (fun k env => ∃ ws o3 o4 o5, env = [some (nuM l), some (mI gap), some (.lst (iM ws)), o3, o4, o5] ∧ ws ++ allS gap (l.drop k) = 0 :: allS gap l) ⟨[0], none, none, none, rfl, rfl⟩ (fun k env hk h => ?_) (fun env h => ?_)
  · obtain ⟨ws, o3, o4, o5, rfl, hws⟩ := h
    have hd : l.drop k = l[k] :: l.drop (k + 1) := List.drop_eq_getElem_cons hk
    rw [hd] at hws
    have hlen := congrArg List.length hws
    rw [List.length_append] at hlen
    have e0 : (0 : Int) + (k : Int) = (k : Int) := Int.zero_add _
    walk_at "go"
    rw [e0]
    refine pr_itemT (atI_D hk) ?_
    walk_at "go"
    refine q_append (by rw [List.length_map]; omega) ?_
    walk_at "go"
    have e1 : Mini.cutD (iD l) (if true = true then some ((k : Int) + 1) else none) (if false = true then some ((k : Int) + 1) else none) = iD (l.drop (k + 1)) := by
      rw [if_pos rfl, if_neg Bool.false_ne_true, show (k : Int) + 1 = ((k + 1 : Nat) : Int) from rfl, cutD_drop]; exact List.map_drop.symm
    refine fE_eq e1 ?_
    refine f_map (f := D.int) (l := l.drop (k + 1)) (fun done todo env => ∃ ws w o5, env = [some (nuM l), some (mI gap), some (.lst (iM ws)), some (mI k), some (mI w), o5] ∧ ws ++ runs gap w todo ++ allS gap (l.drop (k + 1)) = 0 :: allS gap l) ⟨ws ++ [l[k]], l[k], o5, by rw [imApp]; rfl, by rw [← hws]; show _ = ws ++ (l[k] :: runs gap l[k] (l.drop (k + 1)) ++ allS gap (l.drop (k + 1))); simp⟩ (fun done x todo env hl0 h => ?_) (fun env h => ?_)
    · obtain ⟨ws, w, o5, rfl, hws⟩ := h
      have hlen := congrArg List.length hws
      rw [List.length_append, List.length_append] at hlen
      walk_at "go"
      refine q_append (by rw [List.length_map]; omega) ?_
      walk_at "go"
      refine ⟨ws ++ [w + gap + x], _, _, by rw [imApp]; rfl, ?_⟩
      rw [← hws]
      show _ = ws ++ ((w + gap + x) :: runs gap (w + gap + x) todo) ++ _
      simp
    · obtain ⟨ws, w, o5, rfl, hws⟩ := h
      walk_at "go"
      refine ⟨ws, _, _, _, rfl, ?_⟩
      rw [← hws]
      simp [runs]
  · obtain ⟨ws, o3, o4, o5, rfl, hws⟩ := h
    have e : ws = 0 :: allS gap l := by
      rw [← hws, List.drop_of_length_le (Nat.le_refl _)]
      simp [allS]
    subst e
    walk_at "go"
    refine pr_soSet (by omega) ?_
    walk_at "go"
    exact ⟨rfl, rfl⟩
theorem least_g (n : Nat) (l : List Int) (gap k : Int) (hl : l.length ≤ 30) (hg : 0 ≤ gap) (h : ∀ y ∈ l, 0 ≤ y) (hk : 1 ≤ k) : cG (run tabF (n + 3) 3 [nuM l, mI gap, mI k]) (fun r fin => r = mI (lw l gap k) ∧ fin = [some (nuM l), some (mI gap), some (mI k)]) := by
  refine cG_run [some (nuM l), some (mI gap), some (mI k), none] (F := ⟨3, 4, [true, true, true], b_least_width⟩) rfl rfl rfl ?_
  walk_at "go"
  refine cG_use (stretches_g (n + 1) l gap hl) (fun m fin h => ?_)
  obtain ⟨rfl, rfl⟩ := h
  walk_at "go"
  refine lT_eq (frzs_ints _) ?_
  have hle : (0 :: allS gap l).length ≤ 1000 := by
    have h1 := allS_len gap l
    have h2 : l.length * l.length ≤ 30 * 30 := Nat.mul_le_mul hl hl
    rw [List.length_cons]
    omega
  refine lt_pureI (f := D.int) (fun w => w) (fun w => srv l gap w k) (l := sset (0 :: allS gap l)) rfl (fun x hx => ?_) ?_
  · walk_at "go"
    refine cG_use (atmost_g n l gap x k (by omega)) (fun m fin h => ?_)
    obtain ⟨rfl, rfl⟩ := h
    walk_at "go"
    refine ⟨rfl, ?_⟩
    refine if_b (fun _ => ?_) fun _ => rfl
    walk_at "go"
    exact ⟨rfl, rfl⟩
  obtain ⟨_, _, r, hr⟩ := lw_ok (l := l) hg h hk
  rw [hr]
  refine ⟨?_, ?_⟩
  · have h1 := congrArg List.length hr
    have h2 := List.length_filter_le (fun w => srv l gap w k) (sset (0 :: allS gap l))
    have h3 := sset_len (0 :: allS gap l)
    simp only [List.length_map]
    omega
  walk_at "go"
  refine pr_item (z := lw l gap k) (by
    show L2.atI (mI (lw l gap k) :: _) 0 = _
    exact atI_zero _ _) ?_
  walk_at "go"
  exact ⟨rfl, rfl⟩
end Law

set_option Elab.async false
set_option linter.all false
set_option maxRecDepth 100000
set_option maxHeartbeats 4000000
set_option autoImplicit false
namespace Law
open PySem PySem.Spec PyProof.Rows L2 Mini
local macro_rules | `(tactic| walk_at "go") => `(tactic| repeat (first
  | (refine id_pr ?_; first | refine pr_add ?_ | refine pr_sub ?_ | refine pr_lt ?_ | refine pr_le ?_ | refine pr_gt ?_ | refine pr_ge ?_ | refine pr_eq ?_ | refine pr_ne ?_ | refine pr_neg ?_ | refine pr_abs ?_ | refine pr_int ?_ | refine pr_intB ?_ | refine pr_lenL ?_ | refine pr_lenT ?_ | refine pr_fdiv ⟨by decide, by decide⟩ ?_ | refine pr_fdiv ?_ ?_ | refine pr_mod (by decide) ?_ | refine pr_mod ?_ ?_ | refine pr_mul (mul_l (by decide)) ?_ | refine pr_mul (mul_r (by decide)) ?_ | refine pr_mul ?_ ?_ | refine pr_p9 ?_ | refine pr_p29 ?_ | refine pr_p28 ?_ | refine pr_p30 ?_ | refine pr_p6 ?_ | refine pr_p12 ?_ | refine pr_p18 ?_ | refine pr_p8 ?_ | refine pr_p20 ?_ | refine pr_p19 ?_ | refine pr_p39 ?_ | refine pr_pow ⟨by decide, by decide, by decide⟩ ?_ | refine pr_pow ?_ ?_ | refine pr_neNil ?_ | refine pr_tuple ?_ | refine pr_sum ?_ | refine pr_sumL ?_ | refine pr_eqT ?_ | refine pr_eqS ?_ | refine pr_neS ?_ | refine pr_anyX rfl rfl ?_)
  | (refine id_v ?_; first | refine x_primN rfl ?_ | refine x_const ?_ | refine x_place rfl rfl ?_ | refine x_callN rfl ?_ | refine x_tup ?_ | refine x_lst ?_ | refine x_comp ?_ | refine x_compT ?_ | refine x_chg rfl rfl ?_ | refine x_andN ?_ | refine x_sl2 rfl rfl ?_ | refine x_sl3 rfl ?_ | refine x_placeF rfl rfl rfl ?_)
  | (refine id_a ?_; first | refine xa_val rfl ?_ | refine xa_imm rfl ?_ | refine xa_ref rfl ?_)
  | (refine id_as ?_; first | refine xs_nil ?_ | refine xs_cons rfl ?_ | refine xs_consV rfl ?_)
  | (refine id_rs ?_; first | refine rs_nil ?_ | refine rs_val ?_ | refine rs_ref rfl ?_)
  | (refine id_b ?_; first | refine y_cons ?_ | refine y_nil ?_)
  | (refine id_s ?_; first | refine y_setN ?_ | refine y_parN ?_ | refine y_expr ?_ | refine y_if ?_ | refine y_for ?_ | refine y_ret ?_ | refine y_retVar rfl rfl ?_)
  | (refine id_ac ?_; first | refine xc_nil ?_ | refine xc_var ?_ | refine xc_val rfl ?_)
  | (refine id_tk ?_; first | refine tk_nil ?_ | refine tk_val ?_ | refine tk_ref0 ?_ | refine tk_ref1 ?_ | refine tk_ref2 ?_ | refine tk_ref3 ?_ | refine tk_ref4 ?_)
  | (refine id_gv ?_; first | refine gv_nil ?_ | refine gv_val ?_ | refine gv_ref0 ?_ | refine gv_ref1 ?_ | refine gv_ref2 ?_ | refine gv_ref3 ?_ | refine gv_ref4 ?_)
  | (refine id_bd ?_; first | refine bd_name0 rfl ?_ | refine bd_name1 rfl ?_ | refine bd_name2 rfl ?_ | refine bd_name3 rfl ?_ | refine bd_name4 rfl ?_ | refine bd_name5 rfl ?_ | refine bd_name6 rfl ?_ | refine bd_name7 rfl ?_ | refine bd_name8 rfl ?_ | refine bd_name9 rfl ?_ | refine bd_name10 rfl ?_ | refine bd_name11 rfl ?_ | refine bd_name12 rfl ?_ | refine bd_name13 rfl ?_ | refine bd_tup ?_ | refine bd_any rfl ?_)
  | (refine id_bs ?_; first | refine bs_nil ?_ | refine bs_cons ?_)
  | (refine id_ms ?_; first | refine xm_nil ?_ | refine xm_cons ?_)
  | (refine id_is ?_; first | refine xi_nil ?_ | refine xi_one ?_)
  | (refine id_t ?_; first | refine xt_primN ?_ | refine xt_callN ?_ | refine xt_and ?_ | refine xt_or ?_ | refine xt_not ?_ | refine xt_placeN rfl ?_)
  | (refine id_tr ?_; first | refine tr_bl ?_ | refine tr_any rfl ?_)
  | (refine id_iO ?_; first | refine iO_seq rfl ?_ | refine iO_r1 ?_ | refine iO_r2 ?_)
  | (refine id_pE ?_; first | refine bd_to ?_ | refine q_any rfl ?_)
  | refine y_nx ?_ | refine y_rt ?_ | refine And.intro (Nat.le_of_ble_eq_true rfl : _ ≤ 100) ?_))
open Br
def LOK (B : Int) (l : List Int) : Prop := ∀ z ∈ l, 0 ≤ z ∧ z ≤ B
theorem LOK.snoc {B : Int} {l : List Int} {z : Int} (h : LOK B l) (h0 : 0 ≤ z) (h1 : z ≤ B) : LOK B (l ++ [z]) := fun y hy => by
  rcases List.mem_append.mp hy with hy | hy
  · exact h y hy
  · have : y = z := by simpa using hy
    omega
theorem lw_log {l : List Int} {g k : Int} (hl : l.length ≤ 12) (hb : LOK 1000 l) (hg : 0 ≤ g) (hg2 : g ≤ 100) (hk : 1 ≤ k) : (lw l g k).natAbs.log2 < 1920 := by
  obtain ⟨h1, h2, _⟩ := lw_ok (l := l) hg (fun y hy => (hb y hy).1) hk
  have h3 := tot_le (g := g) (B := 1000) hg (by decide) l fun y hy => (hb y hy).2
  have h4 : (l.length : Int) * (1000 + g) ≤ 12 * 1100 := Int.mul_le_mul (by omega) (by omega) (by omega) (by decide)
  have h5 := h1.1
  have h6 : nb 20 (lw l g k) := by unfold nb; omega
  have := h6.log
  omega
/-- the found row -/
@[irreducible] def fnd (l : List Int) (g : Int) : List Int := (List.range 13).map fun (k : Nat) => lw l g (1 + (k : Int))
theorem fnd_desc {l : List Int} {g : Int} (hg : 0 ≤ g) (h : ∀ y ∈ l, 0 ≤ y) : fnd l g = (isort (fnd l g)).reverse := by
  have key : ∀ n : Nat, (((List.range n).map fun (k : Nat) => lw l g (1 + (k : Int))).reverse).Pairwise (· ≤ ·) ∧ ∀ z ∈ (List.range n).map (fun (k : Nat) => lw l g (1 + (k : Int))), lw l g (1 + (n : Int)) ≤ z := by
    intro n
    induction n with
    | zero => exact ⟨List.Pairwise.nil, fun z hz => by cases hz⟩
    | succ n ih =>
      have hm := lw_mono (l := l) (k := 1 + (n : Int)) hg h (by omega)
      have e : 1 + ((n + 1 : Nat) : Int) = 1 + (n : Int) + 1 := by omega
      rw [List.range_succ, List.map_append, List.reverse_append, e]
      refine ⟨?_, fun z hz => ?_⟩
      · show (lw l g (1 + (n : Int)) :: _).Pairwise _
        refine List.pairwise_cons.mpr ⟨fun z hz => ih.2 z (List.mem_reverse.mp hz), ih.1⟩
      · rcases List.mem_append.mp hz with hz | hz
        · have := ih.2 z hz; omega
        · have : z = lw l g (1 + (n : Int)) := by simpa using hz
          omega
  have e : isort (fnd l g) = (fnd l g).reverse := sorted_uniq ((isort_perm _).trans (List.reverse_perm _).symm) (isort_sorted _) (by unfold fnd; exact (key 13).1)
  rw [e, List.reverse_reverse]
theorem law_body (ns : List Int) : cG (run tabF (4 + 1) 9 [scriptM ns]) (fun m _ => m = mB true) := by
  refine cG_run [some (scriptM ns), none, none, none, none, none, none, none, none, none, none, none] (F := ⟨1, 12, [true], b_law⟩) rfl rfl rfl ?_
  walk_at "go"
  refine cG_use (spring_g 3 ns) (fun m fin h => ?_)
  obtain ⟨g, x, t, rfl, rfl⟩ := h
  walk_at "go"
  refine f_range (fun k env => ∃ g x t o2 o3 o4 o5 o6 o7 o8 o9 o10 o11, env = [some (scriptM ns), some (spM g x t), o2, o3, o4, o5, o6, o7, o8, o9, o10, o11]) ⟨g, x, t, none, none, none, none, none, none, none, none, none, none, rfl⟩ (fun tn env htn h => ?_) (fun env h => ?_)
  · obtain ⟨g, x, t, o2, o3, o4, o5, o6, o7, o8, o9, o10, o11, rfl⟩ := h
    walk_at "go"
    refine cG_use (dip_g 3 g x t 13 (by decide) (by decide)) (fun m fin h => ?_)
    obtain ⟨k0, g, x, t, rfl, hk0, hk1, rfl⟩ := h
    walk_at "go"
    refine l_range (fun k acc env => ∃ l g x t, acc = iM l ∧ LOK 1000 l ∧ l.length = k ∧ env = [some (scriptM ns), some (spM g x t), some (mI (0 + (tn : Int))), o3, o4, o5, o6, o7, o8, o9, o10, none]) ⟨[], g, x, t, rfl, (fun z hz => by cases hz), rfl, rfl⟩ (fun k2 acc env hk2 h => ?_) (fun acc env h => ?_)
    · obtain ⟨l, g, x, t, rfl, hl, hlen, rfl⟩ := h
      walk_at "go"
      refine cG_use (pick_g 2 g x t [1, 9, 31] (by decide) (by decide)) (fun m fin h => ?_)
      obtain ⟨z, g, x, t, rfl, hz, rfl⟩ := h
      have hz2 : 0 < z ∧ z ≤ 31 := by simp at hz; omega
      walk_at "go"
      refine cG_use (dip_g 3 g x t z (by omega) (by omega)) (fun m fin h => ?_)
      obtain ⟨y, g, x, t, rfl, hy0, hy1, rfl⟩ := h
      walk_at "go"
      exact ⟨l ++ [y], g, x, t, by rw [imApp]; rfl, hl.snoc hy0 (by omega), by simp [hlen], rfl⟩
    obtain ⟨l, g, x, t, rfl, hl, hlen, rfl⟩ := h
    have hlen : l.length ≤ 12 := by omega
    refine ⟨by rw [List.length_map]; omega, ?_⟩
    have hl0 : ∀ y ∈ l, 0 ≤ y := fun y hy => (hl y hy).1
    walk_at "go"
    refine cG_use (dip_g 3 g x t 10 (by decide) (by decide)) (fun m fin h => ?_)
    obtain ⟨gap, g, x, t, rfl, hg0, hg1, rfl⟩ := h
    walk_at "go"
    refine cG_use (dip_g 3 g x t 14 (by decide) (by decide)) (fun m fin h => ?_)
    obtain ⟨k4, g, x, t, rfl, hk40, hk41, rfl⟩ := h
    walk_at "go"
    refine f_map (f := D.int) (l := [1, 2, 3, 1 + k4, 1000000000]) (fun done todo env => ∃ o5 o7, env = [some (scriptM ns), some (spM g x t), some (mI (0 + (tn : Int))), some (nuM l), some (mI gap), o5, o6, o7, o8, o9, o10, o11]) ⟨_, _, rfl⟩ (fun done k todo env e h => ?_) (fun env h => ?_)
    · obtain ⟨o5, o7, rfl⟩ := h
      have hk : 1 ≤ k := by
        have : k ∈ [1, 2, 3, 1 + k4, 1000000000] := by rw [e]; simp
        simp at this
        omega
      obtain ⟨hw, _, _⟩ := lw_ok (l := l) hg0 hl0 hk
      walk_at "go"
      generalize hW : S.whileS _ _ = W
      generalize hK : nxt (ctOf tabF 4) _ _ _ _ = K
      have key : ∀ (j : Nat) (due : Int), (lw l gap k - due).toNat ≤ j → 0 ≤ due → due ≤ lw l gap k → (K .nx [some (scriptM ns), some (spM g x t), some (mI (0 + (tn : Int))), some (nuM l), some (mI gap), some (mI k), o6, some (mI (lw l gap k)), o8, o9, o10, o11]) →
          sE (ctOf tabF 4) (protB ⟨1, 12, [true], b_law⟩) W [some (scriptM ns), some (spM g x t), some (mI (0 + (tn : Int))), some (nuM l), some (mI gap), some (mI k), o6, some (mI due), o8, o9, o10, o11] K fun _ _ => False := by
        intro j
        induction j with
        | zero =>
          intro due h1 h2 h3 hend
          have : due = lw l gap k := by omega
          subst this
          subst hW
          refine y_while ?_
          walk_at "go"
          refine cG_use (serves_g 2 l gap (lw l gap k) k (by omega)) (fun m fin h => ?_)
          obtain ⟨rfl, rfl⟩ := h
          walk_at "go"
          rw [hw.2.1]
          exact hend
        | succ j ih =>
          intro due h1 h2 h3 hend
          subst hW
          refine y_while ?_
          walk_at "go"
          refine cG_use (serves_g 2 l gap due k (by omega)) (fun m fin h => ?_)
          obtain ⟨rfl, rfl⟩ := h
          walk_at "go"
          by_cases q : due = lw l gap k
          · subst q
            rw [hw.2.1]
            exact hend
          · rw [hw.2.2 due h2 (by omega)]
            walk_at "go"
            exact ih _ (by omega) (by omega) (by omega) hend
      refine key (lw l gap k).toNat 0 (by omega) (Int.le_refl _) hw.1 ?_
      subst hK
      walk_at "go"
      refine cG_use (least_g 1 l gap k (by omega) hg0 hl0 hk) (fun m fin h => ?_)
      obtain ⟨rfl, rfl⟩ := h
      have hlog := lw_log hlen hl hg0 (by omega) hk
      walk_at "go"
      refine pr_reprI hlog ?_
      walk_at "go"
      refine pr_reprI hlog ?_
      walk_at "go"
      refine if_b (fun z => by simp at z) fun _ => ?_
      walk_at "go"
      exact ⟨_, _, rfl⟩
    · obtain ⟨o5, o7, rfl⟩ := h
      walk_at "go"
      refine l_range (fun k acc env => ∃ l2 g x t, acc = iM l2 ∧ LOK 1000 l2 ∧ l2.length = k ∧ env = [some (scriptM ns), some (spM g x t), some (mI (0 + (tn : Int))), some (nuM l), some (mI gap), o5, o6, o7, o8, o9, o10, none]) ⟨[], g, x, t, rfl, (fun z hz => by cases hz), rfl, rfl⟩ (fun k2 acc env hk2 h => ?_) (fun acc env h => ?_)
      · obtain ⟨l2, g, x, t, rfl, hl2, hlen2, rfl⟩ := h
        walk_at "go"
        refine cG_use (dip_g 3 g x t 1001 (by decide) (by decide)) (fun m fin h => ?_)
        obtain ⟨y, g, x, t, rfl, hy0, hy1, rfl⟩ := h
        walk_at "go"
        exact ⟨l2 ++ [y], g, x, t, by rw [imApp]; rfl, hl2.snoc hy0 (by omega), by simp [hlen2], rfl⟩
      obtain ⟨l2, g, x, t, rfl, hl2, hlen2, rfl⟩ := h
      have hlen2 : l2.length = 12 := hlen2
      refine ⟨by rw [List.length_map]; omega, ?_⟩
      have hl20 : ∀ y ∈ l2, 0 ≤ y := fun y hy => (hl2 y hy).1
      walk_at "go"
      refine cG_use (dip_g 3 g x t 101 (by decide) (by decide)) (fun m fin h => ?_)
      obtain ⟨wide, g, x, t, rfl, hw0, hw1, rfl⟩ := h
      walk_at "go"
      refine l_pureR (fun k => lw l2 wide (1 + (k : Int))) rfl (fun k hk => ?_) ?_
      · walk_at "go"
        refine cG_use (least_g 1 l2 wide (1 + (k : Int)) (by omega) hw0 hl20 (by omega)) (fun m fin h => ?_)
        obtain ⟨rfl, rfl⟩ := h
        walk_at "go"
        exact ⟨rfl, rfl⟩
      refine ⟨by rw [List.length_map, List.length_map, List.length_range]; decide, ?_⟩
      have ef : ((List.range (14 - 1 : Int).toNat).map fun (k : Nat) => lw l2 wide (1 + (k : Int))) = fnd l2 wide := by unfold fnd; rfl
      rw [ef]
      have hfl : (fnd l2 wide).length = 13 := by unfold fnd; simp
      have hat : ∀ k : Nat, k < 13 → L2.atI (iM (fnd l2 wide)) (k : Int) = some (mI (lw l2 wide (1 + (k : Int)))) := fun k hk => by
        rw [atI_at (by omega)]
        simp [fnd]
      have hget : ∀ (k : Nat) (env : Mini.Env), k < 13 → gt env 6 = some (.lst (iM (fnd l2 wide))) → getE env 6 [.ix (k : Int)] = some (mI (lw l2 wide (1 + (k : Int)))) := fun k env hk he => by
        unfold getE
        rw [he]
        show (match L2.atI (iM (fnd l2 wide)) (k : Int) with | some m => getP m [] | none => none) = _
        rw [hat k hk]
        rfl
      obtain ⟨a0, a1, tl, rfl⟩ : ∃ a0 a1 tl, l2 = a0 :: a1 :: tl := by
        match l2, hlen2 with
        | a0 :: a1 :: tl, _ => exact ⟨a0, a1, tl, rfl⟩
      have htl : tl.length = 10 := by simpa using hlen2
      walk_at "go"
      refine pr_sorted ?_
      walk_at "go"
      refine pr_rev ?_
      walk_at "go"
      refine pr_neL ?_
      walk_at "go"
      rw [← fnd_desc hw0 hl20]
      refine if_b (fun z => by simp at z) fun _ => ?_
      walk_at "go"
      refine x_place (m := mI (lw (a0 :: a1 :: tl) wide (1 + ((12 : Nat) : Int)))) ?_ rfl ?_
      · exact hget 12 _ (by decide) rfl
      walk_at "go"
      refine pr_max1T ?_
      walk_at "go"
      rw [show lw (a0 :: a1 :: tl) wide (1 + ((12 : Nat) : Int)) = maxL a0 (a1 :: tl) from lw_many hw0 hl20 (by rw [List.length_cons, htl]; decide)]
      refine if_b (fun z => by simp at z) fun _ => ?_
      walk_at "go"
      refine x_place (m := mI (lw (a0 :: a1 :: tl) wide (1 + ((0 : Nat) : Int)))) ?_ rfl ?_
      · exact hget 0 _ (by decide) rfl
      walk_at "go"
      rw [show lw (a0 :: a1 :: tl) wide (1 + ((0 : Nat) : Int)) = (a0 :: a1 :: tl).sum + 11 * wide from (lw_one hw0 hl20).trans (by rw [htl]; rfl)]
      refine if_b (fun z => by simp at z) fun _ => ?_
      walk_at "go"
      refine f_range (fun k env => ∃ o5 o10, env = [some (scriptM ns), some (spM g x t), some (mI (0 + (tn : Int))), some (nuM l), some (mI gap), o5, some (.lst (iM (fnd (a0 :: a1 :: tl) wide))), o7, some (nuM (a0 :: a1 :: tl)), some (mI wide), o10, o11]) ⟨_, _, rfl⟩ (fun k env hk h => ?_) (fun env h => ?_)
      · obtain ⟨o5, o10, rfl⟩ := h
        have hk : k < 13 := hk
        have hlw := lw_ok (l := a0 :: a1 :: tl) (k := 1 + (k : Int)) hw0 hl20 (by omega)
        walk_at "go"
        rw [show (1 : Int) + (k : Int) - 1 = (k : Int) by omega]
        refine pr_item (hat k hk) ?_
        walk_at "go"
        refine cG_use (serves_g 2 (a0 :: a1 :: tl) wide (lw (a0 :: a1 :: tl) wide (1 + (k : Int))) (1 + (k : Int)) (by omega)) (fun m fin h => ?_)
        obtain ⟨rfl, rfl⟩ := h
        walk_at "go"
        rw [hlw.1.2.1]
        walk_at "go"
        refine if_dec (fun hpos => ?_) (fun hpos => ?_)
        · walk_at "go"
          refine cG_use (serves_g 2 (a0 :: a1 :: tl) wide (lw (a0 :: a1 :: tl) wide (1 + (k : Int)) - 1) (1 + (k : Int)) (by omega)) (fun m fin h => ?_)
          obtain ⟨rfl, rfl⟩ := h
          walk_at "go"
          rw [hlw.1.2.2 _ (by omega) (by omega)]
          walk_at "go"
          exact ⟨_, _, rfl⟩
        · walk_at "go"
          exact ⟨_, _, rfl⟩
      · obtain ⟨o5, o10, rfl⟩ := h
        walk_at "go"
        exact ⟨g, x, t, _, _, _, _, _, _, _, _, _, _, rfl⟩
  · obtain ⟨g, x, t, o2, o3, o4, o5, o6, o7, o8, o9, o10, o11, rfl⟩ := h
    walk_at "go"
    refine cG_use (least_g 1 [30, 50, 20] 5 2 (by decide) (by decide) (by decide) (by decide)) (fun m fin h => ?_)
    obtain ⟨rfl, rfl⟩ := h
    walk_at "go"
    refine cG_use (least_g 1 [] 3 1 (by decide) (by decide) (by decide) (by decide)) (fun m fin h => ?_)
    obtain ⟨rfl, rfl⟩ := h
    walk_at "go"
    rfl
theorem law_ok : LawOk tabF 5 9 63 := fun ns _ => cG_to (law_body ns)
end Law

set_option Elab.async false
set_option linter.all false
set_option maxRecDepth 100000
set_option maxHeartbeats 4000000
set_option autoImplicit false
namespace Law
open PySem PySem.Spec PyProof.Rows L2 Mini
theorem sc_broken : FnScope I_broken.N I_broken.ps (defScope I_broken.st) := ⟨rfl, rfl, rfl, by decide +kernel, rfl, by decide +kernel, by decide +kernel⟩
theorem sc_lines_at_most : FnScope I_lines_at_most.N I_lines_at_most.ps (defScope I_lines_at_most.st) := ⟨rfl, rfl, rfl, by decide +kernel, rfl, by decide +kernel, by decide +kernel⟩
theorem sc_stretches : FnScope I_stretches.N I_stretches.ps (defScope I_stretches.st) := ⟨rfl, rfl, rfl, by decide +kernel, rfl, by decide +kernel, by decide +kernel⟩
theorem sc_least_width : FnScope I_least_width.N I_least_width.ps (defScope I_least_width.st) := ⟨rfl, rfl, rfl, by decide +kernel, rfl, by decide +kernel, by decide +kernel⟩
theorem sc__law_spring : FnScope I__law_spring.N I__law_spring.ps (defScope I__law_spring.st) := ⟨rfl, rfl, rfl, by decide +kernel, rfl, by decide +kernel, by decide +kernel⟩
theorem sc__law_dip : FnScope I__law_dip.N I__law_dip.ps (defScope I__law_dip.st) := ⟨rfl, rfl, rfl, by decide +kernel, rfl, by decide +kernel, by decide +kernel⟩
theorem sc__law_pick : FnScope I__law_pick.N I__law_pick.ps (defScope I__law_pick.st) := ⟨rfl, rfl, rfl, by decide +kernel, rfl, by decide +kernel, by decide +kernel⟩
theorem sc__law_lengths : FnScope I__law_lengths.N I__law_lengths.ps (defScope I__law_lengths.st) := ⟨rfl, rfl, rfl, by decide +kernel, rfl, by decide +kernel, by decide +kernel⟩
theorem sc__law_serves : FnScope I__law_serves.N I__law_serves.ps (defScope I__law_serves.st) := ⟨rfl, rfl, rfl, by decide +kernel, rfl, by decide +kernel, by decide +kernel⟩
theorem sc_law : FnScope I_law.N I_law.ps (defScope I_law.st) := ⟨rfl, rfl, rfl, by decide +kernel, rfl, by decide +kernel, by decide +kernel⟩
theorem all_mk {l : PySem.W.OpenLaw} {w : World} {K : PySem.W.Frag} {h : Heap} {mg : Str → Option Value} {ca ea : Nat → Addr} {fa f0 f1 f2 f3 f4 f5 f6 f7 f8 f9 : Addr} (X : K.In h) (G : h.Ns mainGlobals mg) (hfa : mg "law" = some (.ref fa))
    {od0 od1 od2 od3 od4 od5 od6 od7 od8 od9 an0 an1 an2 an3 an4 an5 an6 an7 an8 an9 : Option Addr} {sl0 sl1 sl2 sl3 sl4 sl5 sl6 sl7 sl8 sl9 : Array (Option Value)} {oc0 oc1 oc2 oc3 oc4 oc5 oc6 oc7 oc8 oc9 kV0 kV1 kV2 kV3 kV4 kV5 kV6 kV7 kV8 kV9 dc0 dc1 dc2 dc3 dc4 dc5 dc6 dc7 dc8 dc9 pm0 pm1 pm2 pm3 pm4 pm5 pm6 pm7 pm8 pm9 cd0 cd1 cd2 cd3 cd4 cd5 cd6 cd7 cd8 cd9 ct0 ct1 ct2 ct3 ct4 ct5 ct6 ct7 ct8 ct9 : Value}
    (a0 : PySem.W.nsIn K mainGlobals "broken" = some (some (.ref f0))) (l0 : K.lookup f0 = some ⟨oc0, od0, .func (PySem.W.fnOf "broken" "broken" (defArgs I_broken.st) (defBody I_broken.st) (defScope I_broken.st) .none kV0 dc0 pm0 an0 cd0 ct0), sl0⟩) (c0 : PySem.W.codeIn K cd0 "broken" = true) (k0 : PySem.W.keepIn K (.ref f0) = true)
    (a1 : PySem.W.nsIn K mainGlobals "lines_at_most" = some (some (.ref f1))) (l1 : K.lookup f1 = some ⟨oc1, od1, .func (PySem.W.fnOf "lines_at_most" "lines_at_most" (defArgs I_lines_at_most.st) (defBody I_lines_at_most.st) (defScope I_lines_at_most.st) .none kV1 dc1 pm1 an1 cd1 ct1), sl1⟩) (c1 : PySem.W.codeIn K cd1 "lines_at_most" = true) (k1 : PySem.W.keepIn K (.ref f1) = true)
    (a2 : PySem.W.nsIn K mainGlobals "stretches" = some (some (.ref f2))) (l2 : K.lookup f2 = some ⟨oc2, od2, .func (PySem.W.fnOf "stretches" "stretches" (defArgs I_stretches.st) (defBody I_stretches.st) (defScope I_stretches.st) .none kV2 dc2 pm2 an2 cd2 ct2), sl2⟩) (c2 : PySem.W.codeIn K cd2 "stretches" = true) (k2 : PySem.W.keepIn K (.ref f2) = true)
    (a3 : PySem.W.nsIn K mainGlobals "least_width" = some (some (.ref f3))) (l3 : K.lookup f3 = some ⟨oc3, od3, .func (PySem.W.fnOf "least_width" "least_width" (defArgs I_least_width.st) (defBody I_least_width.st) (defScope I_least_width.st) .none kV3 dc3 pm3 an3 cd3 ct3), sl3⟩) (c3 : PySem.W.codeIn K cd3 "least_width" = true) (k3 : PySem.W.keepIn K (.ref f3) = true)
    (a4 : PySem.W.nsIn K mainGlobals "_law_spring" = some (some (.ref f4))) (l4 : K.lookup f4 = some ⟨oc4, od4, .func (PySem.W.fnOf "_law_spring" "_law_spring" (defArgs I__law_spring.st) (defBody I__law_spring.st) (defScope I__law_spring.st) .none kV4 dc4 pm4 an4 cd4 ct4), sl4⟩) (c4 : PySem.W.codeIn K cd4 "_law_spring" = true) (k4 : PySem.W.keepIn K (.ref f4) = true)
    (a5 : PySem.W.nsIn K mainGlobals "_law_dip" = some (some (.ref f5))) (l5 : K.lookup f5 = some ⟨oc5, od5, .func (PySem.W.fnOf "_law_dip" "_law_dip" (defArgs I__law_dip.st) (defBody I__law_dip.st) (defScope I__law_dip.st) .none kV5 dc5 pm5 an5 cd5 ct5), sl5⟩) (c5 : PySem.W.codeIn K cd5 "_law_dip" = true) (k5 : PySem.W.keepIn K (.ref f5) = true)
    (a6 : PySem.W.nsIn K mainGlobals "_law_pick" = some (some (.ref f6))) (l6 : K.lookup f6 = some ⟨oc6, od6, .func (PySem.W.fnOf "_law_pick" "_law_pick" (defArgs I__law_pick.st) (defBody I__law_pick.st) (defScope I__law_pick.st) .none kV6 dc6 pm6 an6 cd6 ct6), sl6⟩) (c6 : PySem.W.codeIn K cd6 "_law_pick" = true) (k6 : PySem.W.keepIn K (.ref f6) = true)
    (a7 : PySem.W.nsIn K mainGlobals "_law_lengths" = some (some (.ref f7))) (l7 : K.lookup f7 = some ⟨oc7, od7, .func (PySem.W.fnOf "_law_lengths" "_law_lengths" (defArgs I__law_lengths.st) (defBody I__law_lengths.st) (defScope I__law_lengths.st) .none kV7 dc7 pm7 an7 cd7 ct7), sl7⟩) (c7 : PySem.W.codeIn K cd7 "_law_lengths" = true) (k7 : PySem.W.keepIn K (.ref f7) = true)
    (a8 : PySem.W.nsIn K mainGlobals "_law_serves" = some (some (.ref f8))) (l8 : K.lookup f8 = some ⟨oc8, od8, .func (PySem.W.fnOf "_law_serves" "_law_serves" (defArgs I__law_serves.st) (defBody I__law_serves.st) (defScope I__law_serves.st) .none kV8 dc8 pm8 an8 cd8 ct8), sl8⟩) (c8 : PySem.W.codeIn K cd8 "_law_serves" = true) (k8 : PySem.W.keepIn K (.ref f8) = true)
    (a9 : PySem.W.nsIn K mainGlobals "law" = some (some (.ref f9))) (l9 : K.lookup f9 = some ⟨oc9, od9, .func (PySem.W.fnOf "law" "law" (defArgs I_law.st) (defBody I_law.st) (defScope I_law.st) .none kV9 dc9 pm9 an9 cd9 ct9), sl9⟩) (c9 : PySem.W.codeIn K cd9 "law" = true) (k9 : PySem.W.keepIn K (.ref f9) = true)
    (z0 : PySem.W.nsIn K mainGlobals "abs" = some none) (z1 : PySem.W.nsIn K mainGlobals "all" = some none) (z2 : PySem.W.nsIn K mainGlobals "int" = some none) (z3 : PySem.W.nsIn K mainGlobals "len" = some none) (z4 : PySem.W.nsIn K mainGlobals "max" = some none) (z5 : PySem.W.nsIn K mainGlobals "range" = some none) (z6 : PySem.W.nsIn K mainGlobals "repr" = some none) (z7 : PySem.W.nsIn K mainGlobals "set" = some none) (z8 : PySem.W.nsIn K mainGlobals "sorted" = some none) (z9 : PySem.W.nsIn K mainGlobals "sum" = some none) (z10 : PySem.W.nsIn K mainGlobals "tuple" = some none) :
    ∃ fd : FuncData, (∀ (s : Shared) (v : Value), BindsTo s fd ⟨[v], []⟩ [("_law_script", v)]) ∧ ∀ base : Heap, K.In base → base.Ns mainGlobals mg → FnG ⟨l.prog, w, ⟨K, ca⟩, mg, base, ea⟩ CX0 5 fa fd ["_law_script"] (spOf ⟨l.prog, w, ⟨K, ca⟩, mg, base, ea⟩ tabF 5 9 1) := by
  have e := hfa.symm.trans (PySem.W.mg_of X G a9)
  cases e
  have F0 := fun_mk (st := I_broken.st) l0 c0 k0
  have b0 := F0.binds (ps := I_broken.ps) fun _ _ _ _ _ _ us hl => match us, hl with | [_, _, _], _ => rfl
  have F1 := fun_mk (st := I_lines_at_most.st) l1 c1 k1
  have b1 := F1.binds (ps := I_lines_at_most.ps) fun _ _ _ _ _ _ us hl => match us, hl with | [_, _, _, _], _ => rfl
  have F2 := fun_mk (st := I_stretches.st) l2 c2 k2
  have b2 := F2.binds (ps := I_stretches.ps) fun _ _ _ _ _ _ us hl => match us, hl with | [_, _], _ => rfl
  have F3 := fun_mk (st := I_least_width.st) l3 c3 k3
  have b3 := F3.binds (ps := I_least_width.ps) fun _ _ _ _ _ _ us hl => match us, hl with | [_, _, _], _ => rfl
  have F4 := fun_mk (st := I__law_spring.st) l4 c4 k4
  have b4 := F4.binds (ps := I__law_spring.ps) fun _ _ _ _ _ _ us hl => match us, hl with | [_], _ => rfl
  have F5 := fun_mk (st := I__law_dip.st) l5 c5 k5
  have b5 := F5.binds (ps := I__law_dip.ps) fun _ _ _ _ _ _ us hl => match us, hl with | [_, _], _ => rfl
  have F6 := fun_mk (st := I__law_pick.st) l6 c6 k6
  have b6 := F6.binds (ps := I__law_pick.ps) fun _ _ _ _ _ _ us hl => match us, hl with | [_, _], _ => rfl
  have F7 := fun_mk (st := I__law_lengths.st) l7 c7 k7
  have b7 := F7.binds (ps := I__law_lengths.ps) fun _ _ _ _ _ _ us hl => match us, hl with | [_, _, _], _ => rfl
  have F8 := fun_mk (st := I__law_serves.st) l8 c8 k8
  have b8 := F8.binds (ps := I__law_serves.ps) fun _ _ _ _ _ _ us hl => match us, hl with | [_, _, _, _], _ => rfl
  have F9 := fun_mk (st := I_law.st) l9 c9 k9
  have b9 := F9.binds (ps := I_law.ps) fun _ _ _ _ _ _ us hl => match us, hl with | [_], _ => rfl
  refine ⟨PySem.W.fnOf "law" "law" (defArgs I_law.st) (defBody I_law.st) (defScope I_law.st) .none kV9 dc9 pm9 an9 cd9 ct9, fun s v => .of_eq rfl, fun base hb hg => ?_⟩
  refine tab_ok (W := ⟨l.prog, w, ⟨K, ca⟩, mg, base, ea⟩) comp_ok (fun x hx => ?_) (fun i F hi => ?_) 5 9 I_law _ _ rfl (PySem.W.mg_of X G a9) F9 sc_law
  · have hx : x = "abs" ∨ x = "all" ∨ x = "int" ∨ x = "len" ∨ x = "max" ∨ x = "range" ∨ x = "repr" ∨ x = "set" ∨ x = "sorted" ∨ x = "sum" ∨ x = "tuple" := by simpa [bsL] using hx
    rcases hx with rfl | rfl | rfl | rfl | rfl | rfl | rfl | rfl | rfl | rfl | rfl
    · exact PySem.W.mg_none_of X G z0
    · exact PySem.W.mg_none_of X G z1
    · exact PySem.W.mg_none_of X G z2
    · exact PySem.W.mg_none_of X G z3
    · exact PySem.W.mg_none_of X G z4
    · exact PySem.W.mg_none_of X G z5
    · exact PySem.W.mg_none_of X G z6
    · exact PySem.W.mg_none_of X G z7
    · exact PySem.W.mg_none_of X G z8
    · exact PySem.W.mg_none_of X G z9
    · exact PySem.W.mg_none_of X G z10
  · match i, hi with
    | 0, hi => cases hi; exact ⟨_, _, PySem.W.mg_of X G a0, F0, b0, sc_broken⟩
    | 1, hi => cases hi; exact ⟨_, _, PySem.W.mg_of X G a1, F1, b1, sc_lines_at_most⟩
    | 2, hi => cases hi; exact ⟨_, _, PySem.W.mg_of X G a2, F2, b2, sc_stretches⟩
    | 3, hi => cases hi; exact ⟨_, _, PySem.W.mg_of X G a3, F3, b3, sc_least_width⟩
    | 4, hi => cases hi; exact ⟨_, _, PySem.W.mg_of X G a4, F4, b4, sc__law_spring⟩
    | 5, hi => cases hi; exact ⟨_, _, PySem.W.mg_of X G a5, F5, b5, sc__law_dip⟩
    | 6, hi => cases hi; exact ⟨_, _, PySem.W.mg_of X G a6, F6, b6, sc__law_pick⟩
    | 7, hi => cases hi; exact ⟨_, _, PySem.W.mg_of X G a7, F7, b7, sc__law_lengths⟩
    | 8, hi => cases hi; exact ⟨_, _, PySem.W.mg_of X G a8, F8, b8, sc__law_serves⟩
    | 9, hi => cases hi; exact ⟨_, _, PySem.W.mg_of X G a9, F9, b9, sc_law⟩
    | i + 10, hi => simp [tabL] at hi
end Law

set_option Elab.async false
set_option linter.all false
set_option maxRecDepth 100000
set_option maxHeartbeats 4000000
open PySem PySem.W PyProof.Rows
set_option maxHeartbeats 0 in
theorem PySem.Challenge.cw_allwidths_k10_least_widths_for_lines_holds : PySem.Challenge.rw_allwidths_k10_least_widths_for_lines.Holds := by
  w_on; o_law; k_head; (case hw => w_witness2)
  k_fill
  refine Mini.walkG (l := PySem.Challenge.rw_allwidths_k10_least_widths_for_lines) (n := 63) (k := 5) (i := 9) (ca := fun _ => 0) (ea := fun _ => 0) (x := "_law_script") (Tb := Law.tabF) rfl (by decide) rfl ⟨rfl, by decide, by decide⟩ (fun w h Y => PySem.W.kIn_of Y) ?F Law.law_ok
  case F =>
    intro w mg fa h KX G hmg
    refine' Law.all_mk KX G hmg ?a0 ?l0 ?c0 ?k0 ?a1 ?l1 ?c1 ?k1 ?a2 ?l2 ?c2 ?k2 ?a3 ?l3 ?c3 ?k3 ?a4 ?l4 ?c4 ?k4 ?a5 ?l5 ?c5 ?k5 ?a6 ?l6 ?c6 ?k6 ?a7 ?l7 ?c7 ?k7 ?a8 ?l8 ?c8 ?k8 ?a9 ?l9 ?c9 ?k9 ?z0 ?z1 ?z2 ?z3 ?z4 ?z5 ?z6 ?z7 ?z8 ?z9 ?z10
    (case a0 => k_is); (case l0 => k_is); (case c0 => k_is); (case k0 => k_is); (case a1 => k_is); (case l1 => k_is); (case c1 => k_is); (case k1 => k_is); (case a2 => k_is); (case l2 => k_is); (case c2 => k_is); (case k2 => k_is); (case a3 => k_is); (case l3 => k_is); (case c3 => k_is); (case k3 => k_is); (case a4 => k_is); (case l4 => k_is); (case c4 => k_is); (case k4 => k_is); (case a5 => k_is); (case l5 => k_is); (case c5 => k_is); (case k5 => k_is); (case a6 => k_is); (case l6 => k_is); (case c6 => k_is); (case k6 => k_is); (case a7 => k_is); (case l7 => k_is); (case c7 => k_is); (case k7 => k_is); (case a8 => k_is); (case l8 => k_is); (case c8 => k_is); (case k8 => k_is); (case a9 => k_is); (case l9 => k_is); (case c9 => k_is); (case k9 => k_is); (case z0 => k_is); (case z1 => k_is); (case z2 => k_is); (case z3 => k_is); (case z4 => k_is); (case z5 => k_is); (case z6 => k_is); (case z7 => k_is); (case z8 => k_is); (case z9 => k_is); (case z10 => k_is)

