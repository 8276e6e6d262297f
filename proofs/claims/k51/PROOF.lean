import PyProof.Rows.All
import Wide.All
import OpenK.AllK
import Wide.FinOn
import HandS.ForMost
import HandS.ForExc
import HandS.Wide
import HandS.IsInst
import HandS.Style
import HandS.CallSlots
import HandS.ExcOwn
import HandS.TryOnly
import HandS.ExcIs
import HandS.Small
import HandS.TryMany
import HandS.ExcField
import HandS.ExcInit
import PyProof.SeqRoads2
import HandS.More
import HandS.Iter
import HandS.Text
import HandS.Strs
import PySem.Challenge.RW_castoff_k51_parts_end_to_end
set_option Elab.async false
set_option linter.all false
set_option maxRecDepth 100000
set_option maxHeartbeats 2000000
/-! TrA: tree data over the hand layer: what is owned, what is read, the state of a frame. -/
namespace Tr
open PySem L2

abbrev Cells := List (Addr × HO)
/-- a tree of data -/
inductive D where
  | im (v : V)
  | lst (ds : List D)
  | tup (ds : List D)
  | dct (ks : List Key) (ds : List D)
  | obj (c : Nat) (ds : List D)
  | fz (d : D)
  | scr (ns : List Int)
  deriving Inhabited
/-- a class of the program: where it stands, its instances' fields in the order of their making -/
structure Cd where
  C : Addr
  flds : List Str
structure Tab where
  K : PySem.W.Frag
  cls : List Cd
  exc : List Cd
def imm : V → Bool
  | .ref _ => false
  | _ => true

/-- read: v is d, its lists, dicts, objects stand in S, its tuples in B -/
inductive Ros (T : Tab) (B : Hp) : Hp → List D → List V → Prop
  | nil {S} : Ros T B S [] []
  | im {S v ds vs} (h : imm v = true) (r : Ros T B S ds vs) : Ros T B S (.im v :: ds) (v :: vs)
  | lst {S a ws xs ds vs} (h : S a = some (.lst ws)) (q : Ros T B S xs ws) (r : Ros T B S ds vs) : Ros T B S (.lst xs :: ds) (.ref a :: vs)
  | tup {S a ws xs ds vs} (h : B a = some (.tup ws)) (q : Ros T B S xs ws) (r : Ros T B S ds vs) : Ros T B S (.tup xs :: ds) (.ref a :: vs)
  | dct {S a ks ws xs ds vs} (h : Rd S a (.dK (ks.zip ws))) (hl : ks.length = ws.length) (q : Ros T B S xs ws) (r : Ros T B S ds vs) : Ros T B S (.dct ks xs :: ds) (.ref a :: vs)
  | obj {S a c C dx fl ws xs ds vs} (h : S a = some (.ins C dx (fl.zip ws))) (hc : T.cls[c]? = some ⟨C, fl⟩) (hl : ws.length ≤ fl.length) (q : Ros T B S xs ws) (r : Ros T B S ds vs) : Ros T B S (.obj c xs :: ds) (.ref a :: vs)
  | scr {S a ns ds vs} (h : SqL T.K S a (ns.map V.int)) (r : Ros T B S ds vs) : Ros T B S (.scr ns :: ds) (.ref a :: vs)
  | fz {S d v ds vs} (q : Ros T B B [d] [v]) (r : Ros T B S ds vs) : Ros T B S (.fz d :: ds) (v :: vs)
/-- owned: v is d, its cells are ms, from the root on -/
inductive Owns (T : Tab) (B : Hp) : List D → List V → Cells → Prop
  | nil : Owns T B [] [] []
  | im {v ds vs ms} (h : imm v = true) (r : Owns T B ds vs ms) : Owns T B (.im v :: ds) (v :: vs) ms
  | lst {a ws xs ds vs m ms} (q : Owns T B xs ws m) (r : Owns T B ds vs ms) : Owns T B (.lst xs :: ds) (.ref a :: vs) ((a, .lst ws) :: (m ++ ms))
  | tup {a ws xs ds vs m ms} (h : B a = some (.tup ws)) (q : Owns T B xs ws m) (r : Owns T B ds vs ms) : Owns T B (.tup xs :: ds) (.ref a :: vs) (m ++ ms)
  | dct {a ks ws xs ds vs m ms} (hl : ks.length = ws.length) (q : Owns T B xs ws m) (r : Owns T B ds vs ms) : Owns T B (.dct ks xs :: ds) (.ref a :: vs) ((a, .dK (ks.zip ws)) :: (m ++ ms))
  | obj {a c C dx fl ws xs ds vs m ms} (hc : T.cls[c]? = some ⟨C, fl⟩) (hl : ws.length ≤ fl.length) (q : Owns T B xs ws m) (r : Owns T B ds vs ms) : Owns T B (.obj c xs :: ds) (.ref a :: vs) ((a, .ins C dx (fl.zip ws)) :: (m ++ ms))
  | fz {d v ds vs ms} (q : Ros T B B [d] [v]) (r : Owns T B ds vs ms) : Owns T B (.fz d :: ds) (v :: vs) ms

section
variable {T : Tab} {B B' S S' H : Hp} {ds : List D} {vs : List V} {ms : Cells}
theorem rd_mono {a : Addr} {u : HO} (s : Same S S') (h : Rd S a u) : Rd S' a u := by
  rcases h with h | ⟨o, h⟩
  · exact .inl (s _ _ h)
  · exact .inr ⟨o, s _ _ h⟩
theorem sql_mono {K : PySem.W.Frag} {a : Addr} {ws : List V} (s : Same S S') (h : SqL K S a ws) : SqL K S' a ws := s.seq h
theorem Ros.mono (r : Ros T B S ds vs) : ∀ {S' B' : Hp}, Same S S' → Same B B' → Ros T B' S' ds vs := by
  induction r with
  | nil => intro _ _ _ _; exact .nil
  | im h _ ih => intro _ _ s b; exact .im h (ih s b)
  | lst h _ _ iq ir => intro _ _ s b; exact .lst (s _ _ h) (iq s b) (ir s b)
  | scr h _ ir => intro _ _ s b; exact .scr (sql_mono s h) (ir s b)
  | tup h _ _ iq ir => intro _ _ s b; exact .tup (b _ _ h) (iq s b) (ir s b)
  | dct h hl _ _ iq ir => intro _ _ s b; exact .dct (rd_mono s h) hl (iq s b) (ir s b)
  | obj h hc hl _ _ iq ir => intro _ _ s b; exact .obj (s _ _ h) hc hl (iq s b) (ir s b)
  | fz _ _ iq ir => intro _ _ s b; exact .fz (iq b b) (ir s b)
theorem Owns.mono (r : Owns T B ds vs ms) (b : Same B B') : Owns T B' ds vs ms := by
  induction r with
  | nil => exact .nil
  | im h _ ih => exact .im h ih
  | lst _ _ iq ir => exact .lst iq ir
  | tup h _ _ iq ir => exact .tup (b _ _ h) iq ir
  | dct hl _ _ iq ir => exact .dct hl iq ir
  | obj hc hl _ _ iq ir => exact .obj hc hl iq ir
  | fz q _ ir => exact .fz (q.mono b b) ir
theorem Owns.ro (r : Owns T B ds vs ms) (b : Same B H) (h : ∀ c ∈ ms, H c.1 = some c.2) : Ros T B H ds vs := by
  induction r with
  | nil => exact .nil
  | im hi _ ih => exact .im hi (ih h)
  | lst _ _ iq ir =>
    exact .lst (h _ List.mem_cons_self) (iq fun c hc => h c (List.mem_cons_of_mem _ (List.mem_append_left _ hc))) (ir fun c hc => h c (List.mem_cons_of_mem _ (List.mem_append_right _ hc)))
  | tup hb _ _ iq ir => exact .tup hb (iq fun c hc => h c (List.mem_append_left _ hc)) (ir fun c hc => h c (List.mem_append_right _ hc))
  | dct hl _ _ iq ir =>
    exact .dct (.inl (h _ List.mem_cons_self)) hl (iq fun c hc => h c (List.mem_cons_of_mem _ (List.mem_append_left _ hc))) (ir fun c hc => h c (List.mem_cons_of_mem _ (List.mem_append_right _ hc)))
  | obj hc hl _ _ iq ir =>
    exact .obj (h _ List.mem_cons_self) hc hl (iq fun c hc => h c (List.mem_cons_of_mem _ (List.mem_append_left _ hc))) (ir fun c hc => h c (List.mem_cons_of_mem _ (List.mem_append_right _ hc)))
  | fz q _ ir => exact .fz q (ir h)
theorem Ros.len (r : Ros T B S ds vs) : ds.length = vs.length := by induction r <;> simp_all
theorem Owns.len (r : Owns T B ds vs ms) : ds.length = vs.length := by induction r <;> simp_all
end

mutual
/-- may be copied: it has no cells of its own -/
def copyD : D → Bool
  | .im _ => true
  | .fz _ => true
  | .tup ds => copyDs ds
  | .lst _ => false
  | .dct _ _ => false
  | .obj _ _ => false
  | .scr _ => false
def copyDs : List D → Bool
  | [] => true
  | d :: ds => copyD d && copyDs ds
end
theorem copy_own {T : Tab} {B S : Hp} {ds : List D} {vs : List V} (r : Ros T B S ds vs) : copyDs ds = true → Owns T B ds vs [] := by
  induction r with
  | nil => intro _; exact .nil
  | im h _ ih => intro c; simp [copyDs, copyD] at c; exact .im h (ih c)
  | lst => intro c; simp [copyDs, copyD] at c
  | tup h _ _ iq ir => intro c; simp [copyDs, copyD] at c; exact .tup (m := []) (ms := []) h (iq c.1) (ir c.2)
  | dct => intro c; simp [copyDs, copyD] at c
  | obj => intro c; simp [copyDs, copyD] at c
  | fz q _ _ ir => intro c; simp [copyDs, copyD] at c; exact .fz q (ir c)
  | scr => intro c; simp [copyDs, copyD] at c
theorem copy_nil {T : Tab} {B : Hp} {ds : List D} {vs : List V} {ms : Cells} (r : Owns T B ds vs ms) : copyDs ds = true → ms = [] := by
  induction r with
  | nil => intro _; rfl
  | im h _ ih => intro c; simp [copyDs, copyD] at c; exact ih c
  | lst => intro c; simp [copyDs, copyD] at c
  | tup h _ _ iq ir => intro c; simp [copyDs, copyD] at c; rw [iq c.1, ir c.2]; rfl
  | dct => intro c; simp [copyDs, copyD] at c
  | obj => intro c; simp [copyDs, copyD] at c
  | fz q _ ir => intro c; simp [copyDs, copyD] at c; exact ir c
theorem copy1 {d : D} (h : copyD d = true) : copyDs [d] = true := by simp [copyDs, h]

/-! ### growth -/
structure Gw (S B S' B' : Hp) : Prop where
  s : Same S S'
  b : Same B B'
  n : ∀ a o, B' a = some o → B a = some o ∨ S a = none
structure Gr (S B H S' B' H' : Hp) : Prop where
  w : Gw S B S' B'
  h : Same H H'
  f : ∀ a o, S' a = some o → S a = some o ∨ H a = none
  sh : Same S' H'
  bs : Same B' S'
theorem same_none {S S' : Hp} (s : Same S S') {a : Addr} (h : S' a = none) : S a = none := s.free h
section
variable {S B H S' B' H' S2 B2 H2 : Hp}
theorem Gw.refl : Gw S B S B := ⟨Same.refl _, Same.refl _, fun _ _ h => .inl h⟩
theorem Gw.trans (a : Gw S B S' B') (b : Gw S' B' S2 B2) : Gw S B S2 B2 := ⟨a.s.trans b.s, a.b.trans b.b, fun x o h => by
  rcases b.n x o h with h | h
  · exact a.n x o h
  · exact .inr (a.s.free h)⟩
theorem Gr.refl (bs : Same B S) (sh : Same S H) : Gr S B H S B H := ⟨Gw.refl, Same.refl _, fun _ _ h => .inl h, sh, bs⟩
theorem Gr.trans (a : Gr S B H S' B' H') (b : Gr S' B' H' S2 B2 H2) : Gr S B H S2 B2 H2 := ⟨a.w.trans b.w, a.h.trans b.h, fun x o h => by
  rcases b.f x o h with h | h
  · exact a.f x o h
  · exact .inr (a.h.free h), b.sh, b.bs⟩
theorem Gr.own {p : Addr} {o : HO} (bs : Same B S) (sh : Same S H) (hp : H p = none) : Gr S B H S B (upd H p o) :=
  ⟨Gw.refl, fun b u e => by rw [upd_ne (ne_of_none e hp)]; exact e, fun _ _ h => .inl h, fun b u e => by rw [upd_ne (ne_of_none (sh _ _ e) hp)]; exact sh _ _ e, bs⟩
theorem Gr.tup {p : Addr} {o : HO} (bs : Same B S) (sh : Same S H) (hp : H p = none) : Gr S B H (upd S p o) (upd B p o) (upd H p o) := by
  have sp : S p = none := sh.free hp
  have bp : B p = none := bs.free sp
  refine ⟨⟨fun b u e => by rw [upd_ne (ne_of_none e sp)]; exact e, fun b u e => by rw [upd_ne (ne_of_none e bp)]; exact e, fun a u e => ?_⟩, fun b u e => by rw [upd_ne (ne_of_none e hp)]; exact e, fun a u e => ?_, fun a u e => ?_, fun a u e => ?_⟩
  · by_cases h : a = p
    · subst h; exact .inr sp
    · rw [upd_ne h] at e; exact .inl e
  · by_cases h : a = p
    · subst h; exact .inr hp
    · rw [upd_ne h] at e; exact .inl e
  · by_cases h : a = p
    · subst h; rw [upd_same] at e ⊢; exact e
    · rw [upd_ne h] at e ⊢; exact sh _ _ e
  · by_cases h : a = p
    · subst h; rw [upd_same] at e ⊢; exact e
    · rw [upd_ne h] at e ⊢; exact bs _ _ e
end

theorem set_at {α : Type} {xs : List α} {i j : Nat} {x y : α} (h : (xs.set i x)[j]? = some y) : (j = i ∧ y = x) ∨ (j ≠ i ∧ xs[j]? = some y) := by
  rw [List.getElem?_set] at h
  by_cases hj : i = j
  · rw [if_pos hj] at h
    split at h
    · cases h; exact .inl ⟨hj.symm, rfl⟩
    · cases h
  · rw [if_neg hj] at h
    exact .inr ⟨fun z => hj z.symm, h⟩
/-! ### a frame's state -/
inductive Slot where
  | own (d : D)
  | ro (d : D)
abbrev En := List (Option Slot)
def SlotR (T : Tab) (S B : Hp) : Option Slot → Option V → Cells → Prop
  | none, _, ms => ms = []
  | some (.own d), some v, ms => Owns T B [d] [v] ms
  | some (.ro d), some v, ms => ms = [] ∧ Ros T B S [d] [v]
  | some _, none, _ => False
def CellsOk (S H : Hp) (m : Cells) : Prop := (m.map (·.1)).Nodup ∧ ∀ c ∈ m, H c.1 = some c.2 ∧ S c.1 = none
def Apart (m m' : Cells) : Prop := ∀ c ∈ m, ∀ e ∈ m', c.1 ≠ e.1
structure SRx (T : Tab) (S B : Hp) (env : En) (mss : List Cells) (σ : St) (H : Hp) : Prop where
  bs : Same B S
  sh : Same S H
  l1 : env.length = σ.length
  l2 : mss.length = σ.length
  at_ : ∀ (i : Nat) (e : Option Slot) (s : Option V) (m : Cells), env[i]? = some e → σ[i]? = some s → mss[i]? = some m → SlotR T S B e s m
  ok : ∀ (i : Nat) (m : Cells), mss[i]? = some m → CellsOk S H m
  ap : ∀ (i j : Nat) (m m' : Cells), i ≠ j → mss[i]? = some m → mss[j]? = some m' → Apart m m'
section
variable {T : Tab} {S B H S' B' H' : Hp} {env : En} {mss : List Cells} {σ : St}
theorem SlotR.mono {e : Option Slot} {s : Option V} {m : Cells} (h : SlotR T S B e s m) (s1 : Same S S') (b : Same B B') : SlotR T S' B' e s m := by
  cases e with
  | none => exact h
  | some e =>
    cases s with
    | none => cases e <;> exact h
    | some v =>
      cases e with
      | own d => exact Owns.mono h b
      | ro d => exact ⟨h.1, Ros.mono h.2 s1 b⟩
theorem CellsOk.grow {m : Cells} (h : CellsOk S H m) (hh : Same H H') (f : ∀ a o, S' a = some o → S a = some o ∨ H a = none) : CellsOk S' H' m := by
  refine ⟨h.1, fun c hc => ?_⟩
  obtain ⟨h1, h2⟩ := h.2 c hc
  refine ⟨hh _ _ h1, ?_⟩
  cases e : S' c.1 with
  | none => rfl
  | some o =>
    rcases f _ _ e with q | q
    · rw [h2] at q; cases q
    · rw [h1] at q; cases q
theorem SRx.grow (R : SRx T S B env mss σ H) (g : Gr S B H S' B' H') : SRx T S' B' env mss σ H' :=
  ⟨g.bs, g.sh, R.l1, R.l2, fun i e s m h1 h2 h3 => (R.at_ i e s m h1 h2 h3).mono g.w.s g.w.b, fun i m h => (R.ok i m h).grow g.h g.f, R.ap⟩
theorem SRx.gr (R : SRx T S B env mss σ H) : Gr S B H S B H := Gr.refl R.bs R.sh
theorem SRx.own (R : SRx T S B env mss σ H) {i : Nat} {d : D} (h : env[i]? = some (some (.own d))) : ∃ v m, σ[i]? = some (some v) ∧ mss[i]? = some m ∧ Owns T B [d] [v] m ∧ CellsOk S H m := by
  have hi : i < env.length := (List.getElem?_eq_some_iff.mp h).1
  have h1 : i < σ.length := by rw [← R.l1]; exact hi
  have h2 : i < mss.length := by rw [R.l2]; exact h1
  have q := R.at_ i _ _ _ h (List.getElem?_eq_getElem h1) (List.getElem?_eq_getElem h2)
  cases e : σ[i] with
  | none => rw [e] at q; exact q.elim
  | some v =>
    rw [e] at q
    exact ⟨v, mss[i], by rw [List.getElem?_eq_getElem h1, e], List.getElem?_eq_getElem h2, q, R.ok i _ (List.getElem?_eq_getElem h2)⟩
theorem SRx.ro (R : SRx T S B env mss σ H) {i : Nat} {d : D} (h : env[i]? = some (some (.ro d))) : ∃ v, σ[i]? = some (some v) ∧ Ros T B S [d] [v] := by
  have hi : i < env.length := (List.getElem?_eq_some_iff.mp h).1
  have h1 : i < σ.length := by rw [← R.l1]; exact hi
  have h2 : i < mss.length := by rw [R.l2]; exact h1
  have q := R.at_ i _ _ _ h (List.getElem?_eq_getElem h1) (List.getElem?_eq_getElem h2)
  cases e : σ[i] with
  | none => rw [e] at q; exact q.elim
  | some v =>
    rw [e] at q
    exact ⟨v, by rw [List.getElem?_eq_getElem h1, e], q.2⟩
/-- a slot is set -/
theorem SRx.set (R : SRx T S B env mss σ H) {i : Nat} {e : Option Slot} {s : Option V} {m : Cells} (hs : SlotR T S B e s m) (ho : CellsOk S H m) (ha : ∀ (j : Nat) (m' : Cells), j ≠ i → mss[j]? = some m' → Apart m' m) :
    SRx T S B (env.set i e) (mss.set i m) (σ.set i s) H := by
  refine ⟨R.bs, R.sh, by simp [R.l1], by simp [R.l2], fun j e' s' m' h1 h2 h3 => ?_, fun j m' h => ?_, fun j k m' m2 hjk h1 h2 => ?_⟩
  · rcases set_at h1 with ⟨rfl, rfl⟩ | ⟨hj, h1⟩
    · rcases set_at h2 with ⟨_, rfl⟩ | ⟨hj, _⟩
      · rcases set_at h3 with ⟨_, rfl⟩ | ⟨hj, _⟩
        · exact hs
        · exact absurd rfl hj
      · exact absurd rfl hj
    · rcases set_at h2 with ⟨z, _⟩ | ⟨_, h2⟩
      · exact absurd z hj
      · rcases set_at h3 with ⟨z, _⟩ | ⟨_, h3⟩
        · exact absurd z hj
        · exact R.at_ j _ _ _ h1 h2 h3
  · rcases set_at h with ⟨_, rfl⟩ | ⟨_, h⟩
    · exact ho
    · exact R.ok j _ h
  · rcases set_at h1 with ⟨rfl, rfl⟩ | ⟨hj, g1⟩
    · rcases set_at h2 with ⟨z, _⟩ | ⟨hk, g2⟩
      · exact absurd z.symm hjk
      · exact fun c hc e he z => ha k m2 hk g2 e he c hc z.symm
    · rcases set_at h2 with ⟨rfl, rfl⟩ | ⟨hk, g2⟩
      · exact ha j m' hj g1
      · exact R.ap j k _ _ hjk g1 g2
end

/-! ### results -/
inductive Rs where
  | own (d : D)
  | ro (d : D)
  | bor (i : Nat) (d : D)
def Rs.d : Rs → D
  | .own d => d
  | .ro d => d
  | .bor _ d => d
/-- what stands in S, and the cells m -/
def Wi (S : Hp) (m : Cells) : Hp := fun a => match S a with
  | some o => some o
  | none => m.lookup a
theorem Wi.same {S : Hp} {m : Cells} : Same S (Wi S m) := fun a o h => by unfold Wi; rw [h]
theorem lookup_of_mem {m : Cells} {c : Addr × HO} (nd : (m.map (·.1)).Nodup) (h : c ∈ m) : m.lookup c.1 = some c.2 := by
  induction m with
  | nil => cases h
  | cons x r ih =>
    obtain ⟨k, v⟩ := x
    rw [List.map_cons, List.nodup_cons] at nd
    rw [List.lookup_cons]
    rcases List.mem_cons.mp h with e | h
    · subst e; simp
    · have : (c.1 == k) = false := by
        simp only [beq_eq_false_iff_ne, ne_eq]
        intro z
        exact nd.1 (z ▸ List.mem_map.mpr ⟨c, h, rfl⟩)
      rw [this]
      exact ih nd.2 h
theorem mem_of_lookup' {m : Cells} {a : Addr} {o : HO} (h : m.lookup a = some o) : (a, o) ∈ m := by
  induction m with
  | nil => cases h
  | cons x r ih =>
    obtain ⟨k, v⟩ := x
    rw [List.lookup_cons] at h
    cases e : a == k with
    | true => rw [e] at h; cases h; rw [eq_of_beq e]; exact List.mem_cons_self
    | false => rw [e] at h; exact List.mem_cons_of_mem _ (ih h)
theorem Wi.at_ {S H : Hp} {m : Cells} (o : CellsOk S H m) : ∀ c ∈ m, Wi S m c.1 = some c.2 := fun c hc => by
  unfold Wi
  rw [(o.2 c hc).2]
  exact lookup_of_mem o.1 hc
theorem Wi.le {S H : Hp} {m : Cells} (sh : Same S H) (o : CellsOk S H m) : Same (Wi S m) H := fun a u h => by
  unfold Wi at h
  cases e : S a with
  | some x => rw [e] at h; cases h; exact sh _ _ e
  | none =>
    rw [e] at h
    exact (o.2 _ (mem_of_lookup' h)).1
theorem Wi.mono {S S' : Hp} {m : Cells} (s : Same S S') (off : ∀ c ∈ m, S' c.1 = none) : Same (Wi S m) (Wi S' m) := fun a u h => by
  unfold Wi at h ⊢
  cases e : S a with
  | some x => rw [e] at h; rw [s _ _ e]; exact h
  | none =>
    rw [e] at h
    rw [off _ (mem_of_lookup' h)]
    exact h
/-- what an expression gave, its own cells new since H0 -/
def RF (T : Tab) (S B H H0 : Hp) (mss : List Cells) : Rs → V → Prop
  | .own d, v => ∃ ms, Owns T B [d] [v] ms ∧ CellsOk S H ms ∧ ∀ c ∈ ms, H0 c.1 = none
  | .ro d, v => Ros T B S [d] [v]
  | .bor i d, v => ∃ m, mss[i]? = some m ∧ Ros T B (Wi S m) [d] [v]
section
variable {T : Tab} {S B H S' B' H' H0 H1 : Hp} {env : En} {mss : List Cells} {σ : St} {r : Rs} {v : V}
theorem RF.grow (R : SRx T S B env mss σ H) (f : RF T S B H H0 mss r v) (g : Gr S B H S' B' H') : RF T S' B' H' H0 mss r v := by
  cases r with
  | own d =>
    obtain ⟨ms, h1, h2, h3⟩ := f
    exact ⟨ms, h1.mono g.w.b, h2.grow g.h g.f, h3⟩
  | ro d => exact Ros.mono f g.w.s g.w.b
  | bor i d =>
    obtain ⟨m, h1, h2⟩ := f
    exact ⟨m, h1, h2.mono (Wi.mono g.w.s fun c hc => (((R.ok i m h1).grow g.h g.f).2 c hc).2) g.w.b⟩
theorem RF.back (f : RF T S B H H1 mss r v) (h : Same H0 H1) : RF T S B H H0 mss r v := by
  cases r with
  | own d =>
    obtain ⟨ms, h1, h2, h3⟩ := f
    exact ⟨ms, h1, h2, fun c hc => h.free (h3 c hc)⟩
  | ro d => exact f
  | bor i d => exact f
theorem RF.read (R : SRx T S B env mss σ H) (f : RF T S B H H0 mss r v) : Ros T B H [r.d] [v] := by
  cases r with
  | own d =>
    obtain ⟨ms, h1, h2, h3⟩ := f
    exact h1.ro (R.bs.trans R.sh) fun c hc => (h2.2 c hc).1
  | ro d => exact Ros.mono f R.sh (Same.refl _)
  | bor i d =>
    obtain ⟨m, h1, h2⟩ := f
    exact h2.mono (Wi.le R.sh (R.ok i m h1)) (Same.refl _)
theorem RF.cpy {d : D} {X : Hp} (h : Ros T B X [d] [v]) (hc : copyD d = true) : RF T S B H H0 mss (.own d) v := ⟨[], copy_own h (copy1 hc), ⟨.nil, fun _ h => nomatch h⟩, fun _ h => nomatch h⟩
theorem RF.imm {v : V} (h : imm v = true) : RF T S B H H0 mss (.own (.im v)) v := RF.cpy (X := S) (.im h .nil) rfl
end
end Tr

/-! TrB: expressions that change nothing. -/
namespace Tr
open PySem L2

/-- an exception: its class by number, its fields -/
structure Exn where
  c : Nat
  vs : List V
inductive Rz (α : Type) where
  | ok (a : α)
  | ex (x : Exn)
  | er
@[simp] def Rz.bind {α β : Type} : Rz α → (α → Rz β) → Rz β
  | .ok a, f => f a
  | .ex x, _ => .ex x
  | .er, _ => .er
def ExF (T : Tab) (H : Hp) (x : Exn) (cls : Value) (d : Option Addr) : Prop :=
  ∃ C fl, T.exc[x.c]? = some ⟨C, fl⟩ ∧ cls = .ref C ∧ x.vs.length = fl.length ∧ x.vs.all imm = true ∧ (if fl.isEmpty = true then d = none else ∃ dd, d = some dd ∧ H dd = some (.xd (fl.zip x.vs)))
abbrev ME := En → Rz Rs
/-- what is wanted of a result -/
def PP (T : Tab) (W : WX) (S B : Hp) (mss : List Cells) (σ : St) (H : Hp) (Q : VK) : Rz Rs → Prop
  | .ok r => ∀ S' B' H' v, Gr S B H S' B' H' → RF T S' B' H' H mss r v → Q v H'
  | .ex x => ∀ S' B' H' cls d, Gr S B H S' B' H' → ExF T H' x cls d → W cls d σ H'
  | .er => False
def tP (T : Tab) (W : WX) (m : ME) : TE := fun σ H Q => ∃ S B env mss, SRx T S B env mss σ H ∧ PP T W S B mss σ H Q (m env)
theorem PP.grow {T : Tab} {W : WX} {S B H S1 B1 H1 : Hp} {mss : List Cells} {σ : St} {Q : VK} {z : Rz Rs} (p : PP T W S B mss σ H Q z) (g : Gr S B H S1 B1 H1) : PP T W S1 B1 mss σ H1 Q z := by
  cases z with
  | ok r => exact fun S' B' H' v g' f => p S' B' H' v (g.trans g') (f.back g.h)
  | ex x => exact fun S' B' H' cls d g' f => p S' B' H' cls d (g.trans g') f
  | er => exact p
section
variable {X : Cx} {T : Tab} {W : WX} {e : Expr} {es : List Expr} {m ma mb : ME} {ms : List ME} {t t' : TE}
theorem pe_of (h : PE X e t) (i : ∀ σ H Q, t' σ H Q → t σ H Q) : PE X e t' := ⟨fun pins s σ H Q I q => h.run pins s σ H Q I (i σ H Q q)⟩
theorem pe_orE (h : PE X e t) (h' : PE X e t') : PE X e (fun σ H Q => t σ H Q ∨ t' σ H Q) := ⟨fun pins s σ H Q I q => q.elim (h.run pins s σ H Q I) (h'.run pins s σ H Q I)⟩

/-! ### names, constants -/
def cp (r : Rs) : Rs := if copyD r.d then .own r.d else r
@[simp] def mVar (i : Nat) : ME := fun env => match env[i]? with
  | some (some (.own d)) => .ok (if copyD d then .own d else .bor i d)
  | some (some (.ro d)) => .ok (if copyD d then .own d else .ro d)
  | _ => .er
theorem ep_var {i : Nat} (h : PE X e (tVar i)) : PE X e (tP T W (mVar i)) := by
  refine pe_of h fun σ H Q ⟨S, B, env, mss, R, q⟩ => ?_
  cases hd : env[i]? with
  | none => simp only [mVar, hd] at q; exact q.elim
  | some o =>
  cases o with
  | none => simp only [mVar, hd] at q; exact q.elim
  | some o =>
  cases o with
  | own d =>
    simp only [mVar, hd] at q
    obtain ⟨v, m, h1, h2, h3, h4⟩ := R.own hd
    refine ⟨v, h1, q S B H v R.gr ?_⟩
    split
    · rename_i hc
      exact RF.cpy (X := H) (h3.ro (R.bs.trans R.sh) fun c hc => (h4.2 c hc).1) hc
    · exact ⟨m, h2, h3.ro (R.bs.trans Wi.same) (Wi.at_ h4)⟩
  | ro d =>
    simp only [mVar, hd] at q
    obtain ⟨v, h1, h2⟩ := R.ro hd
    refine ⟨v, h1, q S B H v R.gr ?_⟩
    split
    · rename_i hc
      exact RF.cpy h2 hc
    · exact h2
@[simp] def mC (v : V) : ME := fun _ => .ok (.own (.im v))
theorem ep_c {v : V} (h : PE X e (tC v)) (hi : imm v = true := by rfl) : PE X e (tP T W (mC v)) :=
  pe_of h fun σ H Q ⟨S, B, env, mss, R, q⟩ => q S B H v R.gr (RF.imm hi)

/-! ### what is reckoned from values -/
/-- r gives z -/
inductive Gives (T : Tab) (B H : Hp) : D → (VK → Prop) → Prop
  | cpy {z v r} (h : Ros T B H [z] [v]) (hc : copyD z = true) (k : ∀ Q : VK, Q v H → r Q) : Gives T B H z r
  | lst {ds ws r} (h : Owns T B ds ws []) (k : ∀ Q : VK, (∀ p, H p = none → Q (.ref p) (upd H p (.lst ws))) → r Q) : Gives T B H (.lst ds) r
  | tup {ds ws r} (h : Owns T B ds ws []) (k : ∀ Q : VK, (∀ p, H p = none → Q (.ref p) (upd H p (.tup ws))) → r Q) : Gives T B H (.tup ds) r
  | dct {ks ds ws r} (h : Owns T B ds ws []) (hl : ks.length = ws.length) (k : ∀ Q : VK, (∀ p, H p = none → Q (.ref p) (upd H p (.dK (ks.zip ws)))) → r Q) : Gives T B H (.dct ks ds) r
theorem Gives.im {T : Tab} {B H : Hp} {v : V} {r : VK → Prop} (h : imm v = true) (k : ∀ Q : VK, Q v H → r Q) : Gives T B H (.im v) r := .cpy (.im h .nil) rfl k
theorem Gives.imp {T : Tab} {B H : Hp} {z : D} {r r' : VK → Prop} (h : Gives T B H z r) (i : ∀ Q, r Q → r' Q) : Gives T B H z r' := by
  cases h with
  | cpy h hc k => exact .cpy h hc fun Q q => i Q (k Q q)
  | lst h k => exact .lst h fun Q q => i Q (k Q q)
  | tup h k => exact .tup h fun Q q => i Q (k Q q)
  | dct h hl k => exact .dct h hl fun Q q => i Q (k Q q)
theorem cells_new {S B H : Hp} {p : Addr} {o : HO} (sh : Same S H) (hp : H p = none) : CellsOk S (upd H p o) [(p, o)] := ⟨by simp, fun c hc => by
  have e : c = (p, o) := by simpa using hc
  subst e
  exact ⟨upd_same, sh.free hp⟩⟩
theorem Gives.run {T : Tab} {B H S : Hp} {z : D} {r : VK → Prop} {mss : List Cells} {Q : VK} (g : Gives T B H z r) (bs : Same B S) (sh : Same S H)
    (q : ∀ S' B' H' v, Gr S B H S' B' H' → RF T S' B' H' H mss (.own z) v → Q v H') : r Q := by
  cases g with
  | cpy h hc k => exact k Q (q S B H _ (Gr.refl bs sh) (RF.cpy h hc))
  | @lst ds ws r h k =>
    exact k Q fun p hp => q S B _ _ (Gr.own bs sh hp) ⟨[(p, .lst ws)], .lst (m := []) (ms := []) h .nil, cells_new (B := B) sh hp, fun c hc => by
      have e : c = (p, .lst ws) := by simpa using hc
      subst e; exact hp⟩
  | @tup ds ws r h k =>
    refine k Q fun p hp => q _ _ _ _ (Gr.tup bs sh hp) ⟨[], .tup (m := []) (ms := []) upd_same (h.mono (Gr.tup (o := .tup ws) bs sh hp).w.b) .nil, ⟨.nil, fun _ h => nomatch h⟩, fun _ h => nomatch h⟩
  | @dct ks ds ws r h hl k =>
    exact k Q fun p hp => q S B _ _ (Gr.own bs sh hp) ⟨[(p, .dK (ks.zip ws))], .dct (m := []) (ms := []) hl h .nil, cells_new (B := B) sh hp, fun c hc => by
      have e : c = (p, .dK (ks.zip ws)) := by simpa using hc
      subst e; exact hp⟩
/-- a reckoning on values -/
def VS (T : Tab) (f : List D → Option D) (r : List V → Hp → VK → Prop) : Prop := ∀ B H ds vs z, Same B H → Ros T B H ds vs → f ds = some z → Gives T B H z (r vs H)
theorem VS.or {f g : List D → Option D} {r r' : List V → Hp → VK → Prop} (a : VS T f r) (b : VS T g r') : VS T (fun ds => match f ds with | some z => some z | none => g ds) (fun vs H Q => r vs H Q ∨ r' vs H Q) :=
  fun B H ds vs z bh hr h => by
    dsimp only at h
    split at h
    · rename_i z' e
      cases h
      exact (a B H ds vs _ bh hr e).imp fun _ => .inl
    · exact (b B H ds vs z bh hr h).imp fun _ => .inr
@[simp] def m1 (f : List D → Option D) (ma : ME) : ME := fun env => match ma env with
  | .ok ra => match f [ra.d] with
    | some z => .ok (.own z)
    | none => .er
  | .ex x => .ex x
  | .er => .er
@[simp] def m2 (f : List D → Option D) (ma mb : ME) : ME := fun env => match ma env with
  | .ok ra => match mb env with
    | .ok rb => match f [ra.d, rb.d] with
      | some z => .ok (.own z)
      | none => .er
    | .ex x => .ex x
    | .er => .er
  | .ex x => .ex x
  | .er => .er
theorem ros2 {B S : Hp} {d d' : D} {v v' : V} (a : Ros T B S [d] [v]) (b : Ros T B S [d'] [v']) : Ros T B S [d, d'] [v, v'] := by
  cases a with
  | im h r => exact .im h b
  | lst h q r => exact .lst h q b
  | tup h q r => exact .tup h q b
  | dct h hl q r => exact .dct h hl q b
  | obj h hc hl q r => exact .obj h hc hl q b
  | fz q r => exact .fz q b
  | scr h r => exact .scr h b
theorem ros_cons {B S : Hp} {d : D} {ds : List D} {v : V} {vs : List V} (a : Ros T B S [d] [v]) (b : Ros T B S ds vs) : Ros T B S (d :: ds) (v :: vs) := by
  cases a with
  | im h r => exact .im h b
  | lst h q r => exact .lst h q b
  | tup h q r => exact .tup h q b
  | dct h hl q r => exact .dct h hl q b
  | obj h hc hl q r => exact .obj h hc hl q b
  | fz q r => exact .fz q b
  | scr h r => exact .scr h b
theorem ep_1 {f : List D → Option D} {r : V → Hp → VK → Prop} (hf : VS T f (fun vs H Q => ∃ x, vs = [x] ∧ r x H Q)) (h : PE X e (tUn r (tP T W ma))) : PE X e (tP T W (m1 f ma)) := by
  refine pe_of h fun σ H Q ⟨S, B, env, mss, R, q⟩ => ⟨S, B, env, mss, R, ?_⟩
  cases ha : ma env with
  | ok ra =>
    intro S1 B1 H1 v g f1
    simp only [m1, ha] at q
    cases hz : f [ra.d] with
    | none => simp only [hz] at q; exact q.elim
    | some z =>
      simp only [hz] at q
      have R1 := R.grow g
      have gv := hf B1 H1 [ra.d] [v] z (R1.bs.trans R1.sh) (f1.read R1) hz
      obtain ⟨x, e, hx⟩ := gv.run (mss := mss) (Q := Q) R1.bs R1.sh (q.grow g)
      cases e
      exact hx
  | ex x => simp only [m1, ha] at q; exact q
  | er => simp only [m1, ha] at q; exact q
theorem i_2 {f : List D → Option D} {r : R2} (hf : VS T f (fun vs H Q => ∃ x y, vs = [x, y] ∧ r x y H Q)) {σ : St} {H : Hp} {Q : VK} (h : tP T W (m2 f ma mb) σ H Q) : tOp r (tP T W ma) (tP T W mb) σ H Q := by
  obtain ⟨S, B, env, mss, R, q⟩ := h
  refine ⟨S, B, env, mss, R, ?_⟩
  cases ha : ma env with
  | ok ra =>
    intro S1 B1 H1 v g f1
    simp only [m2, ha] at q
    have R1 := R.grow g
    refine ⟨S1, B1, env, mss, R1, ?_⟩
    cases hb : mb env with
    | ok rb =>
      intro S2 B2 H2 w g2 f2
      simp only [hb] at q
      cases hz : f [ra.d, rb.d] with
      | none => simp only [hz] at q; exact q.elim
      | some z =>
        simp only [hz] at q
        have R2' := R1.grow g2
        have gv := hf B2 H2 [ra.d, rb.d] [v, w] z (R2'.bs.trans R2'.sh) (ros2 ((f1.grow R1 g2).read R2') (f2.read R2')) hz
        obtain ⟨x, y, e, hx⟩ := gv.run (mss := mss) (Q := Q) R2'.bs R2'.sh ((q.grow g).grow g2)
        cases e
        exact hx
    | ex x => simp only [hb] at q; exact q.grow g
    | er => simp only [hb] at q; exact q
  | ex x => simp only [m2, ha] at q; exact q
  | er => simp only [m2, ha] at q; exact q
theorem ep_2 {f : List D → Option D} {r : R2} (hf : VS T f (fun vs H Q => ∃ x y, vs = [x, y] ∧ r x y H Q)) (h : PE X e (tOp r (tP T W ma) (tP T W mb))) : PE X e (tP T W (m2 f ma mb)) := pe_of h fun _ _ _ => i_2 hf

/-! ### rows of expressions, read -/
@[simp] def mAs : List ME → En → Rz (List Rs)
  | [], _ => .ok []
  | m :: ms, env => match m env with
    | .ok r => match mAs ms env with
      | .ok rs => .ok (r :: rs)
      | .ex x => .ex x
      | .er => .er
    | .ex x => .ex x
    | .er => .er
/-- all that they give is there to be read -/
def PR (T : Tab) (W : WX) (S B : Hp) (σ : St) (H : Hp) (Q : List V → Hp → Prop) : Rz (List Rs) → Prop
  | .ok rs => ∀ S' B' H' vs, Gr S B H S' B' H' → Ros T B' H' (rs.map Rs.d) vs → Q vs H'
  | .ex x => ∀ S' B' H' cls d, Gr S B H S' B' H' → ExF T H' x cls d → W cls d σ H'
  | .er => False
def tPR (T : Tab) (W : WX) (ms : List ME) : TA := fun σ H Q => ∃ S B env mss, SRx T S B env mss σ H ∧ PR T W S B σ H Q (mAs ms env)
theorem pa_of {t t' : TA} (h : PA X es t) (i : ∀ σ H Q, t' σ H Q → t σ H Q) : PA X es t' := ⟨fun pos pins s σ H Q I q => h.run pos pins s σ H Q I (i σ H Q q)⟩
theorem pr_nil : PA X [] (tPR T W []) := pa_of pa_nil fun σ H Q ⟨S, B, env, mss, R, q⟩ => q S B H [] R.gr .nil
theorem pr_cons (h1 : PE X e (tP T W m)) (h2 : PA X es (tPR T W ms)) (hs : starEach (e :: es) X.env = (false, eval e X.env) :: starEach es X.env := by rfl) : PA X (e :: es) (tPR T W (m :: ms)) := by
  refine pa_of (pa_cons h1 h2 hs) fun σ H Q ⟨S, B, env, mss, R, q⟩ => ⟨S, B, env, mss, R, ?_⟩
  cases hr : m env with
  | ok r =>
    simp only [mAs, hr] at q
    intro S1 B1 H1 v g f1
    have R1 := R.grow g
    refine ⟨S1, B1, env, mss, R1, ?_⟩
    cases hs : mAs ms env with
    | ok rs =>
      simp only [hs] at q
      intro S2 B2 H2 vs g2 f2
      exact q S2 B2 H2 (v :: vs) (g.trans g2) (ros_cons ((f1.grow R1 g2).read (R1.grow g2)) f2)
    | ex x => simp only [hs] at q; exact fun S2 B2 H2 cls d g2 x2 => q S2 B2 H2 cls d (g.trans g2) x2
    | er => simp only [hs] at q; exact q
  | ex x => simp only [mAs, hr] at q; exact q
  | er => simp only [mAs, hr] at q; exact q
@[simp] def mN (f : List D → Option D) (ms : List ME) : ME := fun env => match mAs ms env with
  | .ok rs => match f (rs.map Rs.d) with
    | some z => .ok (.own z)
    | none => .er
  | .ex x => .ex x
  | .er => .er
theorem ep_N {f : List D → Option D} {r : List V → Hp → VK → Prop} (hf : VS T f r) (h : PE X e (tCB r (tPR T W ms))) : PE X e (tP T W (mN f ms)) := by
  refine pe_of h fun σ H Q ⟨S, B, env, mss, R, q⟩ => ⟨S, B, env, mss, R, ?_⟩
  cases hr : mAs ms env with
  | ok rs =>
    intro S1 B1 H1 vs g f1
    simp only [mN, hr] at q
    cases hz : f (rs.map Rs.d) with
    | none => simp only [hz] at q; exact q.elim
    | some z =>
      simp only [hz] at q
      have R1 := R.grow g
      exact (hf B1 H1 _ vs z (R1.bs.trans R1.sh) f1 hz).run (mss := mss) (Q := Q) R1.bs R1.sh (q.grow g)
  | ex x => simp only [mN, hr] at q; exact q
  | er => simp only [mN, hr] at q; exact q
end
end Tr

/-! TrC: what operators, comparisons and built-in calls give on tree data. -/
namespace Tr
open PySem L2 PyProof.Rows

/-! ### reading a row back -/
section
variable {T : Tab} {B S : Hp} {ds : List D} {vs : List V}
theorem ros_nil {vs : List V} (r : Ros T B S [] vs) : vs = [] := by cases r; rfl
theorem ros_im {v : V} {ds : List D} {vs : List V} (r : Ros T B S (.im v :: ds) vs) : ∃ us, vs = v :: us ∧ Ros T B S ds us ∧ imm v = true := by
  cases r with
  | im h r => exact ⟨_, rfl, r, h⟩
theorem ros_im1 {v : V} {vs : List V} (r : Ros T B S [.im v] vs) : vs = [v] := by
  obtain ⟨us, rfl, r, _⟩ := ros_im r
  rw [ros_nil r]
theorem ros_im2 {v w : V} {vs : List V} (r : Ros T B S [.im v, .im w] vs) : vs = [v, w] := by
  obtain ⟨us, rfl, r, _⟩ := ros_im r
  rw [ros_im1 r]
theorem ros_ims {ws : List V} : ∀ {vs : List V}, Ros T B S (ws.map D.im) vs → vs = ws := by
  induction ws with
  | nil => intro vs r; exact ros_nil r
  | cons w ws ih =>
    intro vs r
    obtain ⟨us, rfl, r, _⟩ := ros_im r
    rw [ih r]
theorem ros_c {d : D} {ds : List D} {vs : List V} (r : Ros T B S (d :: ds) vs) : ∃ v us, vs = v :: us ∧ Ros T B S [d] [v] ∧ Ros T B S ds us := by
  cases r with
  | im h r => exact ⟨_, _, rfl, .im h .nil, r⟩
  | lst h q r => exact ⟨_, _, rfl, .lst h q .nil, r⟩
  | tup h q r => exact ⟨_, _, rfl, .tup h q .nil, r⟩
  | dct h hl q r => exact ⟨_, _, rfl, .dct h hl q .nil, r⟩
  | obj h hc hl q r => exact ⟨_, _, rfl, .obj h hc hl q .nil, r⟩
  | fz q r => exact ⟨_, _, rfl, .fz q .nil, r⟩
  | scr h r => exact ⟨_, _, rfl, .scr h .nil, r⟩
theorem ros_c2 {d e : D} {vs : List V} (r : Ros T B S [d, e] vs) : ∃ v u, vs = [v, u] ∧ Ros T B S [d] [v] ∧ Ros T B S [e] [u] := by
  obtain ⟨v, us, rfl, h1, r⟩ := ros_c r
  obtain ⟨u, us, rfl, h2, r⟩ := ros_c r
  rw [ros_nil r]
  exact ⟨v, u, rfl, h1, h2⟩
theorem ros_c1 {d : D} {vs : List V} (r : Ros T B S [d] vs) : ∃ v, vs = [v] := by
  obtain ⟨v, us, rfl, h1, r⟩ := ros_c r
  rw [ros_nil r]
  exact ⟨v, rfl⟩
theorem ros_lst {xs : List D} {v : V} (r : Ros T B S [.lst xs] [v]) : ∃ a ws, v = .ref a ∧ S a = some (.lst ws) ∧ Ros T B S xs ws := by
  cases r with
  | lst h q r => exact ⟨_, _, rfl, h, q⟩
theorem ros_tup {xs : List D} {v : V} (r : Ros T B S [.tup xs] [v]) : ∃ a ws, v = .ref a ∧ B a = some (.tup ws) ∧ Ros T B S xs ws := by
  cases r with
  | tup h q r => exact ⟨_, _, rfl, h, q⟩
theorem ros_dct {ks : List Key} {xs : List D} {v : V} (r : Ros T B S [.dct ks xs] [v]) : ∃ a ws, v = .ref a ∧ Rd S a (.dK (ks.zip ws)) ∧ ks.length = ws.length ∧ Ros T B S xs ws := by
  cases r with
  | dct h hl q r => exact ⟨_, _, rfl, h, hl, q⟩
theorem ros_obj {c : Nat} {xs : List D} {v : V} (r : Ros T B S [.obj c xs] [v]) : ∃ a C dx fl ws, v = .ref a ∧ S a = some (.ins C dx (fl.zip ws)) ∧ T.cls[c]? = some ⟨C, fl⟩ ∧ ws.length ≤ fl.length ∧ Ros T B S xs ws := by
  cases r with
  | obj h hc hl q r => exact ⟨_, _, _, _, _, rfl, h, hc, hl, q⟩
end
/-- without its cover -/
def unfz : D → D
  | .fz d => unfz d
  | d => d
theorem ros_unfz {T : Tab} {B : Hp} : ∀ {d : D} {S : Hp} {v : V}, Same B S → Ros T B S [d] [v] → Ros T B S [unfz d] [v] := by
  intro d
  induction d using unfz.induct with
  | case1 d ih =>
    intro S v s r
    cases r with
    | fz q r =>
      show Ros T B S [unfz d] [v]
      exact (ih (Same.refl _) q).mono s (Same.refl _)
  | case2 d h =>
    intro S v s r
    have e : unfz d = d := by cases d <;> first | rfl | exact absurd rfl (h _)
    rw [e]; exact r

/-! ### two operands -/
def VS2 (T : Tab) (f : List D → Option D) (r : R2) : Prop := VS T f (fun vs H Q => ∃ x y, vs = [x, y] ∧ r x y H Q)
def orF (f g : List D → Option D) : List D → Option D := fun ds => match f ds with
  | some z => some z
  | none => g ds
theorem VS2.or {T : Tab} {f g : List D → Option D} {r r' : R2} (a : VS2 T f r) (b : VS2 T g r') : VS2 T (orF f g) (fun x y H Q => r x y H Q ∨ r' x y H Q) := fun B H ds vs z bh hr h => by
  unfold orF at h
  cases e : f ds with
  | some z' =>
    rw [e] at h; cases h
    exact (a B H ds vs _ bh hr e).imp fun Q ⟨x, y, e, q⟩ => ⟨x, y, e, .inl q⟩
  | none =>
    rw [e] at h
    exact (b B H ds vs z bh hr h).imp fun Q ⟨x, y, e, q⟩ => ⟨x, y, e, .inr q⟩
def fI2 (C : Int → Int → Bool) (g : Int → Int → V) : List D → Option D
  | [.im (.int i), .im (.int j)] => if C i j = true then some (.im (g i j)) else none
  | _ => none
theorem vs_I2 {T : Tab} {C : Int → Int → Bool} {g : Int → Int → V} {r : R2} (hi : ∀ i j, imm (g i j) = true) (hr : ∀ i j H Q, C i j = true → Q (g i j) H → r (.int i) (.int j) H Q) : VS2 T (fI2 C g) r := by
  intro B H ds vs z bh ro h
  unfold fI2 at h
  split at h
  · rename_i i j
    split at h
    · rename_i hc
      cases h
      rw [ros_im2 ro]
      exact .im (hi i j) fun Q q => ⟨_, _, rfl, hr i j H Q hc q⟩
    · cases h
  · cases h
def fS2 (C : Str → Str → Bool) (g : Str → Str → V) : List D → Option D
  | [.im (.str i), .im (.str j)] => if C i j = true then some (.im (g i j)) else none
  | _ => none
theorem vs_S2 {T : Tab} {C : Str → Str → Bool} {g : Str → Str → V} {r : R2} (hi : ∀ i j, imm (g i j) = true) (hr : ∀ i j H Q, C i j = true → Q (g i j) H → r (.str i) (.str j) H Q) : VS2 T (fS2 C g) r := by
  intro B H ds vs z bh ro h
  unfold fS2 at h
  split at h
  · rename_i i j
    split at h
    · rename_i hc
      cases h
      rw [ros_im2 ro]
      exact .im (hi i j) fun Q q => ⟨_, _, rfl, hr i j H Q hc q⟩
    · cases h
  · cases h
abbrev yes2 {α : Type} : α → α → Bool := fun _ _ => true
/-- a bound that is never opened -/
def BIG : Nat := 2 ^ 8000
theorem big_log {n : Nat} (h : n < BIG) : n.log2 < 8000 := PySem.Flt.log2_lt_of (by decide) h
theorem big_of {n : Nat} (h : n < 10 ^ 1000) : n < BIG := Nat.lt_of_lt_of_le h (by unfold BIG; decide +kernel)
def cMul (i j : Int) : Bool := decide ((-(2 ^ 64) < i ∧ i < 2 ^ 64) ∨ (-(2 ^ 64) < j ∧ j < 2 ^ 64) ∨ (i.natAbs < BIG ∧ j.natAbs < BIG))
def cDiv (_ j : Int) : Bool := decide (j ≠ 0 ∧ j.natAbs < BIG)
def fdv (i j : Int) : Int := if 0 < j then i / j else i.fdiv j
def fmd (i j : Int) : Int := if 0 < j then i % j else i.fmod j
section
variable {X : Cx} {T : Tab}
def CMulX (i j : Int) : Prop := cMul i j = true
theorem CMulX.ok {i j : Int} (h : CMulX i j) : IntMulOk i j := by
  rcases of_decide_eq_true h with h | h | ⟨h1, h2⟩
  · exact CMul.ok (.inl h)
  · exact CMul.ok (.inr h)
  · refine CMulW.ok ?_
    have a := big_log h1
    have b := big_log h2
    unfold CMulW
    omega
theorem op_mulX : OpR X (binaryOp .Mult) (rI CMulX fun i j => .int (i * j)) := opI fun _ _ _ _ _ _ _ hc q => mul_int q hc.ok
def CDivX (i j : Int) : Prop := cDiv i j = true
theorem op_fdivX : OpR X (binaryOp .FloorDiv) (rI CDivX fun i j => .int (fdv i j)) := opI fun i j _ _ _ _ _ hc q => by
  obtain ⟨h1, h2⟩ := of_decide_eq_true hc
  refine floordiv_int h1 ?_ (.inl (PyProof.noPylong_of_log2 (by have := big_log h2; omega)))
  unfold fdv at q
  split at q
  · rename_i h; rw [Int.fdiv_eq_ediv_of_nonneg i (by omega)]; exact q
  · exact q
theorem op_modX : OpR X (binaryOp .Mod) (rI (fun _ j => j ≠ 0) fun i j => .int (fmd i j)) := opI fun i j _ _ _ _ _ hc q => by
  refine mod_int' hc ?_
  unfold fmd at q
  split at q
  · rename_i h; rw [Int.fmod_eq_emod_of_nonneg i (by omega)]; exact q
  · exact q
/-! sums -/
def fAddI := fI2 yes2 fun i j => .int (i + j)
def fAddS := fS2 (fun a b => decide (a.length + b.length ≤ 1000000)) fun a b => .str (a ++ b)
theorem le_line {n : Nat} (h : n ≤ 1000000) : n ≤ sizeLine := by rw [sizeLine_eq]; omega
def rAddIS : R2 := fun x y H Q => (∃ i j, x = .int i ∧ y = .int j ∧ Q (.int (i + j)) H) ∨ (∃ i j, x = .str i ∧ y = .str j ∧ i.length + j.length ≤ sizeLine ∧ Q (.str (i ++ j)) H)

/-! ### sums, products -/
theorem copyDs_append {xs ys : List D} : copyDs (xs ++ ys) = (copyDs xs && copyDs ys) := by
  induction xs with
  | nil => simp [copyDs]
  | cons d ds ih => simp [copyDs, ih, Bool.and_assoc]
theorem ros_append {B S : Hp} {xs ys : List D} {vs ws : List V} (a : Ros T B S xs vs) (b : Ros T B S ys ws) : Ros T B S (xs ++ ys) (vs ++ ws) := by
  induction a with
  | nil => exact b
  | im h r ih => exact .im h (ih b)
  | lst h q r iq ih => exact .lst h q (ih b)
  | tup h q r iq ih => exact .tup h q (ih b)
  | dct h hl q r iq ih => exact .dct h hl q (ih b)
  | obj h hc hl q r iq ih => exact .obj h hc hl q (ih b)
  | scr h r ih => exact .scr h (ih b)
  | fz q r iq ih => exact .fz q (ih b)
def fAddL : List D → Option D
  | [a, b] => match unfz a, unfz b with
    | .lst xs, .lst ys => if copyDs xs && copyDs ys && decide (xs.length + ys.length ≤ 1000000) then some (.lst (xs ++ ys)) else none
    | _, _ => none
  | _ => none
theorem vs_addL : VS2 T fAddL rCat := by
  intro B H ds vs z bh ro h
  unfold fAddL at h
  split at h
  · rename_i a b
    split at h
    · rename_i xs ys ea eb
      split at h
      · rename_i hc
        cases h
        simp only [Bool.and_eq_true, decide_eq_true_eq] at hc
        obtain ⟨v, u, rfl, r1, r2⟩ := ros_c2 ro
        have q1 := ros_unfz bh r1
        have q2 := ros_unfz bh r2
        rw [ea] at q1; rw [eb] at q2
        obtain ⟨l, ws, rfl, h1, p1⟩ := ros_lst q1
        obtain ⟨m, us, rfl, h2, p2⟩ := ros_lst q2
        have l1 := p1.len
        have l2 := p2.len
        exact .lst (copy_own (ros_append p1 p2) (by rw [copyDs_append, hc.1.1, hc.1.2]; rfl)) fun Q q => ⟨_, _, rfl, l, m, ws, us, rfl, rfl, h1, h2, le_line (by omega), q⟩
      · cases h
    · cases h
  · cases h
abbrev fAdd := orF fAddI (orF fAddS fAddL)
theorem op_addP : OpR X (binaryOp .Add) (fun x y H Q => (∃ i j, x = .int i ∧ y = .int j ∧ Q (.int (i + j)) H) ∨ (∃ i j, x = .str i ∧ y = .str j ∧ i.length + j.length ≤ sizeLine ∧ Q (.str (i ++ j)) H) ∨ rCat x y H Q) :=
  OpR.or op_add (OpR.or op_add_str op_cat)
theorem vs_add : VS2 T fAdd (fun x y H Q => (∃ i j, x = .int i ∧ y = .int j ∧ Q (.int (i + j)) H) ∨ (∃ i j, x = .str i ∧ y = .str j ∧ i.length + j.length ≤ sizeLine ∧ Q (.str (i ++ j)) H) ∨ rCat x y H Q) :=
  VS2.or (r := fun x y H Q => ∃ i j, x = .int i ∧ y = .int j ∧ Q (.int (i + j)) H) (vs_I2 (fun _ _ => rfl) fun i j H Q _ q => ⟨i, j, rfl, rfl, q⟩) (VS2.or (r := fun x y H Q => ∃ i j, x = .str i ∧ y = .str j ∧ i.length + j.length ≤ sizeLine ∧ Q (.str (i ++ j)) H) (vs_S2 (fun _ _ => rfl) fun i j H Q hc q => ⟨i, j, rfl, rfl, le_line (of_decide_eq_true hc), q⟩) vs_addL)
abbrev fSub := fI2 yes2 fun i j => .int (i - j)
theorem vs_sub : VS2 T fSub (rI0 fun i j => .int (i - j)) := vs_I2 (fun _ _ => rfl) fun i j H Q _ q => ⟨i, j, rfl, rfl, q⟩
abbrev fMulI := fI2 cMul fun i j => .int (i * j)
def fRep : List D → Option D
  | [a, .im (.int k)] => match unfz a with
    | .lst xs => if copyDs xs && decide (0 ≤ k) && decide (xs.length * k.toNat ≤ 1000000) && decide (k ≤ 1000000) then some (.lst (List.replicate k.toNat xs).flatten) else none
    | _ => none
  | _ => none
theorem ros_rep {B S : Hp} {xs : List D} {vs : List V} (a : Ros T B S xs vs) : ∀ n : Nat, Ros T B S (List.replicate n xs).flatten (List.replicate n vs).flatten
  | 0 => .nil
  | n + 1 => by rw [List.replicate_succ, List.replicate_succ, List.flatten_cons, List.flatten_cons]; exact ros_append a (ros_rep a n)
theorem copyDs_rep {xs : List D} (h : copyDs xs = true) : ∀ n : Nat, copyDs (List.replicate n xs).flatten = true
  | 0 => rfl
  | n + 1 => by rw [List.replicate_succ, List.flatten_cons, copyDs_append, h, copyDs_rep h n]; rfl
theorem vs_rep : VS2 T fRep rRep := by
  intro B H ds vs z bh ro h
  unfold fRep at h
  split at h
  · rename_i a k
    split at h
    · rename_i xs ea
      split at h
      · rename_i hc
        cases h
        simp only [Bool.and_eq_true, decide_eq_true_eq] at hc
        obtain ⟨v, u, rfl, r1, r2⟩ := ros_c2 ro
        cases ros_im1 r2
        have q1 := ros_unfz bh r1
        rw [ea] at q1
        obtain ⟨l, ws, rfl, h1, p1⟩ := ros_lst q1
        have l1 := p1.len
        exact .lst (copy_own (ros_rep p1 k.toNat) (copyDs_rep hc.1.1.1 _)) fun Q q => ⟨_, _, rfl, l, k, ws, rfl, rfl, h1, by omega, by omega, le_line (by rw [← l1]; exact hc.1.2), q⟩
      · cases h
    · cases h
  · cases h
abbrev fMul := orF fMulI fRep
theorem op_mulP : OpR X (binaryOp .Mult) (fun x y H Q => rI CMulX (fun i j => .int (i * j)) x y H Q ∨ rRep x y H Q) := OpR.or op_mulX op_rep
theorem vs_mul : VS2 T fMul (fun x y H Q => rI CMulX (fun i j => .int (i * j)) x y H Q ∨ rRep x y H Q) :=
  VS2.or (vs_I2 (fun _ _ => rfl) fun i j H Q hc q => ⟨i, j, rfl, rfl, hc, q⟩) vs_rep
abbrev fDiv := fI2 cDiv fun i j => .int (fdv i j)
theorem vs_div : VS2 T fDiv (rI CDivX fun i j => .int (fdv i j)) := vs_I2 (fun _ _ => rfl) fun i j H Q hc q => ⟨i, j, rfl, rfl, hc, q⟩
abbrev fMod := fI2 (fun _ j => decide (j ≠ 0)) fun i j => .int (fmd i j)
theorem vs_mod : VS2 T fMod (rI (fun _ j => j ≠ 0) fun i j => .int (fmd i j)) := vs_I2 (fun _ _ => rfl) fun i j H Q hc q => ⟨i, j, rfl, rfl, of_decide_eq_true hc, q⟩
def cPow (i j : Int) : Bool := decide (0 ≤ j ∧ j ≤ 1000000 ∧ i.natAbs < 2 ^ 64)
theorem cPow_ok {i j : Int} (h : cPow i j = true) : CPow i j := (of_decide_eq_true h : 0 ≤ j ∧ j ≤ 1000000 ∧ i.natAbs < 2 ^ 64)
abbrev fPow := fI2 cPow fun i j => .int (i ^ j.toNat)
theorem vs_pow : VS2 T fPow (rI CPow fun i j => .int (i ^ j.toNat)) := vs_I2 (fun _ _ => rfl) fun i j H Q hc q => ⟨i, j, rfl, rfl, cPow_ok hc, q⟩
abbrev fShl := fI2 cPow fun i j => .int (i * 2 ^ j.toNat)
theorem vs_shl : VS2 T fShl (rI CPow fun i j => .int (i * 2 ^ j.toNat)) := vs_I2 (fun _ _ => rfl) fun i j H Q hc q => ⟨i, j, rfl, rfl, cPow_ok hc, q⟩
abbrev fAnd := fI2 yes2 fun i j => .int (PySem.Builtin.bitAnd i j)
theorem vs_and : VS2 T fAnd (rI0 fun i j => .int (PySem.Builtin.bitAnd i j)) := vs_I2 (fun _ _ => rfl) fun i j H Q _ q => ⟨i, j, rfl, rfl, q⟩
abbrev fOr := fI2 yes2 fun i j => .int (PySem.Builtin.bitOr i j)
theorem vs_or : VS2 T fOr (rI0 fun i j => .int (PySem.Builtin.bitOr i j)) := vs_I2 (fun _ _ => rfl) fun i j H Q _ q => ⟨i, j, rfl, rfl, q⟩
abbrev fXor := fI2 yes2 fun i j => .int (PySem.Builtin.bitXor i j)
theorem vs_xor : VS2 T fXor (rI0 fun i j => .int (PySem.Builtin.bitXor i j)) := vs_I2 (fun _ _ => rfl) fun i j H Q _ q => ⟨i, j, rfl, rfl, q⟩

/-! ### comparisons -/
abbrev fLt := fI2 yes2 fun i j => .bl (decide (i < j))
theorem vs_lt : VS2 T fLt (rI0 fun i j => .bl (decide (i < j))) := vs_I2 (fun _ _ => rfl) fun i j H Q _ q => ⟨i, j, rfl, rfl, q⟩
abbrev fLe := fI2 yes2 fun i j => .bl (decide (i ≤ j))
theorem vs_le : VS2 T fLe (rI0 fun i j => .bl (decide (i ≤ j))) := vs_I2 (fun _ _ => rfl) fun i j H Q _ q => ⟨i, j, rfl, rfl, q⟩
abbrev fGt := fI2 yes2 fun i j => .bl (decide (j < i))
theorem vs_gt : VS2 T fGt (rI0 fun i j => .bl (decide (j < i))) := vs_I2 (fun _ _ => rfl) fun i j H Q _ q => ⟨i, j, rfl, rfl, q⟩
abbrev fGe := fI2 yes2 fun i j => .bl (decide (j ≤ i))
theorem vs_ge : VS2 T fGe (rI0 fun i j => .bl (decide (j ≤ i))) := vs_I2 (fun _ _ => rfl) fun i j H Q _ q => ⟨i, j, rfl, rfl, q⟩
/-! a tree as data for == -/
mutual
def toPy : D → Option PyData
  | .im .non => some .none
  | .im (.bl b) => some (.bool b)
  | .im (.int i) => some (.int i)
  | .im (.str x) => some (.str x)
  | .im _ => none
  | .lst ds => (toPys ds).map PyData.list
  | .tup ds => (toPys ds).map PyData.tuple
  | .fz d => toPy d
  | .dct _ _ => none
  | .obj _ _ => none
  | .scr _ => none
def toPys : List D → Option (List PyData)
  | [] => some []
  | d :: ds => match toPy d, toPys ds with
    | some p, some ps => some (p :: ps)
    | _, _ => none
end
theorem dp_of {B : Hp} : ∀ {S : Hp} {ds : List D} {vs : List V}, Ros T B S ds vs → ∀ {H : Hp}, Same S H → Same B H → ∀ ps, toPys ds = some ps → DpAll T.K H vs ps := by
  intro S ds vs r
  induction r with
  | nil => intro H _ _ ps h; simp [toPys] at h; subst h; exact .nil
  | @im S v ds vs hi r ih =>
    intro H s b ps h
    simp only [toPys] at h
    split at h
    · rename_i p ps' h1 h2
      cases h
      refine .cons ?_ (ih s b _ h2)
      cases v <;> simp [toPy] at h1 <;> subst h1
      · exact .non
      · exact .bl _
      · exact .int _
      · exact .str _
    · cases h
  | lst h q r iq ir =>
    intro H s b ps h'
    simp only [toPys] at h'
    split at h'
    · rename_i p ps' h1 h2
      cases h'
      simp only [toPy, Option.map_eq_some_iff] at h1
      obtain ⟨qs, h1, rfl⟩ := h1
      exact .cons (.lst (SqL.of (s _ _ h)) (iq s b _ h1)) (ir s b _ h2)
    · cases h'
  | tup h q r iq ir =>
    intro H s b ps h'
    simp only [toPys] at h'
    split at h'
    · rename_i p ps' h1 h2
      cases h'
      simp only [toPy, Option.map_eq_some_iff] at h1
      obtain ⟨qs, h1, rfl⟩ := h1
      exact .cons (.tup (SqT.of (b _ _ h)) (iq s b _ h1)) (ir s b _ h2)
    · cases h'
  | dct h hl q r iq ir => intro H s b ps h'; simp [toPys, toPy] at h'
  | obj h hc hl q r iq ir => intro H s b ps h'; simp [toPys, toPy] at h'
  | scr h r ir => intro H s b ps h'; simp [toPys, toPy] at h'
  | @fz S d v ds vs q r iq ir =>
    intro H s b ps h'
    simp only [toPys] at h'
    split at h'
    · rename_i p ps' h1 h2
      cases h'
      have h1 : toPy d = some p := by simpa [toPy] using h1
      have z := iq b b [p] (by simp [toPys, h1])
      cases z with
      | cons a _ => exact .cons a (ir s b _ h2)
    · cases h'
theorem dp1 {B S H : Hp} {d : D} {v : V} {p : PyData} (r : Ros T B S [d] [v]) (s : Same S H) (b : Same B H) (h : toPy d = some p) : Dp T.K H v p := by
  have z := dp_of r s b [p] (by simp [toPys, h])
  cases z with
  | cons a _ => exact a
def fEq : List D → Option D
  | [a, b] => match toPy a, toPy b with
    | some p, some q => if PySem.SeqAt.shaped p && PySem.SeqAt.shaped q then some (.im (.bl (PyData.eqv p q))) else none
    | _, _ => none
  | _ => none
def fNe : List D → Option D
  | [a, b] => match toPy a, toPy b with
    | some p, some q => if PySem.SeqAt.shaped p && PySem.SeqAt.shaped q then some (.im (.bl (!PyData.eqv p q))) else none
    | _, _ => none
  | _ => none
theorem vs_eq : VS2 T fEq (rEqD T.K) := by
  intro B H ds vs z bh ro h
  unfold fEq at h
  split at h
  · rename_i a b
    split at h
    · rename_i p q h1 h2
      split at h
      · rename_i hc
        cases h
        simp only [Bool.and_eq_true] at hc
        obtain ⟨v, u, rfl, r1, r2⟩ := ros_c2 ro
        exact .im rfl fun Q k => ⟨_, _, rfl, p, q, dp1 r1 (Same.refl _) bh h1, dp1 r2 (Same.refl _) bh h2, hc.1, hc.2, k⟩
      · cases h
    · cases h
  · cases h
theorem vs_ne : VS2 T fNe (rNeD T.K) := by
  intro B H ds vs z bh ro h
  unfold fNe at h
  split at h
  · rename_i a b
    split at h
    · rename_i p q h1 h2
      split at h
      · rename_i hc
        cases h
        simp only [Bool.and_eq_true] at hc
        obtain ⟨v, u, rfl, r1, r2⟩ := ros_c2 ro
        exact .im rfl fun Q k => ⟨_, _, rfl, p, q, dp1 r1 (Same.refl _) bh h1, dp1 r2 (Same.refl _) bh h2, hc.1, hc.2, k⟩
      · cases h
    · cases h
  · cases h
end
end Tr

/-! TrD: in, is, len, isinstance and other built-ins; subscripts, fields. -/
namespace Tr
open PySem L2 PyProof.Rows
section
variable {X : Cx} {T : Tab}
/-- the immediates of a row -/
def ims : List D → Option (List V)
  | [] => some []
  | .im v :: ds => (ims ds).map (v :: ·)
  | _ => none
theorem ims_eq {ds : List D} : ∀ {ws : List V}, ims ds = some ws → ds = ws.map D.im := by
  induction ds with
  | nil => intro ws h; simp [ims] at h; subst h; rfl
  | cons d ds ih =>
    intro ws h
    cases d <;> simp [ims] at h
    obtain ⟨us, h1, rfl⟩ := h
    rw [ih h1]; rfl
def rowOf : D → Option (List D)
  | .lst xs => some xs
  | .tup xs => some xs
  | _ => none
theorem ros_row {B S H : Hp} {d : D} {xs : List D} {v : V} (s : Same S H) (b : Same B H) (r : Ros T B S [d] [v]) (h : rowOf d = some xs) : ∃ a ws, v = .ref a ∧ (SqL T.K H a ws ∨ SqT T.K H a ws) ∧ Ros T B S xs ws := by
  cases d <;> simp [rowOf] at h
  · subst h
    obtain ⟨a, ws, rfl, h1, q⟩ := ros_lst r
    exact ⟨a, ws, rfl, .inl (SqL.of (s _ _ h1)), q⟩
  · subst h
    obtain ⟨a, ws, rfl, h1, q⟩ := ros_tup r
    exact ⟨a, ws, rfl, .inr (SqT.of (b _ _ h1)), q⟩
/-- x in a row of flat things -/
def fInR (neg : Bool) : List D → Option D
  | [.im x, b] => match rowOf (unfz b) with
    | some ds => match ims ds with
      | some xs => if flatV x && xs.all flatV then some (.im (.bl (if neg then !inV x xs else inV x xs))) else none
      | none => none
    | none => none
  | _ => none
theorem vs_inR {neg : Bool} : VS2 T (fInR neg) (rIn T.K neg) := by
  intro B H ds vs z bh ro h
  unfold fInR at h
  split at h
  · rename_i x b
    split at h
    · rename_i es he
      split at h
      · rename_i xs hx
        split at h
        · rename_i hc
          cases h
          simp only [Bool.and_eq_true] at hc
          obtain ⟨v, u, rfl, r1, r2⟩ := ros_c2 ro
          cases ros_im1 r1
          obtain ⟨a, ws, rfl, hs, q⟩ := ros_row (Same.refl _) bh (ros_unfz bh r2) he
          rw [ims_eq hx] at q
          rw [ros_ims q] at hs
          exact .im rfl fun Q k => ⟨_, _, rfl, a, xs, rfl, hs, hc.1, hc.2, k⟩
        · cases h
      · cases h
    · cases h
  · cases h
/-- one sign in a text -/
def rInS' : R2 := fun x y H Q => ∃ (c : Nat) (z : Str), x = .str ⟨#[c]⟩ ∧ y = .str z ∧ Q (.bl (decide (c ∈ z.cps.toList))) H
def rNiS' : R2 := fun x y H Q => ∃ (c : Nat) (z : Str), x = .str ⟨#[c]⟩ ∧ y = .str z ∧ Q (.bl (!decide (c ∈ z.cps.toList))) H
def oneSign (a : Str) : Option Nat := match a.cps.toList with
  | [c] => some c
  | _ => none
theorem oneSign_eq {a : Str} {c : Nat} (h : oneSign a = some c) : a = ⟨#[c]⟩ := by
  unfold oneSign at h
  split at h
  · rename_i d e
    cases h
    obtain ⟨cs⟩ := a
    have : cs = #[c] := by
      apply Array.toList_inj.mp
      exact e
    rw [this]
  · cases h
def fInS (neg : Bool) : List D → Option D
  | [.im (.str a), .im (.str z)] => match oneSign a with
    | some c => some (.im (.bl (if neg then !decide (c ∈ z.cps.toList) else decide (c ∈ z.cps.toList))))
    | none => none
  | _ => none
theorem vs_inS : VS2 T (fInS false) rInS' := by
  intro B H ds vs z bh ro h
  unfold fInS at h
  split at h
  · rename_i a y
    split at h
    · rename_i c hc
      cases h
      rw [ros_im2 ro, oneSign_eq hc]
      exact .im rfl fun Q k => ⟨_, _, rfl, c, y, rfl, rfl, k⟩
    · cases h
  · cases h
theorem vs_niS : VS2 T (fInS true) rNiS' := by
  intro B H ds vs z bh ro h
  unfold fInS at h
  split at h
  · rename_i a y
    split at h
    · rename_i c hc
      cases h
      rw [ros_im2 ro, oneSign_eq hc]
      exact .im rfl fun Q k => ⟨_, _, rfl, c, y, rfl, rfl, k⟩
    · cases h
  · cases h
abbrev fIn := orF (fInR false) (fInS false)
abbrev fNi := orF (fInR true) (fInS true)
theorem op_inP : OpR X (compareOp .In) (fun x y H Q => rIn X.K false x y H Q ∨ rInS' x y H Q) := OpR.or op_in_seq op_in_sign
theorem op_niP : OpR X (compareOp .NotIn) (fun x y H Q => rIn X.K true x y H Q ∨ rNiS' x y H Q) := OpR.or op_notIn_seq op_notIn_sign
theorem vs_in : VS2 T fIn (fun x y H Q => rIn T.K false x y H Q ∨ rInS' x y H Q) := VS2.or vs_inR vs_inS
theorem vs_ni : VS2 T fNi (fun x y H Q => rIn T.K true x y H Q ∨ rNiS' x y H Q) := VS2.or vs_inR vs_niS

/-! is None, is True -/
def isNon : D → Bool
  | .im .non => true
  | _ => false
def rIsN' : R2 := fun x y H Q => y = .non ∧ Q (.bl (decide (x = .non))) H
def rNotN' : R2 := fun x y H Q => y = .non ∧ Q (.bl (!decide (x = .non))) H
def fIsN (neg : Bool) : List D → Option D
  | [a, .im .non] => some (.im (.bl (if neg then !isNon (unfz a) else isNon (unfz a))))
  | _ => none
theorem isNon_iff {B S : Hp} {d : D} {v : V} (bh : Same B S) (r : Ros T B S [d] [v]) : decide (v = V.non) = isNon (unfz d) := by
  have q := ros_unfz bh r
  cases e : unfz d with
  | im u => rw [e] at q; cases ros_im1 q; cases v <;> simp [isNon]
  | lst => rw [e] at q; obtain ⟨a, ws, rfl, _⟩ := ros_lst q; simp [isNon]
  | tup => rw [e] at q; obtain ⟨a, ws, rfl, _⟩ := ros_tup q; simp [isNon]
  | dct => rw [e] at q; obtain ⟨a, ws, rfl, _⟩ := ros_dct q; simp [isNon]
  | obj => rw [e] at q; obtain ⟨a, C, dx, fl, ws, rfl, _⟩ := ros_obj q; simp [isNon]
  | fz d' =>
    exfalso
    have : ∀ d d' : D, unfz d ≠ .fz d' := by
      intro d
      induction d using unfz.induct with
      | case1 d ih => intro d' h; exact ih d' h
      | case2 d h => intro d' h'; cases d <;> first | exact absurd rfl (h _) | (simp [unfz] at h'; done)
    exact this _ _ e
  | scr ns => rw [e] at q; cases q; simp [isNon]
theorem vs_isN : VS2 T (fIsN false) rIsN' := by
  intro B H ds vs z bh ro h
  unfold fIsN at h
  split at h
  · rename_i a
    cases h
    obtain ⟨v, u, rfl, r1, r2⟩ := ros_c2 ro
    cases ros_im1 r2
    exact .im rfl fun Q k => ⟨_, _, rfl, rfl, by rw [isNon_iff bh r1]; exact k⟩
  · cases h
theorem vs_notN : VS2 T (fIsN true) rNotN' := by
  intro B H ds vs z bh ro h
  unfold fIsN at h
  split at h
  · rename_i a
    cases h
    obtain ⟨v, u, rfl, r1, r2⟩ := ros_c2 ro
    cases ros_im1 r2
    exact .im rfl fun Q k => ⟨_, _, rfl, rfl, by rw [isNon_iff bh r1]; exact k⟩
  · cases h
def fIsB (neg : Bool) : List D → Option D
  | [.im (.bl a), .im (.bl b)] => some (.im (.bl (if neg then !decide (a = b) else decide (a = b))))
  | _ => none
theorem vs_isB : VS2 T (fIsB false) rIsB := by
  intro B H ds vs z bh ro h
  unfold fIsB at h
  split at h
  · cases h; rw [ros_im2 ro]; exact .im rfl fun Q k => ⟨_, _, rfl, _, _, rfl, rfl, k⟩
  · cases h
theorem vs_notB : VS2 T (fIsB true) rNotB := by
  intro B H ds vs z bh ro h
  unfold fIsB at h
  split at h
  · cases h; rw [ros_im2 ro]; exact .im rfl fun Q k => ⟨_, _, rfl, _, _, rfl, rfl, k⟩
  · cases h
abbrev fIs := orF (fIsN false) (fIsB false)
abbrev fNt := orF (fIsN true) (fIsB true)
theorem op_isP : OpR X (compareOp .Is) (fun x y H Q => rIsN' x y H Q ∨ rIsB x y H Q) := OpR.or op_isN op_isBl
theorem op_ntP : OpR X (compareOp .IsNot) (fun x y H Q => rNotN' x y H Q ∨ rNotB x y H Q) := OpR.or op_notN op_notBl
theorem vs_is : VS2 T fIs (fun x y H Q => rIsN' x y H Q ∨ rIsB x y H Q) := VS2.or vs_isN vs_isB
theorem vs_nt : VS2 T fNt (fun x y H Q => rNotN' x y H Q ∨ rNotB x y H Q) := VS2.or vs_notN vs_notB

/-! ### one operand -/
def fNeg : List D → Option D
  | [.im (.int i)] => some (.im (.int (-i)))
  | _ => none
theorem vs_neg : VS T fNeg (fun vs H Q => ∃ x, vs = [x] ∧ rU (fun i => .int (-i)) x H Q) := by
  intro B H ds vs z bh ro h
  unfold fNeg at h
  split at h
  · cases h; rw [ros_im1 ro]; exact .im rfl fun Q k => ⟨_, rfl, _, rfl, k⟩
  · cases h

/-! ### built-ins -/
theorem VS.orF {f g : List D → Option D} {r r' : List V → Hp → VK → Prop} (a : VS T f r) (b : VS T g r') : VS T (orF f g) (fun vs H Q => r vs H Q ∨ r' vs H Q) := fun B H ds vs z bh hr h => by
  unfold Tr.orF at h
  cases e : f ds with
  | some z' => rw [e] at h; cases h; exact (a B H ds vs _ bh hr e).imp fun Q => .inl
  | none => rw [e] at h; exact (b B H ds vs z bh hr h).imp fun Q => .inr
def fLenS : List D → Option D
  | [.im (.str s)] => if s.length ≤ 1000000 then some (.im (.int s.length)) else none
  | [d] => match unfz d with
    | .lst xs => some (.im (.int xs.length))
    | .tup xs => some (.im (.int xs.length))
    | .scr ns => some (.im (.int ns.length))
    | _ => none
  | _ => none
theorem vs_lenS : VS T fLenS (fun xs H Q => ∃ x n, xs = [x] ∧ LenV T.K x H n ∧ Q (.int n) H) := by
  intro B H ds vs z bh ro h
  unfold fLenS at h
  split at h
  · rename_i s
    split at h
    · rename_i hs
      cases h; rw [ros_im1 ro]; exact .im rfl fun Q k => ⟨_, s.length, rfl, ⟨le_line hs, rfl⟩, k⟩
    · cases h
  · rename_i d hd
    obtain ⟨v, rfl⟩ := ros_c1 ro
    have q := ros_unfz bh ro
    split at h
    · rename_i xs e
      cases h
      rw [e] at q
      obtain ⟨a, ws, rfl, h1, q⟩ := ros_lst q
      exact .im rfl fun Q k => ⟨_, xs.length, rfl, .inl ⟨ws, SqL.of h1, q.len⟩, k⟩
    · rename_i xs e
      cases h
      rw [e] at q
      obtain ⟨a, ws, rfl, h1, q⟩ := ros_tup q
      exact .im rfl fun Q k => ⟨_, xs.length, rfl, .inr ⟨ws, SqT.of (bh _ _ h1), q.len⟩, k⟩
    · rename_i ns e
      cases h
      rw [e] at q
      cases q with
      | scr h1 _ => exact .im rfl fun Q k => ⟨_, ns.length, rfl, .inl ⟨_, h1, by simp⟩, k⟩
    · cases h
  · cases h
def fLenD : List D → Option D
  | [.dct ks xs] => some (.im (.int ks.length))
  | _ => none
theorem call_lenDR : CallR X (.builtin "len") (fun xs H Q => ∃ a kvs, xs = [V.ref a] ∧ Rd H a (.dK kvs) ∧ Q (.int kvs.length) H) := by
  intro pins s σ H xs us Q I r h
  obtain ⟨a, kvs, rfl, ha, q⟩ := h
  obtain ⟨u, rfl, ru⟩ := vals1 r
  cases ru
  exact d_len I ha fun t s' I' => ⟨.int kvs.length, H, I', ⟨t, rfl⟩, q⟩
theorem vs_lenD : VS T fLenD (fun xs H Q => ∃ a kvs, xs = [V.ref a] ∧ Rd H a (.dK kvs) ∧ Q (.int kvs.length) H) := by
  intro B H ds vs z bh ro h
  unfold fLenD at h
  split at h
  · rename_i ks xs
    cases h
    obtain ⟨v, rfl⟩ := ros_c1 ro
    obtain ⟨a, ws, rfl, h1, hl, q⟩ := ros_dct ro
    exact .im rfl fun Q k => ⟨a, _, rfl, h1, by rw [List.length_zip, ← hl, Nat.min_self]; exact k⟩
  · cases h
abbrev fLen := orF fLenS fLenD
theorem call_lenP : CallR X (.builtin "len") (fun xs H Q => (∃ x n, xs = [x] ∧ LenV X.K x H n ∧ Q (.int n) H) ∨ (∃ a kvs, xs = [V.ref a] ∧ Rd H a (.dK kvs) ∧ Q (.int kvs.length) H)) := CallR.or call_len call_lenDR
theorem vs_len : VS T fLen (fun xs H Q => (∃ x n, xs = [x] ∧ LenV T.K x H n ∧ Q (.int n) H) ∨ (∃ a kvs, xs = [V.ref a] ∧ Rd H a (.dK kvs) ∧ Q (.int kvs.length) H)) := VS.orF vs_lenS vs_lenD

/-- a built-in type's name -/
def tyN : D → Option String
  | .im .non => some "NoneType"
  | .im (.bl _) => some "bool"
  | .im (.int _) => some "int"
  | .im (.str _) => some "str"
  | .lst _ => some "list"
  | .tup _ => some "tuple"
  | .dct _ _ => some "dict"
  | .fz d => tyN d
  | _ => none
def fIsi : List D → Option D
  | [d, .im (.ty u)] => match tyN d with
    | some t => match kitB t u with
      | some b => some (.im (.bl b))
      | none => none
    | none => none
  | _ => none
theorem tyx_of {B : Hp} : ∀ {d : D} {S H : Hp} {v : V} {t : String}, Same S H → Same B H → Ros T B S [d] [v] → tyN d = some t → TyX T.K H v (.type t) := by
  intro d
  induction d using tyN.induct with
  | case8 d ih =>
    intro S H v t s b r h
    cases r with
    | fz q _ => exact ih b b q h
  | _ =>
    intro S H v t s b r h
    simp [tyN] at h
    try subst h
    first
      | (cases ros_im1 r; exact .base .non)
      | (cases ros_im1 r; exact .base (.bl _))
      | (cases ros_im1 r; exact .base (.int _))
      | (cases ros_im1 r; exact .base (.str _))
      | (obtain ⟨a, ws, rfl, h1, q⟩ := ros_lst r; exact .base (.lst (s _ _ h1)))
      | (obtain ⟨a, ws, rfl, h1, q⟩ := ros_tup r; exact .base (.tup (b _ _ h1)))
      | (obtain ⟨a, ws, rfl, h1, hl, q⟩ := ros_dct r
         rcases h1 with h1 | ⟨o, h1⟩
         · exact .base (.dK (s _ _ h1))
         · exact .fDict (s _ _ h1))
      | (cases h)
      | skip
theorem vs_isi : VS T fIsi (rIsi T.K) := by
  intro B H ds vs z bh ro h
  unfold fIsi at h
  split at h
  · rename_i d u
    split at h
    · rename_i t ht
      split at h
      · rename_i b hb
        cases h
        obtain ⟨v, w, rfl, r1, r2⟩ := ros_c2 ro
        cases ros_im1 r2
        exact .im rfl fun Q k => ⟨v, .ty u, .type t, .type u, b, rfl, .ty u, tyx_of (Same.refl _) bh r1 ht, kit_ty hb, k⟩
      · cases h
    · cases h
  · cases h
def fAbs : List D → Option D
  | [.im (.int i)] => some (.im (.int (if i < 0 then -i else i)))
  | _ => none
theorem vs_abs : VS T fAbs (fun xs H Q => ∃ i, xs = [.int i] ∧ Q (.int (if i < 0 then -i else i)) H) := by
  intro B H ds vs z bh ro h
  unfold fAbs at h
  split at h
  · cases h; rw [ros_im1 ro]; exact .im rfl fun Q k => ⟨_, rfl, k⟩
  · cases h
def fMx : List D → Option D
  | [.im (.int i), .im (.int j)] => some (.im (.int (if j > i then j else i)))
  | _ => none
theorem vs_max2 : VS T fMx (fun xs H Q => ∃ i j, xs = [.int i, .int j] ∧ Q (.int (if j > i then j else i)) H) := by
  intro B H ds vs z bh ro h
  unfold fMx at h
  split at h
  · cases h; rw [ros_im2 ro]; exact .im rfl fun Q k => ⟨_, _, rfl, k⟩
  · cases h
def fMn : List D → Option D
  | [.im (.int i), .im (.int j)] => some (.im (.int (if j < i then j else i)))
  | _ => none
theorem vs_min2 : VS T fMn (fun xs H Q => ∃ i j, xs = [.int i, .int j] ∧ Q (.int (if j < i then j else i)) H) := by
  intro B H ds vs z bh ro h
  unfold fMn at h
  split at h
  · cases h; rw [ros_im2 ro]; exact .im rfl fun Q k => ⟨_, _, rfl, k⟩
  · cases h
/-- the numbers of a row -/
def intsD : List D → Option (List Int)
  | [] => some []
  | .im (.int i) :: ds => (intsD ds).map (i :: ·)
  | _ => none
theorem ints_eq {ds : List D} : ∀ {ns : List Int}, intsD ds = some ns → ds = (ns.map V.int).map D.im := by
  induction ds with
  | nil => intro ws h; simp [intsD] at h; subst h; rfl
  | cons d ds ih =>
    intro ws h
    cases d with
    | im v =>
      cases v <;> simp [intsD] at h
      obtain ⟨us, h1, rfl⟩ := h
      rw [ih h1]; rfl
    | _ => simp [intsD] at h
def fIntsL (g : List Int → Option Int) : List D → Option D
  | [d] => match unfz d with
    | .lst xs => match intsD xs with
      | some ns => match g ns with
        | some z => some (.im (.int z))
        | none => none
      | none => none
    | _ => none
  | _ => none
theorem vs_intsL {g : List Int → Option Int} {r : List V → Hp → VK → Prop} (hr : ∀ a ns z H Q, SqL T.K H a (ns.map V.int) → g ns = some z → Q (.int z) H → r [.ref a] H Q) : VS T (fIntsL g) r := by
  intro B H ds vs z bh ro h
  unfold fIntsL at h
  split at h
  · rename_i d
    obtain ⟨v, rfl⟩ := ros_c1 ro
    have q := ros_unfz bh ro
    split at h
    · rename_i xs e
      rw [e] at q
      obtain ⟨a, ws, rfl, h1, q⟩ := ros_lst q
      split at h
      · rename_i ns hn
        split at h
        · rename_i m hm
          cases h
          rw [ints_eq hn] at q
          rw [ros_ims q] at h1
          exact .im rfl fun Q k => hr a ns m H Q (SqL.of h1) hm k
        · cases h
      · cases h
    · cases h
  · cases h
abbrev fSum := fIntsL fun ns => some ns.sum
theorem vs_sum : VS T fSum (rSum T.K) := vs_intsL fun a ns z H Q h e q => ⟨a, ns, rfl, h, by cases e; exact q⟩
theorem int_max {ns : List Int} {z : Int} (h : ns.max? = some z) : z ∈ ns ∧ ∀ y ∈ ns, y ≤ z := by
  refine ⟨List.max?_mem h, fun y hy => ?_⟩
  have := (List.max?_le_iff h).mp (Int.le_refl _) y hy
  exact this
theorem int_min {ns : List Int} {z : Int} (h : ns.min? = some z) : z ∈ ns ∧ ∀ y ∈ ns, z ≤ y := by
  refine ⟨List.min?_mem h, fun y hy => ?_⟩
  have := (List.le_min?_iff h).mp (Int.le_refl _) y hy
  exact this
abbrev fMaxL := fIntsL List.max?
theorem vs_maxL : VS T fMaxL (rMax T.K) := vs_intsL fun a ns z H Q h e q => ⟨a, ns, rfl, h, by cases ns with | nil => simp at e | cons => simp, fun m hm hy => by
  obtain ⟨h1, h2⟩ := int_max e
  have e1 := h2 m hm
  have e2 := hy z h1
  rw [show m = z by omega]; exact q⟩
abbrev fMinL := fIntsL List.min?
theorem vs_minL : VS T fMinL (rMin T.K) := vs_intsL fun a ns z H Q h e q => ⟨a, ns, rfl, h, by cases ns with | nil => simp at e | cons => simp, fun m hm hy => by
  obtain ⟨h1, h2⟩ := int_min e
  have e1 := h2 m hm
  have e2 := hy z h1
  rw [show m = z by omega]; exact q⟩
abbrev fMax := orF fMx fMaxL
abbrev fMin := orF fMn fMinL
theorem call_maxP (hc : X.calm = true) : CallR X (.builtin "max") (fun xs H Q => (∃ i j, xs = [.int i, .int j] ∧ Q (.int (if j > i then j else i)) H) ∨ rMax X.K xs H Q) := CallR.or (call_max2 hc) (cr_max hc)
theorem call_minP (hc : X.calm = true) : CallR X (.builtin "min") (fun xs H Q => (∃ i j, xs = [.int i, .int j] ∧ Q (.int (if j < i then j else i)) H) ∨ rMin X.K xs H Q) := CallR.or (call_min2 hc) (cr_min hc)
theorem vs_max : VS T fMax (fun xs H Q => (∃ i j, xs = [.int i, .int j] ∧ Q (.int (if j > i then j else i)) H) ∨ rMax T.K xs H Q) := VS.orF vs_max2 vs_maxL
theorem vs_min : VS T fMin (fun xs H Q => (∃ i j, xs = [.int i, .int j] ∧ Q (.int (if j < i then j else i)) H) ∨ rMin T.K xs H Q) := VS.orF vs_min2 vs_minL
def fInt : List D → Option D
  | [.im (.int i)] => some (.im (.int i))
  | [.im (.bl b)] => some (.im (.int (if b then 1 else 0)))
  | [.im (.str s)] => if s.length ≤ 640 then match PySem.intText? s with
    | some n => some (.im (.int n))
    | none => none else none
  | _ => none
theorem call_intP : CallR X (.type "int") (fun xs H Q => ((∃ i, xs = [.int i] ∧ Q (.int i) H) ∨ ∃ k, xs = [.bl k] ∧ Q (.int (if k then 1 else 0)) H) ∨ (∃ a n, xs = [.str a] ∧ PySem.intText? a = some n ∧ a.length ≤ 640 ∧ Q (.int n) H)) := CallR.or call_int1 call_int_str
theorem vs_int : VS T fInt (fun xs H Q => ((∃ i, xs = [.int i] ∧ Q (.int i) H) ∨ ∃ k, xs = [.bl k] ∧ Q (.int (if k then 1 else 0)) H) ∨ (∃ a n, xs = [.str a] ∧ PySem.intText? a = some n ∧ a.length ≤ 640 ∧ Q (.int n) H)) := by
  intro B H ds vs z bh ro h
  unfold fInt at h
  split at h
  · cases h; rw [ros_im1 ro]; exact .im rfl fun Q k => .inl (.inl ⟨_, rfl, k⟩)
  · cases h; rw [ros_im1 ro]; exact .im rfl fun Q k => .inl (.inr ⟨_, rfl, k⟩)
  · split at h
    · rename_i hs
      split at h
      · rename_i n hn
        cases h; rw [ros_im1 ro]; exact .im rfl fun Q k => .inr ⟨_, n, rfl, hn, hs, k⟩
      · cases h
    · cases h
  · cases h
def fStr : List D → Option D
  | [.im (.int i)] => if i.natAbs < 10 ^ 500 then some (.im (.str (toString i))) else none
  | _ => none
theorem vs_str : VS T fStr (fun xs H Q => ∃ i, xs = [.int i] ∧ i.natAbs.log2 < 1920 ∧ Q (.str (toString i)) H) := by
  intro B H ds vs z bh ro h
  unfold fStr at h
  split at h
  · rename_i i
    split at h
    · rename_i hs
      cases h; rw [ros_im1 ro]
      exact .im rfl fun Q k => ⟨_, rfl, PySem.Flt.log2_lt_of (by decide) (Nat.lt_of_lt_of_le hs (by decide +kernel)), k⟩
    · cases h
  · cases h
/-! list(..) -/
def fListS : List D → Option D
  | [d] => match unfz d with
    | .lst xs => if copyDs xs then some (.lst xs) else none
    | .tup xs => if copyDs xs then some (.lst xs) else none
    | .scr ns => some (.lst ((ns.map V.int).map D.im))
    | _ => none
  | _ => none
theorem owns_ims {B : Hp} {ws : List V} (h : ws.all imm = true) : Owns T B (ws.map D.im) ws [] := by
  induction ws with
  | nil => exact .nil
  | cons w ws ih => simp at h; exact .im h.1 (ih (by simpa using h.2))
theorem imm_ints (ns : List Int) : (ns.map V.int).all imm = true := by simp [imm]
theorem vs_listS : VS T fListS (fun xs H Q => ∃ p ys, xs = [.ref p] ∧ (SqL T.K H p ys ∨ SqT T.K H p ys) ∧ ∀ l, H l = none → Q (.ref l) (upd H l (.lst ys))) := by
  intro B H ds vs z bh ro h
  unfold fListS at h
  split at h
  · rename_i d
    obtain ⟨v, rfl⟩ := ros_c1 ro
    have q := ros_unfz bh ro
    split at h
    · rename_i xs e
      rw [e] at q
      split at h
      · rename_i hc
        cases h
        obtain ⟨a, ws, rfl, h1, q⟩ := ros_lst q
        exact .lst (copy_own q hc) fun Q k => ⟨a, ws, rfl, .inl (SqL.of h1), k⟩
      · cases h
    · rename_i xs e
      rw [e] at q
      split at h
      · rename_i hc
        cases h
        obtain ⟨a, ws, rfl, h1, q⟩ := ros_tup q
        exact .lst (copy_own q hc) fun Q k => ⟨a, ws, rfl, .inr (SqT.of (bh _ _ h1)), k⟩
      · cases h
    · rename_i ns e
      rw [e] at q
      cases h
      cases q with
      | scr h1 _ => exact .lst (owns_ims (imm_ints ns)) fun Q k => ⟨_, _, rfl, .inl h1, k⟩
    · cases h
  · cases h
/-! slices -/
def cutD (xs : List D) (lo hi : Option Int) : List D := (xs.drop (HT.sIx xs.length 0 lo)).take (HT.sIx xs.length xs.length hi - HT.sIx xs.length 0 lo)

/-! ### parts of a tree -/
/-- g finds a part; K: how the part stands in the heap -/
def Acc (T : Tab) (g : D → Option D) (P : Hp → V → V → Prop) : Prop := ∀ B S H d v x, Same S H → Same B H → Ros T B S [d] [v] → g d = some x → ∃ u, Ros T B S [x] [u] ∧ P H v u
@[simp] def subR (r : Rs) (g : D → Option D) : Rz Rs := match r.d with
  | .fz d => match g d with
    | some x => .ok (.own (if copyD x then x else .fz x))
    | none => .er
  | d => match g d with
    | some x => if copyD x then .ok (.own x) else match r with
      | .own _ => .er
      | .ro _ => .ok (.ro x)
      | .bor i _ => .ok (.bor i x)
    | none => .er
theorem subR_ok {S B H H0 : Hp} {env : En} {mss : List Cells} {σ : L2.St} {r r' : Rs} {v : V} {g : D → Option D} {P : Hp → V → V → Prop} (A : Acc T g P) (R : SRx T S B env mss σ H) (f : RF T S B H H0 mss r v) (h : subR r g = .ok r') :
    ∃ u, RF T S B H H0 mss r' u ∧ P H v u := by
  have bh := R.bs.trans R.sh
  have rd := f.read R
  unfold subR at h
  split at h
  · rename_i d e
    rw [e] at rd
    cases rd with
    | fz q _ =>
      split at h
      · rename_i x hx
        cases h
        obtain ⟨u, hu, p⟩ := A B B H d v x bh bh q hx
        refine ⟨u, ?_, p⟩
        split
        · rename_i hc; exact RF.cpy hu hc
        · exact RF.cpy (X := S) (.fz hu .nil) rfl
      · cases h
  · rename_i d hd
    split at h
    · rename_i x hx
      split at h
      · rename_i hc
        cases h
        obtain ⟨u, hu, p⟩ := A B H H _ v x (Same.refl _) bh rd hx
        exact ⟨u, RF.cpy hu hc, p⟩
      · rename_i hc
        split at h
        · cases h
        · cases h
          exact A B S H _ v x R.sh bh f hx
        · cases h
          obtain ⟨m, h1, h2⟩ := f
          obtain ⟨u, hu, p⟩ := A B _ H _ v x (Wi.le R.sh (R.ok _ m h1)) bh h2 hx
          exact ⟨u, ⟨m, h1, hu⟩, p⟩
    · cases h
end
end Tr

/-! TrE: subscripts, fields, calls that change nothing; tests. -/
namespace Tr
open PySem L2
section
variable {X : Cx} {T : Tab} {W : WX} {e a b : Expr} {es : List Expr} {m ma mb m' : ME} {ms : List ME} {t t' : TE} {pos : Pos}
theorem ep_or (h1 : PE X e (tP T W ma)) (h2 : PE X e (tP T W mb)) (h : ∀ env, m env = ma env ∨ m env = mb env) : PE X e (tP T W m) :=
  pe_of (pe_orE h1 h2) fun σ H Q ⟨S, B, env, mss, R, q⟩ => by
    rcases h env with z | z
    · rw [z] at q; exact .inl ⟨S, B, env, mss, R, q⟩
    · rw [z] at q; exact .inr ⟨S, B, env, mss, R, q⟩
/-- two operands, two rules -/
theorem m2_or {f g : List D → Option D} (ma mb : ME) (env : En) : m2 (orF f g) ma mb env = m2 f ma mb env ∨ m2 (orF f g) ma mb env = m2 g ma mb env := by
  simp only [m2]
  cases ma env with
  | ok ra =>
    cases mb env with
    | ok rb =>
      simp only [orF]
      cases f [ra.d, rb.d] with
      | some z => exact .inl rfl
      | none => exact .inr rfl
    | ex x => exact .inl rfl
    | er => exact .inl rfl
  | ex x => exact .inl rfl
  | er => exact .inl rfl

/-! ### parts -/
theorem ros_at {B S : Hp} {ds : List D} {vs : List V} (r : Ros T B S ds vs) : ∀ {j : Nat} {d : D}, ds[j]? = some d → ∃ v, vs[j]? = some v ∧ Ros T B S [d] [v] := by
  induction ds generalizing vs with
  | nil => intro j d h; simp at h
  | cons x xs ih =>
    intro j d h
    obtain ⟨v, us, rfl, h1, r'⟩ := ros_c r
    cases j with
    | zero => simp at h; subst h; exact ⟨v, rfl, h1⟩
    | succ j =>
      obtain ⟨u, h2, h3⟩ := ih r' (j := j) (d := d) (by simpa using h)
      exact ⟨u, by simpa using h2, h3⟩
theorem ros_atI {B S : Hp} {ds : List D} {vs : List V} (r : Ros T B S ds vs) {i : Int} {d : D} (h : atI ds i = some d) : ∃ v, atI vs i = some v ∧ Ros T B S [d] [v] := by
  unfold atI at h ⊢
  rw [← r.len]
  cases hj : ixN ds.length i with
  | none => rw [hj] at h; cases h
  | some j =>
    rw [hj] at h
    exact ros_at r h
def dlook : List Key → List D → Key → Option D
  | k' :: ks, x :: xs, k => if k' = k then some x else dlook ks xs k
  | _, _, _ => none
theorem ros_look {B S : Hp} {ds : List D} {vs : List V} (r : Ros T B S ds vs) : ∀ {ks : List Key} {k : Key}, ks.length = vs.length → (∀ d, dlook ks ds k = some d → ∃ v, valV (ks.zip vs) k = some v ∧ Ros T B S [d] [v]) ∧ (dlook ks ds k = none → valV (ks.zip vs) k = none) := by
  induction ds generalizing vs with
  | nil =>
    intro ks k hl
    rw [ros_nil r] at hl ⊢
    cases ks with
    | nil => exact ⟨fun d h => by simp [dlook] at h, fun _ => rfl⟩
    | cons => simp at hl
  | cons x xs ih =>
    intro ks k hl
    obtain ⟨v, us, rfl, h1, r'⟩ := ros_c r
    cases ks with
    | nil => simp at hl
    | cons k' ks =>
      have ih' := ih r' (ks := ks) (k := k) (by simpa using hl)
      rw [List.zip_cons_cons]
      by_cases hk : k' = k
      · rw [valV_pos (p := (k', v)) hk]
        refine ⟨fun d h => ?_, fun h => ?_⟩
        · simp [dlook, hk] at h; subst h; exact ⟨v, rfl, h1⟩
        · simp [dlook, hk] at h
      · rw [valV_neg (p := (k', v)) hk]
        refine ⟨fun d h => ih'.1 d (by simpa [dlook, hk] using h), fun h => ih'.2 (by simpa [dlook, hk] using h)⟩
def keyOf : D → Option Key
  | .im (.int i) => some (.inl i)
  | .im (.str s) => some (.inr s)
  | _ => none
theorem ros_key {B S : Hp} {d : D} {v : V} {k : Key} (r : Ros T B S [d] [v]) (h : keyOf d = some k) : v = kV k := by
  unfold keyOf at h
  split at h
  · cases h; cases ros_im1 r; rfl
  · cases h; cases ros_im1 r; rfl
  · cases h
def ixG (i : Int) : D → Option D
  | .lst xs => atI xs i
  | .tup xs => atI xs i
  | .scr ns => (atI ns i).map fun n => .im (.int n)
  | _ => none
theorem acc_ix (i : Int) : Acc T (ixG i) (fun H v u => ∃ p xs, v = .ref p ∧ (SqL T.K H p xs ∨ SqT T.K H p xs) ∧ atI xs i = some u) := by
  intro B S H d v x s b r h
  cases d <;> simp [ixG] at h
  · obtain ⟨a, ws, rfl, h1, q⟩ := ros_lst r
    obtain ⟨u, h2, h3⟩ := ros_atI q h
    exact ⟨u, h3, a, ws, rfl, .inl (SqL.of (s _ _ h1)), h2⟩
  · obtain ⟨a, ws, rfl, h1, q⟩ := ros_tup r
    obtain ⟨u, h2, h3⟩ := ros_atI q h
    exact ⟨u, h3, a, ws, rfl, .inr (SqT.of (b _ _ h1)), h2⟩
  · rename_i ns
    obtain ⟨n, hn, rfl⟩ := h
    cases r with
    | scr h1 _ =>
      refine ⟨.int n, .im rfl .nil, _, _, rfl, .inl (sql_mono s h1), ?_⟩
      unfold atI at hn ⊢
      rw [List.length_map]
      cases hj : ixN ns.length i with
      | none => rw [hj] at hn; cases hn
      | some j => rw [hj] at hn; simpa using hn
def dkG (k : Key) : D → Option D
  | .dct ks xs => dlook ks xs k
  | _ => none
theorem acc_dk (k : Key) : Acc T (dkG k) (fun H v u => ∃ p, v = .ref p ∧ DGet H p (kV k) (some u)) := by
  intro B S H d v x s b r h
  cases d <;> simp [dkG] at h
  obtain ⟨a, ws, rfl, h1, hl, q⟩ := ros_dct r
  obtain ⟨u, h2, h3⟩ := (ros_look q hl).1 _ h
  exact ⟨u, h3, a, rfl, .inl ⟨_, k, rd_mono s h1, rfl, h2.symm⟩⟩
def fIxS : List D → Option D
  | [.im (.str z), .im (.int i)] => if z.length ≤ 1000000 then (atI z.cps.toList i).map fun c => .im (.str ⟨#[c]⟩) else none
  | _ => none
theorem vs_ixS : VS2 T fIxS rIxS := by
  intro B H ds vs z bh ro h
  unfold fIxS at h
  split at h
  · split at h
    · rename_i hz
      simp only [Option.map_eq_some_iff] at h
      obtain ⟨c, hc, rfl⟩ := h
      rw [ros_im2 ro]
      exact .im rfl fun Q k => ⟨_, _, rfl, _, _, c, rfl, rfl, le_line hz, hc, k⟩
    · cases h
  · cases h
/-- a part by a place that is reckoned -/
@[simp] def mSub (g : D → Option (D → Option D)) (ma mb : ME) : ME := fun env => match ma env with
  | .ok ra => match mb env with
    | .ok rb => match g rb.d with
      | some f => subR ra f
      | none => .er
    | .ex x => .ex x
    | .er => .er
  | .ex x => .ex x
  | .er => .er
def gIx : D → Option (D → Option D)
  | .im (.int i) => some (ixG i)
  | _ => none
def gDk (d : D) : Option (D → Option D) := (keyOf d).map dkG
theorem ep_sub {g : D → Option (D → Option D)} {r : R2} {P : D → Hp → V → V → Prop} (hg : ∀ d f, g d = some f → Acc T f (P d)) (hr : ∀ B S H d y x u Q, Same B H → Ros T B S [d] [y] → (g d).isSome = true → P d H x u → Q u H → r x y H Q)
    (h : PE X e (tOp r (tP T W ma) (tP T W mb))) : PE X e (tP T W (mSub g ma mb)) := by
  refine pe_of h fun σ H Q ⟨S, B, env, mss, R, q⟩ => ⟨S, B, env, mss, R, ?_⟩
  cases ha : ma env with
  | ok ra =>
    intro S1 B1 H1 v g1 f1
    simp only [mSub, ha] at q
    have R1 := R.grow g1
    refine ⟨S1, B1, env, mss, R1, ?_⟩
    cases hb : mb env with
    | ok rb =>
      intro S2 B2 H2 w g2 f2
      simp only [hb] at q
      cases hf : g rb.d with
      | none => simp only [hf] at q; exact q.elim
      | some f =>
        simp only [hf] at q
        have R2' := R1.grow g2
        cases hs : subR ra f with
        | ok r' =>
          rw [hs] at q
          obtain ⟨u, hu, p⟩ := subR_ok (hg _ _ hf) R2' (f1.grow R1 g2) hs
          exact hr B2 H2 H2 _ w v u Q (R2'.bs.trans R2'.sh) (f2.read R2') (by rw [hf]; rfl) p (q S2 B2 H2 u (g1.trans g2) hu)
        | ex x => unfold subR at hs; split at hs <;> split at hs <;> first | cases hs | (split at hs <;> first | cases hs | (split at hs <;> cases hs))
        | er => rw [hs] at q; exact q.elim
    | ex x => simp only [hb] at q; exact q.grow g1
    | er => simp only [hb] at q; exact q
  | ex x => simp only [mSub, ha] at q; exact q
  | er => simp only [mSub, ha] at q; exact q
/-- xs[i], t[i], s[i], d[k] -/
@[simp] def ixKind : D → Nat
  | .im _ => 2
  | .dct _ _ => 1
  | .fz (.dct _ _) => 1
  | _ => 0
@[simp] def mIx (ma mb : ME) : ME := fun env => match ma env with
  | .ok ra => if ixKind ra.d = 2 then m2 fIxS ma mb env else if ixKind ra.d = 1 then mSub gDk ma mb env else mSub gIx ma mb env
  | _ => mSub gIx ma mb env
theorem ep_ix (hK : X.K = T.K) (hu : X.A.units + 1 < cLine) (ha : PE X a (tP T W ma)) (hb : PE X b (tP T W mb)) (hs : PlainIx b) (hs2 : NoSl b) : PE X (.Subscript a b pos) (tP T W (mIx ma mb)) := by
  have p1 : PE X (.Subscript a b pos) (tP T W (mSub gIx ma mb)) := by
    refine ep_sub (r := rIx X.K) (P := fun d H v u => ∃ i, d = .im (.int i) ∧ ∃ p xs, v = .ref p ∧ (SqL T.K H p xs ∨ SqT T.K H p xs) ∧ atI xs i = some u) (fun d f h => ?_) (fun B S H d y x u Q bh ry hg p q => ?_) (pe_ix ix_seq ha hb hs)
    · unfold gIx at h
      split at h
      · rename_i i
        cases h
        intro B S H d v x s b r h
        obtain ⟨u, h1, h2⟩ := acc_ix i B S H d v x s b r h
        exact ⟨u, h1, i, rfl, h2⟩
      · cases h
    · obtain ⟨i, rfl, p, xs, rfl, hsq, hat⟩ := p
      cases ros_im1 ry
      rcases hsq with hsq | hsq
      · exact .inl ⟨p, xs, i, u, rfl, rfl, hK ▸ hsq, hat, q⟩
      · exact .inr (.inl ⟨p, xs, i, u, rfl, rfl, hK ▸ hsq, hat, q⟩)
  have p2 : PE X (.Subscript a b pos) (tP T W (mSub gDk ma mb)) := by
    refine ep_sub (r := fun x y H Q => ∃ a v, x = .ref a ∧ DGet H a y (some v) ∧ Q v H) (P := fun d H v u => ∃ k, keyOf d = some k ∧ ∃ p, v = .ref p ∧ DGet H p (kV k) (some u)) (fun d f h => ?_) (fun B S H d y x u Q bh ry hg p q => ?_) (pe_dget hu ha hb hs2)
    · unfold gDk at h
      simp only [Option.map_eq_some_iff] at h
      obtain ⟨k, hk, rfl⟩ := h
      intro B S H d v x s b r h
      obtain ⟨u, h1, h2⟩ := acc_dk k B S H d v x s b r h
      exact ⟨u, h1, k, hk, h2⟩
    · obtain ⟨k, hk, p, rfl, hd⟩ := p
      rw [ros_key ry hk]
      exact ⟨p, u, rfl, hd, q⟩
  have p3 : PE X (.Subscript a b pos) (tP T W (m2 fIxS ma mb)) := ep_2 vs_ixS (pe_of (pe_ix ix_seq ha hb hs) fun σ H Q q => by
    show tOp (rIx X.K) _ _ σ H Q
    obtain ⟨S, B, env, mss, R, q⟩ := q
    refine ⟨S, B, env, mss, R, ?_⟩
    revert q
    cases ma env with
    | ok ra =>
      intro q S1 B1 H1 v g f
      obtain ⟨S, B, env, mss, R, q⟩ := q S1 B1 H1 v g f
      refine ⟨S, B, env, mss, R, ?_⟩
      revert q
      cases mb env with
      | ok rb => exact fun q S1 B1 H1 v g f => .inr (.inr (q S1 B1 H1 v g f))
      | ex x => exact fun q => q
      | er => exact fun q => q
    | ex x => exact fun q => q
    | er => exact fun q => q)
  refine ep_or p1 (ep_or (m := fun env => match ma env with | .ok ra => (if ixKind ra.d = 2 then m2 fIxS ma mb env else mSub gDk ma mb env) | _ => mSub gDk ma mb env) p2 p3 fun env => ?_) fun env => ?_
  · cases h : ma env with
    | ok ra =>
      show (if ixKind ra.d = 2 then m2 fIxS ma mb env else mSub gDk ma mb env) = _ ∨ (if ixKind ra.d = 2 then m2 fIxS ma mb env else mSub gDk ma mb env) = _
      by_cases hk : ixKind ra.d = 2
      · rw [if_pos hk]; exact .inr rfl
      · rw [if_neg hk]; exact .inl rfl
    | ex x => exact .inl rfl
    | er => exact .inl rfl
  · cases h : ma env with
    | ok ra =>
      by_cases hk : ixKind ra.d = 2
      · exact .inr (by simp only [mIx, h, hk, if_true])
      · by_cases hk1 : ixKind ra.d = 1
        · exact .inr (by simp only [mIx, h, hk, hk1, if_true, if_false, reduceIte, Nat.reduceEqDiff])
        · exact .inl (by simp only [mIx, h, hk, hk1, if_false])
    | ex x => exact .inl (by simp only [mIx, h])
    | er => exact .inl (by simp only [mIx, h])
end
end Tr

/-! TrF: fields, calls; expressions that may change owned data; tests. -/
namespace Tr
open PySem L2

/-! ### fields -/
theorem lookup_zip {fl : List Str} {ws : List V} {k : Nat} {f : Str} {u : V} (nd : fl.Nodup) (hf : fl[k]? = some f) (hu : ws[k]? = some u) : (fl.zip ws).lookup f = some u := by
  induction fl generalizing ws k with
  | nil => simp at hf
  | cons g fl ih =>
    cases ws with
    | nil => simp at hu
    | cons w ws =>
      rw [List.zip_cons_cons, List.lookup_cons]
      cases k with
      | zero => simp at hf hu; subst hf hu; simp
      | succ k =>
        have hf : fl[k]? = some f := by simpa using hf
        have : (f == g) = false := by
          simp only [beq_eq_false_iff_ne, ne_eq]
          intro z
          subst z
          exact (List.nodup_cons.mp nd).1 (List.mem_of_getElem? hf)
        rw [this]
        exact ih (List.nodup_cons.mp nd).2 hf (by simpa using hu)
/-- field k of class c is f -/
structure FldOk (T : Tab) (c k : Nat) (f : Str) : Prop where
  ex : ∃ C fl, T.cls[c]? = some ⟨C, fl⟩ ∧ fl[k]? = some f ∧ fl.Nodup ∧ Cls T.K C ∧ NoAttr T.K C f ∧ fl.length < 1000
def fldG (c k : Nat) : D → Option D
  | .obj c' ds => if c' = c then ds[k]? else none
  | _ => none
section
variable {X : Cx} {T : Tab} {W : WX} {e a b o : Expr} {es : List Expr} {m ma mb m' : ME} {ms : List ME} {t t' : TE} {pos apos : Pos}
theorem acc_fld {c k : Nat} {f : Str} (F : FldOk T c k f) : Acc T (fldG c k) (fun H v u => ∃ a C dx fs, v = .ref a ∧ H a = some (.ins C dx fs) ∧ Cls T.K C ∧ NoAttr T.K C f ∧ fs.lookup f = some u) := by
  intro B S H d v x s b r h
  cases d <;> simp [fldG] at h
  obtain ⟨rfl, h⟩ := h
  obtain ⟨a, C, dx, fl, ws, rfl, h1, hc, hl, q⟩ := ros_obj r
  obtain ⟨C', fl', hc', hk, nd, cl, na, _⟩ := F.ex
  rw [hc] at hc'
  cases hc'
  obtain ⟨u, h2, h3⟩ := ros_at q h
  exact ⟨u, h3, a, C, dx, _, rfl, s _ _ h1, cl, na, lookup_zip nd hk h2⟩
@[simp] def mFld (c k : Nat) (ma : ME) : ME := fun env => match ma env with
  | .ok ra => subR ra (fldG c k)
  | .ex x => .ex x
  | .er => .er
theorem subR_ex {r : Rs} {g : D → Option D} {x : Exn} : subR r g ≠ .ex x := by
  intro h
  unfold subR at h
  split at h
  · split at h <;> cases h
  · split at h
    · split at h
      · cases h
      · split at h <;> cases h
    · cases h
theorem ep_fld {c k : Nat} {f : Str} (hK : X.K = T.K) (F : FldOk T c k f) (ha : PE X o (tP T W ma)) (hb : attributeBase o f X.env (eval o X.env) = eval o X.env) : PE X (.Attribute o f pos) (tP T W (mFld c k ma)) := by
  refine pe_of (pe_fld ha hb) fun σ H Q ⟨S, B, env, mss, R, q⟩ => ⟨S, B, env, mss, R, ?_⟩
  cases ha : ma env with
  | ok ra =>
    intro S1 B1 H1 v g1 f1
    simp only [mFld, ha] at q
    have R1 := R.grow g1
    cases hs : subR ra (fldG c k) with
    | ok r' =>
      rw [hs] at q
      obtain ⟨u, hu, a, C, dx, fs, rfl, h1, h2, h3, h4⟩ := subR_ok (acc_fld F) R1 f1 hs
      exact ⟨a, C, dx, fs, u, rfl, h1, hK ▸ h2, hK ▸ h3, h4, q S1 B1 H1 u g1 hu⟩
    | ex x => exact absurd hs subR_ex
    | er => rw [hs] at q; exact q.elim
  | ex x => simp only [mFld, ha] at q; exact q
  | er => simp only [mFld, ha] at q; exact q
/-- k in d -/
def fInD (neg : Bool) : List D → Option D
  | [a, b] => match keyOf a, unfz b with
    | some k, .dct ks xs => some (.im (.bl (if neg then !(dlook ks xs k).isSome else (dlook ks xs k).isSome)))
    | _, _ => none
  | _ => none
def rInD (neg : Bool) : R2 := fun y x H Q => ∃ a o, x = .ref a ∧ DGet H a y o ∧ Q (.bl (if neg then !o.isSome else o.isSome)) H
theorem vs_inD {neg : Bool} : VS2 T (fInD neg) (rInD neg) := by
  intro B H ds vs z bh ro h
  unfold fInD at h
  split at h
  · rename_i a b
    split at h
    · rename_i k ks xs hk e
      cases h
      obtain ⟨v, u, rfl, r1, r2⟩ := ros_c2 ro
      have q := ros_unfz bh r2
      rw [e] at q
      obtain ⟨p, ws, rfl, h1, hl, q⟩ := ros_dct q
      rw [ros_key r1 hk]
      have L := ros_look q (k := k) hl
      refine .im rfl fun Q kk => ⟨_, _, rfl, p, valV (ks.zip ws) k, rfl, .inl ⟨_, k, h1, rfl, rfl⟩, ?_⟩
      have es : (valV (ks.zip ws) k).isSome = (dlook ks xs k).isSome := by
        cases e2 : dlook ks xs k with
        | none => rw [L.2 e2]; rfl
        | some d => obtain ⟨u, h, _⟩ := L.1 d e2; rw [h]; rfl
      rw [es]
      exact kk
    · cases h
  · cases h
theorem ep_in (hK : X.K = T.K) (hu : X.A.units + 1 < cLine) (ha : PE X a (tP T W ma)) (hb : PE X b (tP T W mb)) (h1 : behindInMarks .In b = false) : PE X (.Compare a [.In] [b] pos) (tP T W (m2 (orF (fInD false) fIn) ma mb)) :=
  ep_or (ep_2 (vs_inD (neg := false)) (show PE X _ (tOp (rInD false) _ _) from pe_cmp (t := tDIn (tP T W ma) (tP T W mb)) (pc_din hu ha hb) h1)) (ep_2 (hK ▸ vs_in) (pe_cmpR op_inP ha hb h1)) (m2_or ma mb)
theorem ep_ni (hK : X.K = T.K) (hu : X.A.units + 1 < cLine) (ha : PE X a (tP T W ma)) (hb : PE X b (tP T W mb)) (h1 : behindInMarks .NotIn b = false) : PE X (.Compare a [.NotIn] [b] pos) (tP T W (m2 (orF (fInD true) fNi) ma mb)) :=
  ep_or (ep_2 (vs_inD (neg := true)) (show PE X _ (tOp (rInD true) _ _) from pe_cmp (t := tDNotIn (tP T W ma) (tP T W mb)) (pc_dnotin hu ha hb) h1)) (ep_2 (hK ▸ vs_ni) (pe_cmpR op_niP ha hb h1)) (m2_or ma mb)
end

/-! ### what a def promises -/
inductive FR where
  | ok (d : D) (as : En)
  | ex (x : Exn) (as : En)
  | er
def FP (T : Tab) (S B : Hp) (vs : List V) (Q : VK) (E : XK) : FR → Prop
  | .ok d as => ∀ S' B' H' v ms mss, Gw S B S' B' → SRx T S' B' as mss (vs.map some) H' → Owns T B' [d] [v] ms → CellsOk S' H' ms → (∀ (i : Nat) (m : Cells), mss[i]? = some m → Apart m ms) → Q v H'
  | .ex x as => ∀ S' B' H' mss cls dd, Gw S B S' B' → SRx T S' B' as mss (vs.map some) H' → ExF T H' x cls dd → E cls dd H'
  | .er => False
def spF (T : Tab) (n : Nat) (mf : List Slot → FR) : Sp := fun vs H Q E => vs.length = n ∧ ∃ S B as mss, SRx T S B (as.map some) mss (vs.map some) H ∧ FP T S B vs Q E (mf as)
section
variable {X : Cx} {T : Tab} {W : WX} {e o : Expr} {es : List Expr} {ms : List ME} {pos apos p : Pos} {k n : Nat} {f : Addr} {fd : FuncData} {ps : List Str} {mf : List Slot → FR} {x : Str}
/-- f(..) whose arguments are only read -/
@[simp] def mCall (mf : List Slot → FR) (ms : List ME) : ME := fun env => match mAs ms env with
  | .ok rs => match mf (rs.map fun r => .ro r.d) with
    | .ok d _ => .ok (.own d)
    | .ex x _ => .ex x
    | .er => .er
  | .ex x => .ex x
  | .er => .er
theorem srx_ros {T : Tab} {B H : Hp} {ds : List D} {vs : List V} (bh : Same B H) (r : Ros T B H ds vs) : SRx T H B ((ds.map Slot.ro).map some) (vs.map fun _ => ([] : Cells)) (vs.map some) H := by
  have l := r.len
  refine ⟨bh, Same.refl _, by simp [l], by simp, fun i e s m h1 h2 h3 => ?_, fun i m h => ?_, fun i j m m' _ h1 h2 => ?_⟩
  · simp only [List.getElem?_map, Option.map_eq_some_iff] at h1 h2 h3
    obtain ⟨_, ⟨d, hd, rfl⟩, rfl⟩ := h1
    obtain ⟨v, hv, rfl⟩ := h2
    obtain ⟨_, _, rfl⟩ := h3
    obtain ⟨v', hv', q⟩ := ros_at r hd
    rw [hv] at hv'; cases hv'
    exact ⟨rfl, q⟩
  · simp only [List.getElem?_map, Option.map_eq_some_iff] at h
    obtain ⟨_, _, rfl⟩ := h
    exact ⟨.nil, fun _ h => nomatch h⟩
  · simp only [List.getElem?_map, Option.map_eq_some_iff] at h1
    obtain ⟨_, _, rfl⟩ := h1
    exact fun c hc => nomatch hc
/-- S and B together -/
def Jn (S B : Hp) : Hp := fun a => match S a with
  | some o => some o
  | none => B a
theorem gr_pure {S B H S' B' H' : Hp} (bs : Same B S) (sh : Same S H) (g : Gw H B S' B') (b2 : Same B' S') (s2 : Same S' H') : Gr S B H (Jn S B') B' H' := by
  have hh : Same H H' := g.s.trans s2
  have key : ∀ a u, B' a = some u → B a = some u ∨ H a = none := g.n
  refine ⟨⟨fun a u h => by unfold Jn; rw [h], g.b, fun a u h => ?_⟩, hh, fun a u h => ?_, fun a u h => ?_, fun a u h => ?_⟩
  · rcases key a u h with q | q
    · exact .inl q
    · exact .inr (sh.free q)
  · unfold Jn at h
    cases e : S a with
    | some w => rw [e] at h; exact .inl h
    | none =>
      rw [e] at h
      rcases key a u h with q | q
      · exact .inl (by rw [← e]; exact bs _ _ q)
      · exact .inr q
  · unfold Jn at h
    cases e : S a with
    | some w => rw [e] at h; cases h; exact hh _ _ (sh _ _ e)
    | none => rw [e] at h; exact s2 _ _ (b2 _ _ h)
  · unfold Jn
    cases e : S a with
    | some w =>
      rcases key a u h with q | q
      · rw [bs _ _ q] at e; cases e; rfl
      · rw [sh _ _ e] at q; cases q
    | none => exact h
theorem own_pure {S H S' B' H' : Hp} {T : Tab} {mss : List Cells} {d : D} {v : V} {ms : Cells} (sh : Same S H) (w : Same H S') (o : Owns T B' [d] [v] ms) (c : CellsOk S' H' ms) (b2 : Same B' S') : RF T (Jn S B') B' H' H mss (.own d) v := by
  refine ⟨ms, o, ⟨c.1, fun x hx => ⟨(c.2 x hx).1, ?_⟩⟩, fun x hx => w.free (c.2 x hx).2⟩
  have n2 := (c.2 x hx).2
  have n1 := w.free n2
  unfold Jn
  rw [sh.free n1]
  exact b2.free n2
theorem mAs_len {ms : List ME} {env : En} : ∀ {rs : List Rs}, mAs ms env = .ok rs → rs.length = ms.length := by
  induction ms with
  | nil => intro rs h; simp [mAs] at h; subst h; rfl
  | cons m ms ih =>
    intro rs h
    simp only [mAs] at h
    split at h
    · split at h
      · rename_i h'; cases h; simp [ih h']
      · cases h
      · cases h
    · cases h
    · cases h
theorem ep_call (F : FnOk X.prog X.w X.K X.mg X.base (L2.CX X.prog X.w) k f fd ps (spF T n mf)) (hr : Room k X.A) (hg : Gl X x) (hm : X.mg x = some (.ref f)) (hk : PySem.W.keepIn X.K (.ref f) = true) (hb : Binds X.K fd ps []) (tk : Takes X W)
    (ha : PA X (e :: es) (tPR T W ms)) (hn : ms.length = n := by rfl) (hdb : (x == ("__debug__" : Str)) = false := by decide) (he : starEach (e :: es) X.env = (false, eval e X.env) :: starEach es X.env := by rfl) (hpl : (backTo pos (starEach es X.env)).any (·.1) = false := by rfl) :
    PE X (.Call (.Name x p) (e :: es) [] pos) (tP T W (mCall mf ms)) := by
  refine pe_of (pe_callS F hr hg hm hk hb (fun σ => passAt tk σ) ha hdb he hpl) fun σ H Q ⟨S, B, env, mss, R, q⟩ => ⟨S, B, env, mss, R, ?_⟩
  cases hrs : mAs ms env with
  | ok rs =>
    intro S1 B1 H1 vs g r
    have R1 := R.grow g
    have bh := R1.bs.trans R1.sh
    have hl : vs.length = n := by
      have l1 := r.len
      have l2 : rs.length = ms.length := mAs_len hrs
      rw [← l1, List.length_map, l2, hn]
    have e1 : rs.map (fun r => Slot.ro r.d) = (rs.map Rs.d).map Slot.ro := by simp
    refine ⟨hl, H1, B1, (rs.map Rs.d).map Slot.ro, vs.map fun _ => [], srx_ros bh r, ?_⟩
    simp only [mCall, hrs, e1] at q
    cases hz : mf ((rs.map Rs.d).map Slot.ro) with
    | ok d as =>
      rw [hz] at q
      intro S' B' H' v m' mss' gw R' o c _
      have g' := gr_pure R1.bs R1.sh gw R'.bs R'.sh
      exact q _ _ _ _ (g.trans g') ((own_pure R1.sh gw.s o c R'.bs).back g.h)
    | ex x as =>
      rw [hz] at q
      intro S' B' H' mss' cls dd gw R' ef
      have g' := gr_pure R1.bs R1.sh gw R'.bs R'.sh
      exact q _ _ _ _ _ (g.trans g') ef
    | er => rw [hz] at q; exact q.elim
  | ex x => simp only [mCall, hrs] at q; exact q
  | er => simp only [mCall, hrs] at q; exact q
end
end Tr

/-! TrG: expressions that may change owned data; tests; statements. -/
namespace Tr
open PySem L2

/-! ### expressions with a state -/
inductive EO where
  | ok (r : Rs) (env : En)
  | ex (x : Exn) (env : En)
  | er
abbrev EE := En → EO
def RFe (T : Tab) (S B H : Hp) (mss : List Cells) : Rs → V → Prop
  | .own d, v => ∃ ms, Owns T B [d] [v] ms ∧ CellsOk S H ms ∧ ∀ (i : Nat) (m : Cells), mss[i]? = some m → Apart m ms
  | .ro d, v => Ros T B S [d] [v]
  | .bor i d, v => ∃ m, mss[i]? = some m ∧ Ros T B (Wi S m) [d] [v]
def PO (T : Tab) (W : WX) (S B : Hp) (σ : L2.St) (Q : VK) : EO → Prop
  | .ok r env => ∀ S' B' H' mss v, Gw S B S' B' → SRx T S' B' env mss σ H' → RFe T S' B' H' mss r v → Q v H'
  | .ex x env => ∀ S' B' H' mss cls d, Gw S B S' B' → SRx T S' B' env mss σ H' → ExF T H' x cls d → W cls d σ H'
  | .er => False
def tE (T : Tab) (W : WX) (m : EE) : TE := fun σ H Q => ∃ S B env mss, SRx T S B env mss σ H ∧ PO T W S B σ Q (m env)
@[simp] def liftE (m : ME) : EE := fun env => match m env with
  | .ok r => .ok r env
  | .ex x => .ex x env
  | .er => .er
section
variable {X : Cx} {T : Tab} {W : WX} {e a b : Expr} {es : List Expr} {m : ME} {S B H S' B' H' : Hp} {env : En} {mss : List Cells} {σ : L2.St} {r : Rs} {v : V} {pos : Pos}
theorem RF.toE (R : SRx T S B env mss σ H) (f : RF T S' B' H' H mss r v) : RFe T S' B' H' mss r v := by
  cases r with
  | own d =>
    obtain ⟨ms, h1, h2, h3⟩ := f
    refine ⟨ms, h1, h2, fun i m hm c hc x hx z => ?_⟩
    have := ((R.ok i m hm).2 c hc).1
    rw [z, h3 x hx] at this
    cases this
  | ro d => exact f
  | bor i d => exact f
theorem i_p {σ : L2.St} {H : Hp} {Q : VK} (h : tE T W (liftE m) σ H Q) : tP T W m σ H Q := by
  obtain ⟨S, B, env, mss, R, q⟩ := h
  refine ⟨S, B, env, mss, R, ?_⟩
  cases hm : m env with
  | ok r =>
    simp only [liftE, hm] at q
    exact fun S' B' H' v g f => q S' B' H' mss v g.w (R.grow g) (RF.toE R f)
  | ex x =>
    simp only [liftE, hm] at q
    exact fun S' B' H' cls d g f => q S' B' H' mss cls d g.w (R.grow g) f
  | er => simp only [liftE, hm] at q; exact q
theorem ee_p (h : PE X e (tP T W m)) : PE X e (tE T W (liftE m)) := pe_of h fun _ _ _ => i_p
/-- a name's data: a copy where it may be copied, else its own is given away -/
@[simp] def eMv (i : Nat) : EE := fun env => match env[i]? with
  | some (some (.own d)) => if copyD d then .ok (.own d) env else .ok (.own d) (env.set i none)
  | some (some (.ro d)) => .ok (if copyD d then .own d else .ro d) env
  | _ => .er
theorem SRx.drop (R : SRx T S B env mss σ H) (i : Nat) : ∃ mss', SRx T S B (env.set i none) mss' σ H ∧ (∀ j m, mss'[j]? = some m → m = [] ∨ (j ≠ i ∧ mss[j]? = some m)) := by
  by_cases hi : i < σ.length
  · refine ⟨mss.set i [], ?_, fun j m h => ?_⟩
    · have q := R.set (i := i) (e := none) (s := σ[i]) (m := []) rfl ⟨.nil, fun _ h => nomatch h⟩ (fun _ _ _ _ _ _ _ h => nomatch h)
      rwa [List.set_getElem_self] at q
    · rcases set_at h with ⟨_, rfl⟩ | h
      · exact .inl rfl
      · exact .inr h
  · have e1 : env.set i none = env := List.set_eq_of_length_le (by rw [R.l1]; omega)
    rw [e1]
    refine ⟨mss, R, fun j m h => .inr ⟨fun z => ?_, h⟩⟩
    have := (List.getElem?_eq_some_iff.mp h).1
    rw [R.l2] at this
    omega
theorem RFe.cpy {d : D} {X : Hp} (h : Ros T B X [d] [v]) (hc : copyD d = true) : RFe T S B H mss (.own d) v := ⟨[], copy_own h (copy1 hc), ⟨.nil, fun _ h => nomatch h⟩, fun _ _ _ _ _ _ h => nomatch h⟩
theorem ee_mv {i : Nat} (h : PE X e (tVar i)) : PE X e (tE T W (eMv i)) := by
  refine pe_of h fun σ H Q ⟨S, B, env, mss, R, q⟩ => ?_
  cases hd : env[i]? with
  | none => simp only [eMv, hd] at q; exact q.elim
  | some o =>
  cases o with
  | none => simp only [eMv, hd] at q; exact q.elim
  | some o =>
  cases o with
  | ro d =>
    simp only [eMv, hd] at q
    obtain ⟨v, h1, h2⟩ := R.ro hd
    refine ⟨v, h1, q S B H mss v Gw.refl R ?_⟩
    split
    · rename_i hc; exact RFe.cpy h2 hc
    · exact h2
  | own d =>
    simp only [eMv, hd] at q
    obtain ⟨v, m, h1, h2, h3, h4⟩ := R.own hd
    split at q
    · rename_i hc
      exact ⟨v, h1, q S B H mss v Gw.refl R (RFe.cpy (h3.ro (R.bs.trans R.sh) fun c hc => (h4.2 c hc).1) hc)⟩
    · obtain ⟨mss', R', hm⟩ := R.drop i
      refine ⟨v, h1, q S B H mss' v Gw.refl R' ⟨m, h3, h4, fun j m' hj => ?_⟩⟩
      rcases hm j m' hj with rfl | ⟨hne, hj⟩
      · exact fun c hc => nomatch hc
      · exact R.ap j i _ _ hne hj h2

/-! ### tests -/
inductive TO' where
  | ok (b : Bool) (env : En)
  | ex (x : Exn) (env : En)
  | er
abbrev MT := En → TO'
def PTo (T : Tab) (W : WX) (S B : Hp) (σ : L2.St) (Q : Bool → Hp → Prop) : TO' → Prop
  | .ok b env => ∀ S' B' H' mss, Gw S B S' B' → SRx T S' B' env mss σ H' → Q b H'
  | .ex x env => ∀ S' B' H' mss cls d, Gw S B S' B' → SRx T S' B' env mss σ H' → ExF T H' x cls d → W cls d σ H'
  | .er => False
def tT (T : Tab) (W : WX) (m : MT) : TT := fun σ H Q => ∃ S B env mss, SRx T S B env mss σ H ∧ PTo T W S B σ Q (m env)
theorem PTo.gw {Q : Bool → Hp → Prop} {z : TO'} (p : PTo T W S B σ Q z) (g : Gw S B S' B') : PTo T W S' B' σ Q z := by
  cases z with
  | ok b env => exact fun S2 B2 H2 mss g2 R => p S2 B2 H2 mss (g.trans g2) R
  | ex x env => exact fun S2 B2 H2 mss cls d g2 R f => p S2 B2 H2 mss cls d (g.trans g2) R f
  | er => exact p
theorem pt_of {t t' : TT} (h : PT X e t) (i : ∀ σ H Q, t' σ H Q → t σ H Q) : PT X e t' := ⟨fun pins s σ H Q I q => h.run pins s σ H Q I (i σ H Q q)⟩
/-- an expression's truth value, as a test -/
@[simp] def tBl (m : EE) : MT := fun env => match m env with
  | .ok (.own (.im (.bl b))) env => .ok b env
  | .ex x env => .ex x env
  | _ => .er
theorem own_im {ms : Cells} (h : Owns T B [.im v] [v'] ms) : v' = v := by cases h; rfl
theorem te_bl {m : EE} (h : PT X e (tB (tE T W m))) : PT X e (tT T W (tBl m)) := by
  refine pt_of h fun σ H Q ⟨S, B, env, mss, R, q⟩ => ⟨S, B, env, mss, R, ?_⟩
  cases hm : m env with
  | ok r env' =>
    intro S' B' H' mss' v g R' f
    simp only [tBl, hm] at q
    split at q
    · rename_i b env2 e
      cases e
      obtain ⟨ms, h1, _⟩ := f
      exact ⟨b, own_im h1, q S' B' H' mss' g R'⟩
    · rename_i x env2 e; cases e
    · exact q.elim
  | ex x env' => simp only [tBl, hm] at q; exact q
  | er => simp only [tBl, hm] at q; exact q
theorem ptB_of {t t' : TE} (h : PT X e (tB t)) (i : ∀ σ H Q, t' σ H Q → t σ H Q) : PT X e (tB t') := pt_of h fun σ H Q q => i σ H _ q
theorem te_cmp {f : List D → Option D} {r : R2} {ma mb : ME} (hf : VS2 T f r) (h : PT X e (tB (tOp r (tP T W ma) (tP T W mb)))) : PT X e (tT T W (tBl (liftE (m2 f ma mb)))) := te_bl (ptB_of (ptB_of h fun _ _ _ => i_2 hf) fun _ _ _ => i_p)
theorem ptB_or {ma mb m : ME} (h1 : PT X e (tB (tP T W ma))) (h2 : PT X e (tB (tP T W mb))) (h : ∀ env, m env = ma env ∨ m env = mb env) : PT X e (tB (tP T W m)) := by
  refine ⟨fun pins s σ H Q I q => ?_⟩
  obtain ⟨S, B, env, mss, R, q⟩ := q
  rcases h env with z | z
  · rw [z] at q; exact h1.run pins s σ H Q I ⟨S, B, env, mss, R, q⟩
  · rw [z] at q; exact h2.run pins s σ H Q I ⟨S, B, env, mss, R, q⟩
theorem te_in {ma mb : ME} (hK : X.K = T.K) (hu : X.A.units + 1 < cLine) (ha : PE X a (tP T W ma)) (hb : PE X b (tP T W mb)) (h1 : behindInMarks .In b = false) : PT X (.Compare a [.In] [b] pos) (tT T W (tBl (liftE (m2 (orF (fInD false) fIn) ma mb)))) :=
  te_bl (ptB_of (ptB_or (ptB_of (show PT X _ (tB (tOp (rInD false) _ _)) from pt_cmp (t := tDIn (tP T W ma) (tP T W mb)) (pc_din hu ha hb) h1) fun _ _ _ => i_2 (vs_inD (neg := false))) (ptB_of (show PT X _ (tB (tOp _ _ _)) from pt_cmpR op_inP ha hb h1) fun _ _ _ => i_2 (hK ▸ vs_in)) (m2_or ma mb)) fun _ _ _ => i_p)
theorem te_ni {ma mb : ME} (hK : X.K = T.K) (hu : X.A.units + 1 < cLine) (ha : PE X a (tP T W ma)) (hb : PE X b (tP T W mb)) (h1 : behindInMarks .NotIn b = false) : PT X (.Compare a [.NotIn] [b] pos) (tT T W (tBl (liftE (m2 (orF (fInD true) fNi) ma mb)))) :=
  te_bl (ptB_of (ptB_or (ptB_of (show PT X _ (tB (tOp (rInD true) _ _)) from pt_cmp (t := tDNotIn (tP T W ma) (tP T W mb)) (pc_dnotin hu ha hb) h1) fun _ _ _ => i_2 (vs_inD (neg := true))) (ptB_of (show PT X _ (tB (tOp _ _ _)) from pt_cmpR op_niP ha hb h1) fun _ _ _ => i_2 (hK ▸ vs_ni)) (m2_or ma mb)) fun _ _ _ => i_p)
@[simp] def tNo (m : MT) : MT := fun env => match m env with
  | .ok b env => .ok (!b) env
  | .ex x env => .ex x env
  | .er => .er
theorem te_not {m : MT} (h : PT X a (tT T W m)) : PT X (.UnaryOp .Not a pos) (tT T W (tNo m)) := by
  refine pt_of (pt_not h) fun σ H Q ⟨S, B, env, mss, R, q⟩ => ⟨S, B, env, mss, R, ?_⟩
  cases hm : m env with
  | ok b env' => simp only [tNo, hm] at q; exact q
  | ex x env' => simp only [tNo, hm] at q; exact q
  | er => simp only [tNo, hm] at q; exact q
@[simp] def tAn (m n : MT) : MT := fun env => match m env with
  | .ok true env => n env
  | .ok false env => .ok false env
  | .ex x env => .ex x env
  | .er => .er
@[simp] def tO (m n : MT) : MT := fun env => match m env with
  | .ok true env => .ok true env
  | .ok false env => n env
  | .ex x env => .ex x env
  | .er => .er
theorem tAn_ok {m n : MT} {σ : L2.St} {H : Hp} {Q : Bool → Hp → Prop} (h : tT T W (tAn m n) σ H Q) : tAnd (tT T W m) (tT T W n) σ H Q := by
  obtain ⟨S, B, env, mss, R, q⟩ := h
  refine ⟨S, B, env, mss, R, ?_⟩
  cases hm : m env with
  | ok b env' =>
    intro S' B' H' mss' g R'
    simp only [tAn, hm] at q
    cases b with
    | true =>
      show (if true = true then tT T W n σ H' Q else Q false H')
      rw [if_pos rfl]
      exact ⟨S', B', env', mss', R', q.gw g⟩
    | false =>
      show (if false = true then tT T W n σ H' Q else Q false H')
      rw [if_neg Bool.false_ne_true]
      exact q S' B' H' mss' g R'
  | ex x env' => simp only [tAn, hm] at q; exact q
  | er => simp only [tAn, hm] at q; exact q
theorem tO_ok {m n : MT} {σ : L2.St} {H : Hp} {Q : Bool → Hp → Prop} (h : tT T W (tO m n) σ H Q) : tOr (tT T W m) (tT T W n) σ H Q := by
  obtain ⟨S, B, env, mss, R, q⟩ := h
  refine ⟨S, B, env, mss, R, ?_⟩
  cases hm : m env with
  | ok b env' =>
    intro S' B' H' mss' g R'
    simp only [tO, hm] at q
    cases b with
    | true =>
      show (if true = true then Q true H' else tT T W n σ H' Q)
      rw [if_pos rfl]
      exact q S' B' H' mss' g R'
    | false =>
      show (if false = true then Q true H' else tT T W n σ H' Q)
      rw [if_neg Bool.false_ne_true]
      exact ⟨S', B', env', mss', R', q.gw g⟩
  | ex x env' => simp only [tO, hm] at q; exact q
  | er => simp only [tO, hm] at q; exact q
theorem pw_of {t t' : TT} (h : PW X e t) (i : ∀ σ H Q, t' σ H Q → t σ H Q) : PW X e t' := ⟨fun w pins s σ H Q I q => h.run w pins s σ H Q I (i σ H Q q)⟩
theorem tw_and {m n : MT} {rest : List Expr} (ha : PT X a (tT T W m)) (hb : PW X (.BoolOp .And (b :: rest) pos) (tT T W n)) : PW X (.BoolOp .And (a :: b :: rest) pos) (tT T W (tAn m n)) := pw_of (pw_and ha hb) fun _ _ _ => tAn_ok
theorem tw_or {m n : MT} {rest : List Expr} (ha : PT X a (tT T W m)) (hb : PW X (.BoolOp .Or (b :: rest) pos) (tT T W n)) : PW X (.BoolOp .Or (a :: b :: rest) pos) (tT T W (tO m n)) := pw_of (pw_or ha hb) fun _ _ _ => tO_ok
end

/-! ### statements -/
inductive SS where
  | nx (env : En)
  | rt (d : D) (env : En)
  | bk (env : En)
  | ct (env : En)
  | ex (x : Exn) (env : En)
  | er
abbrev MS := En → SS
abbrev Pins := Nat → Bool
def Pin (pin : Pins) (σ0 σ : L2.St) : Prop := σ.length = σ0.length ∧ ∀ i : Nat, pin i = true → σ[i]? = σ0[i]?
def PS' (T : Tab) (W : WX) (pin : Pins) (σ0 : L2.St) (S B : Hp) (D : Ends) : SS → Prop
  | .nx env => ∀ S' B' mss σ H, Gw S B S' B' → SRx T S' B' env mss σ H → Pin pin σ0 σ → D.nx σ H
  | .rt d env => ∀ S' B' mss σ H v ms, Gw S B S' B' → SRx T S' B' env mss σ H → Pin pin σ0 σ → Owns T B' [d] [v] ms → CellsOk S' H ms → (∀ (i : Nat) (m : Cells), mss[i]? = some m → Apart m ms) → D.rt v H
  | .bk env => ∀ S' B' mss σ H, Gw S B S' B' → SRx T S' B' env mss σ H → Pin pin σ0 σ → D.bk σ H
  | .ct env => ∀ S' B' mss σ H, Gw S B S' B' → SRx T S' B' env mss σ H → Pin pin σ0 σ → D.ct σ H
  | .ex x env => ∀ S' B' mss σ H cls d, Gw S B S' B' → SRx T S' B' env mss σ H → Pin pin σ0 σ → ExF T H x cls d → W cls d σ H
  | .er => False
def tS (T : Tab) (W : WX) (pin : Pins) (σ0 : L2.St) (m : MS) : TS := fun D σ H => ∃ S B env mss, SRx T S B env mss σ H ∧ Pin pin σ0 σ ∧ PS' T W pin σ0 S B D (m env)
section
variable {X : Cx} {T : Tab} {W : WX} {pin : Pins} {σ0 : L2.St} {e a b c : Expr} {st : Stmt} {sts rest : List Stmt} {S B H S' B' H' : Hp} {env : En} {mss : List Cells} {σ : L2.St} {D : Ends} {pos : Pos} {m n : MS}
theorem PS'.gw {z : SS} (p : PS' T W pin σ0 S B D z) (g : Gw S B S' B') : PS' T W pin σ0 S' B' D z := by
  cases z with
  | nx env => exact fun S2 B2 mss σ H g2 => p S2 B2 mss σ H (g.trans g2)
  | rt d env => exact fun S2 B2 mss σ H v ms g2 => p S2 B2 mss σ H v ms (g.trans g2)
  | bk env => exact fun S2 B2 mss σ H g2 => p S2 B2 mss σ H (g.trans g2)
  | ct env => exact fun S2 B2 mss σ H g2 => p S2 B2 mss σ H (g.trans g2)
  | ex x env => exact fun S2 B2 mss σ H cls d g2 => p S2 B2 mss σ H cls d (g.trans g2)
  | er => exact p
theorem ps_of {t t' : TS} (h : PS X st t) (i : ∀ D σ H, t' D σ H → t D σ H) : PS X st t' := ⟨fun pins s σ H D I q => h.run pins s σ H D I (i D σ H q)⟩
theorem pss_of {t t' : TS} (h : PSs X sts t) (i : ∀ D σ H, t' D σ H → t D σ H) : PSs X sts t' := ⟨fun pins s σ H D I q => h.run pins s σ H D I (i D σ H q)⟩
@[simp] def sSkip : MS := fun env => .nx env
theorem ss_nil : PSs X [] (tS T W pin σ0 sSkip) := pss_of pss_nil fun D σ H ⟨S, B, env, mss, R, hp, q⟩ => q S B mss σ H Gw.refl R hp
@[simp] def sSeq (m n : MS) : MS := fun env => match m env with
  | .nx env => n env
  | z => z
theorem ss_cons (h1 : PS X st (tS T W pin σ0 m)) (h2 : PSs X rest (tS T W pin σ0 n)) : PSs X (st :: rest) (tS T W pin σ0 (sSeq m n)) := by
  refine pss_of (pss_cons h1 h2) fun D σ H ⟨S, B, env, mss, R, hp, q⟩ => ⟨S, B, env, mss, R, hp, ?_⟩
  cases hm : m env with
  | nx env' =>
    simp only [sSeq, hm] at q
    exact fun S' B' mss' σ' H' g R' hp' => ⟨S', B', env', mss', R', hp', q.gw g⟩
  | rt d env' => simp only [sSeq, hm] at q; exact q
  | bk env' => simp only [sSeq, hm] at q; exact q
  | ct env' => simp only [sSeq, hm] at q; exact q
  | ex x env' => simp only [sSeq, hm] at q; exact q
  | er => simp only [sSeq, hm] at q; exact q
theorem ss_one (h1 : PS X st (tS T W pin σ0 m)) : PSs X [st] (tS T W pin σ0 m) := pss_of (pss_one h1) fun D σ H q => q
@[simp] def sIf (c : MT) (m n : MS) : MS := fun env => match c env with
  | .ok true env => m env
  | .ok false env => n env
  | .ex x env => .ex x env
  | .er => .er
theorem ss_if {c : Expr} {mc : MT} {x y : List Stmt} (hc : PT X c (tT T W mc)) (ha : PSs X x (tS T W pin σ0 m)) (hb : PSs X y (tS T W pin σ0 n)) : PS X (.If c x y pos) (tS T W pin σ0 (sIf mc m n)) := by
  refine ps_of (ps_if hc ha hb) fun D σ H ⟨S, B, env, mss, R, hp, q⟩ => ⟨S, B, env, mss, R, ?_⟩
  cases hm : mc env with
  | ok b env' =>
    intro S' B' H' mss' g R'
    simp only [sIf, hm] at q
    cases b with
    | true =>
      show (if true = true then tS T W pin σ0 m D σ H' else tS T W pin σ0 n D σ H')
      rw [if_pos rfl]
      exact ⟨S', B', env', mss', R', hp, q.gw g⟩
    | false =>
      show (if false = true then tS T W pin σ0 m D σ H' else tS T W pin σ0 n D σ H')
      rw [if_neg Bool.false_ne_true]
      exact ⟨S', B', env', mss', R', hp, q.gw g⟩
  | ex x env' => simp only [sIf, hm] at q; exact fun S' B' H' mss' cls d g R' f => q S' B' mss' σ H' cls d g R' hp f
  | er => simp only [sIf, hm] at q; exact q
/-- return e -/
@[simp] def sRet (m : EE) : MS := fun env => match m env with
  | .ok (.own d) env => .rt d env
  | .ex x env => .ex x env
  | _ => .er
theorem ss_ret {m : EE} (h : PE X e (tE T W m)) : PS X (.Return (some e) pos) (tS T W pin σ0 (sRet m)) := by
  refine ps_of (ps_ret h) fun D σ H ⟨S, B, env, mss, R, hp, q⟩ => ⟨S, B, env, mss, R, ?_⟩
  cases hm : m env with
  | ok r env' =>
    intro S' B' H' mss' v g R' f
    simp only [sRet, hm] at q
    split at q
    · rename_i d env2 z
      cases z
      obtain ⟨ms, h1, h2, h3⟩ := f
      exact q S' B' mss' σ H' v ms g R' hp h1 h2 h3
    · rename_i z; cases z
    · exact q.elim
  | ex x env' => simp only [sRet, hm] at q; exact fun S' B' H' mss' cls d g R' f => q S' B' mss' σ H' cls d g R' hp f
  | er => simp only [sRet, hm] at q; exact q
@[simp] def sRetN : MS := fun env => .rt (.im .non) env
theorem ss_retN : PS X (.Return none pos) (tS T W pin σ0 sRetN) := ps_of ps_retN fun D σ H ⟨S, B, env, mss, R, hp, q⟩ => q S B mss σ H .non [] Gw.refl R hp (.im rfl .nil) ⟨.nil, fun _ h => nomatch h⟩ fun _ _ _ _ _ _ h => nomatch h
@[simp] def sBk : MS := fun env => .bk env
@[simp] def sCt : MS := fun env => .ct env
theorem ss_pass : PS X (.Pass pos) (tS T W pin σ0 sSkip) := ps_of ps_pass fun D σ H ⟨S, B, env, mss, R, hp, q⟩ => q S B mss σ H Gw.refl R hp
theorem ss_break : PS X (.Break pos) (tS T W pin σ0 sBk) := ps_of ps_break fun D σ H ⟨S, B, env, mss, R, hp, q⟩ => q S B mss σ H Gw.refl R hp
theorem ss_cont : PS X (.Continue pos) (tS T W pin σ0 sCt) := ps_of ps_continue fun D σ H ⟨S, B, env, mss, R, hp, q⟩ => q S B mss σ H Gw.refl R hp
/-- e as a statement -/
@[simp] def sEx (m : EE) : MS := fun env => match m env with
  | .ok _ env => .nx env
  | .ex x env => .ex x env
  | .er => .er
theorem ss_expr {m : EE} (h : PE X e (tE T W m)) (hs : swapsWith e none pos.line X.env = pure false := by rfl) : PS X (.Expr e pos) (tS T W pin σ0 (sEx m)) := by
  refine ps_of (ps_expr h hs) fun D σ H ⟨S, B, env, mss, R, hp, q⟩ => ⟨S, B, env, mss, R, ?_⟩
  cases hm : m env with
  | ok r env' => simp only [sEx, hm] at q; exact fun S' B' H' mss' v g R' f => q S' B' mss' σ H' g R' hp
  | ex x env' => simp only [sEx, hm] at q; exact fun S' B' H' mss' cls d g R' f => q S' B' mss' σ H' cls d g R' hp f
  | er => simp only [sEx, hm] at q; exact q
/-- x = e -/
@[simp] def setS (i : Nat) (r : Rs) (env : En) : SS := match r with
  | .own d => .nx (env.set i (some (.own d)))
  | .ro d => .nx (env.set i (some (.ro d)))
  | .bor _ _ => .er
@[simp] def sSet (i : Nat) (m : EE) : MS := fun env => match m env with
  | .ok r env => setS i r env
  | .ex x env => .ex x env
  | .er => .er
theorem pin_set {i : Nat} {x : Option V} (hp : Pin pin σ0 σ) (hi : pin i = false) : Pin pin σ0 (σ.set i x) := ⟨by rw [List.length_set]; exact hp.1, fun j hj => by
  have : i ≠ j := fun z => by rw [z, hj] at hi; cases hi
  rw [List.getElem?_set_ne this]
  exact hp.2 j hj⟩
theorem setS_ok {i : Nat} {r : Rs} {v : V} (hi : pin i = false) (R : SRx T S B env mss σ H) (hp : Pin pin σ0 σ) (f : RFe T S B H mss r v) (q : PS' T W pin σ0 S B D (setS i r env)) : D.nx (σ.set i (some v)) H := by
  cases r with
  | own d =>
    obtain ⟨ms, h1, h2, h3⟩ := f
    exact q S B (mss.set i ms) _ H Gw.refl (R.set h1 h2 fun j m' _ hj => h3 j m' hj) (pin_set hp hi)
  | ro d => exact q S B (mss.set i []) _ H Gw.refl (R.set (m := []) ⟨rfl, f⟩ ⟨.nil, fun _ h => nomatch h⟩ fun _ _ _ _ _ _ _ h => nomatch h) (pin_set hp hi)
  | bor _ _ => exact q.elim
theorem ss_set {i : Nat} {x : Str} {m : EE} {pos' : Pos} (hN : X.N.Nodup) (hi : X.N[i]? = some x) (hx : Loc X.env.scope x) (hpin : pin i = false) (h : PE X e (tE T W m)) (hs : swapsWith e (some (.Name x pos')) pos.line X.env = pure false := by rfl)
    (hf : X.fn x = true ∨ X.env.scope.names.lookup x = some .local := by first | exact .inl rfl | exact .inr rfl | assumption) : PS X (.Assign [.Name x pos'] e pos) (tS T W pin σ0 (sSet i m)) := by
  refine ps_of (ps_set hN hi hx h hs hf) fun D σ H ⟨S, B, env, mss, R, hp, q⟩ => ⟨S, B, env, mss, R, ?_⟩
  cases hm : m env with
  | ok r env' => simp only [sSet, hm] at q; exact fun S' B' H' mss' v g R' f => setS_ok hpin R' hp f (q.gw g)
  | ex x env' => simp only [sSet, hm] at q; exact fun S' B' H' mss' cls d g R' f => q S' B' mss' σ H' cls d g R' hp f
  | er => simp only [sSet, hm] at q; exact q
end
end Tr

/-! TrH: rows of arguments with owned data, displays, the end of a def, loops. -/
namespace Tr
open PySem L2

inductive AK where
  | p (m : ME)
  | mv (i : Nat)
inductive AV where
  | r (r : Rs)
  | mv (i : Nat)
/-- a name's data: a copy where it may be copied, else its own is given away -/
@[simp] def smv (i : Nat) (env : En) : Option AV := match env[i]? with
  | some (some (.own d)) => some (if copyD d then .r (.own d) else .mv i)
  | some (some (.ro d)) => some (.r (if copyD d then .own d else .ro d))
  | _ => none
@[simp] def aKs : List AK → En → Rz (List AV)
  | [], _ => .ok []
  | .p m :: ks, env => match m env with
    | .ok r => match aKs ks env with
      | .ok rs => .ok (.r r :: rs)
      | .ex x => .ex x
      | .er => .er
    | .ex x => .ex x
    | .er => .er
  | .mv i :: ks, env => match smv i env with
    | some a => match aKs ks env with
      | .ok rs => .ok (a :: rs)
      | .ex x => .ex x
      | .er => .er
    | none => .er
/-- what an item gave, its own cells m -/
def RFc (T : Tab) (S B H H0 : Hp) (mss : List Cells) : Rs → V → Cells → Prop
  | .own d, v, m => Owns T B [d] [v] m ∧ CellsOk S H m ∧ ∀ c ∈ m, H0 c.1 = none
  | .ro d, v, m => m = [] ∧ Ros T B S [d] [v]
  | .bor i d, v, m => m = [] ∧ ∃ m', mss[i]? = some m' ∧ Ros T B (Wi S m') [d] [v]
inductive AFL (T : Tab) (S B H H0 : Hp) (mss : List Cells) (σ : L2.St) : List AV → List V → List Cells → Prop
  | nil : AFL T S B H H0 mss σ [] [] []
  | r {r v m avs vs css} (h : RFc T S B H H0 mss r v m) (t : AFL T S B H H0 mss σ avs vs css) (a : ∀ m' ∈ css, Apart m m') : AFL T S B H H0 mss σ (.r r :: avs) (v :: vs) (m :: css)
  | mv {i v avs vs css} (h : σ[i]? = some (some v)) (t : AFL T S B H H0 mss σ avs vs css) : AFL T S B H H0 mss σ (.mv i :: avs) (v :: vs) ([] :: css)
section
variable {X : Cx} {T : Tab} {W : WX} {e a b : Expr} {es : List Expr} {m : ME} {S B H S' B' H' H0 H1 : Hp} {env : En} {mss : List Cells} {σ : L2.St} {r : Rs} {v : V} {pos : Pos} {ks : List AK} {avs : List AV} {vs : List V} {css : List Cells}
theorem RF.toC (f : RF T S B H H0 mss r v) : ∃ m, RFc T S B H H0 mss r v m := by
  cases r with
  | own d => obtain ⟨ms, h⟩ := f; exact ⟨ms, h⟩
  | ro d => exact ⟨[], rfl, f⟩
  | bor i d => exact ⟨[], rfl, f⟩
theorem RFc.back {m : Cells} (f : RFc T S B H H1 mss r v m) (h : Same H0 H1) : RFc T S B H H0 mss r v m := by
  cases r with
  | own d => exact ⟨f.1, f.2.1, fun c hc => h.free (f.2.2 c hc)⟩
  | ro d => exact f
  | bor i d => exact f
theorem RFc.grow (R : SRx T S B env mss σ H) {m : Cells} (f : RFc T S B H H0 mss r v m) (g : Gr S B H S' B' H') : RFc T S' B' H' H0 mss r v m := by
  cases r with
  | own d => exact ⟨f.1.mono g.w.b, f.2.1.grow g.h g.f, f.2.2⟩
  | ro d => exact ⟨f.1, f.2.mono g.w.s g.w.b⟩
  | bor i d =>
    obtain ⟨h0, m, h1, h2⟩ := f
    exact ⟨h0, m, h1, h2.mono (Wi.mono g.w.s fun c hc => (((R.ok i m h1).grow g.h g.f).2 c hc).2) g.w.b⟩
theorem AFL.back (f : AFL T S B H H1 mss σ avs vs css) (h : Same H0 H1) : AFL T S B H H0 mss σ avs vs css := by
  induction f with
  | nil => exact .nil
  | r h1 _ a ih => exact .r (h1.back h) ih a
  | mv h1 _ ih => exact .mv h1 ih
/-- cells of the row are new -/
theorem AFL.new (f : AFL T S B H H0 mss σ avs vs css) : ∀ m ∈ css, CellsOk S H m ∧ ∀ c ∈ m, H0 c.1 = none := by
  induction f with
  | nil => intro m h; cases h
  | @r r v m avs vs css h1 _ a ih =>
    intro m' h
    rcases List.mem_cons.mp h with rfl | h
    · cases r with
      | own d => exact ⟨h1.2.1, h1.2.2⟩
      | ro d => rw [h1.1]; exact ⟨⟨.nil, fun _ h => nomatch h⟩, fun _ h => nomatch h⟩
      | bor i d => rw [h1.1]; exact ⟨⟨.nil, fun _ h => nomatch h⟩, fun _ h => nomatch h⟩
    · exact ih m' h
  | mv h1 _ ih =>
    intro m' h
    rcases List.mem_cons.mp h with rfl | h
    · exact ⟨⟨.nil, fun _ h => nomatch h⟩, fun _ h => nomatch h⟩
    · exact ih m' h
def PK' (T : Tab) (W : WX) (S B : Hp) (mss : List Cells) (σ : L2.St) (H : Hp) (Q : List V → Hp → Prop) : Rz (List AV) → Prop
  | .ok avs => ∀ S' B' H' vs css, Gr S B H S' B' H' → AFL T S' B' H' H mss σ avs vs css → Q vs H'
  | .ex x => ∀ S' B' H' cls d, Gr S B H S' B' H' → ExF T H' x cls d → W cls d σ H'
  | .er => False
def tPK (T : Tab) (W : WX) (ks : List AK) : TA := fun σ H Q => ∃ S B env mss, SRx T S B env mss σ H ∧ PK' T W S B mss σ H Q (aKs ks env)
theorem pk_nil' : PA X [] (tPK T W []) := pa_of pa_nil fun σ H Q ⟨S, B, env, mss, R, q⟩ => q S B H [] [] R.gr .nil
theorem pk_p (h1 : PE X e (tP T W m)) (h2 : PA X es (tPK T W ks)) (hs : starEach (e :: es) X.env = (false, eval e X.env) :: starEach es X.env := by rfl) : PA X (e :: es) (tPK T W (.p m :: ks)) := by
  refine pa_of (pa_cons h1 h2 hs) fun σ H Q ⟨S, B, env, mss, R, q⟩ => ⟨S, B, env, mss, R, ?_⟩
  cases hr : m env with
  | ok r =>
    simp only [aKs, hr] at q
    intro S1 B1 H1 v g f1
    have R1 := R.grow g
    refine ⟨S1, B1, env, mss, R1, ?_⟩
    cases hs : aKs ks env with
    | ok rs =>
      simp only [hs] at q
      intro S2 B2 H2 vs css g2 f2
      obtain ⟨m1, c1⟩ := f1.toC
      have c2 := c1.grow R1 g2
      refine q S2 B2 H2 (v :: vs) (m1 :: css) (g.trans g2) (.r c2 (f2.back g.h) fun m' hm' => ?_)
      have n := (f2.new m' hm').2
      intro c hc x hx z
      cases r with
      | own d =>
        have a1 := (c1.2.1.2 c hc).1
        rw [z, n x hx] at a1; cases a1
      | ro d => rw [c1.1] at hc; cases hc
      | bor i d => rw [c1.1] at hc; cases hc
    | ex x => simp only [hs] at q; exact fun S2 B2 H2 cls d g2 x2 => q S2 B2 H2 cls d (g.trans g2) x2
    | er => simp only [hs] at q; exact q
  | ex x => simp only [aKs, hr] at q; exact q
  | er => simp only [aKs, hr] at q; exact q
theorem rfc_cpy {d : D} {X : Hp} (h : Ros T B X [d] [v]) (hc : copyD d = true) : RFc T S B H H0 mss (.own d) v [] := ⟨copy_own h (copy1 hc), ⟨.nil, fun _ h => nomatch h⟩, fun _ h => nomatch h⟩
theorem smv_ok {i : Nat} {a : AV} (R : SRx T S B env mss σ H) (h : smv i env = some a) : ∃ v, σ[i]? = some (some v) ∧ ∀ {S' B' H' H0 : Hp} {avs vs css}, Gr S B H S' B' H' → AFL T S' B' H' H0 mss σ avs vs css → AFL T S' B' H' H0 mss σ (a :: avs) (v :: vs) ([] :: css) := by
  have nl : ∀ {css : List Cells}, ∀ m' ∈ css, Apart [] m' := fun _ _ _ h => nomatch h
  cases hd : env[i]? with
  | none => simp [smv, hd] at h
  | some o =>
  cases o with
  | none => simp [smv, hd] at h
  | some o =>
  cases o with
  | own d =>
    simp only [smv, hd, Option.some.injEq] at h
    obtain ⟨v, m, h1, h2, h3, h4⟩ := R.own hd
    refine ⟨v, h1, fun {S' B' H' H0 avs vs css} g f => ?_⟩
    split at h
    · rename_i hc
      subst h
      exact .r (rfc_cpy ((h3.ro (R.bs.trans R.sh) fun c hc => (h4.2 c hc).1).mono g.h g.w.b) hc) f nl
    · subst h
      exact .mv h1 f
  | ro d =>
    simp only [smv, hd, Option.some.injEq] at h
    obtain ⟨v, h1, h2⟩ := R.ro hd
    refine ⟨v, h1, fun {S' B' H' H0 avs vs css} g f => ?_⟩
    subst h
    split
    · rename_i hc
      exact .r (rfc_cpy (h2.mono g.w.s g.w.b) hc) f nl
    · exact .r ⟨rfl, h2.mono g.w.s g.w.b⟩ f nl
theorem pk_mv {i : Nat} (h1 : PE X e (tVar i)) (h2 : PA X es (tPK T W ks)) (hs : starEach (e :: es) X.env = (false, eval e X.env) :: starEach es X.env := by rfl) : PA X (e :: es) (tPK T W (.mv i :: ks)) := by
  refine pa_of (pa_cons h1 h2 hs) fun σ H Q ⟨S, B, env, mss, R, q⟩ => ?_
  cases hd : smv i env with
  | none => simp only [aKs, hd] at q; exact q.elim
  | some a =>
    obtain ⟨v, e1, k⟩ := smv_ok R hd
    refine ⟨v, e1, S, B, env, mss, R, ?_⟩
    simp only [aKs, hd] at q
    cases hs : aKs ks env with
    | ok rs => simp only [hs] at q; exact fun S2 B2 H2 vs css g2 f2 => q S2 B2 H2 (v :: vs) ([] :: css) g2 (k g2 f2)
    | ex x => simp only [hs] at q; exact q
    | er => simp only [hs] at q; exact q

/-! ### all of a row is taken -/
@[simp] def takeAll : List AV → En → Option (List D × En)
  | [], env => some ([], env)
  | .r (.own d) :: r, env => match takeAll r env with
    | some (ds, env) => some (d :: ds, env)
    | none => none
  | .mv i :: r, env => match env[i]? with
    | some (some (.own d)) => match takeAll r (env.set i none) with
      | some (ds, env) => some (d :: ds, env)
      | none => none
    | _ => none
  | _ :: _, _ => none
theorem owns_cons {d : D} {ds : List D} {v : V} {vs : List V} {m ms : Cells} (a : Owns T B [d] [v] m) (b : Owns T B ds vs ms) : Owns T B (d :: ds) (v :: vs) (m ++ ms) := by
  cases a with
  | im h r => cases r; exact .im h b
  | lst q r => cases r; rw [List.append_nil]; exact .lst q b
  | tup h q r => cases r; rw [List.append_nil]; exact .tup h q b
  | dct hl q r => cases r; rw [List.append_nil]; exact .dct hl q b
  | obj hc hl q r => cases r; rw [List.append_nil]; exact .obj hc hl q b
  | fz q r => cases r; exact .fz q b
theorem apart_symm {m m' : Cells} (h : Apart m m') : Apart m' m := fun c hc e he z => h e he c hc z.symm
theorem cells_append {m ms : Cells} (a : CellsOk S H m) (b : CellsOk S H ms) (h : Apart m ms) : CellsOk S H (m ++ ms) := by
  refine ⟨?_, fun c hc => ?_⟩
  · rw [List.map_append, List.nodup_append]
    refine ⟨a.1, b.1, fun x hx y hy => ?_⟩
    obtain ⟨c, hc, rfl⟩ := List.mem_map.mp hx
    obtain ⟨e, he, rfl⟩ := List.mem_map.mp hy
    exact h c hc e he
  · rcases List.mem_append.mp hc with hc | hc
    · exact a.2 c hc
    · exact b.2 c hc
theorem apart_app {m m' z : Cells} (a : Apart m z) (b : Apart m' z) : Apart (m ++ m') z := fun c hc e he => by
  rcases List.mem_append.mp hc with hc | hc
  · exact a c hc e he
  · exact b c hc e he
theorem take_ok : ∀ {avs : List AV} {vs : List V} {css : List Cells} {env env' : En} {mss : List Cells} {ds : List D}, SRx T S B env mss σ H → AFL T S B H H0 mss0 σ avs vs css → (∀ m ∈ css, ∀ (i : Nat) (m' : Cells), mss[i]? = some m' → Apart m' m) →
    takeAll avs env = some (ds, env') → ∃ mss' ms, SRx T S B env' mss' σ H ∧ Owns T B ds vs ms ∧ CellsOk S H ms ∧ (∀ (i : Nat) (m : Cells), mss'[i]? = some m → Apart m ms) ∧
      (∀ (i : Nat) (m : Cells), mss'[i]? = some m → m = [] ∨ mss[i]? = some m) ∧ (∀ z : Cells, (∀ (i : Nat) (m : Cells), mss[i]? = some m → Apart m z) → (∀ m ∈ css, Apart m z) → Apart ms z) := by
  intro avs
  induction avs with
  | nil =>
    intro vs css env env' mss ds R f ha h
    cases f
    simp [takeAll] at h
    obtain ⟨rfl, rfl⟩ := h
    exact ⟨mss, [], R, .nil, ⟨.nil, fun _ h => nomatch h⟩, (fun _ _ _ _ _ _ h => nomatch h), (fun i m h => Or.inr h), (fun _ _ _ _ h => nomatch h)⟩
  | cons av avs ih =>
    intro vs css env env' mss ds R f ha h
    cases f with
    | @r r v m _ vs css h1 t a =>
      cases r with
      | own d =>
        simp only [takeAll] at h
        cases hh : takeAll avs env with
        | none => simp [hh] at h
        | some p =>
          obtain ⟨ds1, env1⟩ := p
          simp only [hh, Option.some.injEq, Prod.mk.injEq] at h
          obtain ⟨rfl, rfl⟩ := h
          obtain ⟨mss', ms, R', o, c, p1, p2, p3⟩ := ih R t (fun m' hm => ha m' (List.mem_cons_of_mem _ hm)) hh
          have am : Apart ms m := p3 m (fun i m' hm => ha m List.mem_cons_self i m' hm) fun m' hm' => apart_symm (a m' hm')
          refine ⟨mss', m ++ ms, R', owns_cons h1.1 o, cells_append h1.2.1 c (apart_symm am), fun i m' hm => ?_, p2, fun z z1 z2 => apart_app (z2 m List.mem_cons_self) (p3 z z1 fun m' hm' => z2 m' (List.mem_cons_of_mem _ hm'))⟩
          refine apart_symm (apart_app (apart_symm ?_) (apart_symm (p1 i m' hm)))
          rcases p2 i m' hm with rfl | hm
          · exact fun _ h => nomatch h
          · exact ha m List.mem_cons_self i m' hm
      | ro d => simp [takeAll] at h
      | bor i d => simp [takeAll] at h
    | @mv i v _ vs css h1 t =>
      simp only [takeAll] at h
      cases hd : env[i]? with
      | none => simp [hd] at h
      | some o =>
      cases o with
      | none => simp [hd] at h
      | some o =>
      cases o with
      | ro d => simp [hd] at h
      | own d =>
        simp only [hd] at h
        cases hh : takeAll avs (env.set i none) with
        | none => simp [hh] at h
        | some p =>
          obtain ⟨ds1, env1⟩ := p
          simp only [hh, Option.some.injEq, Prod.mk.injEq] at h
          obtain ⟨rfl, rfl⟩ := h
          obtain ⟨v', m, e1, e2, e3, e4⟩ := R.own hd
          rw [h1] at e1; cases e1
          obtain ⟨mss1, R1, hm1⟩ := R.drop i
          obtain ⟨mss', ms, R', o, c, p1, p2, p3⟩ := ih R1 t (fun m' hm j m2 hj => by
            rcases hm1 j m2 hj with rfl | ⟨_, hj⟩
            · exact fun _ h => nomatch h
            · exact ha m' (List.mem_cons_of_mem _ hm) j m2 hj) hh
          have am : Apart ms m := p3 m (fun j m2 hj => by
            rcases hm1 j m2 hj with rfl | ⟨hne, hj⟩
            · exact fun _ h => nomatch h
            · exact R.ap j i _ _ hne hj e2) fun m' hm' => apart_symm (ha m' (List.mem_cons_of_mem _ hm') i m e2)
          refine ⟨mss', m ++ ms, R', owns_cons e3 o, cells_append e4 c (apart_symm am), fun j m2 hj => ?_, fun j m2 hj => ?_, fun z z1 z2 => apart_app (z1 i m e2) (p3 z (fun j m2 hj => ?_) fun m' hm' => z2 m' (List.mem_cons_of_mem _ hm'))⟩
          · refine apart_symm (apart_app (apart_symm ?_) (apart_symm (p1 j m2 hj)))
            rcases p2 j m2 hj with rfl | hj
            · exact fun _ h => nomatch h
            · rcases hm1 j m2 hj with rfl | ⟨hne, hj⟩
              · exact fun _ h => nomatch h
              · exact R.ap j i _ _ hne hj e2
          · rcases p2 j m2 hj with rfl | hj
            · exact .inl rfl
            · rcases hm1 j m2 hj with rfl | ⟨hne, hj⟩
              · exact .inl rfl
              · exact .inr hj
          · rcases hm1 j m2 hj with rfl | ⟨hne, hj⟩
            · exact fun _ h => nomatch h
            · exact z1 j m2 hj
/-- the row, taken -/
inductive DO where
  | ok (ds : List D) (env : En)
  | ex (x : Exn) (env : En)
  | er
@[simp] def eRow (ks : List AK) (env : En) : DO := match aKs ks env with
  | .ok avs => match takeAll avs env with
    | some (ds, env) => .ok ds env
    | none => .er
  | .ex x => .ex x env
  | .er => .er
def PD (T : Tab) (W : WX) (S B : Hp) (σ : L2.St) (Q : List V → Hp → Prop) : DO → Prop
  | .ok ds env => ∀ S' B' H' mss vs ms, Gw S B S' B' → SRx T S' B' env mss σ H' → Owns T B' ds vs ms → CellsOk S' H' ms → (∀ (i : Nat) (m : Cells), mss[i]? = some m → Apart m ms) → Q vs H'
  | .ex x env => ∀ S' B' H' mss cls d, Gw S B S' B' → SRx T S' B' env mss σ H' → ExF T H' x cls d → W cls d σ H'
  | .er => False
def tD (T : Tab) (W : WX) (m : En → DO) : TA := fun σ H Q => ∃ S B env mss, SRx T S B env mss σ H ∧ PD T W S B σ Q (m env)
theorem pd_row (h : PA X es (tPK T W ks)) : PA X es (tD T W (eRow ks)) := by
  refine pa_of h fun σ H Q ⟨S, B, env, mss, R, q⟩ => ⟨S, B, env, mss, R, ?_⟩
  cases hk : aKs ks env with
  | ok avs =>
    simp only [eRow, hk] at q
    intro S' B' H' vs css g f
    cases ht : takeAll avs env with
    | none => simp only [ht] at q; exact q.elim
    | some p =>
      obtain ⟨ds, env'⟩ := p
      simp only [ht] at q
      obtain ⟨mss', ms, R', o, c, p1, _, _⟩ := take_ok (R.grow g) f (fun m hm i m' hi c hc x hx z => by
        have a1 := ((R.ok i m' hi).2 c hc).1
        have a2 := (f.new m hm).2 x hx
        rw [z, a2] at a1; cases a1) ht
      exact q S' B' H' mss' vs ms g.w R' o c p1
  | ex x =>
    simp only [eRow, hk] at q
    exact fun S' B' H' cls d g f => q S' B' H' mss cls d g.w (R.grow g) f
  | er => simp only [eRow, hk] at q; exact q
/-- [a, b, ..] -/
@[simp] def eLst (m : En → DO) : EE := fun env => match m env with
  | .ok ds env => if ds.length ≤ 1000000 then .ok (.own (.lst ds)) env else .er
  | .ex x env => .ex x env
  | .er => .er
@[simp] def eTup (m : En → DO) : EE := fun env => match m env with
  | .ok ds env => if ds.length ≤ 1000000 then .ok (.own (.tup ds)) env else .er
  | .ex x env => .ex x env
  | .er => .er
theorem srx_new {p : Addr} {o : HO} (R : SRx T S B env mss σ H) (hp : H p = none) : SRx T S B env mss σ (upd H p o) := R.grow (Gr.own R.bs R.sh hp)
theorem apart_new {p : Addr} {o : HO} {m : Cells} (c : CellsOk S H m) (hp : H p = none) : Apart m [(p, o)] := fun x hx e he z => by
  have e1 : e = (p, o) := by simpa using he
  subst e1
  have a1 := (c.2 x hx).1
  rw [z, hp] at a1; cases a1
theorem ee_lst {m : En → DO} (h : PA X es (tD T W m)) : PE X (.List es pos) (tE T W (eLst m)) := by
  refine pe_of (pe_lst h) fun σ H Q ⟨S, B, env, mss, R, q⟩ => ⟨S, B, env, mss, R, ?_⟩
  cases hm : m env with
  | ok ds env' =>
    intro S' B' H' mss' vs ms g R' o c ap
    simp only [eLst, hm] at q
    split at q
    · rename_i hl
      refine ⟨by rw [← o.len]; exact le_line hl, fun p hp => ?_⟩
      have c2 : CellsOk S' (upd H' p (.lst vs)) ms := c.grow (Gr.own (o := .lst vs) R'.bs R'.sh hp).h fun a o h => .inl h
      refine q S' B' _ mss' _ g (srx_new R' hp) ⟨(p, .lst vs) :: (ms ++ []), .lst o .nil, ?_, fun i m hi => ?_⟩
      · rw [List.append_nil]
        exact cells_append (cells_new (B := B') R'.sh hp) c2 (apart_symm (apart_new c hp))
      · rw [List.append_nil]
        exact apart_symm (apart_app (apart_symm (apart_new (R'.ok i m hi) hp)) (apart_symm (ap i m hi)))
    · exact q.elim
  | ex x env' => simp only [eLst, hm] at q; exact q
  | er => simp only [eLst, hm] at q; exact q
theorem ee_tup {m : En → DO} {x1} (h : PA X es (tD T W m)) : PE X (.Tuple es x1 pos) (tE T W (eTup m)) := by
  refine pe_of (pe_tup h) fun σ H Q ⟨S, B, env, mss, R, q⟩ => ⟨S, B, env, mss, R, ?_⟩
  cases hm : m env with
  | ok ds env' =>
    intro S' B' H' mss' vs ms g R' o c ap
    simp only [eTup, hm] at q
    split at q
    · rename_i hl
      refine ⟨by rw [← o.len]; exact le_line hl, fun p hp => ?_⟩
      have gr := Gr.tup (o := .tup vs) R'.bs R'.sh hp
      refine q _ _ _ mss' _ (g.trans gr.w) (R'.grow gr) ⟨ms ++ [], .tup upd_same (o.mono gr.w.b) .nil, ?_, fun i m hi => ?_⟩
      · rw [List.append_nil]; exact c.grow gr.h gr.f
      · rw [List.append_nil]; exact ap i m hi
    · exact q.elim
  | ex x env' => simp only [eTup, hm] at q; exact q
  | er => simp only [eTup, hm] at q; exact q
end
end Tr

/-! TrI: the end of a def, while, for. -/
namespace Tr
open PySem L2 PySem.Spec PyProof.Rows

/-! ### a def -/
@[simp] def trunc : List Bool → En → En
  | true :: ps, e :: es => e :: trunc ps es
  | false :: ps, _ :: es => none :: trunc ps es
  | _, _ => []
def truncM : List Bool → List Cells → List Cells
  | true :: ps, e :: es => e :: truncM ps es
  | false :: ps, _ :: es => [] :: truncM ps es
  | _, _ => []
@[simp] def fin (pins : List Bool) : SS → FR
  | .nx env => .ok (.im .non) (trunc pins env)
  | .rt d env => .ok d (trunc pins env)
  | .ex x env => .ex x (trunc pins env)
  | _ => .er
def mF (n : Nat) (pins : List Bool) (body : MS) (as : List Slot) : FR := fin pins (body (as.map some ++ List.replicate (n - as.length) none))
def pinL (pins : List Bool) : Pins := fun i => pins.getD i false
section
variable {T : Tab} {S B H : Hp} {env : En} {mss : List Cells} {σ : L2.St}
theorem trunc_len : ∀ {ps : List Bool} {env : En}, ps.length ≤ env.length → (trunc ps env).length = ps.length
  | [], _, _ => rfl
  | true :: ps, e :: es, h => by simp [trunc, trunc_len (ps := ps) (env := es) (by simpa using h)]
  | false :: ps, e :: es, h => by simp [trunc, trunc_len (ps := ps) (env := es) (by simpa using h)]
  | _ :: _, [], h => by simp at h
theorem truncM_len : ∀ {ps : List Bool} {env : List Cells}, ps.length ≤ env.length → (truncM ps env).length = ps.length
  | [], _, _ => rfl
  | true :: ps, e :: es, h => by simp [truncM, truncM_len (ps := ps) (env := es) (by simpa using h)]
  | false :: ps, e :: es, h => by simp [truncM, truncM_len (ps := ps) (env := es) (by simpa using h)]
  | _ :: _, [], h => by simp at h
theorem trunc_at : ∀ {ps : List Bool} {env : En} {i : Nat} {e : Option Slot}, (trunc ps env)[i]? = some e → (ps[i]? = some true ∧ env[i]? = some e) ∨ (ps[i]? = some false ∧ e = none)
  | true :: ps, x :: es, 0, e, h => .inl ⟨rfl, by simpa [trunc] using h⟩
  | false :: ps, x :: es, 0, e, h => .inr ⟨rfl, by simp [trunc] at h; exact h.symm⟩
  | true :: ps, x :: es, i + 1, e, h => by simpa using trunc_at (ps := ps) (env := es) (i := i) (e := e) (by simpa [trunc] using h)
  | false :: ps, x :: es, i + 1, e, h => by simpa using trunc_at (ps := ps) (env := es) (i := i) (e := e) (by simpa [trunc] using h)
  | [], _, _, _, h => by simp [trunc] at h
  | true :: _, [], _, _, h => by simp [trunc] at h
  | false :: _, [], _, _, h => by simp [trunc] at h
theorem truncM_at : ∀ {ps : List Bool} {env : List Cells} {i : Nat} {e : Cells}, (truncM ps env)[i]? = some e → (ps[i]? = some true ∧ env[i]? = some e) ∨ (ps[i]? = some false ∧ e = [])
  | true :: ps, x :: es, 0, e, h => .inl ⟨rfl, by simpa [truncM] using h⟩
  | false :: ps, x :: es, 0, e, h => .inr ⟨rfl, by simp [truncM] at h; exact h⟩
  | true :: ps, x :: es, i + 1, e, h => by simpa using truncM_at (ps := ps) (env := es) (i := i) (e := e) (by simpa [truncM] using h)
  | false :: ps, x :: es, i + 1, e, h => by simpa using truncM_at (ps := ps) (env := es) (i := i) (e := e) (by simpa [truncM] using h)
  | [], _, _, _, h => by simp [truncM] at h
  | true :: _, [], _, _, h => by simp [truncM] at h
  | false :: _, [], _, _, h => by simp [truncM] at h
theorem SRx.trunc (R : SRx T S B env mss σ H) {ps : List Bool} {vs : List V} (hl : ps.length = vs.length) (hs : vs.length ≤ σ.length) (hp : ∀ i : Nat, ps[i]? = some true → σ[i]? = some (vs[i]?)) :
    SRx T S B (trunc ps env) (truncM ps mss) (vs.map some) H := by
  have h1 : ps.length ≤ env.length := by rw [hl, R.l1]; exact hs
  have h2 : ps.length ≤ mss.length := by rw [hl, R.l2]; exact hs
  refine ⟨R.bs, R.sh, by rw [trunc_len h1, List.length_map, hl], by rw [truncM_len h2, List.length_map, hl], fun i e s m g1 g2 g3 => ?_, fun i m g => ?_, fun i j m m' hij g1 g2 => ?_⟩
  · rcases trunc_at g1 with ⟨k1, g1⟩ | ⟨k1, rfl⟩
    · rcases truncM_at g3 with ⟨_, g3⟩ | ⟨k2, _⟩
      · have q := hp i k1
        refine R.at_ i e s m g1 ?_ g3
        rw [q]
        rw [List.getElem?_map] at g2
        cases hv : vs[i]? with
        | none => rw [hv] at g2; cases g2
        | some v => rw [hv] at g2; exact g2
      · rw [k1] at k2; cases k2
    · rcases truncM_at g3 with ⟨k2, _⟩ | ⟨_, rfl⟩
      · rw [k1] at k2; cases k2
      · rfl
  · rcases truncM_at g with ⟨_, g⟩ | ⟨_, rfl⟩
    · exact R.ok i m g
    · exact ⟨.nil, fun _ h => nomatch h⟩
  · rcases truncM_at g1 with ⟨_, g1⟩ | ⟨_, rfl⟩
    · rcases truncM_at g2 with ⟨_, g2⟩ | ⟨_, rfl⟩
      · exact R.ap i j m m' hij g1 g2
      · exact fun _ _ _ h => nomatch h
    · exact fun _ h => nomatch h
theorem getElem?_app {α : Type} {xs ys : List α} {i : Nat} {x : α} (h : (xs ++ ys)[i]? = some x) : xs[i]? = some x ∨ (xs.length ≤ i ∧ ys[i - xs.length]? = some x) := by
  by_cases hi : i < xs.length
  · rw [List.getElem?_append_left hi] at h; exact .inl h
  · rw [List.getElem?_append_right (by omega)] at h; exact .inr ⟨by omega, h⟩
theorem SRx.start (R : SRx T S B env mss σ H) (n : Nat) : SRx T S B (env ++ List.replicate n none) (mss ++ List.replicate n []) (σ ++ List.replicate n none) H := by
  refine ⟨R.bs, R.sh, by simp [R.l1], by simp [R.l2], fun i e s m g1 g2 g3 => ?_, fun i m g => ?_, fun i j m m' hij g1 g2 => ?_⟩
  · rcases getElem?_app g1 with g1 | ⟨k1, g1⟩
    · have hi := (List.getElem?_eq_some_iff.mp g1).1
      rw [List.getElem?_append_left (by rw [← R.l1]; exact hi)] at g2
      rw [List.getElem?_append_left (by rw [R.l2, ← R.l1]; exact hi)] at g3
      exact R.at_ i e s m g1 g2 g3
    · rw [List.getElem?_append_right (by rw [R.l2, ← R.l1]; exact k1)] at g3
      have e1 : e = none := (List.mem_replicate.mp (List.mem_of_getElem? g1)).2
      have e3 : m = [] := (List.mem_replicate.mp (List.mem_of_getElem? g3)).2
      subst e1 e3
      rfl
  · rcases getElem?_app g with g | ⟨_, g⟩
    · exact R.ok i m g
    · rw [(List.mem_replicate.mp (List.mem_of_getElem? g)).2]; exact ⟨.nil, fun _ h => nomatch h⟩
  · rcases getElem?_app g1 with g1 | ⟨_, g1⟩
    · rcases getElem?_app g2 with g2 | ⟨_, g2⟩
      · exact R.ap i j m m' hij g1 g2
      · rw [(List.mem_replicate.mp (List.mem_of_getElem? g2)).2]; exact fun _ _ _ h => nomatch h
    · rw [(List.mem_replicate.mp (List.mem_of_getElem? g1)).2]; exact fun _ h => nomatch h
end
section
variable {P : Program} {w : World} {K : PySem.W.Frag} {mg : Str → Option Value} {base : Heap}
/-- THE RULE for a def -/
theorem fn_ok {x qual : Str} {st : Stmt} {f : Addr} {fd : FuncData} {N ps : List Str} {k : Nat} {T : Tab} {body : MS} (F : Fun K x qual st f fd) (Sc : FnScope N ps (defScope st)) (pins : List Bool) (hp : pins.length = ps.length)
    (hb : ∀ (cdv : Value) (A : Around) (outer : List Env) (s : Shared) (H : Hp) (E : XK) (σ0 : L2.St), Room k (A.deeper (envOfC qual (defScope st) s.heap.objs.size f cdv)) →
      PSs (cxOf (L2.CX P w) P w K mg base N qual (defScope st) f cdv A outer s H E) (defBody st) (tS T (fun cls d _ H => E cls d H) (pinL pins) σ0 body)) :
    FnOk P w K mg base (L2.CX P w) (k + 1) f fd ps (spF T ps.length (mF N.length pins body)) := by
  refine F.okX Sc (fun vs H Q E h => h.1) fun cdv A outer s H vs Q E hr h => ⟨_, hb cdv A outer s H E (L2.start N vs) hr, ?_⟩
  obtain ⟨hl, S, B, as, mss, R, q⟩ := h
  have l1 : as.length = vs.length := by have := R.l1; simpa using this
  have lN : ps.length ≤ N.length := by have := congrArg List.length Sc.pre; rw [List.length_take] at this; omega
  have R0 := R.start (N.length - as.length)
  rw [l1] at R0
  refine ⟨S, B, as.map some ++ List.replicate (N.length - vs.length) none, mss ++ List.replicate (N.length - vs.length) [], R0, ⟨rfl, fun _ _ => rfl⟩, ?_⟩
  unfold mF at q
  rw [l1] at q
  have tr : ∀ {S' B' H' env' mss' σ'}, SRx T S' B' env' mss' σ' H' → Pin (pinL pins) (L2.start N vs) σ' → SRx T S' B' (trunc pins env') (truncM pins mss') (vs.map some) H' := fun {S' B' H' env' mss' σ'} R' hpn => by
    have hz : vs.length ≤ σ'.length := by
      rw [hpn.1]
      unfold L2.start
      rw [List.length_append, List.length_map]
      omega
    refine R'.trunc (by rw [hp, hl]) hz fun i hi => ?_
    have e1 := hpn.2 i (by unfold pinL; rw [List.getD_eq_getElem?_getD, hi]; rfl)
    have hi' : i < vs.length := by rw [hl, ← hp]; exact (List.getElem?_eq_some_iff.mp hi).1
    rw [e1]
    unfold L2.start
    rw [List.getElem?_append_left (by rw [List.length_map]; exact hi'), List.getElem?_map, List.getElem?_eq_getElem hi']
    rfl
  cases hz : body (as.map some ++ List.replicate (N.length - vs.length) none) with
  | nx env' =>
    rw [hz] at q
    exact fun S' B' mss' σ' H' g R' hpn => q S' B' H' .non [] _ g (tr R' hpn) (.im rfl .nil) ⟨.nil, fun _ h => nomatch h⟩ fun _ _ _ _ _ _ h => nomatch h
  | rt d env' =>
    rw [hz] at q
    refine fun S' B' mss' σ' H' v ms g R' hpn o c ap => q S' B' H' v ms _ g (tr R' hpn) o c fun i m hm => ?_
    rcases truncM_at hm with ⟨_, hm⟩ | ⟨_, rfl⟩
    · exact ap i m hm
    · exact fun _ h => nomatch h
  | ex x env' =>
    rw [hz] at q
    exact fun S' B' mss' σ' H' cls d g R' hpn ef => q S' B' H' _ cls d g (tr R' hpn) ef
  | bk env' => rw [hz] at q; exact q.elim
  | ct env' => rw [hz] at q; exact q.elim
  | er => rw [hz] at q; exact q.elim
end
end Tr

/-! TrJ: while and for. -/
namespace Tr
open PySem L2
section
variable {X : Cx} {T : Tab} {W : WX} {pin pin' : Pins} {σ0 : L2.St} {e a b c : Expr} {S B H S' B' H' S0 B0 : Hp} {env : En} {mss : List Cells} {σ : L2.St} {De : Ends} {pos : Pos}
/-! ### while -/
def wh (c : MT) (b : MS) : Nat → MS
  | 0, _ => .er
  | n + 1, env => match c env with
    | .ok true env => match b env with
      | .nx env => wh c b n env
      | .ct env => wh c b n env
      | .bk env => .nx env
      | z => z
    | .ok false env => .nx env
    | .ex x env => .ex x env
    | .er => .er
def FUEL : Nat := 10 ^ 60
def sWhile (c : MT) (b : MS) : MS := fun env => wh c b FUEL env
theorem ss_while {c : Expr} {body : List Stmt} {mc : MT} {m : MS} (hp : PassesOwn (model X.prog X.w) X.A X.env X.xe) (hc : PT X c (tT T W mc)) (hb : PSs X body (tS T W pin σ0 m)) : PS X (.While c body [] pos) (tS T W pin σ0 (sWhile mc m)) := by
  refine ps_of (ps_while hp hc hb) fun D σ H h => ?_
  refine ⟨fun n σ H => tS T W pin σ0 (wh mc m n) D σ H, ⟨FUEL, h⟩, fun n σ H h => ?_⟩
  obtain ⟨S, B, env, mss, R, hpn, q⟩ := h
  cases n with
  | zero => exact q.elim
  | succ n =>
    refine ⟨S, B, env, mss, R, ?_⟩
    cases hm : mc env with
    | ok t env' =>
      intro S' B' H' mss' g R'
      cases t with
      | true =>
        simp only [wh, hm] at q
        show (if true = true then _ else _)
        rw [if_pos rfl]
        refine ⟨fun σ H => tS T W pin σ0 (wh mc m n) D σ H, fun σ' H' h => ⟨n, Nat.lt_succ_self n, h⟩, S', B', env', mss', R', hpn, ?_⟩
        have q := PS'.gw q g
        cases hz : m env' with
        | nx env2 => simp only [hz] at q; exact fun S2 B2 mss2 σ2 H2 g2 R2 hp2 => ⟨S2, B2, env2, mss2, R2, hp2, PS'.gw q g2⟩
        | ct env2 => simp only [hz] at q; exact fun S2 B2 mss2 σ2 H2 g2 R2 hp2 => ⟨S2, B2, env2, mss2, R2, hp2, PS'.gw q g2⟩
        | bk env2 => simp only [hz] at q; exact q
        | rt d env2 => simp only [hz] at q; exact q
        | ex x env2 => simp only [hz] at q; exact q
        | er => simp only [hz] at q; exact q
      | false =>
        simp only [wh, hm] at q
        show (if false = true then _ else _)
        rw [if_neg Bool.false_ne_true]
        exact q S' B' mss' σ H' g R' hpn
    | ex x env' => simp only [wh, hm] at q; exact fun S' B' H' mss' cls d g R' f => q S' B' mss' σ H' cls d g R' hpn f
    | er => simp only [wh, hm] at q; exact q

/-! ### for -/
/-- J walks the items -/
def ItS (T : Tab) (S0 B0 : Hp) (J : It) (items : List D) : Prop := ∀ S B H, Same S0 S → Same B0 B → Same B S → Same S H → ∀ i : Nat,
  (∀ d, items[i]? = some d → J.go i H ∧ ∀ x H', J.yld i H x H' → ∃ S' B', Gr S B H S' B' H' ∧ Ros T B' S' [d] [x]) ∧ (items[i]? = none → J.stop i H)
abbrev TgF := D → En → Option En
/-- a target takes what was walked -/
def TgR (T : Tab) (pin : Pins) (g : TG) (f : TgF) : Prop := ∀ S B env mss σ0 σ H d v env', SRx T S B env mss σ H → Pin pin σ0 σ → Ros T B S [d] [v] → f d env = some env' →
  ∀ Q : L2.St → Hp → Prop, (∀ σ' mss', SRx T S B env' mss' σ' H → Pin pin σ0 σ' → Q σ' H) → g v σ H Q
@[simp] def loopF (f : TgF) (b : MS) : List D → MS
  | [], env => .nx env
  | d :: ds, env => match f d env with
    | some env => match b env with
      | .nx env => loopF f b ds env
      | .ct env => loopF f b ds env
      | .bk env => .nx env
      | z => z
    | none => .er
theorem for_ok {J : It} {items : List D} {g : TG} {f : TgF} {tb : TS} {m : MS} (I : ItS T S0 B0 J items) (hg : TgR T pin g f) (htb : ∀ D σ H, tS T W pin σ0 m D σ H → tb D σ H)
    (R : SRx T S B env mss σ H) (s0 : Same S0 S) (b0 : Same B0 B) (hp : Pin pin σ0 σ) (q : PS' T W pin σ0 S B De (loopF f m items env)) :
    ∃ W : Nat → Nat → L2.St → Hp → Prop, (∃ m, W 0 m σ H) ∧ ∀ i m σ H, W i m σ H →
      (J.stop i H ∧ De.nx σ H) ∨ (J.go i H ∧ ∃ N : L2.St → Hp → Prop, (∀ σ' H', N σ' H' → ∃ m', m' < m ∧ W (i + 1) m' σ' H') ∧ ∀ x H', J.yld i H x H' → g x σ H' fun σ2 H2 => tb { De with nx := N, ct := N, bk := De.nx } σ2 H2) := by
  refine ⟨fun i k σ H => k = items.length - i ∧ ∃ S B env mss, Same S0 S ∧ Same B0 B ∧ SRx T S B env mss σ H ∧ Pin pin σ0 σ ∧ PS' T W pin σ0 S B De (loopF f m (items.drop i) env), ⟨items.length, rfl, S, B, env, mss, s0, b0, R, hp, q⟩, ?_⟩
  rintro i k σ H ⟨rfl, S, B, env, mss, s0, b0, R, hp, q⟩
  obtain ⟨yes, no⟩ := I S B H s0 b0 R.bs R.sh i
  cases hi : items[i]? with
  | none =>
    have hl : items.length ≤ i := List.getElem?_eq_none_iff.mp hi
    rw [List.drop_eq_nil_of_le hl] at q
    exact .inl ⟨no hi, q S B mss σ H Gw.refl R hp⟩
  | some d =>
    have hl : i < items.length := (List.getElem?_eq_some_iff.mp hi).1
    have ed : items.drop i = d :: items.drop (i + 1) := by
      rw [List.drop_eq_getElem_cons hl]
      congr 1
      exact (List.getElem?_eq_some_iff.mp hi).2
    rw [ed] at q
    obtain ⟨go, yl⟩ := yes d hi
    refine .inr ⟨go, fun σ H => ∃ S B env mss, Same S0 S ∧ Same B0 B ∧ SRx T S B env mss σ H ∧ Pin pin σ0 σ ∧ PS' T W pin σ0 S B De (loopF f m (items.drop (i + 1)) env), fun σ' H' h => ⟨items.length - (i + 1), by omega, rfl, h⟩, fun x H' y => ?_⟩
    obtain ⟨S', B', gr, ro⟩ := yl x H' y
    have R' := R.grow gr
    simp only [loopF] at q
    cases hf : f d env with
    | none => simp only [hf] at q; exact q.elim
    | some env2 =>
      simp only [hf] at q
      refine hg S' B' env mss σ0 σ H' d x env2 R' hp ro hf _ fun σ' mss' R2 hp2 => htb _ _ _ ⟨S', B', env2, mss', R2, hp2, ?_⟩
      have q := PS'.gw q gr.w
      have s1 := s0.trans gr.w.s
      have b1 := b0.trans gr.w.b
      cases hz : m env2 with
      | nx env3 => simp only [hz] at q; exact fun S3 B3 mss3 σ3 H3 g3 R3 hp3 => ⟨S3, B3, env3, mss3, s1.trans g3.s, b1.trans g3.b, R3, hp3, PS'.gw q g3⟩
      | ct env3 => simp only [hz] at q; exact fun S3 B3 mss3 σ3 H3 g3 R3 hp3 => ⟨S3, B3, env3, mss3, s1.trans g3.s, b1.trans g3.b, R3, hp3, PS'.gw q g3⟩
      | bk env3 => simp only [hz] at q; exact q
      | rt d env3 => simp only [hz] at q; exact q
      | ex x env3 => simp only [hz] at q; exact q
      | er => simp only [hz] at q; exact q

/-! ### targets -/
@[simp] def slotD (d : D) : Slot := if copyD d then .own d else .ro d
@[simp] def tgN (j : Nat) : TgF := fun d env => some (env.set j (some (slotD d)))
theorem tg_name {j : Nat} (hj : pin j = false) : TgR T pin (gName j) (tgN j) := by
  intro S B env mss σ0 σ H d v env' R hp ro h Q q
  simp only [tgN, Option.some.injEq] at h
  subst h
  refine q _ (mss.set j []) (R.set ?_ ⟨.nil, fun _ h => nomatch h⟩ fun _ _ _ _ _ _ _ h => nomatch h) (pin_set hp hj)
  unfold slotD
  split
  · rename_i hc; exact copy_own ro (copy1 hc)
  · exact ⟨rfl, ro⟩
abbrev TgsF := List D → En → Option En
def TgsR (T : Tab) (pin : Pins) (g : TGs) (f : TgsF) : Prop := ∀ S B env mss σ0 σ H ds vs env', SRx T S B env mss σ H → Pin pin σ0 σ → Ros T B S ds vs → f ds env = some env' →
  ∀ Q : L2.St → Hp → Prop, (∀ σ' mss', SRx T S B env' mss' σ' H → Pin pin σ0 σ' → Q σ' H) → g vs σ H Q
@[simp] def tsNil : TgsF := fun ds env => match ds with
  | [] => some env
  | _ => none
@[simp] def tsCons (f : TgF) (fs : TgsF) : TgsF := fun ds env => match ds with
  | d :: ds => match f d env with
    | some env => fs ds env
    | none => none
  | [] => none
theorem tgs_nil : TgsR T pin gNil tsNil := by
  intro S B env mss σ0 σ H ds vs env' R hp ro h Q q
  cases ds with
  | nil => simp [tsNil] at h; subst h; exact ⟨ros_nil ro, q σ mss R hp⟩
  | cons => simp [tsNil] at h
theorem tgs_cons {g : TG} {gs : TGs} {f : TgF} {fs : TgsF} (h1 : TgR T pin g f) (h2 : TgsR T pin gs fs) : TgsR T pin (gCons g gs) (tsCons f fs) := by
  intro S B env mss σ0 σ H ds vs env' R hp ro h Q q
  cases ds with
  | nil => simp [tsCons] at h
  | cons d ds =>
    obtain ⟨v, us, rfl, r1, r2⟩ := ros_c ro
    simp only [tsCons] at h
    cases hf : f d env with
    | none => simp [hf] at h
    | some env2 =>
      simp only [hf] at h
      exact ⟨v, us, rfl, h1 S B env mss σ0 σ H d v env2 R hp r1 hf _ fun σ' mss' R' hp' => h2 S B env2 mss' σ0 σ' H ds us env' R' hp' r2 h Q q⟩
def cover (d : D) : D := if copyD d then d else .fz d
@[simp] def tgT (fs : TgsF) : TgF := fun d env => match d with
  | .tup xs => fs xs env
  | .fz (.tup xs) => fs (xs.map cover) env
  | _ => none
theorem ros_cover {ds : List D} {vs : List V} (r : Ros T B B ds vs) : Ros T B S (ds.map cover) vs := by
  induction ds generalizing vs with
  | nil => rw [ros_nil r]; exact .nil
  | cons d ds ih =>
    obtain ⟨v, us, rfl, h1, r⟩ := ros_c r
    rw [List.map_cons]
    refine ros_cons ?_ (ih r)
    unfold cover
    split
    · rename_i hc
      have o := copy_own h1 (copy1 hc)
      have : ∀ {ds vs}, Owns T B ds vs [] → copyDs ds = true → Ros T B S ds vs := by
        intro ds vs o
        generalize hm : ([] : Cells) = ms at o
        induction o with
        | nil => intro _; exact .nil
        | im h _ ih => intro c; simp [copyDs, copyD] at c; exact .im h (ih hm c)
        | lst => intro c; simp [copyDs, copyD] at c
        | tup h _ _ iq ir =>
          intro c; simp [copyDs, copyD] at c
          have e := List.append_eq_nil_iff.mp hm.symm
          exact .tup h (iq e.1.symm c.1) (ir e.2.symm c.2)
        | dct => intro c; simp [copyDs, copyD] at c
        | obj => intro c; simp [copyDs, copyD] at c
        | fz q _ ir => intro c; simp [copyDs, copyD] at c; exact .fz q (ir hm c)
      exact this o (copy1 hc)
    · exact .fz h1 .nil
theorem tg_tup {gs : TGs} {fs : TgsF} {n : Nat} (h : TgsR T pin gs fs) (hn : ∀ ds env env', fs ds env = some env' → ds.length = n) : TgR T pin (gTup T.K n gs) (tgT fs) := by
  intro S B env mss σ0 σ H d v env' R hp ro hf Q q
  unfold tgT at hf
  split at hf
  · rename_i xs
    obtain ⟨a, ws, rfl, h1, r1⟩ := ros_tup ro
    exact ⟨a, ws, rfl, SqT.of (R.bs.trans R.sh _ _ h1), by rw [← r1.len]; exact hn _ _ _ hf, h S B env mss σ0 σ H xs ws env' R hp r1 hf Q q⟩
  · rename_i xs
    cases ro with
    | fz r0 _ =>
      obtain ⟨a, ws, rfl, h1, r1⟩ := ros_tup r0
      have r2 := ros_cover (S := S) r1
      exact ⟨a, ws, rfl, SqT.of (R.bs.trans R.sh _ _ h1), by rw [← r1.len, ← hn _ _ _ hf, List.length_map], h S B env mss σ0 σ H _ ws env' R hp r2 hf Q q⟩
  · cases hf
end
end Tr

/-! TrK: what a for walks; the list of a name stands still while it is walked. -/
namespace Tr
open PySem L2

inductive IR where
  | ok (items : List D) (fz : List Nat)
  | ex (x : Exn)
  | er
abbrev MI := En → IR
/-- the slots fz stand still: Sf -/
inductive FzOk : Hp → List Cells → List Nat → Hp → Prop
  | nil {S mss} : FzOk S mss [] S
  | cons {S mss i m is Sf} (h : mss[i]? = some m) (r : FzOk (Wi S m) (mss.set i []) is Sf) : FzOk S mss (i :: is) Sf
def PI0 (T : Tab) (W : WX) (S B : Hp) (mss : List Cells) (σ : L2.St) (H : Hp) (R : It → Hp → Prop) : IR → Prop
  | .ok items fz => ∀ S' B' H' J, Gr S B H S' B' H' → (∀ Sf, FzOk S' mss fz Sf → Same Sf H' → ItS T Sf B' J items) → R J H'
  | .ex x => ∀ S' B' H' cls d, Gr S B H S' B' H' → ExF T H' x cls d → W cls d σ H'
  | .er => False
def tI (T : Tab) (W : WX) (m : MI) : TI := fun σ H R => ∃ S B env mss, SRx T S B env mss σ H ∧ PI0 T W S B mss σ H R (m env)
/-- one slot behind a loop over slot i -/
@[simp] def th1 (pin : Pins) (i k : Nat) (e f : Option Slot) : Option Slot := if k = i then e else match f with
  | some (.own d) => some (.own d)
  | some (.ro _) => if pin k then (match e with | some (.ro d) => some (.ro d) | _ => none) else none
  | none => none
@[simp] def thGo (pin : Pins) (i : Nat) : Nat → En → En → En
  | k, e :: es, f :: fs => th1 pin i k e f :: thGo pin i (k + 1) es fs
  | _, _, _ => []
@[simp] def thS (pin : Pins) (i : Nat) (env : En) : SS → SS
  | .nx f => .nx (thGo pin i 0 env f)
  | .rt d f => .rt d (thGo pin i 0 env f)
  | .bk f => .bk (thGo pin i 0 env f)
  | .ct f => .ct (thGo pin i 0 env f)
  | .ex x f => .ex x (thGo pin i 0 env f)
  | .er => .er
@[simp] def frL (pin pin' : Pins) (k : MS) : List Nat → MS
  | [], env => k env
  | i :: is, env => match env[i]? with
    | some (some (.own d)) => if pin' i = true then thS pin i env (frL pin pin' k is (env.set i (some (.ro d)))) else .er
    | _ => .er
@[simp] def sFor (pin pin' : Pins) (mi : MI) (f : TgF) (m : MS) : MS := fun env => match mi env with
  | .ok items fz => frL pin pin' (loopF f m items) fz env
  | .ex x => .ex x env
  | .er => .er
section
variable {X : Cx} {T : Tab} {W : WX} {pin pin' : Pins} {σ0 : L2.St} {e a b c : Expr} {S B H S' B' H' S0 B0 S2 B2 H2 : Hp} {env env2 : En} {mss mss2 : List Cells} {σ σ2 : L2.St} {De : Ends} {pos : Pos}
theorem thGo_at {i : Nat} : ∀ {k : Nat} {es fs : En} {j : Nat} {x : Option Slot}, (thGo pin i k es fs)[j]? = some x → ∃ e f, es[j]? = some e ∧ fs[j]? = some f ∧ x = th1 pin i (k + j) e f
  | k, e :: es, f :: fs, 0, x, h => ⟨e, f, rfl, rfl, by simpa [thGo] using h.symm⟩
  | k, e :: es, f :: fs, j + 1, x, h => by
    obtain ⟨e', f', h1, h2, h3⟩ := thGo_at (k := k + 1) (es := es) (fs := fs) (j := j) (x := x) (by simpa [thGo] using h)
    exact ⟨e', f', by simpa using h1, by simpa using h2, by rw [h3]; congr 1; omega⟩
  | _, [], _, _, _, h => by simp [thGo] at h
  | _, _ :: _, [], _, _, h => by simp [thGo] at h
theorem thGo_len {i : Nat} : ∀ {k : Nat} {es fs : En}, es.length = fs.length → (thGo pin i k es fs).length = fs.length
  | k, e :: es, f :: fs, h => by simp [thGo, thGo_len (i := i) (k := k + 1) (es := es) (fs := fs) (by simpa using h)]
  | _, [], [], _ => rfl
  | _, [], _ :: _, h => by simp at h
  | _, _ :: _, [], h => by simp at h
/-- without the cells m -/
def Mi (S : Hp) (m : Cells) : Hp := fun a => if (m.map (·.1)).contains a = true then none else S a
theorem Mi.out {S : Hp} {m : Cells} {a : Addr} (h : ∀ c ∈ m, c.1 ≠ a) : Mi S m a = S a := by
  unfold Mi
  rw [if_neg]
  intro hc
  rw [List.contains_iff_mem] at hc
  obtain ⟨c', hc', e'⟩ := List.mem_map.mp hc
  exact h c' hc' e'
theorem Mi.in_ {S : Hp} {m : Cells} {c : Addr × HO} (h : c ∈ m) : Mi S m c.1 = none := by
  unfold Mi
  rw [if_pos]
  rw [List.contains_iff_mem]
  exact List.mem_map.mpr ⟨c, h, rfl⟩
theorem Mi.le {S : Hp} {m : Cells} : Same (Mi S m) S := fun a o h => by
  unfold Mi at h
  split at h
  · cases h
  · exact h
theorem Mi.none {S : Hp} {m : Cells} {a : Addr} (h : S a = none) : Mi S m a = Option.none := by
  unfold Mi
  split
  · rfl
  · exact h
theorem thaw {i : Nat} {d : D} {v : V} {m : Cells} (R : SRx T S B env mss σ H) (he : env[i]? = some (some (.own d))) (hv : σ[i]? = some (some v)) (hm : mss[i]? = some m) (hp : Pin pin' σ0 σ) (hi : pin' i = true) (hpp : ∀ k, pin k = true → pin' k = true)
    (g : Gw (Wi S m) B S2 B2) (R2 : SRx T S2 B2 env2 mss2 σ2 H2) (hp2 : Pin pin' σ0 σ2) :
    Gw S B (Mi S2 m) B2 ∧ SRx T (Mi S2 m) B2 (thGo pin i 0 env env2) (mss2.set i m) σ2 H2 := by
  obtain ⟨v', m', e1, e2, own, okm⟩ := R.own he
  rw [hv] at e1; cases e1
  rw [hm] at e2; cases e2
  have inS2 : ∀ c ∈ m, S2 c.1 = some c.2 := fun c hc => g.s _ _ (Wi.at_ okm c hc)
  have notm : ∀ a o, S a = some o → ∀ c ∈ m, c.1 ≠ a := fun a o h c hc z => by rw [← z, (okm.2 c hc).2] at h; cases h
  have bm : ∀ a o, B2 a = some o → ∀ c ∈ m, c.1 ≠ a := fun a o h c hc z => by
    rcases g.n a o h with q | q
    · exact notm a o (R.bs _ _ q) c hc z
    · rw [← z, Wi.at_ okm c hc] at q; cases q
  have bs3 : Same B2 (Mi S2 m) := fun a o h => by rw [Mi.out (bm a o h)]; exact R2.bs _ _ h
  refine ⟨⟨fun a o h => ?_, g.b, fun a o h => ?_⟩, ⟨bs3, Mi.le.trans R2.sh, ?_, ?_, fun k x s mk h1 h2 h3 => ?_, fun k mk h => ?_, fun j k mj mk hjk h1 h2 => ?_⟩⟩
  · rw [Mi.out (notm a o h)]; exact g.s _ _ (Wi.same _ _ h)
  · rcases g.n a o h with q | q
    · exact .inl q
    · exact .inr (Wi.same.free q)
  · rw [thGo_len (by rw [R.l1, R2.l1, hp.1, hp2.1]), R2.l1]
  · rw [List.length_set, R2.l2]
  · obtain ⟨x0, f, g1, g2, rfl⟩ := thGo_at h1
    rw [Nat.zero_add] at *
    rcases set_at h3 with ⟨rfl, rfl⟩ | ⟨hne, h3⟩
    · rw [he] at g1; cases g1
      simp only [th1, if_pos]
      have : s = some v := by
        have q1 := hp2.2 k hi
        have q2 := hp.2 k hi
        rw [h2, ← q2, hv] at q1
        cases q1; rfl
      subst this
      exact own.mono g.b
    · simp only [th1, if_neg hne]
      have q := R2.at_ k f s mk g2 h2 h3
      cases f with
      | none => exact q
      | some f =>
        cases s with
        | none => cases f <;> exact q.elim
        | some u =>
          cases f with
          | own d => exact q
          | ro d =>
            obtain ⟨rfl, _⟩ := q
            by_cases hk : pin k = true
            · simp only [hk, if_true]
              cases x0 with
              | none => rfl
              | some x0 =>
                cases x0 with
                | own d0 => rfl
                | ro d0 =>
                  obtain ⟨v0, w1, w2⟩ := R.ro g1
                  have q1 := hp2.2 k (hpp k hk)
                  have q2 := hp.2 k (hpp k hk)
                  rw [h2, ← q2, w1] at q1
                  cases q1
                  exact ⟨rfl, w2.mono (fun a o h => by rw [Mi.out (notm a o h)]; exact g.s _ _ (Wi.same _ _ h)) g.b⟩
            · simp only [hk, if_false]
              rfl
  · rcases set_at h with ⟨rfl, rfl⟩ | ⟨_, h⟩
    · exact ⟨okm.1, fun c hc => ⟨R2.sh _ _ (inS2 c hc), Mi.in_ hc⟩⟩
    · have := R2.ok k mk h
      exact ⟨this.1, fun c hc => ⟨(this.2 c hc).1, Mi.none (this.2 c hc).2⟩⟩
  · have key : ∀ k mk, mss2[k]? = some mk → Apart m mk := fun k mk h c hc x hx z => by
      have a1 := inS2 c hc
      rw [z, ((R2.ok k mk h).2 x hx).2] at a1; cases a1
    rcases set_at h1 with ⟨rfl, rfl⟩ | ⟨hj, g1⟩
    · rcases set_at h2 with ⟨z, _⟩ | ⟨_, g2⟩
      · exact absurd z.symm hjk
      · exact key k mk g2
    · rcases set_at h2 with ⟨rfl, rfl⟩ | ⟨_, g2⟩
      · exact apart_symm (key j mj g1)
      · exact R2.ap j k mj mk hjk g1 g2
theorem thaw_ps {p0 : Pins} {i : Nat} {d : D} {v : V} {m : Cells} {z : SS} (R : SRx T S B env mss σ H) (he : env[i]? = some (some (.own d))) (hv : σ[i]? = some (some v)) (hm : mss[i]? = some m) (hp : Pin pin' σ0 σ) (hi : pin' i = true) (hpp : ∀ k, pin k = true → pin' k = true)
    (h0 : ∀ k, p0 k = true → pin' k = true) (q : PS' T W p0 σ0 S B De (thS pin i env z)) : PS' T W pin' σ0 (Wi S m) B De z := by
  have pp : ∀ {σ2}, Pin pin' σ0 σ2 → Pin p0 σ0 σ2 := fun h => ⟨h.1, fun k hk => h.2 k (h0 k hk)⟩
  cases z with
  | nx f => exact fun S2 B2 mss2 σ2 H2 g R2 hp2 => let ⟨a, b⟩ := thaw R he hv hm hp hi hpp g R2 hp2; q _ _ _ _ _ a b (pp hp2)
  | bk f => exact fun S2 B2 mss2 σ2 H2 g R2 hp2 => let ⟨a, b⟩ := thaw R he hv hm hp hi hpp g R2 hp2; q _ _ _ _ _ a b (pp hp2)
  | ct f => exact fun S2 B2 mss2 σ2 H2 g R2 hp2 => let ⟨a, b⟩ := thaw R he hv hm hp hi hpp g R2 hp2; q _ _ _ _ _ a b (pp hp2)
  | ex x f => exact fun S2 B2 mss2 σ2 H2 cls d g R2 hp2 ef => let ⟨a, b⟩ := thaw R he hv hm hp hi hpp g R2 hp2; q _ _ _ _ _ _ _ a b (pp hp2) ef
  | rt d f =>
    intro S2 B2 mss2 σ2 H2 v2 ms g R2 hp2 o c ap
    obtain ⟨x, y⟩ := thaw R he hv hm hp hi hpp g R2 hp2
    refine q _ _ _ _ _ _ _ x y (pp hp2) o ⟨c.1, fun z hz => ⟨(c.2 z hz).1, Mi.none (c.2 z hz).2⟩⟩ fun j mj hj => ?_
    rcases set_at hj with ⟨rfl, rfl⟩ | ⟨_, hj⟩
    · intro c' hc' e' he' z
      obtain ⟨_, m', _, e2, _, okm⟩ := R.own he
      rw [hm] at e2; cases e2
      have a1 := g.s _ _ (Wi.at_ okm c' hc')
      rw [z, (c.2 e' he').2] at a1; cases a1
    · exact ap j mj hj
  | er => exact q
theorem freeze {i : Nat} {d : D} {m : Cells} (R : SRx T S B env mss σ H) (he : env[i]? = some (some (.own d))) (hm : mss[i]? = some m) : SRx T (Wi S m) B (env.set i (some (.ro d))) (mss.set i []) σ H := by
  obtain ⟨v, m', e1, e2, own, okm⟩ := R.own he
  rw [hm] at e2; cases e2
  have R1 : ∀ k mk, k ≠ i → mss[k]? = some mk → ∀ c ∈ mk, Wi S m c.1 = none := fun k mk hk h c hc => by
    unfold Wi
    rw [((R.ok k mk h).2 c hc).2]
    cases hl : m.lookup c.1 with
    | none => rfl
    | some o => exact absurd rfl (R.ap k i mk m hk h hm c hc (c.1, o) (mem_of_lookup' hl))
  refine ⟨R.bs.trans Wi.same, Wi.le R.sh okm, by rw [List.length_set, R.l1], by rw [List.length_set, R.l2], fun k x s mk h1 h2 h3 => ?_, fun k mk h => ?_, fun j k mj mk hjk h1 h2 => ?_⟩
  · rcases set_at h1 with ⟨rfl, rfl⟩ | ⟨hk, g1⟩
    · rcases set_at h3 with ⟨_, rfl⟩ | ⟨hk, _⟩
      · rw [e1] at h2; cases h2
        exact ⟨rfl, own.ro (R.bs.trans Wi.same) (Wi.at_ okm)⟩
      · exact absurd rfl hk
    · rcases set_at h3 with ⟨z, _⟩ | ⟨_, g3⟩
      · exact absurd z hk
      · exact (R.at_ k x s mk g1 h2 g3).mono Wi.same (Same.refl _)
  · rcases set_at h with ⟨_, rfl⟩ | ⟨hk, h⟩
    · exact ⟨.nil, fun _ h => nomatch h⟩
    · exact ⟨(R.ok k mk h).1, fun c hc => ⟨((R.ok k mk h).2 c hc).1, R1 k mk hk h c hc⟩⟩
  · rcases set_at h1 with ⟨_, rfl⟩ | ⟨_, g1⟩
    · exact fun _ h => nomatch h
    · rcases set_at h2 with ⟨_, rfl⟩ | ⟨_, g2⟩
      · exact fun _ _ _ h => nomatch h
      · exact R.ap j k mj mk hjk g1 g2
theorem PS'.pins {z : SS} (hpp : ∀ k, pin k = true → pin' k = true) (q : PS' T W pin σ0 S B De z) : PS' T W pin' σ0 S B De z := by
  have pp : ∀ {σ2}, Pin pin' σ0 σ2 → Pin pin σ0 σ2 := fun h => ⟨h.1, fun k hk => h.2 k (hpp k hk)⟩
  cases z with
  | nx f => exact fun S2 B2 mss2 σ2 H2 g R2 hp2 => q _ _ _ _ _ g R2 (pp hp2)
  | bk f => exact fun S2 B2 mss2 σ2 H2 g R2 hp2 => q _ _ _ _ _ g R2 (pp hp2)
  | ct f => exact fun S2 B2 mss2 σ2 H2 g R2 hp2 => q _ _ _ _ _ g R2 (pp hp2)
  | ex x f => exact fun S2 B2 mss2 σ2 H2 cls d g R2 hp2 => q _ _ _ _ _ _ _ g R2 (pp hp2)
  | rt d f => exact fun S2 B2 mss2 σ2 H2 v ms g R2 hp2 => q _ _ _ _ _ _ _ g R2 (pp hp2)
  | er => exact q
theorem frL_ok {k : MS} {fz : List Nat} : ∀ {p0 : Pins} {S Sf : Hp} {env : En} {mss : List Cells}, SRx T S B env mss σ H → Pin pin' σ0 σ → (∀ k, pin k = true → pin' k = true) → (∀ k, p0 k = true → pin' k = true) → FzOk S mss fz Sf →
    PS' T W p0 σ0 S B De (frL pin pin' k fz env) → ∃ env' mss', SRx T Sf B env' mss' σ H ∧ PS' T W pin' σ0 Sf B De (k env') := by
  induction fz with
  | nil =>
    intro p0 S Sf env mss R hp hpp h0 fz q
    cases fz
    exact ⟨env, mss, R, PS'.pins h0 q⟩
  | cons i is ih =>
    intro p0 S Sf env mss R hp hpp h0 fz q
    cases fz with
    | @cons _ _ _ m _ _ hm r =>
      simp only [frL] at q
      cases hd : env[i]? with
      | none => simp only [hd] at q; exact q.elim
      | some o =>
      cases o with
      | none => simp only [hd] at q; exact q.elim
      | some o =>
      cases o with
      | ro d => simp only [hd] at q; exact q.elim
      | own d =>
        simp only [hd] at q
        split at q
        · rename_i hpi
          obtain ⟨v, m', e1, e2, _, _⟩ := R.own hd
          rw [hm] at e2; cases e2
          exact ih (freeze R hd hm) hp hpp (fun _ h => h) r (thaw_ps R hd e1 hm hp hpi hpp h0 q)
        · exact q.elim
theorem frz_of {k : MS} {fz : List Nat} : ∀ {p0 : Pins} {S : Hp} {env : En} {mss : List Cells}, SRx T S B env mss σ H → PS' T W p0 σ0 S B De (frL pin pin' k fz env) → ∃ Sf, FzOk S mss fz Sf := by
  induction fz with
  | nil => intro p0 S env mss R q; exact ⟨S, .nil⟩
  | cons i is ih =>
    intro p0 S env mss R q
    simp only [frL] at q
    cases hd : env[i]? with
    | none => simp only [hd] at q; exact q.elim
    | some o =>
    cases o with
    | none => simp only [hd] at q; exact q.elim
    | some o =>
    cases o with
    | ro d => simp only [hd] at q; exact q.elim
    | own d =>
      simp only [hd] at q
      split at q
      · rename_i hpi
        obtain ⟨v, m', e1, e2, _, _⟩ := R.own hd
        cases hz : frL pin pin' k is (env.set i (some (.ro d))) with
        | er => rw [hz] at q; exact q.elim
        | _ =>
          have hne : frL pin pin' k is (env.set i (some (.ro d))) ≠ .er := by rw [hz]; intro h; cases h
          have : ∀ {fz : List Nat} {S : Hp} {env : En} {mss : List Cells}, SRx T S B env mss σ H → frL pin pin' k fz env ≠ .er → ∃ Sf, FzOk S mss fz Sf := by
            intro fz
            induction fz with
            | nil => intro S env mss _ _; exact ⟨S, .nil⟩
            | cons i is ih =>
              intro S env mss R h
              simp only [frL] at h
              split at h
              · rename_i d hd
                split at h
                · obtain ⟨v, m', e1, e2, _, _⟩ := R.own hd
                  obtain ⟨Sf, hs⟩ := ih (freeze R hd e2) (fun z => h (by rw [z]; rfl))
                  exact ⟨Sf, .cons e2 hs⟩
                · exact absurd rfl h
              · exact absurd rfl h
          obtain ⟨Sf, hs⟩ := this (freeze R hd e2) hne
          exact ⟨Sf, .cons e2 hs⟩
      · exact q.elim
/-- the names that are pinned in the loop hold at its start what they hold: σ1 is the start's slots -/
theorem ss_for {tgt iter : Expr} {body : List Stmt} {mi : MI} {g : TG} {f : TgF} {m : MS} (hp : PassesOwn (model X.prog X.w) X.A X.env X.xe) (hc : X.calm = true) (hi : PI X tgt iter (tI T W mi)) (hg : PG X tgt g) (htg : TgR T pin' g f)
    (hpp : ∀ k, pin k = true → pin' k = true) (hb : ∀ σ1, PSs X body (tS T W pin' σ1 m)) (hs : ∀ v, foldedSetIterable iter X.env v = pure v := by intro _; rfl) : PS X (.For tgt iter body [] pos) (tS T W pin σ0 (sFor pin pin' mi f m)) := by
  refine ⟨fun pins s σ H De I h => ?_⟩
  obtain ⟨S, B, env, mss, R, hpn, q⟩ := h
  have pσ : Pin pin' σ σ := ⟨rfl, fun _ _ => rfl⟩
  have back : ∀ {σ2}, Pin pin' σ σ2 → Pin pin σ0 σ2 := fun h => ⟨h.1.trans hpn.1, fun k hk => (h.2 k (hpp k hk)).trans (hpn.2 k hk)⟩
  have conv : ∀ {S B z}, PS' T W pin σ0 S B De z → PS' T W pin σ S B De z := fun {S B z} q => by
    have back1 : ∀ {σ2}, Pin pin σ σ2 → Pin pin σ0 σ2 := fun h => ⟨h.1.trans hpn.1, fun k hk => (h.2 k hk).trans (hpn.2 k hk)⟩
    cases z with
    | nx f => exact fun S2 B2 mss2 σ2 H2 g R2 hp2 => q _ _ _ _ _ g R2 (back1 hp2)
    | bk f => exact fun S2 B2 mss2 σ2 H2 g R2 hp2 => q _ _ _ _ _ g R2 (back1 hp2)
    | ct f => exact fun S2 B2 mss2 σ2 H2 g R2 hp2 => q _ _ _ _ _ g R2 (back1 hp2)
    | ex x f => exact fun S2 B2 mss2 σ2 H2 cls d g R2 hp2 => q _ _ _ _ _ _ _ g R2 (back1 hp2)
    | rt d f => exact fun S2 B2 mss2 σ2 H2 v ms g R2 hp2 => q _ _ _ _ _ _ _ g R2 (back1 hp2)
    | er => exact q
  refine (ps_for hp hc hi hg (hb σ) (hs := hs)).run pins s σ H De I ?_
  show tI T W mi σ H _
  refine ⟨S, B, env, mss, R, ?_⟩
  cases hm : mi env with
  | ok items fz =>
    simp only [sFor, hm] at q
    intro S' B' H' J gr its
    have R' := R.grow gr
    have q2 := conv (PS'.gw q gr.w)
    obtain ⟨Sf, hz⟩ := frz_of R' q2
    obtain ⟨env', mss', R2, q3⟩ := frL_ok R' pσ hpp hpp hz q2
    exact for_ok (its Sf hz R2.sh) htg (fun _ _ _ h => h) R2 (Same.refl _) (Same.refl _) pσ q3
  | ex x => simp only [sFor, hm] at q; exact fun S' B' H' cls d gr ef => q S' B' mss σ H' cls d gr.w (R.grow gr) hpn ef
  | er => simp only [sFor, hm] at q; exact q
end
end Tr

/-! TrL: ranges, lists, enumerate, zip, texts, walked. -/
namespace Tr
open PySem L2
section
variable {X : Cx} {T : Tab} {W : WX} {e a b : Expr} {tg : Expr} {m ma mb : ME} {S B H S' B' H' S0 B0 : Hp} {env : En} {mss : List Cells} {σ : L2.St}
theorem pi_of' {w w' : TI} (h : PI X tg e w) (i : ∀ σ H R, w' σ H R → w σ H R) : PI X tg e w' := ⟨fun pins s σ H R I q => h.run pins s σ H R I (i σ H R q)⟩
/-! ### ranges -/
@[simp] def rgD (lo : Int) (n : Nat) : List D := (List.range n).map fun i => .im (.int (lo + (i : Nat)))
theorem its_rng {lo : Int} {n : Nat} : ItS T S0 B0 (Itr lo n) (rgD lo n) := by
  intro S B H _ _ bs sh i
  refine ⟨fun d h => ?_, fun h => ?_⟩
  · simp only [rgD, List.getElem?_map, Option.map_eq_some_iff] at h
    obtain ⟨j, hj, rfl⟩ := h
    obtain ⟨hl, ej⟩ := List.getElem?_eq_some_iff.mp hj
    rw [List.getElem_range] at ej
    subst ej
    rw [List.length_range] at hl
    refine ⟨hl, fun x H' y => ?_⟩
    obtain ⟨rfl, rfl⟩ := (show H' = H ∧ x = .int (lo + (i : Nat)) from y)
    exact ⟨S, B, Gr.refl bs sh, .im rfl .nil⟩
  · show n ≤ i
    have := List.getElem?_eq_none_iff.mp h
    simpa [rgD] using this
def rgOk (i : Int) : Bool := decide (-(2 ^ 62) ≤ i ∧ i < 2 ^ 62)
@[simp] def iRg1 (ma : ME) : MI := fun env => match mAs [ma] env with
  | .ok [r] => match r.d with
    | .im (.int n) => if rgOk n then .ok (rgD 0 n.toNat) [] else .er
    | _ => .er
  | .ex x => .ex x
  | _ => .er
theorem ip_rg1 (h : PI X tg e (iRng1 (tPR T W [ma]))) : PI X tg e (tI T W (iRg1 ma)) := by
  refine pi_of' h fun σ H R ⟨S, B, env, mss, Rx, q⟩ => ⟨S, B, env, mss, Rx, ?_⟩
  simp only [iRg1] at q
  cases hr : mAs [ma] env with
  | ok rs =>
    simp only [hr] at q
    intro S' B' H' vs g ro
    split at q
    · rename_i r z
      cases z
      split at q
      · rename_i n hd
        split at q
        · rename_i hb
          simp only [List.map_cons, List.map_nil, hd] at ro
          rw [ros_im1 ro]
          have hb := of_decide_eq_true hb
          exact ⟨n, rfl, hb.1, hb.2, q S' B' H' _ g fun Sf hz hsf => its_rng⟩
        · exact q.elim
      · exact q.elim
    · rename_i z; cases z
    · exact q.elim
  | ex x => simp only [hr] at q; exact q
  | er => simp only [hr] at q; exact q
@[simp] def iRg2 (ma mb : ME) : MI := fun env => match mAs [ma, mb] env with
  | .ok [r, s] => match r.d, s.d with
    | .im (.int i), .im (.int j) => if rgOk i && rgOk j then .ok (rgD i (j - i).toNat) [] else .er
    | _, _ => .er
  | .ex x => .ex x
  | _ => .er
theorem ip_rg2 (h : PI X tg e (iRng2 (tPR T W [ma, mb]))) : PI X tg e (tI T W (iRg2 ma mb)) := by
  refine pi_of' h fun σ H R ⟨S, B, env, mss, Rx, q⟩ => ⟨S, B, env, mss, Rx, ?_⟩
  simp only [iRg2] at q
  cases hr : mAs [ma, mb] env with
  | ok rs =>
    simp only [hr] at q
    intro S' B' H' vs g ro
    split at q
    · rename_i r s z
      cases z
      split at q
      · rename_i i j hd hd2
        split at q
        · rename_i hb
          simp only [List.map_cons, List.map_nil, hd, hd2] at ro
          rw [ros_im2 ro]
          simp only [Bool.and_eq_true] at hb
          have h1 := of_decide_eq_true hb.1
          have h2 := of_decide_eq_true hb.2
          exact ⟨i, j, rfl, ⟨h1.1, h1.2, h2.1, h2.2⟩, q S' B' H' _ g fun Sf hz hsf => its_rng⟩
        · exact q.elim
      · exact q.elim
    · rename_i z; cases z
    · exact q.elim
  | ex x => simp only [hr] at q; exact q
  | er => simp only [hr] at q; exact q

/-! ### lists -/
def itemsOf : D → Option (List D)
  | .lst xs => some xs
  | .scr ns => some (ns.map fun n => .im (.int n))
  | .fz (.lst xs) => some (xs.map cover)
  | _ => none
/-- a list that is known at S0 -/
def LsAt (T : Tab) (S0 B0 : Hp) (a : Addr) (items : List D) : Prop := ∃ ws, SqL T.K S0 a ws ∧ Ros T B0 S0 items ws
theorem ls_of {d : D} {v : V} {items : List D} (r : Ros T B S [d] [v]) (bs : Same B S) (h : itemsOf d = some items) : ∃ a, v = .ref a ∧ LsAt T S B a items := by
  unfold itemsOf at h
  split at h
  · cases h
    obtain ⟨a, ws, rfl, h1, q⟩ := ros_lst r
    exact ⟨a, rfl, ws, SqL.of h1, q⟩
  · rename_i ns
    cases h
    cases r with
    | scr h1 _ =>
      refine ⟨_, rfl, _, h1, ?_⟩
      have : (ns.map fun n => D.im (.int n)) = (ns.map V.int).map D.im := by simp
      rw [this]
      have o : Owns T B ((ns.map V.int).map D.im) (ns.map V.int) [] := owns_ims (imm_ints ns)
      exact o.ro bs fun _ h => nomatch h
  · cases h
    cases r with
    | fz r0 _ =>
      obtain ⟨a, ws, rfl, h1, q⟩ := ros_lst r0
      exact ⟨a, rfl, ws, SqL.of (bs _ _ h1), ros_cover q⟩
  · cases h
theorem its_list {a : Addr} {items : List D} (h : LsAt T S0 B0 a items) : ItS T S0 B0 (Itl T.K a) items := by
  obtain ⟨ws, hs, ro⟩ := h
  intro S B H s0 b0 bs sh i
  have hH : SqL T.K H a ws := sql_mono (s0.trans sh) hs
  refine ⟨fun d h => ?_, fun h => ?_⟩
  · obtain ⟨v, hv, r⟩ := ros_at ro h
    refine ⟨⟨ws, v, hH, hv⟩, fun x H' y => ?_⟩
    obtain ⟨rfl, y⟩ := (show H' = H ∧ ∀ xs, SqL T.K H a xs → xs[i]? = some x from y)
    have := y ws hH
    rw [hv] at this; cases this
    exact ⟨S, B, Gr.refl bs sh, r.mono s0 b0⟩
  · exact ⟨ws, hH, by rw [← ro.len]; exact List.getElem?_eq_none_iff.mp h⟩
/-- where a result stands still -/
@[simp] def rootOf : Rs → List Nat
  | .bor i _ => [i]
  | _ => []
/-- a result's list, made to stand still -/
theorem still {r : Rs} {v : V} {items : List D} {mc : Cells} (R : SRx T S B env mss σ H) (f : RFc T S' B' H' H mss r v mc) (g : Gr S B H S' B' H') (h : itemsOf r.d = some items) :
    ∃ S2, Gr S B H S2 B' H' ∧ Same S' S2 ∧ (∀ c, S2 c = S' c ∨ ∃ x ∈ mc, x.1 = c) ∧ ∃ a, v = .ref a ∧ ∀ Sf, FzOk S2 mss (rootOf r) Sf → LsAt T Sf B' a items := by
  have R' := R.grow g
  cases r with
  | own d =>
    obtain ⟨o, c, n⟩ := f
    have sh2 : Same (Wi S' mc) H' := Wi.le g.sh c
    have gr2 : Gr S B H (Wi S' mc) B' H' := ⟨⟨g.w.s.trans Wi.same, g.w.b, g.w.n⟩, g.h, fun a u hh => by
      unfold Wi at hh
      cases e : S' a with
      | some w => rw [e] at hh; exact g.f a w e |>.imp (fun z => by cases hh; exact z) id
      | none =>
        rw [e] at hh
        exact .inr (n _ (mem_of_lookup' hh)), sh2, g.bs.trans Wi.same⟩
    obtain ⟨a, rfl, l⟩ := ls_of (o.ro (g.bs.trans Wi.same) (Wi.at_ c)) (g.bs.trans Wi.same) h
    refine ⟨_, gr2, Wi.same, fun x => ?_, a, rfl, fun Sf hz => by cases hz; exact l⟩
    unfold Wi
    cases e : S' x with
    | some w => exact .inl rfl
    | none =>
      cases e2 : mc.lookup x with
      | none => exact .inl (by simp [e2])
      | some o => exact .inr ⟨_, mem_of_lookup' e2, rfl⟩
  | ro d =>
    obtain ⟨a, rfl, l⟩ := ls_of f.2 g.bs h
    exact ⟨S', g, Same.refl _, fun _ => .inl rfl, a, rfl, fun Sf hz => by cases hz; exact l⟩
  | bor i d =>
    obtain ⟨_, m, h1, h2⟩ := f
    obtain ⟨a, rfl, l⟩ := ls_of h2 (g.bs.trans Wi.same) h
    refine ⟨S', g, Same.refl _, fun _ => .inl rfl, a, rfl, fun Sf hz => ?_⟩
    cases hz with
    | cons hm r =>
      rw [h1] at hm; cases hm
      cases r; exact l
@[simp] def iLs (m : ME) : MI := fun env => match m env with
  | .ok r => match itemsOf r.d with
    | some items => .ok items (rootOf r)
    | none => .er
  | .ex x => .ex x
  | .er => .er
theorem ip_list (hK : X.K = T.K) (h : PE X e (tP T W m)) : PI X tg e (tI T W (iLs m)) := by
  refine pi_of' (pi_list h) fun σ H R ⟨S, B, env, mss, Rx, q⟩ => ⟨S, B, env, mss, Rx, ?_⟩
  simp only [iLs] at q
  cases hm : m env with
  | ok r =>
    simp only [hm] at q
    intro S' B' H' v g f
    cases hi : itemsOf r.d with
    | none => simp only [hi] at q; exact q.elim
    | some items =>
      simp only [hi] at q
      obtain ⟨mc, fc⟩ := f.toC
      obtain ⟨S2, g2, _, _, a, rfl, l⟩ := still Rx fc g hi
      have rd := f.read (Rx.grow g)
      obtain ⟨a', ea, ws, hs, _⟩ := ls_of rd (g.bs.trans g.sh) hi
      cases ea
      refine ⟨a, rfl, ⟨ws, hK ▸ hs⟩, ?_⟩
      rw [hK]
      exact q S2 B' H' _ g2 fun Sf hz _ => its_list (l Sf hz)
  | ex x => simp only [hm] at q; exact q
  | er => simp only [hm] at q; exact q
/-! ### enumerate -/
@[simp] def enD (items : List D) : List D := (List.range items.length).map fun i => .tup [.im (.int (i : Nat)), items.getD i (.im .non)]
theorem its_enum {a : Addr} {items : List D} (h : LsAt T S0 B0 a items) : ItS T S0 B0 (Ite T.K a) (enD items) := by
  obtain ⟨ws, hs, ro⟩ := h
  intro S B H s0 b0 bs sh i
  have hH : SqL T.K H a ws := sql_mono (s0.trans sh) hs
  refine ⟨fun d h => ?_, fun h => ?_⟩
  · simp only [enD, List.getElem?_map, Option.map_eq_some_iff] at h
    obtain ⟨j, hj, rfl⟩ := h
    obtain ⟨hl, ej⟩ := List.getElem?_eq_some_iff.mp hj
    rw [List.getElem_range] at ej
    subst ej
    rw [List.length_range] at hl
    obtain ⟨v, hv, r⟩ := ros_at ro (List.getElem?_eq_getElem hl)
    refine ⟨⟨ws, v, hH, hv⟩, fun x H' y => ?_⟩
    obtain ⟨p, u, rfl, hp, rfl, y1⟩ := (show ∃ T' x', x = V.ref T' ∧ H T' = none ∧ H' = upd H T' (.tup [.int (i : Nat), x']) ∧ ∀ xs, SqL T.K H a xs → xs[i]? = some x' from y)
    have := y1 ws hH
    rw [hv] at this; cases this
    have gr := Gr.tup (o := .tup [.int (i : Nat), v]) bs sh hp
    refine ⟨_, _, gr, .tup upd_same (.im rfl ?_) .nil⟩
    rw [List.getD_eq_getElem?_getD, List.getElem?_eq_getElem hl]
    exact (r.mono s0 b0).mono gr.w.s gr.w.b
  · refine ⟨ws, hH, ?_⟩
    have := List.getElem?_eq_none_iff.mp h
    simp only [enD, List.length_map, List.length_range] at this
    rw [← ro.len]; exact this
@[simp] def iEn (m : ME) : MI := fun env => match m env with
  | .ok r => match itemsOf r.d with
    | some items => .ok (enD items) (rootOf r)
    | none => .er
  | .ex x => .ex x
  | .er => .er
theorem ip_enum (hK : X.K = T.K) (h : PI X tg e (iEnum X.K (tPK T W [.p m]))) : PI X tg e (tI T W (iEn m)) := by
  refine pi_of' h fun σ H R ⟨S, B, env, mss, Rx, q⟩ => ⟨S, B, env, mss, Rx, ?_⟩
  simp only [iEn] at q
  cases hm : m env with
  | ok r =>
    simp only [hm] at q
    simp only [aKs, hm]
    intro S' B' H' vs css g f
    cases f with
    | @r _ v mc _ vs css fc t ap =>
      cases t
      cases hi : itemsOf r.d with
      | none => simp only [hi] at q; exact q.elim
      | some items =>
        simp only [hi] at q
        obtain ⟨S2, g2, _, _, a, rfl, l⟩ := still Rx fc g hi
        have hsz : ∃ ws, SqL T.K H' a ws := by
          have Rz := Rx.grow g2
          have rd : Ros T B' H' [r.d] [V.ref a] := by
            cases r with
            | own d => exact fc.1.ro (g.bs.trans g.sh) fun c hc => (fc.2.1.2 c hc).1
            | ro d => exact Ros.mono fc.2 g.sh (Same.refl _)
            | bor i d => obtain ⟨_, m', h1, h2⟩ := fc; exact h2.mono (Wi.le g.sh ((Rx.grow g).ok i m' h1)) (Same.refl _)
          obtain ⟨a', ea, ws, hs, _⟩ := ls_of rd (g.bs.trans g.sh) hi
          cases ea
          exact ⟨ws, hs⟩
        obtain ⟨ws, hs⟩ := hsz
        refine ⟨a, ws, rfl, hK ▸ hs, ?_⟩
        rw [hK]
        exact q S2 B' H' _ g2 fun Sf hz _ => its_enum (l Sf hz)
  | ex x => simp only [hm] at q; simp only [aKs, hm]; exact q
  | er => simp only [hm] at q; exact q.elim
/-! ### texts -/
@[simp] def stD (z : Str) : List D := z.cps.toList.map fun c => .im (.str ⟨#[c]⟩)
theorem its_str {z : Str} : ItS T S0 B0 (Its z) (stD z) := by
  intro S B H s0 b0 bs sh i
  refine ⟨fun d h => ?_, fun h => ?_⟩
  · simp only [stD, List.getElem?_map, Option.map_eq_some_iff] at h
    obtain ⟨c, hc, rfl⟩ := h
    have hc' : z.cps[i]? = some c := by rw [← Array.getElem?_toList]; exact hc
    refine ⟨(Array.getElem?_eq_some_iff.mp hc').1, fun x H' y => ?_⟩
    obtain ⟨rfl, c', h1, rfl⟩ := (show H' = H ∧ ∃ c, z.cps[i]? = some c ∧ x = .str ⟨#[c]⟩ from y)
    rw [hc'] at h1; cases h1
    exact ⟨S, B, Gr.refl bs sh, .im rfl .nil⟩
  · show z.cps.size ≤ i
    have := List.getElem?_eq_none_iff.mp h
    simpa [stD] using this
@[simp] def iSt (m : ME) : MI := fun env => match m env with
  | .ok r => match r.d with
    | .im (.str z) => .ok (stD z) []
    | _ => .er
  | .ex x => .ex x
  | .er => .er
theorem ip_str (h : PE X e (tP T W m)) : PI X tg e (tI T W (iSt m)) := by
  refine pi_of' (pi_str h) fun σ H R ⟨S, B, env, mss, Rx, q⟩ => ⟨S, B, env, mss, Rx, ?_⟩
  simp only [iSt] at q
  cases hm : m env with
  | ok r =>
    simp only [hm] at q
    intro S' B' H' v g f
    split at q
    · rename_i z hz
      have rd := f.read (Rx.grow g)
      rw [hz] at rd
      cases ros_im1 rd
      exact ⟨z, rfl, q S' B' H' _ g fun Sf hz _ => its_str⟩
    · exact q.elim
  | ex x => simp only [hm] at q; exact q
  | er => simp only [hm] at q; exact q
/-- a list or a text -/
@[simp] def iAny (m : ME) : MI := fun env => match m env with
  | .ok r => match r.d with
    | .im (.str z) => .ok (stD z) []
    | _ => iLs m env
  | _ => iLs m env
theorem ip_any (hK : X.K = T.K) (h : PE X e (tP T W m)) : PI X tg e (tI T W (iAny m)) := by
  refine ⟨fun pins s σ H R I ⟨S, B, env, mss, Rx, q⟩ => ?_⟩
  have hh : iAny m env = iLs m env ∨ iAny m env = iSt m env := by
    simp only [iAny, iSt]
    cases hm : m env with
    | ok r =>
      cases hd : r.d with
      | im v =>
        cases v with
        | str z => exact .inr (by simp only [hd])
        | _ => exact .inl (by simp only [hd])
      | _ => exact .inl (by simp only [hd])
    | ex x => exact .inl rfl
    | er => exact .inl rfl
  rcases hh with hh | hh
  · rw [hh] at q; exact (ip_list hK h).run pins s σ H R I ⟨S, B, env, mss, Rx, q⟩
  · rw [hh] at q; exact (ip_str h).run pins s σ H R I ⟨S, B, env, mss, Rx, q⟩
end
end Tr

/-! TrM: raise, try, several names at once. -/
namespace Tr
open PySem L2
section
variable {X : Cx} {T : Tab} {W : WX} {pin : Pins} {σ0 : L2.St} {e a b : Expr} {es : List Expr} {S B H S' B' H' : Hp} {env : En} {mss : List Cells} {σ : L2.St} {pos : Pos}
/-- raise C('..') -/
@[simp] def sRaise (c : Nat) : MS := fun env => .ex ⟨c, []⟩ env
theorem ss_raise {C : Addr} {c : Nat} {pos : Pos} (hc : X.calm = true) (tk : Takes X W) (he : PMk X e (fun _ H Q => Q (.ref C) none H)) (hC : T.exc[c]? = some ⟨C, []⟩) : PS X (.Raise (some e) none pos) (tS T W pin σ0 (sRaise c)) :=
  ps_of (ps_raise hc tk he) fun D σ H ⟨S, B, env, mss, R, hp, q⟩ => q S B mss σ H (.ref C) none Gw.refl R hp ⟨C, [], hC, rfl, rfl, rfl, rfl⟩
/-- try: .. except X: .. -/
@[simp] def sTry (sub : Nat → Option Bool) (m ms : MS) : MS := fun env => match m env with
  | .ex x env => match sub x.c with
    | some true => match ms env with
      | .ex _ _ => .er
      | z => z
    | some false => .ex x env
    | none => .er
  | z => z
abbrev WF : WX := fun _ _ _ _ => False
theorem PS'.noex {z : SS} {D : Ends} (h : ∀ x env, z ≠ .ex x env) (q : PS' T W pin σ0 S B D z) : PS' T WF pin σ0 S B D z := by
  cases z with
  | ex x env => exact absurd rfl (h x env)
  | nx => exact q
  | rt => exact q
  | bk => exact q
  | ct => exact q
  | er => exact q
theorem ss_try {x : Str} {cv : Value} {body suite : List Stmt} {b₀ : Stmt} {np pos' : Pos} {m ms : MS} {sub : Nat → Option Bool} (hK : X.K = T.K) (hs : X.stack = X.env :: X.outer) (hf : X.env.frame = some X.env.locals) (hc : Names X x cv) (tk : Takes X W)
    (hsub : ∀ c C fl b, T.exc[c]? = some ⟨C, fl⟩ → sub c = some b → PySem.W.exmOne T.K (.ref C) cv = some b)
    (hb : ∀ (W : WX) (pn : List (Addr × Obj)) (xe : Value → Shared → Prop), Takes (X.tr pn xe) W → PassesOwn (model X.prog X.w) X.A X.env xe → PSs (X.tr pn xe) body (tS T W pin σ0 m))
    (hsu : ∀ (a : Addr) (oe : Obj) (cls : Value) (d : Option Addr) (pn : List (Addr × Obj)), Zc cls d oe → (∃ vs, oe.data = .fields vs) → PSs (X.suite a ((a, oe) :: pn)) (b₀ :: suite) (tS T WF pin σ0 ms)) :
    PS X (.Try body [.ExceptHandler (some (.Name x np)) none (b₀ :: suite) pos'] [] [] pos) (tS T W pin σ0 (sTry sub m ms)) := by
  refine ps_of (ps_try_only hs hf hc tk (tb := fun W => tS T W pin σ0 m) (ts := fun _ _ _ => tS T WF pin σ0 ms) hb hsu) fun D σ H ⟨S, B, env, mss, R, hp, q⟩ => ⟨S, B, env, mss, R, hp, ?_⟩
  cases hm : m env with
  | ex x env' =>
    simp only [sTry, hm] at q
    intro S' B' mss' σ' H' cls d g R' hp' ef
    obtain ⟨C, fl, hC, rfl, _⟩ := id ef
    cases hsb : sub x.c with
    | none => simp only [hsb] at q; exact q.elim
    | some b =>
      refine ⟨b, hK ▸ hsub _ C fl b hC hsb, fun hb a ha => ?_, fun hb => ?_⟩
      · subst hb
        simp only [hsb] at q
        refine ⟨S', B', env', mss', R', hp', ?_⟩
        cases hz : ms env' with
        | ex x2 env2 => simp only [hz] at q; exact q.elim
        | nx env2 => simp only [hz] at q; exact PS'.noex (fun _ _ h => nomatch h) (q.gw g)
        | rt d2 env2 => simp only [hz] at q; exact PS'.noex (fun _ _ h => nomatch h) (q.gw g)
        | bk env2 => simp only [hz] at q; exact PS'.noex (fun _ _ h => nomatch h) (q.gw g)
        | ct env2 => simp only [hz] at q; exact PS'.noex (fun _ _ h => nomatch h) (q.gw g)
        | er => simp only [hz] at q; exact q.elim
      · subst hb
        simp only [hsb] at q
        exact q S' B' mss' σ' H' _ d g R' hp' ef
  | nx env' => simp only [sTry, hm] at q; exact q
  | rt d env' => simp only [sTry, hm] at q; exact q
  | bk env' => simp only [sTry, hm] at q; exact q
  | ct env' => simp only [sTry, hm] at q; exact q
  | er => simp only [sTry, hm] at q; exact q

/-! ### several names at once -/
@[simp] def setsO : List Nat → List D → En → Option En
  | [], [], env => some env
  | j :: js, d :: ds, env => setsO js ds (env.set j (some (.own d)))
  | _, _, _ => none
def setsV : List Nat → List V → L2.St → L2.St
  | j :: js, v :: vs, σ => setsV js vs (σ.set j (some v))
  | _, _, σ => σ
theorem owns_uncons {d : D} {ds : List D} {vs : List V} {ms : Cells} (o : Owns T B (d :: ds) vs ms) : ∃ v us m1 m2, vs = v :: us ∧ ms = m1 ++ m2 ∧ Owns T B [d] [v] m1 ∧ Owns T B ds us m2 := by
  cases o with
  | im h r => exact ⟨_, _, [], _, rfl, rfl, .im h .nil, r⟩
  | lst q r => exact ⟨_, _, _ :: (_ ++ []), _, rfl, by simp, .lst q .nil, r⟩
  | tup h q r => exact ⟨_, _, _ ++ [], _, rfl, by simp, .tup h q .nil, r⟩
  | dct hl q r => exact ⟨_, _, _ :: (_ ++ []), _, rfl, by simp, .dct hl q .nil, r⟩
  | @obj a c C dx fl ws xs ds vs m ms hc hl q r => exact ⟨_, _, (a, .ins C dx (fl.zip ws)) :: (m ++ []), _, rfl, by simp, .obj hc hl q .nil, r⟩
  | fz q r => exact ⟨_, _, [], _, rfl, rfl, .fz q .nil, r⟩
theorem cells_split {m1 m2 : Cells} (c : CellsOk S H (m1 ++ m2)) : CellsOk S H m1 ∧ CellsOk S H m2 ∧ Apart m1 m2 := by
  have nd := c.1
  rw [List.map_append, List.nodup_append] at nd
  exact ⟨⟨nd.1, fun x h => c.2 x (List.mem_append_left _ h)⟩, ⟨nd.2.1, fun x h => c.2 x (List.mem_append_right _ h)⟩,
    fun x hx y hy => nd.2.2 x.1 (List.mem_map.mpr ⟨x, hx, rfl⟩) y.1 (List.mem_map.mpr ⟨y, hy, rfl⟩)⟩
theorem apart_left {m m1 m2 : Cells} (h : Apart m (m1 ++ m2)) : Apart m m1 := fun c hc e he => h c hc e (List.mem_append_left _ he)
theorem apart_right {m m1 m2 : Cells} (h : Apart m (m1 ++ m2)) : Apart m m2 := fun c hc e he => h c hc e (List.mem_append_right _ he)
theorem sets_ok : ∀ {js : List Nat} {ds : List D} {vs : List V} {ms : Cells} {env env' : En} {mss : List Cells} {σ : L2.St}, SRx T S B env mss σ H → Owns T B ds vs ms → CellsOk S H ms → (∀ (i : Nat) (m : Cells), mss[i]? = some m → Apart m ms) →
    setsO js ds env = some env' → ∃ mss', SRx T S B env' mss' (setsV js vs σ) H
  | [], [], vs, ms, env, env', mss, σ, R, o, c, ap, h => by
    simp [setsO] at h; subst h
    have e : setsV [] vs σ = σ := by unfold setsV; rfl
    rw [e]; exact ⟨mss, R⟩
  | j :: js, d :: ds, vs, ms, env, env', mss, σ, R, o, c, ap, h => by
    obtain ⟨v, us, m1, m2, rfl, rfl, o1, o2⟩ := owns_uncons o
    obtain ⟨c1, c2, a12⟩ := cells_split c
    simp only [setsO] at h
    have R1 := R.set (i := j) (e := some (.own d)) (s := some v) o1 c1 fun k m' _ hk => apart_left (ap k m' hk)
    refine sets_ok (js := js) (ds := ds) (vs := us) R1 o2 c2 (fun k m' hk => ?_) h
    · 
      rcases set_at hk with ⟨_, rfl⟩ | ⟨_, hk⟩
      · exact a12
      · exact apart_right (ap k m' hk)
  | [], _ :: _, _, _, _, _, _, _, _, _, _, _, h => by simp [setsO] at h
  | _ :: _, [], _, _, _, _, _, _, _, _, _, _, h => by simp [setsO] at h
theorem pin_sets : ∀ {js : List Nat} {vs : List V} {σ : L2.St}, Pin pin σ0 σ → (∀ j ∈ js, pin j = false) → Pin pin σ0 (setsV js vs σ)
  | [], vs, σ, hp, _ => by unfold setsV; exact hp
  | _ :: _, [], σ, hp, _ => by unfold setsV; exact hp
  | j :: js, v :: vs, σ, hp, h => by
    unfold setsV
    exact pin_sets (pin_set hp (h j List.mem_cons_self)) fun k hk => h k (List.mem_cons_of_mem _ hk)
/-- a, b = e1, e2 -/
@[simp] def sPar (js : List Nat) (m : En → DO) : MS := fun env => match m env with
  | .ok ds env => match setsO js ds env with
    | some env => .nx env
    | none => .er
  | .ex x env => .ex x env
  | .er => .er
theorem ss_par {i j : Nat} {x y : Str} {px py pt : Pos} {kt k2 pt2} {m : En → DO} (hc : X.calm = true) (hN : X.N.Nodup) (hi : X.N[i]? = some x) (hj : X.N[j]? = some y) (hij : i ≠ j) (hx : X.env.scope.names.lookup x = some .local) (hy : X.env.scope.names.lookup y = some .local)
    (ha : PA X [a, b] (tD T W m)) (hw : swappedStores [.Tuple [.Name x px, .Name y py] kt pt] (.Tuple [a, b] k2 pt2) X.env = pure (some [x, y])) (hp1 : pin i = false) (hp2 : pin j = false)
    (hs : swapsWithSole [.Tuple [.Name x px, .Name y py] kt pt] (.Tuple [a, b] k2 pt2) pos.line X.env = pure false := by rfl) :
    PS X (.Assign [.Tuple [.Name x px, .Name y py] kt pt] (.Tuple [a, b] k2 pt2) pos) (tS T W pin σ0 (sPar [i, j] m)) := by
  refine ps_of (ps_par hc hN hi hj hij hx hy ha hw hs) fun D σ H ⟨S, B, env, mss, R, hp, q⟩ => ⟨S, B, env, mss, R, ?_⟩
  cases hm : m env with
  | ok ds env' =>
    simp only [sPar, hm] at q
    intro S' B' H' mss' vs ms g R' o c ap
    cases hz : setsO [i, j] ds env' with
    | none => simp only [hz] at q; exact q.elim
    | some env2 =>
      simp only [hz] at q
      obtain ⟨mss2, R2⟩ := sets_ok R' o c ap hz
      match ds, o, hz with
      | [d1, d2], o, hz =>
        obtain ⟨v, us, m1, m2, rfl, rfl, o1, o2⟩ := owns_uncons o
        obtain ⟨w, us2, m3, m4, rfl, rfl, o3, o4⟩ := owns_uncons o2
        cases o4
        exact ⟨v, w, rfl, q S' B' mss2 _ H' g R2 (pin_set (pin_set hp hp1) hp2)⟩
      | [], o, hz => simp [setsO] at hz
      | [_], o, hz => simp [setsO] at hz
      | _ :: _ :: _ :: _, o, hz => simp [setsO] at hz
  | ex x env' => simp only [sPar, hm] at q; exact fun S' B' H' mss' cls d g R' ef => q S' B' mss' σ H' cls d g R' hp ef
  | er => simp only [sPar, hm] at q; exact q
end
end Tr

/-! TrN: and, or, not as values; displays that change nothing. -/
namespace Tr
open PySem L2
section
variable {X : Cx} {T : Tab} {W : WX} {pin : Pins} {σ0 : L2.St} {e a b : Expr} {es rest : List Expr} {S B H S' B' H' H0 : Hp} {env : En} {mss : List Cells} {σ : L2.St} {pos : Pos} {ma mb : ME}
def fNot : List D → Option D
  | [.im (.bl c)] => some (.im (.bl (!c)))
  | _ => none
theorem vs_not : VS T fNot (fun vs H Q => ∃ x, vs = [x] ∧ (fun (x : V) (H : Hp) (Q : VK) => ∃ c, x = .bl c ∧ Q (.bl (!c)) H) x H Q) := by
  intro B H ds vs z bh ro h
  unfold fNot at h
  split at h
  · cases h; rw [ros_im1 ro]; exact .im rfl fun Q k => ⟨_, rfl, _, rfl, k⟩
  · cases h
theorem ep_not (h : PE X a (tP T W ma)) : PE X (.UnaryOp .Not a pos) (tP T W (m1 fNot ma)) := ep_1 vs_not (show PE X _ (tUn _ _) from pe_not h)
@[simp] def mAnd (ma mb : ME) : ME := fun env => match ma env with
  | .ok r => match r.d with
    | .im (.bl true) => mb env
    | .im (.bl false) => .ok (.own (.im (.bl false)))
    | _ => .er
  | .ex x => .ex x
  | .er => .er
@[simp] def mOr (ma mb : ME) : ME := fun env => match ma env with
  | .ok r => match r.d with
    | .im (.bl true) => .ok (.own (.im (.bl true)))
    | .im (.bl false) => mb env
    | _ => .er
  | .ex x => .ex x
  | .er => .er
theorem ep_and (ha : PE X a (tP T W ma)) (hb : PE X (.BoolOp .And (b :: rest) pos) (tP T W mb)) : PE X (.BoolOp .And (a :: b :: rest) pos) (tP T W (mAnd ma mb)) := by
  refine pe_of (pe_and ha hb) fun σ H Q ⟨S, B, env, mss, R, q⟩ => ⟨S, B, env, mss, R, ?_⟩
  cases hm : ma env with
  | ok r =>
    intro S' B' H' v g f
    simp only [mAnd, hm] at q
    have rd := f.read (R.grow g)
    split at q
    · rename_i hd
      rw [hd] at rd
      cases ros_im1 rd
      refine ⟨true, rfl, ?_⟩
      rw [if_pos rfl]
      exact ⟨S', B', env, mss, R.grow g, q.grow g⟩
    · rename_i hd
      rw [hd] at rd
      cases ros_im1 rd
      refine ⟨false, rfl, ?_⟩
      rw [if_neg Bool.false_ne_true]
      exact q S' B' H' _ g (RF.imm rfl)
    · exact q.elim
  | ex x => simp only [mAnd, hm] at q; exact q
  | er => simp only [mAnd, hm] at q; exact q
theorem ep_orV (ha : PE X a (tP T W ma)) (hb : PE X (.BoolOp .Or (b :: rest) pos) (tP T W mb)) : PE X (.BoolOp .Or (a :: b :: rest) pos) (tP T W (mOr ma mb)) := by
  refine pe_of (pe_or ha hb) fun σ H Q ⟨S, B, env, mss, R, q⟩ => ⟨S, B, env, mss, R, ?_⟩
  cases hm : ma env with
  | ok r =>
    intro S' B' H' v g f
    simp only [mOr, hm] at q
    have rd := f.read (R.grow g)
    split at q
    · rename_i hd
      rw [hd] at rd
      cases ros_im1 rd
      refine ⟨true, rfl, ?_⟩
      rw [if_pos rfl]
      exact q S' B' H' _ g (RF.imm rfl)
    · rename_i hd
      rw [hd] at rd
      cases ros_im1 rd
      refine ⟨false, rfl, ?_⟩
      rw [if_neg Bool.false_ne_true]
      exact ⟨S', B', env, mss, R.grow g, q.grow g⟩
    · exact q.elim
  | ex x => simp only [mOr, hm] at q; exact q
  | er => simp only [mOr, hm] at q; exact q
/-! E: the same where a part may change something -/
@[simp] def eAnd (ma mb : EE) : EE := fun env => match ma env with
  | .ok (.own (.im (.bl true))) env => mb env
  | .ok (.own (.im (.bl false))) env => .ok (.own (.im (.bl false))) env
  | .ex x env => .ex x env
  | _ => .er
@[simp] def eOr (ma mb : EE) : EE := fun env => match ma env with
  | .ok (.own (.im (.bl true))) env => .ok (.own (.im (.bl true))) env
  | .ok (.own (.im (.bl false))) env => mb env
  | .ex x env => .ex x env
  | _ => .er
theorem PO.gw {z : EO} {Q : VK} (p : PO T W S B σ Q z) (g : Gw S B S' B') : PO T W S' B' σ Q z := by
  cases z with
  | ok r env => exact fun S2 B2 H2 mss v g2 R f => p S2 B2 H2 mss v (g.trans g2) R f
  | ex x env => exact fun S2 B2 H2 mss cls d g2 R f => p S2 B2 H2 mss cls d (g.trans g2) R f
  | er => exact p
theorem RFe.imm {v : V} (h : imm v = true) : RFe T S B H mss (.own (.im v)) v := RFe.cpy (X := S) (.im h .nil) rfl
theorem ee_and {ma mb : EE} (ha : PE X a (tE T W ma)) (hb : PE X (.BoolOp .And (b :: rest) pos) (tE T W mb)) : PE X (.BoolOp .And (a :: b :: rest) pos) (tE T W (eAnd ma mb)) := by
  refine pe_of (pe_and ha hb) fun σ H Q ⟨S, B, env, mss, R, q⟩ => ⟨S, B, env, mss, R, ?_⟩
  cases hm : ma env with
  | ok r env' =>
    intro S' B' H' mss' v g R' f
    simp only [eAnd, hm] at q
    split at q
    · rename_i env2 z
      cases z
      obtain ⟨ms, h1, _⟩ := f
      cases own_im h1
      refine ⟨true, rfl, ?_⟩
      rw [if_pos rfl]
      exact ⟨S', B', env', mss', R', q.gw g⟩
    · rename_i env2 z
      cases z
      obtain ⟨ms, h1, _⟩ := f
      cases own_im h1
      refine ⟨false, rfl, ?_⟩
      rw [if_neg Bool.false_ne_true]
      exact q S' B' H' mss' _ g R' (RFe.imm rfl)
    · rename_i z; cases z
    · exact q.elim
  | ex x env' => simp only [eAnd, hm] at q; exact q
  | er => simp only [eAnd, hm] at q; exact q
theorem ee_or {ma mb : EE} (ha : PE X a (tE T W ma)) (hb : PE X (.BoolOp .Or (b :: rest) pos) (tE T W mb)) : PE X (.BoolOp .Or (a :: b :: rest) pos) (tE T W (eOr ma mb)) := by
  refine pe_of (pe_or ha hb) fun σ H Q ⟨S, B, env, mss, R, q⟩ => ⟨S, B, env, mss, R, ?_⟩
  cases hm : ma env with
  | ok r env' =>
    intro S' B' H' mss' v g R' f
    simp only [eOr, hm] at q
    split at q
    · rename_i env2 z
      cases z
      obtain ⟨ms, h1, _⟩ := f
      cases own_im h1
      refine ⟨true, rfl, ?_⟩
      rw [if_pos rfl]
      exact q S' B' H' mss' _ g R' (RFe.imm rfl)
    · rename_i env2 z
      cases z
      obtain ⟨ms, h1, _⟩ := f
      cases own_im h1
      refine ⟨false, rfl, ?_⟩
      rw [if_neg Bool.false_ne_true]
      exact ⟨S', B', env', mss', R', q.gw g⟩
    · rename_i z; cases z
    · exact q.elim
  | ex x env' => simp only [eOr, hm] at q; exact q
  | er => simp only [eOr, hm] at q; exact q

/-! ### displays that change nothing -/
@[simp] def ownAll : List Rs → Option (List D)
  | [] => some []
  | .own d :: r => match ownAll r with
    | some ds => some (d :: ds)
    | none => none
  | _ :: _ => none
@[simp] def mDsp (k : List D → D) (ms : List ME) : ME := fun env => match mAs ms env with
  | .ok rs => match ownAll rs with
    | some ds => if ds.length ≤ 1000000 then .ok (.own (k ds)) else .er
    | none => .er
  | .ex x => .ex x
  | .er => .er
theorem aKs_p {ms : List ME} {env : En} : aKs (ms.map AK.p) env = match mAs ms env with
  | .ok rs => .ok (rs.map AV.r)
  | .ex x => .ex x
  | .er => .er := by
  induction ms with
  | nil => rfl
  | cons m ms ih =>
    simp only [List.map_cons, aKs, mAs]
    cases m env with
    | ok r =>
      simp only [ih]
      cases mAs ms env <;> rfl
    | ex x => rfl
    | er => rfl
theorem own_all : ∀ {rs : List Rs} {vs : List V} {css : List Cells} {ds : List D}, AFL T S B H H0 mss σ (rs.map AV.r) vs css → ownAll rs = some ds → ∃ ms, Owns T B ds vs ms ∧ CellsOk S H ms ∧ (∀ c ∈ ms, H0 c.1 = none) ∧ (∀ z : Cells, (∀ m ∈ css, Apart m z) → Apart ms z) := by
  intro rs
  induction rs with
  | nil =>
    intro vs css ds f h
    cases f
    simp [ownAll] at h; subst h
    exact ⟨[], .nil, ⟨.nil, fun _ h => nomatch h⟩, (fun _ h => nomatch h), (fun _ _ _ h => nomatch h)⟩
  | cons r rs ih =>
    intro vs css ds f h
    cases f with
    | @r _ v m _ vs css h1 t a =>
      cases r with
      | own d =>
        simp only [ownAll] at h
        cases ho : ownAll rs with
        | none => simp [ho] at h
        | some ds' =>
          simp only [ho, Option.some.injEq] at h
          subst h
          obtain ⟨ms, o, c, n, z1⟩ := ih t ho
          have am : Apart ms m := z1 m fun m' hm' => apart_symm (a m' hm')
          refine ⟨m ++ ms, owns_cons h1.1 o, cells_append h1.2.1 c (apart_symm am), fun x hx => ?_, fun z hz => apart_app (hz m List.mem_cons_self) (z1 z fun m' hm' => hz m' (List.mem_cons_of_mem _ hm'))⟩
          rcases List.mem_append.mp hx with hx | hx
          · exact h1.2.2 x hx
          · exact n x hx
      | ro d => simp [ownAll] at h
      | bor i d => simp [ownAll] at h
theorem ep_lst {ms : List ME} (h : PA X es (tPK T W (ms.map AK.p))) : PE X (.List es pos) (tP T W (mDsp D.lst ms)) := by
  refine pe_of (pe_lst h) fun σ H Q ⟨S, B, env, mss, R, q⟩ => ⟨S, B, env, mss, R, ?_⟩
  rw [aKs_p]
  cases hr : mAs ms env with
  | ok rs =>
    simp only [mDsp, hr] at q
    intro S' B' H' vs css g f
    cases ho : ownAll rs with
    | none => simp only [ho] at q; exact q.elim
    | some ds =>
      simp only [ho] at q
      split at q
      · rename_i hl
        obtain ⟨ms', o, c, n, _⟩ := own_all f ho
        refine ⟨by rw [← o.len]; exact le_line hl, fun p hp => ?_⟩
        have gr := Gr.own (o := .lst vs) g.bs g.sh hp
        refine q S' B' _ _ (g.trans gr) ⟨(p, .lst vs) :: (ms' ++ []), .lst o .nil, ?_, fun x hx => ?_⟩
        · rw [List.append_nil]
          exact cells_append (cells_new (B := B') g.sh hp) (c.grow gr.h gr.f) (apart_symm (apart_new c hp))
        · rw [List.append_nil] at hx
          rcases List.mem_cons.mp hx with rfl | hx
          · exact g.h.free hp
          · exact n x hx
      · exact q.elim
  | ex x => simp only [mDsp, hr] at q; exact q
  | er => simp only [mDsp, hr] at q; exact q
theorem ep_tup {ms : List ME} {x1} (h : PA X es (tPK T W (ms.map AK.p))) : PE X (.Tuple es x1 pos) (tP T W (mDsp D.tup ms)) := by
  refine pe_of (pe_tup h) fun σ H Q ⟨S, B, env, mss, R, q⟩ => ⟨S, B, env, mss, R, ?_⟩
  rw [aKs_p]
  cases hr : mAs ms env with
  | ok rs =>
    simp only [mDsp, hr] at q
    intro S' B' H' vs css g f
    cases ho : ownAll rs with
    | none => simp only [ho] at q; exact q.elim
    | some ds =>
      simp only [ho] at q
      split at q
      · rename_i hl
        obtain ⟨ms', o, c, n, _⟩ := own_all f ho
        refine ⟨by rw [← o.len]; exact le_line hl, fun p hp => ?_⟩
        have gr := Gr.tup (o := .tup vs) g.bs g.sh hp
        refine q _ _ _ _ (g.trans gr) ⟨ms' ++ [], .tup upd_same (o.mono gr.w.b) .nil, ?_, fun x hx => ?_⟩
        · rw [List.append_nil]; exact c.grow gr.h gr.f
        · rw [List.append_nil] at hx; exact n x hx
      · exact q.elim
  | ex x => simp only [mDsp, hr] at q; exact q
  | er => simp only [mDsp, hr] at q; exact q
end
end Tr

/-! TrO: places within owned data, and what is changed there. -/
namespace Tr
open PySem L2

/-! ### places -/
@[simp] def kids : D → Option (List D)
  | .lst xs => some xs
  | .tup xs => some xs
  | .dct _ xs => some xs
  | .obj _ xs => some xs
  | _ => none
@[simp] def setKids : D → List D → D
  | .lst _, xs => .lst xs
  | .tup _, xs => .tup xs
  | .dct ks _, xs => .dct ks xs
  | .obj c _, xs => .obj c xs
  | d, _ => d
@[simp] def getP : List Nat → D → Option D
  | [], d => some d
  | k :: p, d => match kids d with
    | some xs => match xs[k]? with
      | some y => getP p y
      | none => none
    | none => none
@[simp] def setP : List Nat → D → D → D
  | [], _, x => x
  | k :: p, d, x => match kids d with
    | some xs => match xs[k]? with
      | some y => setKids d (xs.set k (setP p y x))
      | none => d
    | none => d
def childV (H : Hp) (v : V) (k : Nat) : Option V := match v with
  | .ref a => match H a with
    | some (.lst ws) => ws[k]?
    | some (.tup ws) => ws[k]?
    | some (.dK kvs) => (kvs[k]?).map (·.2)
    | some (.ins _ _ fs) => (fs[k]?).map (·.2)
    | _ => none
  | _ => none
def valP (H : Hp) : List Nat → V → Option V
  | [], v => some v
  | k :: p, v => match childV H v k with
    | some u => valP H p u
    | none => none
section
variable {X : Cx} {T : Tab} {W : WX} {pin : Pins} {σ0 : L2.St} {e a b o : Expr} {es : List Expr} {S B H S' B' H' H0 : Hp} {env : En} {mss : List Cells} {σ : L2.St} {pos apos : Pos}
theorem childV_mono {v u : V} {k : Nat} (s : Same H H') (h : childV H v k = some u) : childV H' v k = some u := by
  cases v with
  | ref a =>
    simp only [childV] at h ⊢
    cases e : H a with
    | none => rw [e] at h; cases h
    | some o => rw [e] at h; rw [s _ _ e]; exact h
  | _ => simp [childV] at h
theorem valP_mono {p : List Nat} : ∀ {v u : V}, Same H H' → valP H p v = some u → valP H' p v = some u := by
  induction p with
  | nil => intro v u _ h; exact h
  | cons k p ih =>
    intro v u s h
    simp only [valP] at h ⊢
    cases e : childV H v k with
    | none => rw [e] at h; cases h
    | some w => rw [e] at h; rw [childV_mono s e]; exact ih s h
theorem valP_app {p q : List Nat} : ∀ {v u w : V}, valP H p v = some u → valP H q u = some w → valP H (p ++ q) v = some w := by
  induction p with
  | nil => intro v u w h1 h2; cases h1; exact h2
  | cons k p ih =>
    intro v u w h1 h2
    simp only [valP, List.cons_append] at h1 ⊢
    cases e : childV H v k with
    | none => rw [e] at h1; cases h1
    | some x => rw [e] at h1; exact ih h1 h2
theorem getP_app {p q : List Nat} : ∀ {d x y : D}, getP p d = some x → getP q x = some y → getP (p ++ q) d = some y := by
  induction p with
  | nil => intro d x y h1 h2; cases h1; exact h2
  | cons k p ih =>
    intro d x y h1 h2
    simp only [List.cons_append]
    unfold getP at h1 ⊢
    cases e : kids d with
    | none => simp only [e] at h1; cases h1
    | some xs =>
      simp only [e] at h1 ⊢
      cases e2 : xs[k]? with
      | none => simp only [e2] at h1; cases h1
      | some z => simp only [e2] at h1 ⊢; exact ih h1 h2
theorem owns_child : ∀ {ds : List D} {vs : List V} {ms : Cells} {k : Nat} {x : D}, Owns T B ds vs ms → ds[k]? = some x → ∃ u mx m1 m2, vs[k]? = some u ∧ Owns T B [x] [u] mx ∧ ms = m1 ++ (mx ++ m2) ∧ ∀ x' mx', Owns T B [x'] [u] mx' → Owns T B (ds.set k x') vs (m1 ++ (mx' ++ m2)) := by
  intro ds
  induction ds with
  | nil => intro vs ms k x o h; simp at h
  | cons d ds ih =>
    intro vs ms k x o h
    obtain ⟨v, us, m1, m2, rfl, rfl, o1, o2⟩ := owns_uncons o
    cases k with
    | zero =>
      simp at h; subst h
      exact ⟨v, m1, [], m2, rfl, o1, rfl, fun x' mx' o' => by simpa using owns_cons o' o2⟩
    | succ k =>
      obtain ⟨u, mx, n1, n2, h1, h2, rfl, h4⟩ := ih o2 (k := k) (x := x) (by simpa using h)
      refine ⟨u, mx, m1 ++ n1, n2, by simpa using h1, h2, by simp, fun x' mx' o' => ?_⟩
      have := owns_cons o1 (h4 x' mx' o')
      simpa using this
theorem zip_snd {α β : Type} {ks : List α} {ws : List β} {k : Nat} {u : β} (hl : ws.length ≤ ks.length) (h : ws[k]? = some u) : ((ks.zip ws)[k]?).map (·.2) = some u := by
  obtain ⟨hk, e⟩ := List.getElem?_eq_some_iff.mp h
  have h2 : k < (ks.zip ws).length := by rw [List.length_zip]; omega
  rw [List.getElem?_eq_getElem h2, List.getElem_zip]
  simp [e]
theorem owns_kids {d : D} {v : V} {ms : Cells} {xs : List D} (o : Owns T B [d] [v] ms) (h : kids d = some xs) : ∃ ws pre m, ms = pre ++ m ∧ Owns T B xs ws m ∧ (∀ xs' m', Owns T B xs' ws m' → Owns T B [setKids d xs'] [v] (pre ++ m')) ∧
    (∀ H, Same B H → (∀ c ∈ ms, H c.1 = some c.2) → ∀ (k : Nat) u, ws[k]? = some u → childV H v k = some u) := by
  cases o with
  | im => simp [kids] at h
  | fz => simp [kids] at h
  | @lst a ws xs _ _ m _ q r =>
    cases r; simp [kids] at h; subst h
    refine ⟨ws, [(a, .lst ws)], m, by simp, q, fun xs' m' o' => ?_, fun H b hc k u hu => ?_⟩
    · have := Owns.lst (a := a) o' (Owns.nil (T := T) (B := B)); simpa using this
    · simp only [childV]; rw [hc (a, .lst ws) List.mem_cons_self]; exact hu
  | @tup a ws xs _ _ m _ hb q r =>
    cases r; simp [kids] at h; subst h
    refine ⟨ws, [], m, by simp, q, fun xs' m' o' => ?_, fun H b hc k u hu => ?_⟩
    · have := Owns.tup hb o' (Owns.nil (T := T) (B := B)); simpa using this
    · simp only [childV]; rw [b _ _ hb]; exact hu
  | @dct a ks ws xs _ _ m _ hl q r =>
    cases r; simp [kids] at h; subst h
    refine ⟨ws, [(a, .dK (ks.zip ws))], m, by simp, q, fun xs' m' o' => ?_, fun H b hc k u hu => ?_⟩
    · have := Owns.dct (a := a) hl o' (Owns.nil (T := T) (B := B)); simpa using this
    · simp only [childV]; rw [hc (a, .dK (ks.zip ws)) List.mem_cons_self]; exact zip_snd (Nat.le_of_eq hl.symm) hu
  | @obj a c C dx fl ws xs _ _ m _ hcl hl q r =>
    cases r; simp [kids] at h; subst h
    refine ⟨ws, [(a, .ins C dx (fl.zip ws))], m, by simp, q, fun xs' m' o' => ?_, fun H b hc k u hu => ?_⟩
    · have := Owns.obj (a := a) (dx := dx) hcl hl o' (Owns.nil (T := T) (B := B)); simpa using this
    · simp only [childV]; rw [hc (a, .ins C dx (fl.zip ws)) List.mem_cons_self]; exact zip_snd hl hu
theorem owns_path {p : List Nat} : ∀ {d x : D} {v : V} {ms : Cells}, Owns T B [d] [v] ms → getP p d = some x → ∃ u mx m1 m2, (∀ H, Same B H → (∀ c ∈ ms, H c.1 = some c.2) → valP H p v = some u) ∧ Owns T B [x] [u] mx ∧ ms = m1 ++ (mx ++ m2) ∧
    ∀ x' mx', Owns T B [x'] [u] mx' → Owns T B [setP p d x'] [v] (m1 ++ (mx' ++ m2)) := by
  induction p with
  | nil =>
    intro d x v ms o h
    cases h
    exact ⟨v, ms, [], [], fun _ _ _ => rfl, o, by simp, fun x' mx' o' => by simpa [setP] using o'⟩
  | cons k p ih =>
    intro d x v ms o h
    simp only [getP] at h
    cases e : kids d with
    | none => rw [e] at h; cases h
    | some xs =>
      rw [e] at h
      cases e2 : xs[k]? with
      | none => simp only [e2] at h; cases h
      | some y =>
        simp only [e2] at h
        obtain ⟨ws, pre, m, rfl, q, back, ch⟩ := owns_kids o e
        obtain ⟨u1, my, n1, n2, w1, w2, rfl, w4⟩ := owns_child q e2
        obtain ⟨u, mx, l1, l2, z1, z2, rfl, z4⟩ := ih w2 h
        refine ⟨u, mx, pre ++ (n1 ++ l1), l2 ++ n2, fun H b hc => ?_, z2, by simp, fun x' mx' o' => ?_⟩
        · simp only [valP]
          rw [ch H b hc k u1 w1]
          exact z1 H b fun c h' => hc c (by simp; simp at h'; rcases h' with h' | h' | h' <;> simp [h'])
        · simp only [setP, e, e2]
          have := back _ _ (w4 _ _ (z4 x' mx' o'))
          simpa using this
/-- what stands at a place is changed; a: the object changed, mx: its cells, me: new cells that come in, mr: what comes out -/
theorem SRx.mut (R : SRx T S B env mss σ H) {i : Nat} {d x : D} {p : List Nat} (he : env[i]? = some (some (.own d))) (hp : getP p d = some x) :
    ∃ v u mx, σ[i]? = some (some v) ∧ valP H p v = some u ∧ Owns T B [x] [u] mx ∧ CellsOk S H mx ∧ (∃ m, mss[i]? = some m ∧ ∀ c ∈ mx, c ∈ m) ∧
      ∀ (a : Addr) (o : HO) (x' : D) (mx' me mr : Cells), (∃ o0, (a, o0) ∈ mx) → CellsOk S H me → (∀ (j : Nat) (m : Cells), mss[j]? = some m → Apart m me) → Owns T B [x'] [u] mx' → ((mx' ++ mr).map (·.1)).Nodup →
        (∀ c ∈ mx', c = (a, o) ∨ (c.1 ≠ a ∧ (c ∈ mx ∨ c ∈ me))) → (∀ c ∈ mr, c.1 ≠ a ∧ (c ∈ mx ∨ c ∈ me)) →
        ∃ mss', SRx T S B (env.set i (some (.own (setP p d x')))) mss' σ (upd H a o) ∧ CellsOk S (upd H a o) mr ∧ ∀ (j : Nat) (m : Cells), mss'[j]? = some m → Apart m mr := by
  obtain ⟨v, m, e1, e2, own, ok⟩ := R.own he
  obtain ⟨u, mx, m1, m2, q1, q2, rfl, q4⟩ := owns_path own hp
  have bh := R.bs.trans R.sh
  have cm : ∀ c ∈ m1 ++ (mx ++ m2), H c.1 = some c.2 := fun c hc => (ok.2 c hc).1
  obtain ⟨okm1, ok12, ap1⟩ := cells_split ok
  obtain ⟨okx, okm2, ap2⟩ := cells_split ok12
  have inm : ∀ c ∈ mx, c ∈ m1 ++ (mx ++ m2) := fun c hc => List.mem_append_right _ (List.mem_append_left _ hc)
  refine ⟨v, u, mx, e1, q1 H bh cm, q2, okx, ⟨_, e2, inm⟩, fun a o x' mx' me mr ha hme hap ho hnd h1 h2 => ?_⟩
  obtain ⟨o0, ha⟩ := ha
  have Sa : S a = none := (okx.2 _ ha).2
  have nd1 : (mx'.map (·.1)).Nodup := by rw [List.map_append] at hnd; exact (List.nodup_append.mp hnd).1
  have nd2 : (mr.map (·.1)).Nodup := by rw [List.map_append] at hnd; exact (List.nodup_append.mp hnd).2.1
  have ndx : Apart mx' mr := fun c hc e' he' => by rw [List.map_append] at hnd; exact (List.nodup_append.mp hnd).2.2 c.1 (List.mem_map.mpr ⟨c, hc, rfl⟩) e'.1 (List.mem_map.mpr ⟨e', he', rfl⟩)
  -- m1, m2, others are apart from mx ∪ me
  have far : ∀ z : Cells, Apart z mx → Apart z me → (∀ c ∈ z, c.1 ≠ a) ∧ Apart z mx' ∧ Apart z mr := fun z zx ze => by
    have za : ∀ c ∈ z, c.1 ≠ a := fun c hc w => zx c hc _ ha w
    refine ⟨za, fun c hc e' he' => ?_, fun c hc e' he' => ?_⟩
    · rcases h1 e' he' with rfl | ⟨_, w | w⟩
      · exact za c hc
      · exact zx c hc e' w
      · exact ze c hc e' w
    · rcases (h2 e' he').2 with w | w
      · exact zx c hc e' w
      · exact ze c hc e' w
  have apm : Apart (m1 ++ (mx ++ m2)) me := hap i _ e2
  have f1 := far m1 (apart_left ap1) fun c hc => apm c (List.mem_append_left _ hc)
  have f2 := far m2 (apart_symm ap2) fun c hc => apm c (List.mem_append_right _ (List.mem_append_right _ hc))
  have up : ∀ z : Cells, (∀ c ∈ z, c.1 ≠ a) → CellsOk S H z → CellsOk S (upd H a o) z := fun z za zo => ⟨zo.1, fun c hc => ⟨by rw [upd_ne (za c hc)]; exact (zo.2 c hc).1, (zo.2 c hc).2⟩⟩
  have okx' : CellsOk S (upd H a o) mx' := ⟨nd1, fun c hc => by
    rcases h1 c hc with rfl | ⟨na, w | w⟩
    · exact ⟨upd_same, Sa⟩
    · exact ⟨by rw [upd_ne na]; exact (okx.2 c w).1, (okx.2 c w).2⟩
    · exact ⟨by rw [upd_ne na]; exact (hme.2 c w).1, (hme.2 c w).2⟩⟩
  have okr : CellsOk S (upd H a o) mr := ⟨nd2, fun c hc => by
    obtain ⟨na, w | w⟩ := h2 c hc
    · exact ⟨by rw [upd_ne na]; exact (okx.2 c w).1, (okx.2 c w).2⟩
    · exact ⟨by rw [upd_ne na]; exact (hme.2 c w).1, (hme.2 c w).2⟩⟩
  have oknew : CellsOk S (upd H a o) (m1 ++ (mx' ++ m2)) := by
    refine cells_append (up m1 f1.1 okm1) (cells_append okx' (up m2 f2.1 okm2) (apart_symm f2.2.1)) ?_
    exact apart_symm (apart_app (apart_symm f1.2.1) (apart_symm (apart_right ap1)))
  -- the old state at the new heap, slot i emptied
  have oth : ∀ j mj, j ≠ i → mss[j]? = some mj → (∀ c ∈ mj, c.1 ≠ a) ∧ Apart mj mx' ∧ Apart mj mr ∧ Apart mj m1 ∧ Apart mj m2 := fun j mj hj hmj => by
    have z := R.ap j i mj _ hj hmj e2
    have w := far mj (fun c hc e' he' => z c hc e' (inm e' he')) (hap j mj hmj)
    exact ⟨w.1, w.2.1, w.2.2, apart_left z, apart_right (apart_right z)⟩
  refine ⟨mss.set i (m1 ++ (mx' ++ m2)), ⟨R.bs, fun b w hb => ?_, by rw [List.length_set]; exact R.l1, by rw [List.length_set]; exact R.l2, fun j e' s' m' g1 g2 g3 => ?_, fun j m' g => ?_, fun j k mj mk hjk g1 g2 => ?_⟩, okr, fun j m' g => ?_⟩
  · rw [upd_ne (fun z => by rw [z, Sa] at hb; cases hb)]; exact R.sh _ _ hb
  · rcases set_at g1 with ⟨rfl, rfl⟩ | ⟨hj, g1⟩
    · rcases set_at g3 with ⟨_, rfl⟩ | ⟨hj, _⟩
      · rw [e1] at g2; cases g2
        exact q4 x' mx' ho
      · exact absurd rfl hj
    · rcases set_at g3 with ⟨z, _⟩ | ⟨_, g3⟩
      · exact absurd z hj
      · exact R.at_ j e' s' m' g1 g2 g3
  · rcases set_at g with ⟨_, rfl⟩ | ⟨hj, g⟩
    · exact oknew
    · exact up m' (oth j m' hj g).1 (R.ok j m' g)
  · rcases set_at g1 with ⟨rfl, rfl⟩ | ⟨hj, k1⟩
    · rcases set_at g2 with ⟨z, _⟩ | ⟨hk, k2⟩
      · exact absurd z.symm hjk
      · obtain ⟨_, w1, _, w2, w3⟩ := oth k mk hk k2
        exact apart_symm (apart_symm (apart_app (apart_symm w2) (apart_app (apart_symm w1) (apart_symm w3))))
    · rcases set_at g2 with ⟨rfl, rfl⟩ | ⟨_, k2⟩
      · obtain ⟨_, w1, _, w2, w3⟩ := oth j mj hj k1
        exact apart_symm (apart_app (apart_symm w2) (apart_app (apart_symm w1) (apart_symm w3)))
      · exact R.ap j k mj mk hjk k1 k2
  · rcases set_at g with ⟨rfl, rfl⟩ | ⟨hj, g⟩
    · exact apart_app f1.2.2 (apart_app ndx f2.2.2)
    · exact (oth j m' hj g).2.2.1
end
end Tr

/-! TrP: methods and stores that change owned data. -/
namespace Tr
open PySem L2

inductive LO where
  | ok (i : Nat) (p : List Nat)
  | ex (x : Exn)
  | er
abbrev ML := En → LO
def PL (T : Tab) (W : WX) (S B : Hp) (σ : L2.St) (H : Hp) (Q : VK) : LO → Prop
  | .ok i p => ∀ S' B' H' v u, Gr S B H S' B' H' → σ[i]? = some (some v) → valP H' p v = some u → Q u H'
  | .ex x => ∀ S' B' H' cls d, Gr S B H S' B' H' → ExF T H' x cls d → W cls d σ H'
  | .er => False
def tL (T : Tab) (W : WX) (m : ML) : TE := fun σ H Q => ∃ S B env mss, SRx T S B env mss σ H ∧ PL T W S B σ H Q (m env)
/-- what stands at a place -/
@[simp] def atP (i : Nat) (p : List Nat) (env : En) : Option D := match env[i]? with
  | some (some (.own d)) => getP p d
  | _ => none
section
variable {X : Cx} {T : Tab} {W : WX} {pin : Pins} {σ0 : L2.St} {e a b o : Expr} {es : List Expr} {S B H S' B' H' H0 : Hp} {env : En} {mss : List Cells} {σ : L2.St} {pos apos : Pos} {ml : ML} {mi : ME}
theorem atP_own {i : Nat} {p : List Nat} {x : D} (h : atP i p env = some x) : ∃ d, env[i]? = some (some (.own d)) ∧ getP p d = some x := by
  unfold atP at h
  split at h
  · rename_i d hd; exact ⟨d, hd, h⟩
  · cases h
/-- a place's value and cells -/
theorem SRx.place (R : SRx T S B env mss σ H) {i : Nat} {p : List Nat} {x : D} (h : atP i p env = some x) : ∃ v u mx, σ[i]? = some (some v) ∧ valP H p v = some u ∧ Owns T B [x] [u] mx ∧ CellsOk S H mx := by
  obtain ⟨d, hd, hp⟩ := atP_own h
  obtain ⟨v, u, mx, h1, h2, h3, h4, _⟩ := R.mut hd hp
  exact ⟨v, u, mx, h1, h2, h3, h4⟩
@[simp] def lVar (i : Nat) : ML := fun env => match env[i]? with
  | some (some (.own _)) => .ok i []
  | _ => .er
theorem el_var {i : Nat} (h : PE X e (tVar i)) : PE X e (tL T W (lVar i)) := by
  refine pe_of h fun σ H Q ⟨S, B, env, mss, R, q⟩ => ?_
  unfold lVar at q
  split at q
  · rename_i d hd
    obtain ⟨v, m, h1, _⟩ := R.own hd
    exact ⟨v, h1, q S B H v v R.gr h1 rfl⟩
  · exact q.elim
@[simp] def lFld (c k : Nat) (ml : ML) : ML := fun env => match ml env with
  | .ok i p => match atP i p env with
    | some (.obj c' ds) => if c' = c ∧ k < ds.length then .ok i (p ++ [k]) else .er
    | _ => .er
  | .ex x => .ex x
  | .er => .er
theorem el_fld {c k : Nat} {f : Str} (hK : X.K = T.K) (F : FldOk T c k f) (ha : PE X o (tL T W ml)) (hb : attributeBase o f X.env (eval o X.env) = eval o X.env) : PE X (.Attribute o f pos) (tL T W (lFld c k ml)) := by
  refine pe_of (pe_fld ha hb) fun σ H Q ⟨S, B, env, mss, R, q⟩ => ⟨S, B, env, mss, R, ?_⟩
  unfold lFld at q
  cases hm : ml env with
  | ok i p =>
    simp only [hm] at q
    intro S' B' H' v u g hv hu
    have R' := R.grow g
    cases hx : atP i p env with
    | none => simp only [hx] at q; exact q.elim
    | some x =>
      simp only [hx] at q
      cases x with
      | obj c' ds =>
        simp only at q
        split at q
        · rename_i hc
          obtain ⟨rfl, hk⟩ := hc
          obtain ⟨v', u', mx, e1, e2, own, ok⟩ := R'.place hx
          rw [hv] at e1; cases e1
          rw [hu] at e2; cases e2
          cases own with
          | @obj a _ C dx fl ws xs _ _ m _ hcl hl q' r =>
            cases r
            obtain ⟨C', fl', hc', hfk, nd, cl, na, _⟩ := F.ex
            rw [hcl] at hc'; cases hc'
            have hws : k < ws.length := by rw [← q'.len]; exact hk
            have ha := (ok.2 _ List.mem_cons_self).1
            refine ⟨a, C, dx, _, ws[k], rfl, ha, hK ▸ cl, hK ▸ na, lookup_zip nd hfk (List.getElem?_eq_getElem hws), ?_⟩
            refine q S' B' H' v _ g hv (valP_app hu ?_)
            simp only [valP, childV]
            rw [ha]
            simp only
            rw [zip_snd hl (List.getElem?_eq_getElem hws)]
        · exact q.elim
      | _ => exact q.elim
  | ex x => simp only [hm] at q; exact q
  | er => simp only [hm] at q; exact q

/-! ### methods that change a place -/
@[simp] def eMut (ky : D → Bool) (op : D → List D → Option (D × D)) (ml : ML) (ks : List AK) : EE := fun env => match ml env with
  | .ok i p => match atP i p env with
    | some x0 => if ky x0 = true then (match eRow ks env with
      | .ok ds env => match env[i]? with
        | some (some (.own d)) => match getP p d with
          | some x => match op x ds with
            | some (x', r) => .ok (.own r) (env.set i (some (.own (setP p d x'))))
            | none => .er
          | none => .er
        | _ => .er
      | .ex x env => .ex x env
      | .er => .er) else .er
    | none => .er
  | .ex x => .ex x env
  | .er => .er
/-- what an operation on a place asks and leaves -/
def MutS (T : Tab) (op : D → List D → Option (D × D)) (r : V → List V → Hp → VK → Prop) : Prop := ∀ B S H x u mx ds vs me x' res, Owns T B [x] [u] mx → CellsOk S H mx → Owns T B ds vs me → CellsOk S H me → Apart mx me → Same B H → op x ds = some (x', res) →
  ∃ a o mx' w mr, (∃ o0, (a, o0) ∈ mx) ∧ Owns T B [x'] [u] mx' ∧ Owns T B [res] [w] mr ∧ ((mx' ++ mr).map (·.1)).Nodup ∧ (∀ c ∈ mx', c = (a, o) ∨ (c.1 ≠ a ∧ (c ∈ mx ∨ c ∈ me))) ∧ (∀ c ∈ mr, c.1 ≠ a ∧ (c ∈ mx ∨ c ∈ me)) ∧ ∀ Q : VK, Q w (upd H a o) → r u vs H Q
/-- one change -/
theorem mut_do {op : D → List D → Option (D × D)} {r : V → List V → Hp → VK → Prop} {Q : VK} {i : Nat} {p : List Nat} {d x x' res : D} {ds : List D} {vs : List V} {me : Cells} {v u : V} (M : MutS T op r) (R : SRx T S B env mss σ H)
    (hd : env[i]? = some (some (.own d))) (hp : getP p d = some x) (ho : op x ds = some (x', res)) (od : Owns T B ds vs me) (oc : CellsOk S H me) (ap : ∀ (j : Nat) (m : Cells), mss[j]? = some m → Apart m me) (hv : σ[i]? = some (some v)) (hu : valP H p v = some u)
    (q : ∀ mss' H' w mr, SRx T S B (env.set i (some (.own (setP p d x')))) mss' σ H' → Owns T B [res] [w] mr → CellsOk S H' mr → (∀ (j : Nat) (m : Cells), mss'[j]? = some m → Apart m mr) → Q w H') : r u vs H Q := by
  obtain ⟨v', u', mx, e1, e2, own, okx, ⟨m, hm, sub⟩, k⟩ := R.mut hd hp
  rw [hv] at e1; cases e1
  rw [hu] at e2; cases e2
  obtain ⟨a, o, mx', w, mr, h1, h2, h3, h4, h5, h6, h7⟩ := M B S H x u mx ds vs me x' res own okx od oc (fun c hc => ap i m hm c (sub c hc)) (R.bs.trans R.sh) ho
  obtain ⟨mss', R', c', ap'⟩ := k a o x' mx' me mr h1 oc ap h2 h4 h5 h6
  exact h7 Q (q mss' _ w mr R' h3 c' ap')
theorem ee_mut {Ty : String} {ky : D → Bool} {op : D → List D → Option (D × D)} {r : V → List V → Hp → VK → Prop} {ks : List AK} (M : MutS T op r) (hty : ∀ B H x u mx, Owns T B [x] [u] mx → (∀ c ∈ mx, H c.1 = some c.2) → ky x = true → tyV X.K Ty u H)
    (h : PE X e (tBM X.K Ty r (tL T W ml) (tPK T W ks))) : PE X e (tE T W (eMut ky op ml ks)) := by
  refine pe_of h fun σ H Q ⟨S, B, env, mss, R, q⟩ => ⟨S, B, env, mss, R, ?_⟩
  unfold eMut at q
  cases hm : ml env with
  | ok i p =>
    simp only [hm] at q
    cases hx : atP i p env with
    | none => simp only [hx] at q; exact q.elim
    | some x0 =>
      simp only [hx] at q
      split at q
      · rename_i hk
        intro S1 B1 H1 v u g1 hv hu
        have R1 := R.grow g1
        obtain ⟨v', u', mx, e1, e2, own, okx⟩ := R1.place hx
        rw [hv] at e1; cases e1
        rw [hu] at e2; cases e2
        refine ⟨hty B1 H1 x0 u mx own (fun c hc => (okx.2 c hc).1) hk, S1, B1, env, mss, R1, ?_⟩
        cases hks : aKs ks env with
        | ok avs =>
          simp only [eRow, hks] at q
          intro S2 B2 H2 vs css g2 f
          have R2 := R1.grow g2
          cases ht : takeAll avs env with
          | none => simp only [ht] at q; exact q.elim
          | some pr =>
            obtain ⟨ds, env'⟩ := pr
            simp only [ht] at q
            obtain ⟨mss', ms, R3, od, oc, ap, _, _⟩ := take_ok R2 f (fun m hm' i' m' hi c hc x hx' z => by
              have a1 := ((R1.ok i' m' hi).2 c hc).1
              have a2 := (f.new m hm').2 x hx'
              rw [z, a2] at a1; cases a1) ht
            cases hd : env'[i]? with
            | none => simp only [hd] at q; exact q.elim
            | some o =>
            cases o with
            | none => simp only [hd] at q; exact q.elim
            | some o =>
            cases o with
            | ro d => simp only [hd] at q; exact q.elim
            | own d =>
              simp only [hd] at q
              cases hg : getP p d with
              | none => simp only [hg] at q; exact q.elim
              | some x =>
                simp only [hg] at q
                cases hop : op x ds with
                | none => simp only [hop] at q; exact q.elim
                | some xr =>
                  obtain ⟨x', res⟩ := xr
                  simp only [hop] at q
                  exact mut_do M R3 hd hg hop od oc ap hv (valP_mono g2.h hu) fun mss4 H4 w mr R4 o4 c4 a4 => q S2 B2 H4 mss4 w (g1.w.trans g2.w) R4 ⟨mr, o4, c4, a4⟩
        | ex x => simp only [eRow, hks] at q; exact fun S2 B2 H2 cls d g2 ef => q S2 B2 H2 mss cls d (g1.w.trans g2.w) (R1.grow g2) ef
        | er => simp only [eRow, hks] at q; exact q
      · exact q.elim
  | ex x => simp only [hm] at q; exact fun S' B' H' cls d g ef => q S' B' H' mss cls d g.w (R.grow g) ef
  | er => simp only [hm] at q; exact q
theorem ee_mut0 {Ty : String} {ky : D → Bool} {op : D → List D → Option (D × D)} {r : V → List V → Hp → VK → Prop} (M : MutS T op r) (hty : ∀ B H x u mx, Owns T B [x] [u] mx → (∀ c ∈ mx, H c.1 = some c.2) → ky x = true → tyV X.K Ty u H)
    (h : PE X e (tBM0 X.K Ty r (tL T W ml))) : PE X e (tE T W (eMut ky op ml [])) := by
  refine pe_of h fun σ H Q ⟨S, B, env, mss, R, q⟩ => ⟨S, B, env, mss, R, ?_⟩
  unfold eMut at q
  cases hm : ml env with
  | ok i p =>
    simp only [hm] at q
    cases hx : atP i p env with
    | none => simp only [hx] at q; exact q.elim
    | some x0 =>
      simp only [hx] at q
      split at q
      · rename_i hk
        intro S1 B1 H1 v u g1 hv hu
        have R1 := R.grow g1
        obtain ⟨v', u', mx, e1, e2, own, okx⟩ := R1.place hx
        rw [hv] at e1; cases e1
        rw [hu] at e2; cases e2
        refine ⟨hty B1 H1 x0 u mx own (fun c hc => (okx.2 c hc).1) hk, ?_⟩
        simp only [eRow, aKs, takeAll] at q
        obtain ⟨d, hd, hg⟩ := atP_own hx
        simp only [hd, hg] at q
        cases hop : op x0 [] with
        | none => simp only [hop] at q; exact q.elim
        | some xr =>
          obtain ⟨x', res⟩ := xr
          simp only [hop] at q
          exact mut_do M R1 hd hg hop .nil ⟨.nil, fun _ h => nomatch h⟩ (fun _ _ _ _ _ _ h => nomatch h) hv hu fun mss4 H4 w mr R4 o4 c4 a4 => q S1 B1 H4 mss4 w g1.w R4 ⟨mr, o4, c4, a4⟩
      · exact q.elim
  | ex x => simp only [hm] at q; exact fun S' B' H' cls d g ef => q S' B' H' mss cls d g.w (R.grow g) ef
  | er => simp only [hm] at q; exact q

/-! ### lists -/
@[simp] def isLst : D → Bool
  | .lst _ => true
  | _ => false
theorem ty_lst {K : PySem.W.Frag} : ∀ B H x u mx, Owns T B [x] [u] mx → (∀ c ∈ mx, H c.1 = some c.2) → isLst x = true → tyV K "list" u H := by
  intro B H x u mx o hc hk
  cases o with
  | @lst a ws xs _ _ m _ q r => exact .inl ⟨rfl, ws, SqL.of (hc _ List.mem_cons_self)⟩
  | _ => cases hk
theorem owns_app {xs ys : List D} {vs ws : List V} {m n : Cells} (a : Owns T B xs vs m) (b : Owns T B ys ws n) : Owns T B (xs ++ ys) (vs ++ ws) (m ++ n) := by
  induction xs generalizing vs m with
  | nil => cases a; exact b
  | cons d ds ih =>
    obtain ⟨v, us, m1, m2, rfl, rfl, o1, o2⟩ := owns_uncons a
    have := owns_cons o1 (ih o2)
    simpa using this
/-- the common shape: the list at a becomes ws', its cells m' drawn from the old ones and the new ones -/
theorem mut_list {a : Addr} {ws ws' : List V} {xs' : List D} {m me m' mr : Cells} {res : D} {w : V} (ok : CellsOk S H ((a, .lst ws) :: m)) (oke : CellsOk S H me) (ap : Apart ((a, .lst ws) :: m) me) (o : Owns T B xs' ws' m') (or : Owns T B [res] [w] mr)
    (nd : ((m' ++ mr).map (·.1)).Nodup) (s1 : ∀ c ∈ m', c ∈ m ∨ c ∈ me) (s2 : ∀ c ∈ mr, c ∈ m ∨ c ∈ me) :
    (∃ o0, (a, o0) ∈ (a, HO.lst ws) :: m) ∧ Owns T B [.lst xs'] [.ref a] ((a, .lst ws') :: m') ∧ Owns T B [res] [w] mr ∧ ((((a, HO.lst ws') :: m') ++ mr).map (·.1)).Nodup ∧
      (∀ c ∈ (a, HO.lst ws') :: m', c = (a, .lst ws') ∨ (c.1 ≠ a ∧ (c ∈ (a, HO.lst ws) :: m ∨ c ∈ me))) ∧ (∀ c ∈ mr, c.1 ≠ a ∧ (c ∈ (a, HO.lst ws) :: m ∨ c ∈ me)) := by
  have na : ∀ c, (c ∈ m ∨ c ∈ me) → c.1 ≠ a := fun c hc z => by
    rcases hc with hc | hc
    · have := ok.1
      rw [List.map_cons, List.nodup_cons] at this
      exact this.1 (List.mem_map.mpr ⟨c, hc, z⟩)
    · exact ap _ List.mem_cons_self c hc z.symm
  refine ⟨⟨_, List.mem_cons_self⟩, ?_, or, ?_, fun c hc => ?_, fun c hc => ⟨na c (s2 c hc), (s2 c hc).imp (List.mem_cons_of_mem _) id⟩⟩
  · have := Owns.lst (a := a) o (Owns.nil (T := T) (B := B)); simpa using this
  · rw [List.cons_append, List.map_cons, List.nodup_cons]
    refine ⟨fun h => ?_, nd⟩
    obtain ⟨c, hc, e⟩ := List.mem_map.mp h
    rcases List.mem_append.mp hc with hc | hc
    · exact na c (s1 c hc) e
    · exact na c (s2 c hc) e
  · rcases List.mem_cons.mp hc with rfl | hc
    · exact .inl rfl
    · exact .inr ⟨na c (s1 c hc), (s1 c hc).imp (List.mem_cons_of_mem _) id⟩
theorem own_non : Owns T B [.im .non] [.non] [] := .im rfl .nil
def opAppend : D → List D → Option (D × D)
  | .lst xs, [d] => if xs.length < 1000000 then some (.lst (xs ++ [d]), .im .non) else none
  | _, _ => none
theorem mu_append : MutS T opAppend rAppend := by
  intro B S H x u mx ds vs me x' res ox okx od oke ap bh h
  unfold opAppend at h
  split at h
  · rename_i xs d
    split at h
    · rename_i hl
      simp only [Option.some.injEq, Prod.mk.injEq] at h
      obtain ⟨rfl, rfl⟩ := h
      cases ox with
      | @lst a ws _ _ _ m _ q r =>
        cases r
        rw [List.append_nil] at *
        obtain ⟨v, us, n1, n2, rfl, rfl, o1, o2⟩ := owns_uncons od
        cases o2
        rw [List.append_nil] at *
        have oo := owns_app q o1
        have okm : CellsOk S H m := ⟨(List.nodup_cons.mp (by simpa using okx.1)).2, fun c hc => okx.2 c (List.mem_cons_of_mem _ hc)⟩
        have nd := (cells_append okm oke fun c hc => ap c (List.mem_cons_of_mem _ hc)).1
        obtain ⟨z1, z2, z3, z4, z5, z6⟩ := mut_list okx oke ap oo own_non (by simpa using nd) (fun c hc => List.mem_append.mp hc) (fun _ h => nomatch h)
        have lw : ws.length < 1000000 := by rw [← q.len]; exact hl
        exact ⟨a, _, _, _, _, z1, z2, z3, z4, z5, z6, fun Q k => ⟨a, ws, v, rfl, rfl, (okx.2 _ List.mem_cons_self).1, Nat.lt_of_lt_of_le lw (le_line (Nat.le_refl _)), k⟩⟩
    · cases h
  · cases h
def opClear : D → List D → Option (D × D)
  | .lst _, [] => some (.lst [], .im .non)
  | _, _ => none
theorem mu_clear : MutS T opClear rClear := by
  intro B S H x u mx ds vs me x' res ox okx od oke ap bh h
  unfold opClear at h
  split at h
  · rename_i xs
    simp only [Option.some.injEq, Prod.mk.injEq] at h
    obtain ⟨rfl, rfl⟩ := h
    cases ox with
    | @lst a ws _ _ _ m _ q r =>
      cases r
      cases od
      rw [List.append_nil] at *
      obtain ⟨z1, z2, z3, z4, z5, z6⟩ := mut_list (ws' := []) okx oke ap (Owns.nil (T := T) (B := B)) own_non (by simp) (fun _ h => nomatch h) (fun _ h => nomatch h)
      exact ⟨a, _, _, _, _, z1, z2, z3, z4, z5, z6, fun Q k => ⟨a, ws, rfl, rfl, (okx.2 _ List.mem_cons_self).1, k⟩⟩
  · cases h
/-! xs[i] = e -/
def opSetI : D → List D → Option (D × D)
  | .lst xs, [.im (.int i), d] => match ixN xs.length i with
    | some j => some (.lst (xs.set j d), .im .non)
    | none => none
  | _, _ => none
def rSetI : V → List V → Hp → VK → Prop := fun u vs H Q => ∃ i v, vs = [i, v] ∧ rSetL u i v H fun H' => Q .non H'
theorem mu_setI : MutS T opSetI rSetI := by
  intro B S H x u mx ds vs me x' res ox okx od oke ap bh h
  unfold opSetI at h
  split at h
  · rename_i xs i d
    split at h
    · rename_i j hj
      simp only [Option.some.injEq, Prod.mk.injEq] at h
      obtain ⟨rfl, rfl⟩ := h
      cases ox with
      | @lst a ws _ _ _ m _ q r =>
        cases r
        rw [List.append_nil] at *
        obtain ⟨v0, us, n0, n1, rfl, rfl, o0, o1⟩ := owns_uncons od
        cases o0 with
        | im hi r0 =>
        cases r0
        obtain ⟨v, us, n1, n2, rfl, rfl, o1, o2⟩ := owns_uncons o1
        cases o2
        rw [List.append_nil, List.nil_append] at *
        obtain ⟨hlt, e2⟩ : j < xs.length ∧ True := ⟨(ixN_seq hj).2.1, trivial⟩
        have okm : CellsOk S H m := ⟨(List.nodup_cons.mp (by simpa using okx.1)).2, fun c hc => okx.2 c (List.mem_cons_of_mem _ hc)⟩
        -- split the row at j
        have spl : ∀ {ds : List D} {vs : List V} {ms : Cells} {j : Nat}, Owns T B ds vs ms → j < ds.length → CellsOk S H ms → (∀ c ∈ ms, c ∈ m) → ∃ m', Owns T B (ds.set j d) (vs.set j v) m' ∧ (m'.map (·.1)).Nodup ∧ (∀ c ∈ m', c ∈ ms ∨ c ∈ n1) := by
          intro ds
          induction ds with
          | nil => intro vs ms j o h; simp at h
          | cons y ys ih =>
            intro vs ms j o hl ok sub
            obtain ⟨v', us', p1, p2, rfl, rfl, w1, w2⟩ := owns_uncons o
            obtain ⟨c1, c2, c12⟩ := cells_split ok
            cases j with
            | zero =>
              refine ⟨n1 ++ p2, by simpa using owns_cons o1 w2, (cells_append oke c2 (apart_symm fun c hc => ap c (List.mem_cons_of_mem _ (sub c (List.mem_append_right _ hc))))).1, fun c hc => ?_⟩
              rcases List.mem_append.mp hc with hc | hc
              · exact .inr hc
              · exact .inl (List.mem_append_right _ hc)
            | succ j =>
              obtain ⟨m', w3, w4, w5⟩ := ih w2 (j := j) (by simpa using hl) c2 fun c hc => sub c (List.mem_append_right _ hc)
              refine ⟨p1 ++ m', by simpa using owns_cons w1 w3, ?_, fun c hc => ?_⟩
              · rw [List.map_append, List.nodup_append]
                refine ⟨c1.1, w4, fun x hx y hy => ?_⟩
                obtain ⟨c, hc, rfl⟩ := List.mem_map.mp hx
                obtain ⟨e, he, rfl⟩ := List.mem_map.mp hy
                rcases w5 e he with he | he
                · exact c12 c hc e he
                · exact ap c (List.mem_cons_of_mem _ (sub c (List.mem_append_left _ hc))) e he
              · rcases List.mem_append.mp hc with hc | hc
                · exact .inl (List.mem_append_left _ hc)
                · exact (w5 c hc).imp (List.mem_append_right _) id
        obtain ⟨m', w1, w2, w3⟩ := spl q hlt okm fun _ h => h
        obtain ⟨z1, z2, z3, z4, z5, z6⟩ := mut_list okx oke ap w1 own_non (by simpa using w2) w3 (fun _ h => nomatch h)
        refine ⟨a, _, _, _, _, z1, z2, z3, z4, z5, z6, fun Q k => ⟨.int i, v, rfl, a, ws, i, j, rfl, rfl, (okx.2 _ List.mem_cons_self).1, by rw [← q.len]; exact hj, k⟩⟩
    · cases h
  · cases h
/-- o[i] = e -/
@[simp] def sSub (op : D → List D → Option (D × D)) (me : EE) (ml : ML) (mi : ME) : MS := fun env => match me env with
  | .ok (.own dv) env => match ml env with
    | .ok i p => match mi env with
      | .ok r => match r.d with
        | .im k => match env[i]? with
          | some (some (.own d)) => match getP p d with
            | some x => match op x [.im k, dv] with
              | some (x', _) => .nx (env.set i (some (.own (setP p d x'))))
              | none => .er
            | none => .er
          | _ => .er
        | _ => .er
      | .ex x => .ex x env
      | .er => .er
    | .ex x => .ex x env
    | .er => .er
  | .ex x env => .ex x env
  | _ => .er
def tSub (r : V → List V → Hp → VK → Prop) (te to ti : TE) : TS := fun D σ H => te σ H fun y H1 => to σ H1 fun x H2 => ti σ H2 fun i H3 => r x [i, y] H3 fun _ H4 => D.nx σ H4
theorem ss_sub {st : Stmt} {op : D → List D → Option (D × D)} {r : V → List V → Hp → VK → Prop} {me : EE} (M : MutS T op r) (h : PS X st (tSub r (tE T W me) (tL T W ml) (tP T W mi))) : PS X st (tS T W pin σ0 (sSub op me ml mi)) := by
  refine ps_of h fun De σ H ⟨S, B, env, mss, R, hp, q⟩ => ⟨S, B, env, mss, R, ?_⟩
  cases hm : me env with
  | ok rv env1 =>
    intro S1 B1 H1 mss1 y g1 R1 f1
    simp only [sSub, hm] at q
    cases rv with
    | ro d => exact q.elim
    | bor i d => exact q.elim
    | own dv =>
      simp only at q
      obtain ⟨my, oy, oky, apy⟩ := f1
      refine ⟨S1, B1, env1, mss1, R1, ?_⟩
      cases hl : ml env1 with
      | ok i p =>
        simp only [hl] at q
        intro S2 B2 H2 v u g2 hv hu
        have R2 := R1.grow g2
        refine ⟨S2, B2, env1, mss1, R2, ?_⟩
        cases hi : mi env1 with
        | ok ri =>
          simp only [hi] at q
          intro S3 B3 H3 w g3 f3
          have R3 := R2.grow g3
          have rd := f3.read R3
          cases hk : ri.d with
          | im k =>
            simp only [hk] at q
            rw [hk] at rd
            obtain ⟨us, e, _, hik⟩ := ros_im rd
            cases e
            cases hd : env1[i]? with
            | none => simp only [hd] at q; exact q.elim
            | some o =>
            cases o with
            | none => simp only [hd] at q; exact q.elim
            | some o =>
            cases o with
            | ro d => simp only [hd] at q; exact q.elim
            | own d =>
              simp only [hd] at q
              cases hg : getP p d with
              | none => simp only [hg] at q; exact q.elim
              | some x =>
                simp only [hg] at q
                cases hop : op x [.im w, dv] with
                | none => simp only [hop] at q; exact q.elim
                | some xr =>
                  obtain ⟨x', res⟩ := xr
                  simp only [hop] at q
                  have gg := g2.trans g3
                  have od : Owns T B3 [.im w, dv] [w, y] ([] ++ my) := owns_cons (.im hik .nil) (oy.mono gg.w.b)
                  exact mut_do M R3 hd hg hop od (oky.grow gg.h gg.f) apy hv (valP_mono g3.h hu) fun mss4 H4 w4 mr R4 _ _ _ => q S3 B3 mss4 σ H4 ((g1.trans g2.w).trans g3.w) R4 hp
          | _ => simp only [hk] at q; exact q.elim
        | ex x => simp only [hi] at q; exact fun S3 B3 H3 cls d g3 ef => q S3 B3 mss1 σ H3 cls d ((g1.trans g2.w).trans g3.w) (R2.grow g3) hp ef
        | er => simp only [hi] at q; exact q
      | ex x => simp only [hl] at q; exact fun S3 B3 H3 cls d g3 ef => q S3 B3 mss1 σ H3 cls d (g1.trans g3.w) (R1.grow g3) hp ef
      | er => simp only [hl] at q; exact q
  | ex x env1 => simp only [sSub, hm] at q; exact fun S' B' H' mss' cls d g R' ef => q S' B' mss' σ H' cls d g R' hp ef
  | er => simp only [sSub, hm] at q; exact q
end
end Tr

/-! TrQ: stores, the end. -/
namespace Tr
open PySem L2
section
variable {X : Cx} {T : Tab}
theorem ps_setL {te to ti : TE} {e o i : Expr} {pos pos' : Pos} (he : PE X e te) (ho : PE X o to) (hi : PE X i ti)
    (ha : ∀ v, assign (.Subscript o i pos') X.env v = (do
      let ov ← holding [v] (eval o X.env)
      let iv ← holding [v, ov] (eval i X.env)
      standAt pos'
      holding [v, ov, iv] (setItem ov iv v)
      release [v, ov, iv] []) := by intro _; rfl)
    (hs : swapsWithSole [.Subscript o i pos'] e pos.line X.env = pure false := by rfl) (hw : swappedStores [.Subscript o i pos'] e X.env = pure none := by rfl)
    (h1 : (assignEach [.Subscript o i pos'] X.env).map (·.2) = [assign (.Subscript o i pos') X.env] := by rfl) :
    PS X (.Assign [.Subscript o i pos'] e pos) (tSub rSetI te to ti) := by
  have hp : PSet X (fun o i v H Q => rSetI o [i, v] H fun _ H' => Q H') := by
    intro pins s σ H x y v xv yv vv Q I r1 r2 r3 q
    obtain ⟨i', v', e, q⟩ := q
    cases e
    exact set_list pins s σ H x y v xv yv vv Q I r1 r2 r3 q
  exact ps_asg he (pg_sub ho hi hp ha) hs hw h1
theorem tl_nil : ∀ ds env env', tsNil ds env = some env' → ds.length = 0 := by
  intro ds env env' h
  cases ds with
  | nil => rfl
  | cons d ds => simp [tsNil] at h
theorem tl_cons {f : TgF} {fs : TgsF} {n : Nat} (h : ∀ ds env env', fs ds env = some env' → ds.length = n) : ∀ ds env env', tsCons f fs ds env = some env' → ds.length = n + 1 := by
  intro ds env env' q
  cases ds with
  | nil => simp [tsCons] at q
  | cons d ds =>
    simp only [tsCons] at q
    cases h1 : f d env with
    | none => rw [h1] at q; simp at q
    | some e2 => rw [h1] at q; simp at q; simp [h _ _ _ q]
end
open PySem.Spec PyProof.Rows
/-- the end of a law row: the law's mirror is true of every script -/
theorem walk_law {l : PySem.W.OpenLaw} {k : Nat} {q : Program} {loose : List Str} {XP : (Str → Option Value) → Heap → Prop} {YP : World → Heap → Prop} {d : DefRec} {K : Params → PySem.W.Frag} {x : Str} {mf : List Slot → FR}
    (hn : l.most = some 63) (hdf : d.params.defaults = []) (hr : Room k callerA)
    (hY : ∀ (w : World) (h : Heap), YP w h → (K w.params).In h)
    (F : ∀ (w : World) (mg : Str → Option Value) (fa : Addr) (h : Heap), (K w.params).In h → h.Ns mainGlobals mg → mg d.name = some (.ref fa) →
      ∃ (tb : Tab), tb.K = K w.params ∧ ∃ fd : FuncData, (∀ (s : Shared) (u : Value), BindsTo s fd ⟨[u], []⟩ [(x, u)]) ∧ ∀ base : Heap, (K w.params).In base → base.Ns mainGlobals mg → FnOk l.prog w (K w.params) mg base (L2.CX l.prog w) k fa fd [x] (spF tb 1 mf))
    (law : ∀ ns : List Int, ns.length ≤ 63 → ∃ as, mf [.ro (.scr ns)] = .ok (.im (.bl true)) as) :
    PySem.W.WalkO q loose XP YP l.row.toRowW d [] (fun f vs => PySem.call f vs) := by
  refine L2.walk_of (n := 63) (k := k) (x := x) (K := K) (CX := fun w => L2.CX l.prog w) (sp := fun w vs H Q E => ∀ tb : Tab, tb.K = K w.params → spF tb 1 mf vs H Q E) hn (by decide) hdf hr hY (fun w mg fa h k1 k2 k3 => ?_) (fun w H a ns hl _ hS tb htb => ?_) ?_
  · obtain ⟨tb, htb, fd, h1, h2⟩ := F w mg fa h k1 k2 k3
    exact ⟨fd, h1, fun base b1 b2 => (h2 base b1 b2).imp fun vs H Q E q => q tb htb⟩
  · obtain ⟨as, e⟩ := law ns hl
    refine ⟨rfl, H, fun _ => none, [.ro (.scr ns)], [[]], srx_ros (T := tb) (B := fun _ => none) (ds := [.scr ns]) (fun a u h => by cases h) (.scr (by rw [htb]; exact hS) .nil), ?_⟩
    rw [e]
    intro S' B' H' v ms mss g R o c ap
    exact own_im o
  · rintro w H s e s' ⟨_, _, _, _, _, _, _, _, _, _, _, _, h⟩
    exact h
/-- tables of the law's defs -/
theorem all_tab {l : PySem.W.OpenLaw} {w : World} {K : PySem.W.Frag} {mg : Str → Option Value} {fa : Addr} {k : Nat} {x : Str} {mf : List Slot → FR} {tab : PySem.W.Frag → (Nat → Addr) → Tab} (ht : ∀ K x, (tab K x).K = K)
    (h : ∃ (xs : Nat → Addr) (fd : FuncData), (∀ (s : Shared) (v : Value), BindsTo s fd ⟨[v], []⟩ [(x, v)]) ∧ ∀ base : Heap, K.In base → base.Ns mainGlobals mg → FnOk l.prog w K mg base (L2.CX l.prog w) k fa fd [x] (spF (tab K xs) 1 mf)) :
    ∃ (tb : Tab), tb.K = K ∧ ∃ fd : FuncData, (∀ (s : Shared) (u : Value), BindsTo s fd ⟨[u], []⟩ [(x, u)]) ∧ ∀ base : Heap, K.In base → base.Ns mainGlobals mg → FnOk l.prog w K mg base (L2.CX l.prog w) k fa fd [x] (spF tb 1 mf) := by
  obtain ⟨xs, fd, h1, h2⟩ := h
  exact ⟨tab K xs, ht K xs, fd, h1, h2⟩
end Tr

/-! TrR: what the words reckon, told plainly. -/
namespace Tr
open PySem L2
@[simp] theorem cp_im (v : V) : copyD (.im v) = true := rfl
@[simp] theorem cp_fz (d : D) : copyD (.fz d) = true := rfl
@[simp] theorem cp_lst (d : List D) : copyD (.lst d) = false := rfl
@[simp] theorem cp_scr (d : List Int) : copyD (.scr d) = false := rfl
@[simp] theorem cp_dct (k) (d : List D) : copyD (.dct k d) = false := rfl
@[simp] theorem cp_obj (k) (d : List D) : copyD (.obj k d) = false := rfl
@[simp] theorem cp_tup (d : List D) : copyD (.tup d) = copyDs d := by rw [copyD]
@[simp] theorem cps_nil : copyDs [] = true := by rw [copyDs]
@[simp] theorem cps_cons (d : D) (ds : List D) : copyDs (d :: ds) = (copyD d && copyDs ds) := by rw [copyDs]
@[simp] theorem uz_im (v : V) : unfz (.im v) = .im v := rfl
@[simp] theorem uz_lst (v : List D) : unfz (.lst v) = .lst v := rfl
@[simp] theorem uz_tup (v : List D) : unfz (.tup v) = .tup v := rfl
@[simp] theorem uz_scr (v : List Int) : unfz (.scr v) = .scr v := rfl
@[simp] theorem uz_dct (k) (v : List D) : unfz (.dct k v) = .dct k v := rfl
@[simp] theorem uz_obj (k) (v : List D) : unfz (.obj k v) = .obj k v := rfl
@[simp] theorem uz_fz (v : D) : unfz (.fz v) = unfz v := rfl
theorem eqv_int (a b : Int) : PyData.eqv (.int a) (.int b) = decide (a = b) := by
  by_cases h : a = b <;> simp [PyData.eqv, h]
@[simp] theorem fEq_int (a b : Int) : fEq [.im (.int a), .im (.int b)] = some (.im (.bl (decide (a = b)))) := by
  have h : PySem.SeqAt.shaped (.int a) = true := rfl
  have h' : PySem.SeqAt.shaped (.int b) = true := rfl
  simp [fEq, toPy, h, h', eqv_int]
@[simp] theorem fNe_int (a b : Int) : fNe [.im (.int a), .im (.int b)] = some (.im (.bl (decide (a ≠ b)))) := by
  have h : PySem.SeqAt.shaped (.int a) = true := rfl
  have h' : PySem.SeqAt.shaped (.int b) = true := rfl
  simp [fNe, toPy, h, h', eqv_int]
theorem eqv_bool (a b : Bool) : PyData.eqv (.bool a) (.bool b) = (a == b) := by
  cases a <;> cases b <;> rfl
@[simp] theorem fEq_bl (a b : Bool) : fEq [.im (.bl a), .im (.bl b)] = some (.im (.bl (a == b))) := by
  have h : PySem.SeqAt.shaped (.bool a) = true := rfl
  have h' : PySem.SeqAt.shaped (.bool b) = true := rfl
  simp [fEq, toPy, h, h', eqv_bool]
@[simp] theorem fNe_bl (a b : Bool) : fNe [.im (.bl a), .im (.bl b)] = some (.im (.bl (!(a == b)))) := by
  have h : PySem.SeqAt.shaped (.bool a) = true := rfl
  have h' : PySem.SeqAt.shaped (.bool b) = true := rfl
  simp [fNe, toPy, h, h', eqv_bool]
theorem eqv_str (a b : Str) : PyData.eqv (.str a) (.str b) = (a == b) := by
  simp [PyData.eqv]
theorem fEq_str {a b : Str} (ha : PyData.strOk a = true) (hb : PyData.strOk b = true) : fEq [.im (.str a), .im (.str b)] = some (.im (.bl (a == b))) := by
  have h : PySem.SeqAt.shaped (.str a) = true := by simp [PySem.SeqAt.shaped, PyData.canLay0, ha, PyData.depth]
  have h' : PySem.SeqAt.shaped (.str b) = true := by simp [PySem.SeqAt.shaped, PyData.canLay0, hb, PyData.depth]
  simp [fEq, toPy, h, h', eqv_str]
theorem fNe_str {a b : Str} (ha : PyData.strOk a = true) (hb : PyData.strOk b = true) : fNe [.im (.str a), .im (.str b)] = some (.im (.bl (!(a == b)))) := by
  have h : PySem.SeqAt.shaped (.str a) = true := by simp [PySem.SeqAt.shaped, PyData.canLay0, ha, PyData.depth]
  have h' : PySem.SeqAt.shaped (.str b) = true := by simp [PySem.SeqAt.shaped, PyData.canLay0, hb, PyData.depth]
  simp [fNe, toPy, h, h', eqv_str]
@[simp] theorem r_lt (a b : Int) : fLt [.im (.int a), .im (.int b)] = some (.im (.bl (decide (a < b)))) := rfl
@[simp] theorem r_le (a b : Int) : fLe [.im (.int a), .im (.int b)] = some (.im (.bl (decide (a ≤ b)))) := rfl
@[simp] theorem r_gt (a b : Int) : fGt [.im (.int a), .im (.int b)] = some (.im (.bl (decide (b < a)))) := rfl
@[simp] theorem r_ge (a b : Int) : fGe [.im (.int a), .im (.int b)] = some (.im (.bl (decide (b ≤ a)))) := rfl
@[simp] theorem r_add (a b : Int) : fAdd [.im (.int a), .im (.int b)] = some (.im (.int (a + b))) := rfl
@[simp] theorem r_sub (a b : Int) : fSub [.im (.int a), .im (.int b)] = some (.im (.int (a - b))) := rfl
theorem r_mul {a b : Int} (h : cMul a b = true) : fMul [.im (.int a), .im (.int b)] = some (.im (.int (a * b))) := by
  show orF (fI2 cMul fun i j => .int (i * j)) _ _ = _
  simp [orF, fI2, h]
theorem big_60 {a : Int} (h : a.natAbs < 10 ^ 900) : a.natAbs < BIG := big_of (Nat.lt_of_lt_of_le h (Nat.pow_le_pow_right (by decide) (by decide)))
theorem mul_ok {a b : Int} (ha : a.natAbs < 10 ^ 900) (hb : b.natAbs < 10 ^ 900) : cMul a b = true := decide_eq_true (.inr (.inr ⟨big_60 ha, big_60 hb⟩))
theorem div_ok {a b : Int} (h0 : b ≠ 0) (hb : b.natAbs < 10 ^ 900) : cDiv a b = true := decide_eq_true ⟨h0, big_60 hb⟩
theorem r_div {a b : Int} (h : cDiv a b = true) : fDiv [.im (.int a), .im (.int b)] = some (.im (.int (fdv a b))) := by
  show fI2 cDiv (fun i j => .int (fdv i j)) _ = _
  simp [fI2, h]
theorem r_mod {a b : Int} (h : b ≠ 0) : fMod [.im (.int a), .im (.int b)] = some (.im (.int (fmd a b))) := by
  show fI2 (fun _ j => decide (j ≠ 0)) (fun i j => .int (fmd i j)) _ = _
  simp [fI2, h]
theorem r_modp {a b : Int} (h : 0 < b) : fMod [.im (.int a), .im (.int b)] = some (.im (.int (a % b))) := by
  rw [r_mod (by omega)]; simp [fmd, h]
theorem r_divp {a b : Int} (h : 0 < b) (h2 : b < 10 ^ 200) : fDiv [.im (.int a), .im (.int b)] = some (.im (.int (a / b))) := by
  rw [r_div (div_ok (by omega) (by omega))]; simp [fdv, h]
theorem r_mul9 {a b : Int} (ha : a.natAbs < 10 ^ 200) (hb : b.natAbs < 10 ^ 200) : fMul [.im (.int a), .im (.int b)] = some (.im (.int (a * b))) :=
  r_mul (mul_ok (Nat.lt_of_lt_of_le ha (Nat.pow_le_pow_right (by decide) (by decide))) (Nat.lt_of_lt_of_le hb (Nat.pow_le_pow_right (by decide) (by decide))))
@[simp] theorem fdv_pos {a b : Int} (h : 0 < b) : fdv a b = a / b := if_pos h
@[simp] theorem fmd_pos {a b : Int} (h : 0 < b) : fmd a b = a % b := if_pos h
@[simp] theorem r_abs (i : Int) : fAbs [.im (.int i)] = some (.im (.int (if i < 0 then -i else i))) := rfl
@[simp] theorem r_neg (i : Int) : fNeg [.im (.int i)] = some (.im (.int (-i))) := rfl
@[simp] theorem r_not (b : Bool) : fNot [.im (.bl b)] = some (.im (.bl (!b))) := rfl
@[simp] theorem r_len_lst (xs : List D) : fLen [.lst xs] = some (.im (.int xs.length)) := rfl
@[simp] theorem r_len_tup (xs : List D) : fLen [.tup xs] = some (.im (.int xs.length)) := rfl
@[simp] theorem r_len_scr (xs : List Int) : fLen [.scr xs] = some (.im (.int xs.length)) := rfl
theorem r_len_str {s : Str} (h : s.length ≤ 1000000) : fLen [.im (.str s)] = some (.im (.int s.length)) := by
  show orF fLenS fLenD _ = _
  simp [orF, fLenS, h]
theorem fIsi_mk {d : D} {t u : String} {b : Bool} (h1 : tyN d = some t) (h2 : kitB t u = some b) : fIsi [d, .im (.ty u)] = some (.im (.bl b)) := by
  simp only [fIsi, h1, h2]
@[simp] theorem isi_int_int (i : Int) : fIsi [.im (.int i), .im (.ty "int")] = some (.im (.bl true)) := fIsi_mk rfl rfl
@[simp] theorem isi_bl_int (i : Bool) : fIsi [.im (.bl i), .im (.ty "int")] = some (.im (.bl true)) := fIsi_mk rfl (by decide +kernel)
@[simp] theorem isi_non_int : fIsi [.im .non, .im (.ty "int")] = some (.im (.bl false)) := fIsi_mk rfl (by decide +kernel)
@[simp] theorem isi_str_int (s : Str) : fIsi [.im (.str s), .im (.ty "int")] = some (.im (.bl false)) := fIsi_mk rfl (by decide +kernel)
@[simp] theorem isi_tup_int (s : List D) : fIsi [.tup s, .im (.ty "int")] = some (.im (.bl false)) := fIsi_mk rfl (by decide +kernel)
@[simp] theorem isi_lst_int (s : List D) : fIsi [.lst s, .im (.ty "int")] = some (.im (.bl false)) := fIsi_mk rfl (by decide +kernel)
@[simp] theorem isi_int_bl (i : Int) : fIsi [.im (.int i), .im (.ty "bool")] = some (.im (.bl false)) := fIsi_mk rfl (by decide +kernel)
@[simp] theorem isi_bl_bl (i : Bool) : fIsi [.im (.bl i), .im (.ty "bool")] = some (.im (.bl true)) := fIsi_mk rfl (by decide +kernel)
@[simp] theorem isi_non_bl : fIsi [.im .non, .im (.ty "bool")] = some (.im (.bl false)) := fIsi_mk rfl (by decide +kernel)
@[simp] theorem isi_str_bl (i : Str) : fIsi [.im (.str i), .im (.ty "bool")] = some (.im (.bl false)) := fIsi_mk rfl (by decide +kernel)
@[simp] theorem isi_tup_tup (i : List D) : fIsi [.tup i, .im (.ty "tuple")] = some (.im (.bl true)) := fIsi_mk rfl (by decide +kernel)
@[simp] theorem isi_lst_tup (i : List D) : fIsi [.lst i, .im (.ty "tuple")] = some (.im (.bl false)) := fIsi_mk rfl (by decide +kernel)
@[simp] theorem isi_lst_lst (i : List D) : fIsi [.lst i, .im (.ty "list")] = some (.im (.bl true)) := fIsi_mk rfl (by decide +kernel)
@[simp] theorem isi_tup_lst (i : List D) : fIsi [.tup i, .im (.ty "list")] = some (.im (.bl false)) := fIsi_mk rfl (by decide +kernel)
@[simp] theorem isi_str_str (i : Str) : fIsi [.im (.str i), .im (.ty "str")] = some (.im (.bl true)) := fIsi_mk rfl (by decide +kernel)
@[simp] theorem isi_int_str (i : Int) : fIsi [.im (.int i), .im (.ty "str")] = some (.im (.bl false)) := fIsi_mk rfl (by decide +kernel)
@[simp] theorem isi_non_str : fIsi [.im .non, .im (.ty "str")] = some (.im (.bl false)) := fIsi_mk rfl (by decide +kernel)
theorem atI_nat {α : Type} (xs : List α) (n : Nat) : atI xs (n : Int) = xs[n]? := by
  unfold atI ixN
  by_cases h : n < xs.length
  · simp [h]
  · simp [h]
@[simp] theorem atI_0 {α : Type} (xs : List α) : atI xs 0 = xs[0]? := atI_nat xs 0
@[simp] theorem atI_1 {α : Type} (xs : List α) : atI xs 1 = xs[1]? := atI_nat xs 1
@[simp] theorem atI_2 {α : Type} (xs : List α) : atI xs 2 = xs[2]? := atI_nat xs 2
@[simp] theorem atI_3 {α : Type} (xs : List α) : atI xs 3 = xs[3]? := atI_nat xs 3
@[simp] theorem gIx_int (i : Int) : gIx (.im (.int i)) = some (ixG i) := rfl
@[simp] theorem ixG_lst (i : Int) (xs : List D) : ixG i (.lst xs) = atI xs i := rfl
@[simp] theorem ixG_tup (i : Int) (xs : List D) : ixG i (.tup xs) = atI xs i := rfl
@[simp] theorem ixG_scr (i : Int) (xs : List Int) : ixG i (.scr xs) = (atI xs i).map fun n => .im (.int n) := rfl
@[simp] theorem d_own (d : D) : Rs.d (.own d) = d := rfl
@[simp] theorem d_ro (d : D) : Rs.d (.ro d) = d := rfl
@[simp] theorem d_if (c : Prop) [Decidable c] (d : D) : Rs.d (if c then .own d else .ro d) = d := by split <;> rfl
@[simp] theorem d_if2 (c : Prop) [Decidable c] (i) (d : D) : Rs.d (if c then .own d else .bor i d) = d := by split <;> rfl
@[simp] theorem d_bor (i) (d : D) : Rs.d (.bor i d) = d := rfl
theorem cell_ix (ns : List Int) (k : Nat) (h : k < ns.length) : (atI ns (k : Int)) = some (ns.getD k 0) := by
  rw [atI_nat]
  simp [h]
end Tr

/-! TrS: except X as e: v = isinstance(e, C). -/
namespace Tr
open PySem L2
theorem kit1_ty {K : PySem.W.Frag} {D : Addr} {T : String} {b : Bool} (hm : PySem.W.kitMeta T = true) (h : PySem.W.subIn K (.ref D) (.type T) = some b) : PySem.W.kitOne K (.ref D) (.type T) = some b := by
  have e : (Value.ref D == Value.type T) = false := rfl
  unfold PySem.W.kitOne PySem.W.kitCls
  rw [e, if_neg Bool.false_ne_true]
  show (if PySem.W.kitMeta T = true then _ else none) = _
  rw [if_pos hm]
  exact h
theorem kit1_ref {K : PySem.W.Frag} {D C : Addr} (hd : PySem.W.hasDictIn K C = true) (ht : PySem.W.typeIn K (.ref C) = some (.type "type")) (h : PySem.W.subIn K (.ref D) (.ref C) = some true) : PySem.W.kitOne K (.ref D) (.ref C) = some true := by
  obtain ⟨cd, hc, _⟩ := PySem.W.any_some hd
  unfold PySem.W.kitOne PySem.W.kitCls
  split
  · rfl
  · have e2 : ((PySem.W.clsIn K C).isSome && PySem.W.typeIn K (.ref C) == some (.type "type")) = true := by rw [hc, ht] <;> rfl
    show (if _ then _ else none) = _
    rw [if_pos e2]
    exact h
section
variable {X : Cx} {T : Tab} {W : WX} {pin : Pins} {σ0 : L2.St} {e a b : Expr} {es : List Expr} {S B H S' B' H' : Hp} {env : En} {mss : List Cells} {σ : L2.St} {pos : Pos}
@[simp] def sTryIs (sub isb : Nat → Option Bool) (ie iv : Nat) (m : MS) : MS := fun env => match m env with
  | .ex x env => match sub x.c with
    | some true => match isb x.c with
      | some b => if x.vs.isEmpty then .nx ((env.set iv (some (.own (.im (.bl b))))).set ie none) else .er
      | none => .er
    | some false => .ex x env
    | none => .er
  | z => z
/-- the isinstance table -/
structure IsTab (T : Tab) (isb : Nat → Option Bool) (c : V) : Prop where
  run : ∀ k C b, T.exc[k]? = some ⟨C, []⟩ → isb k = some b → ExcC T.K C ∧ ∃ cv, (∀ u, RelV c u → u = cv) ∧ PySem.W.kitOne T.K (.ref C) cv = some b
theorem ss_tryIs {x n v : Str} {c : V} {cv : Value} {ie iv : Nat} {body : List Stmt} {np pos' p1 p2 p3 p4 p5 p6 : Pos} {y : Str} {m : MS} {sub isb : Nat → Option Bool} (hK : X.K = T.K) (hs : X.stack = X.env :: X.outer) (hf : X.env.frame = some X.env.locals)
    (hN : X.N.Nodup) (hi : X.N[ie]? = some n) (hln : X.env.kindOf n = some .local) (hn : X.env.scope.names.lookup n = some .local) (hv : X.N[iv]? = some v) (hlv : Loc X.env.scope v) (hc : Names X x cv) (tk : Takes X W)
    (hp1 : pin ie = false) (hp2 : pin iv = false) (hne : ie ≠ iv)
    (hsub : ∀ c C fl b, T.exc[c]? = some ⟨C, fl⟩ → sub c = some b → PySem.W.exmOne T.K (.ref C) cv = some b) (hisb : IsTab T isb c)
    (hm : X.mg "isinstance" = none) (hg : Gl X "isinstance")
    (hcl : ∀ (a : Addr) (pn : List (Addr × Obj)), PE (X.suite a pn) (.Name y p1) (tC c))
    (hvn : ∀ (a : Addr) (pn : List (Addr × Obj)), PE (X.suite a pn) (.Name n p3) (tVar ie))
    (hst : ∀ (a : Addr) (pn : List (Addr × Obj)) (te : TE), PE (X.suite a pn) (.Call (.Name "isinstance" p2) [.Name n p3, .Name y p1] [] p4) te → PS (X.suite a pn) (.Assign [.Name v p5] (.Call (.Name "isinstance" p2) [.Name n p3, .Name y p1] [] p4) p6) (tAsg te (gName iv)))
    (hb : ∀ (W : WX) (pn : List (Addr × Obj)) (xe : Value → Shared → Prop), Takes (X.tr pn xe) W → PassesOwn (model X.prog X.w) X.A X.env xe → PSs (X.tr pn xe) body (tS T W pin σ0 m)) :
    PS X (.Try body [.ExceptHandler (some (.Name x np)) (some n) [.Assign [.Name v p5] (.Call (.Name "isinstance" p2) [.Name n p3, .Name y p1] [] p4) p6] pos'] [] [] pos) (tS T W pin σ0 (sTryIs sub isb ie iv m)) := by
  let ts : Addr → Value → Option Addr → TS := fun a cls d De σ H => ∃ C b, cls = .ref C ∧ d = none ∧ (∃ σ1 : L2.St, σ = σ1.set ie (some (.ref a))) ∧ ExcC T.K C ∧ (∃ cv, (∀ u, RelV c u → u = cv) ∧ PySem.W.kitOne T.K (.ref C) cv = some b) ∧ De.nx (σ.set iv (some (.bl b))) H
  refine ps_of (ps_try_as (i := ie) hs hf hN hi hln hc tk (tb := fun W => tS T W pin σ0 m) (ts := ts) hb fun a oe cls d pn hz hfs => ?_) fun D σ H ⟨S, B, env, mss, R, hp, q⟩ => ⟨S, B, env, mss, R, hp, ?_⟩
  · refine pss_one ⟨fun pins s σ H De I h => ?_⟩
    obtain ⟨C, b, rfl, rfl, ⟨σ1, rfl⟩, hEx, ⟨cv', hcv, hk⟩, hD⟩ := h
    have hEx' : ExcC X.K C := hK ▸ hEx
    have P := hst a ((a, oe) :: pn) _ (pe_callB (call_isE hEx' hz hfs) hg hm PyProof.Rows.boot_isinstance (pa_cons (hvn a _) (pa_cons (hcl a _) pa_nil)))
    have hlen : ie < σ1.length := by
      have h1 := (List.getElem?_eq_some_iff.mp hi).1
      have h2 := I.len
      simp at h2
      omega
    refine P.run pins s _ H De I ?_
    exact ⟨.ref a, by simp [hlen], c, cv', b, rfl, hcv, hK ▸ hk, hD⟩
  · cases hm : m env with
    | ex x env' =>
      simp only [sTryIs, hm] at q
      intro S' B' mss' σ' H' cls d g R' hp' ef
      obtain ⟨C, fl, hC, rfl, hl, hi2, hd⟩ := id ef
      cases hsb : sub x.c with
      | none => simp only [hsb] at q; exact q.elim
      | some b =>
        refine ⟨b, hK ▸ hsub _ C fl b hC hsb, fun hb a ha => ?_, fun hb => ?_⟩
        · subst hb
          simp only [hsb] at q
          cases his : isb x.c with
          | none => simp only [his] at q; exact q.elim
          | some b =>
            simp only [his] at q
            split at q
            · rename_i hvs
              have hfl : fl = [] := by
                have h0 : x.vs.length = 0 := by simpa using hvs
                exact List.length_eq_zero_iff.mp (by rw [← hl, h0])
              subst hfl
              obtain ⟨r1, r2⟩ := hisb.run _ C b hC his
              refine ⟨C, b, rfl, hd, ⟨_, rfl⟩, r1, r2, ?_⟩
              have R1 := R'.set (i := iv) (e := some (.own (.im (.bl b)))) (s := some (.bl b)) (m := []) (Owns.im rfl .nil) ⟨.nil, fun _ h => nomatch h⟩ fun _ _ _ _ _ _ _ h => nomatch h
              have R2 := R1.set (i := ie) (e := none) (s := none) (m := []) rfl ⟨.nil, fun _ h => nomatch h⟩ fun _ _ _ _ _ _ _ h => nomatch h
              have e2 : (((σ'.set ie (some (.ref a))).set iv (some (.bl b))).set ie none) = ((σ'.set iv (some (.bl b))).set ie none) := by
                rw [List.set_comm _ _ hne, List.set_set]
              show D.nx _ _
              rw [e2]
              exact q S' B' _ _ H' g R2 (pin_set (pin_set hp' hp2) hp1)
            · exact q.elim
        · subst hb
          simp only [hsb] at q
          exact q S' B' mss' σ' H' _ d g R' hp' ef
    | nx env' => simp only [sTryIs, hm] at q; exact q
    | rt d env' => simp only [sTryIs, hm] at q; exact q
    | bk env' => simp only [sTryIs, hm] at q; exact q
    | ct env' => simp only [sTryIs, hm] at q; exact q
    | er => simp only [sTryIs, hm] at q; exact q
end
end Tr

/-! TrT: slices, texts' methods. -/
namespace Tr
open PySem L2
section
variable {X : Cx} {T : Tab} {W : WX} {e a b o : Expr} {es : List Expr} {ma mb : ME} {ms : List ME} {t t' : TE} {pos p2 apos : Pos} {S B H : Hp}
theorem ros_drop : ∀ {n : Nat} {ds : List D} {vs : List V}, Ros T B S ds vs → Ros T B S (ds.drop n) (vs.drop n)
  | 0, _, _, r => r
  | n + 1, [], _, r => by cases r; exact .nil
  | n + 1, d :: ds, vs, r => by
    cases vs with
    | nil => cases r
    | cons v vs =>
      have : Ros T B S ds vs := by cases r <;> assumption
      exact ros_drop (n := n) this
theorem ros_take : ∀ {n : Nat} {ds : List D} {vs : List V}, Ros T B S ds vs → Ros T B S (ds.take n) (vs.take n)
  | 0, _, _, r => .nil
  | n + 1, [], _, r => by cases r; exact .nil
  | n + 1, d :: ds, vs, r => by
    cases vs with
    | nil => cases r
    | cons v vs =>
      have h1 : Ros T B S ds vs := by cases r <;> assumption
      have h2 : Ros T B S [d] [v] := by
        cases r with
        | im h r => exact .im h .nil
        | lst h q r => exact .lst h q .nil
        | tup h q r => exact .tup h q .nil
        | dct h hl q r => exact .dct h hl q .nil
        | obj h hc hl q r => exact .obj h hc hl q .nil
        | fz q r => exact .fz q .nil
        | scr h r => exact .scr h .nil
      exact ros_cons h2 (ros_take (n := n) h1)
/-! ### slices -/
def fSl (d : D) (lo hi : Option Int) : Option D := match unfz d with
  | .lst xs => if copyDs (cutD xs lo hi) then some (.lst (cutD xs lo hi)) else none
  | .scr ns => some (.lst (((ns.drop (HT.sIx ns.length 0 lo)).take (HT.sIx ns.length ns.length hi - HT.sIx ns.length 0 lo)).map fun n => .im (.int n)))
  | .im (.str z) => if z.length ≤ 1000000 then some (.im (.str (cutS z lo hi))) else none
  | _ => none
def rSl (K : PySem.W.Frag) : V → Option Int → Option Int → Hp → VK → Prop := fun x lo hi H Q => rSlL K x lo hi H Q ∨ rSlS x lo hi H Q
theorem sl_any : SlR X (rSl X.K) := sl_list.or sl_str
theorem vs_sl {d z : D} {v : V} {lo hi : Option Int} (bh : Same B H) (r : Ros T B H [d] [v]) (h : fSl d lo hi = some z) : Gives T B H z (fun Q => rSl T.K v lo hi H Q) := by
  unfold fSl at h
  have q := ros_unfz bh r
  split at h
  · rename_i xs e
    rw [e] at q
    split at h
    · rename_i hc
      cases h
      obtain ⟨a, ws, rfl, h1, q⟩ := ros_lst q
      have l := q.len
      have eq : Ros T B H (cutD xs lo hi) (cutV ws lo hi) := by
        unfold cutD cutV
        rw [l]
        exact ros_take (ros_drop q)
      exact .lst (copy_own eq hc) fun Q k => .inl ⟨a, ws, rfl, SqL.of h1, k⟩
    · cases h
  · rename_i ns e
    rw [e] at q
    cases h
    cases q with
    | @scr _ a _ _ _ h1 _ =>
      refine .lst (ws := cutV (ns.map V.int) lo hi) ?_ fun Q k => .inl ⟨a, _, rfl, h1, k⟩
      have e2 : cutV (ns.map V.int) lo hi = ((ns.drop (HT.sIx ns.length 0 lo)).take (HT.sIx ns.length ns.length hi - HT.sIx ns.length 0 lo)).map V.int := by
        unfold cutV
        simp [List.map_drop, List.map_take]
      rw [e2]
      have := owns_ims (T := T) (B := B) (imm_ints ((ns.drop (HT.sIx ns.length 0 lo)).take (HT.sIx ns.length ns.length hi - HT.sIx ns.length 0 lo)))
      rw [List.map_map] at this
      exact this
  · rename_i z' e
    rw [e] at q
    split at h
    · rename_i hz
      cases h
      cases ros_im1 q
      exact .im rfl fun Q k => .inr ⟨z', rfl, le_line hz, k⟩
    · cases h
  · cases h
def tPo (T : Tab) (W : WX) : Option ME → TO
  | none => tNoPart
  | some m => tPart (tP T W m)
@[simp] def mPo (m : Option ME) (env : En) : Rz (Option Int) := match m with
  | none => .ok none
  | some m => match m env with
    | .ok r => match r.d with
      | .im (.int i) => .ok (some i)
      | _ => .er
    | .ex x => .ex x
    | .er => .er
@[simp] def mSl (ma : ME) (ml mh : Option ME) : ME := fun env => match ma env with
  | .ok ra => match mPo ml env with
    | .ok l => match mPo mh env with
      | .ok h => match fSl ra.d l h with
        | some z => .ok (.own z)
        | none => .er
      | .ex x => .ex x
      | .er => .er
    | .ex x => .ex x
    | .er => .er
  | .ex x => .ex x
  | .er => .er
theorem po_run {m : Option ME} {σ : L2.St} {env : En} {mss : List Cells} {Q : Option Int → Hp → Prop} (R : SRx T S B env mss σ H)
    (ok : ∀ i, mPo m env = .ok i → ∀ S' B' H', Gr S B H S' B' H' → Q i H') (ex : ∀ x, mPo m env = .ex x → ∀ S' B' H' cls d, Gr S B H S' B' H' → ExF T H' x cls d → W cls d σ H') (er : mPo m env ≠ .er) : tPo T W m σ H Q := by
  cases m with
  | none => exact ok none rfl S B H (Gr.refl R.bs R.sh)
  | some m =>
    refine ⟨S, B, env, mss, R, ?_⟩
    cases hm : m env with
    | ok r =>
      intro S' B' H' v g f
      simp only [mPo, hm] at ok er
      split at er
      · rename_i i e
        have rd := f.read (R.grow g)
        rw [e] at rd
        cases ros_im1 rd
        refine ⟨i, rfl, ok (some i) ?_ S' B' H' g⟩
        rw [e]
      · exact absurd rfl er
    | ex x =>
      simp only [mPo, hm] at ex
      exact fun S' B' H' cls d g f => ex x rfl S' B' H' cls d g f
    | er => simp only [mPo, hm] at er; exact absurd rfl er
theorem ep_sl {ml mh : Option ME} {lo hi : Option Expr} (hK : X.K = T.K) (ha : PE X e (tP T W ma)) (hl : L2.PO X lo (tPo T W ml)) (hh : L2.PO X hi (tPo T W mh)) : PE X (.Subscript e (.Slice lo hi none p2) pos) (tP T W (mSl ma ml mh)) := by
  refine pe_of (pe_slice (hK ▸ sl_any) ha hl hh) fun σ H Q ⟨S, B, env, mss, R, q⟩ => ⟨S, B, env, mss, R, ?_⟩
  cases hm : ma env with
  | ok ra =>
    intro S1 B1 H1 v g f1
    simp only [mSl, hm] at q
    have R1 := R.grow g
    refine po_run R1 (fun l el S2 B2 H2 g2 => ?_) (fun x el S2 B2 H2 cls d g2 ef => ?_) (fun el => ?_)
    · have R2 := R1.grow g2
      simp only [el] at q
      refine po_run R2 (fun h eh S3 B3 H3 g3 => ?_) (fun x el3 S3 B3 H3 cls d g3 ef => ?_) (fun el3 => ?_)
      · have R3 := R2.grow g3
        simp only [eh] at q
        cases hz : fSl ra.d l h with
        | none => simp only [hz] at q; exact q.elim
        | some z =>
          simp only [hz] at q
          have gv := vs_sl (R3.bs.trans R3.sh) (((f1.grow R1 g2).grow R2 g3).read R3) hz
          exact gv.run (mss := mss) (Q := Q) R3.bs R3.sh (((q.grow g).grow g2).grow g3)
      · simp only [el3] at q; exact ((q.grow g).grow g2) _ _ _ _ _ g3 ef
      · simp only [el3] at q; exact q
    · simp only [el] at q; exact (q.grow g) _ _ _ _ _ g2 ef
    · simp only [el] at q; exact q
  | ex x => simp only [mSl, hm] at q; exact q
  | er => simp only [mSl, hm] at q; exact q
/-! ### texts' methods, one argument -/
@[simp] def isS : D → Bool
  | .im (.str _) => true
  | _ => false
@[simp] def mM1 (f : List D → Option D) (ma mb : ME) : ME := fun env => match ma env with
  | .ok ra => if isS ra.d then (match mb env with
    | .ok rb => match f [ra.d, rb.d] with
      | some z => .ok (.own z)
      | none => .er
    | .ex x => .ex x
    | .er => .er) else .er
  | .ex x => .ex x
  | .er => .er
theorem ep_m1 {f : List D → Option D} {r : V → List V → Hp → VK → Prop} (hf : VS T f (fun vs H Q => ∃ x y, vs = [x, y] ∧ r x [y] H Q)) (h : PE X e (tM1 r (tP T W ma) (tP T W mb))) : PE X e (tP T W (mM1 f ma mb)) := by
  refine pe_of h fun σ H Q ⟨S, B, env, mss, R, q⟩ => ⟨S, B, env, mss, R, ?_⟩
  cases ha : ma env with
  | ok ra =>
    intro S1 B1 H1 v g f1
    simp only [mM1, ha] at q
    have R1 := R.grow g
    cases hs : isS ra.d with
    | false => simp only [hs] at q; exact q.elim
    | true =>
    simp only [hs, if_true] at q
    have rd := f1.read R1
    have hv : ∃ a, v = .str a := by
      cases hd : ra.d with
      | im w =>
        rw [hd] at rd hs
        cases w <;> simp at hs
        have := ros_im1 rd
        cases this
        exact ⟨_, rfl⟩
      | _ => rw [hd] at hs; simp at hs
    refine ⟨hv, S1, B1, env, mss, R1, ?_⟩
    cases hb : mb env with
    | ok rb =>
      intro S2 B2 H2 w g2 f2
      simp only [hb] at q
      cases hz : f [ra.d, rb.d] with
      | none => simp only [hz] at q; exact q.elim
      | some z =>
        simp only [hz] at q
        have R2' := R1.grow g2
        have gv := hf B2 H2 [ra.d, rb.d] [v, w] z (R2'.bs.trans R2'.sh) (ros2 ((f1.grow R1 g2).read R2') (f2.read R2')) hz
        obtain ⟨x, y, e, hx⟩ := gv.run (mss := mss) (Q := Q) R2'.bs R2'.sh ((q.grow g).grow g2)
        cases e
        exact hx
    | ex x => simp only [hb] at q; exact q.grow g
    | er => simp only [hb] at q; exact q
  | ex x => simp only [mM1, ha] at q; exact q
  | er => simp only [mM1, ha] at q; exact q
def fFind : List D → Option D
  | [.im (.str a), .im (.str b)] => some (.im (.int (Txt.find a b)))
  | _ => none
theorem vs_find : VS T fFind (fun vs H Q => ∃ x y, vs = [x, y] ∧ ∃ a b, x = .str a ∧ [y] = [.str b] ∧ Q (.int (Txt.find a b)) H) := by
  intro B H ds vs z bh ro h
  unfold fFind at h
  split at h
  · cases h
    obtain ⟨v, u, rfl, r1, r2⟩ := ros_c2 ro
    cases ros_im1 r1
    cases ros_im1 r2
    exact .im rfl fun Q k => ⟨_, _, rfl, _, _, rfl, rfl, k⟩
  · cases h
def cMulS (a : Str) (n : Int) : Bool := decide (-1000 < n ∧ n < 1000 ∧ a.length ≤ 1000)
theorem mulS_ok {a : Str} {n : Int} (h : cMulS a n = true) : MulOk a n := by
  obtain ⟨h1, h2, h3⟩ := of_decide_eq_true h
  refine ⟨?_, fun hn _ => ?_, fun hn _ => ?_⟩
  · have e1 : decide (n < -(2 ^ 63 : Int)) = false := decide_eq_false (by omega)
    have e2 : decide (n ≥ 2 ^ 63) = false := decide_eq_false (by omega)
    rw [e1, e2]; rfl
  · have h4 : (9000000000000000 : Int) ≤ (2 ^ 63 - 1) / n := by
      rw [Int.le_ediv_iff_mul_le (by omega)]
      omega
    omega
  · have h5 : a.length * n.toNat ≤ 1000 * 1000 := Nat.mul_le_mul h3 (by omega)
    have h6 := le_line (n := a.length * n.toNat) (by omega)
    show decide (a.length * n.toNat > sizeLine) = false
    exact decide_eq_false (by omega)
def fMulS : List D → Option D
  | [.im (.str a), .im (.int n)] => if cMulS a n then some (.im (.str (Txt.mul a n))) else none
  | _ => none
def rMulS : R2 := fun x y H Q => ∃ a n, x = .str a ∧ y = .int n ∧ MulOk a n ∧ Q (.str (Txt.mul a n)) H
theorem op_mulS : OpR X (binaryOp .Mult) rMulS := by
  intro pins s σ H x y v u Q I rx ry h
  obtain ⟨a, n, rfl, rfl, hc, h⟩ := h
  obtain ⟨t, rfl⟩ := rx
  obtain ⟨t', rfl⟩ := ry
  exact PySem.SB.mul hc fun t2 k => ⟨.str _, H, I.tok k, ⟨t2, rfl⟩, h⟩
theorem vs_mulS : VS2 T fMulS rMulS := by
  intro B H ds vs z bh ro h
  unfold fMulS at h
  split at h
  · rename_i a n
    split at h
    · rename_i hc
      cases h
      obtain ⟨v, u, rfl, r1, r2⟩ := ros_c2 ro
      cases ros_im1 r1
      cases ros_im1 r2
      exact .im rfl fun Q k => ⟨_, _, rfl, _, _, rfl, rfl, mulS_ok hc, k⟩
    · cases h
  · cases h
theorem op_mulPS : OpR X (binaryOp .Mult) (fun x y H Q => (rI CMulX (fun i j => .int (i * j)) x y H Q ∨ rRep x y H Q) ∨ rMulS x y H Q) := OpR.or op_mulP op_mulS
theorem vs_mulPS : VS2 T (orF fMul fMulS) (fun x y H Q => (rI CMulX (fun i j => .int (i * j)) x y H Q ∨ rRep x y H Q) ∨ rMulS x y H Q) := VS2.or vs_mul vs_mulS
@[simp] theorem mulPS_int (a b : Int) : orF fMul fMulS [.im (.int a), .im (.int b)] = fMul [.im (.int a), .im (.int b)] := by
  show (match fMul [.im (.int a), .im (.int b)] with | some z => some z | none => fMulS [.im (.int a), .im (.int b)]) = _
  cases fMul [.im (.int a), .im (.int b)] with
  | some z => rfl
  | none => rfl
@[simp] theorem mulPS_lst (xs : List D) (b : Int) : orF fMul fMulS [.lst xs, .im (.int b)] = fMul [.lst xs, .im (.int b)] := by
  show (match fMul [.lst xs, .im (.int b)] with | some z => some z | none => fMulS [.lst xs, .im (.int b)]) = _
  cases fMul [.lst xs, .im (.int b)] with
  | some z => rfl
  | none => rfl
@[simp] theorem mulPS_str (a : Str) (b : Int) : orF fMul fMulS [.im (.str a), .im (.int b)] = fMulS [.im (.str a), .im (.int b)] := rfl
def fStarts : List D → Option D
  | [.im (.str a), .im (.str b)] => some (.im (.bl (Txt.startswith a b)))
  | _ => none
def strsD : List D → Option (List Str)
  | [] => some []
  | .im (.str x) :: ds => (strsD ds).map (x :: ·)
  | _ => none
theorem ros_strs {B S : Hp} : ∀ {ds : List D} {vs : List V} {ys : List Str}, Ros T B S ds vs → strsD ds = some ys → vs = ys.map V.str
  | [], vs, ys, r, h => by cases r; simp [strsD] at h; subst h; rfl
  | d :: ds, vs, ys, r, h => by
    cases d with
    | im w =>
      cases w with
      | str x =>
        simp only [strsD, Option.map_eq_some_iff] at h
        obtain ⟨ys', h1, rfl⟩ := h
        cases r with
        | im _ r => rw [ros_strs r h1]; rfl
      | _ => simp [strsD] at h
    | _ => simp [strsD] at h
def fJoin : List D → Option D
  | [.im (.str a), d] => match unfz d with
    | .lst xs => match strsD xs with
      | some ys => if (ys.map (·.length)).sum + ys.length * a.length ≤ 16777216 then some (.im (.str (Txt.join a ys))) else none
      | none => none
    | .tup xs => match strsD xs with
      | some ys => if (ys.map (·.length)).sum + ys.length * a.length ≤ 16777216 then some (.im (.str (Txt.join a ys))) else none
      | none => none
    | _ => none
  | _ => none
theorem vs_join : VS T fJoin (fun vs H Q => ∃ x y, vs = [x, y] ∧ ∃ a p, ∃ ys : List Str, x = .str a ∧ [y] = [.ref p] ∧ (SqL T.K H p (ys.map V.str) ∨ SqT T.K H p (ys.map V.str)) ∧
    (ys.map (·.length)).sum + ys.length * a.length ≤ 16777216 ∧ Q (.str (Txt.join a ys)) H) := by
  intro B H ds vs z bh ro h
  unfold fJoin at h
  split at h
  · rename_i a d
    obtain ⟨v, u, rfl, r1, r2⟩ := ros_c2 ro
    cases ros_im1 r1
    have q := ros_unfz bh r2
    split at h
    · rename_i xs e
      rw [e] at q
      split at h
      · rename_i ys hy
        split at h
        · rename_i hl
          cases h
          obtain ⟨p, ws, rfl, h1, q⟩ := ros_lst q
          have := ros_strs q hy
          subst this
          exact .im rfl fun Q k => ⟨_, _, rfl, _, _, _, rfl, rfl, .inl (SqL.of h1), hl, k⟩
        · cases h
      · cases h
    · rename_i xs e
      rw [e] at q
      split at h
      · rename_i ys hy
        split at h
        · rename_i hl
          cases h
          obtain ⟨p, ws, rfl, h1, q⟩ := ros_tup q
          have := ros_strs q hy
          subst this
          exact .im rfl fun Q k => ⟨_, _, rfl, _, _, _, rfl, rfl, .inr (SqT.of (bh _ _ h1)), hl, k⟩
        · cases h
      · cases h
    · cases h
  · cases h
end
end Tr

/-! TrU: list comprehensions (one clause, one name, items that may be copied). -/
namespace Tr
open PySem L2
@[simp] def roS : Option Slot → Option Slot
  | some (.own d) => some (.ro d)
  | x => x
@[simp] def roE (env : En) : En := env.map roS
@[simp] def lcF (j : Nat) (mt : MT) (me : ME) (env : En) : List D → List D → Rz (List D)
  | [], acc => .ok acc
  | d :: ds, acc => match mt ((env.set j none).set j (some (slotD d))) with
    | .ok true env3 => match me env3 with
      | .ok r => if copyD r.d then lcF j mt me env ds (acc ++ [r.d]) else .er
      | _ => .er
    | .ok false _ => lcF j mt me env ds acc
    | _ => .er
@[simp] def mLc (mi : MI) (j : Nat) (mt : MT) (me : ME) : ME := fun env => match mi env with
  | .ok items fz => if fz.all (fun i => decide (i < env.length)) && decide (items.length ≤ 1000000) then (match lcF j mt me (roE env) items [] with
    | .ok ds => .ok (.own (.lst ds))
    | _ => .er) else .er
  | .ex x => .ex x
  | .er => .er
@[simp] def tTrue : MT := fun env => .ok true env
section
variable {X : Cx} {T : Tab} {W : WX} {e : Expr} {ma mb me : ME} {mt : MT} {mi : MI} {pos : Pos} {S B H S' B' H' : Hp} {env : En} {mss : List Cells} {σ : L2.St}
theorem wi_same {m : Cells} (sh : Same S H) (h : ∀ c ∈ m, H c.1 = some c.2) : Same (Wi S m) H := fun a o k => by
  unfold Wi at k
  cases e : S a with
  | some u => rw [e] at k; cases k; exact sh _ _ e
  | none =>
    rw [e] at k
    have k : m.lookup a = some o := k
    obtain ⟨l1, l2, rfl, _⟩ := List.lookup_eq_some_iff.mp k
    exact h (a, o) (by simp)
theorem fz_ex : ∀ {fz : List Nat} {S : Hp} {mss : List Cells}, Same S H → (∀ (j : Nat) (m : Cells), mss[j]? = some m → ∀ c ∈ m, H c.1 = some c.2) → (∀ i ∈ fz, i < mss.length) → ∃ Sf, FzOk S mss fz Sf ∧ Same Sf H
  | [], S, mss, sh, _, _ => ⟨S, .nil, sh⟩
  | i :: is, S, mss, sh, hm, hi => by
    have hl := hi i List.mem_cons_self
    have e : mss[i]? = some mss[i] := List.getElem?_eq_getElem hl
    obtain ⟨Sf, f, s⟩ := fz_ex (fz := is) (S := Wi S mss[i]) (mss := mss.set i []) (wi_same sh (hm i _ e)) (fun j m h => by
      rcases set_at h with ⟨_, rfl⟩ | ⟨_, h⟩
      · exact fun c hc => nomatch hc
      · exact hm j m h) (fun k hk => by rw [List.length_set]; exact hi k (List.mem_cons_of_mem _ hk))
    exact ⟨Sf, .cons e f, s⟩
/-- a frame that is only read -/
structure RoE (T : Tab) (S B : Hp) (env : En) (σ : L2.St) : Prop where
  l : env.length = σ.length
  at_ : ∀ (i : Nat) (e : Option Slot) (s : Option V), env[i]? = some e → σ[i]? = some s → SlotR T S B e s []
theorem slotR_up {o : Option Slot} {s : Option V} (h : SlotR T S B o s []) (s1 : Same S S') (b1 : Same B B') : SlotR T S' B' o s [] := by
  cases o with
  | none => exact h
  | some o =>
    cases s with
    | none => cases o <;> exact h
    | some v =>
      cases o with
      | own d => exact Owns.mono h b1
      | ro d => exact ⟨rfl, h.2.mono s1 b1⟩
theorem RoE.up (R : RoE T S B env σ) (s : Same S S') (b : Same B B') : RoE T S' B' env σ := ⟨R.l, fun i e x h1 h2 => slotR_up (R.at_ i e x h1 h2) s b⟩
theorem RoE.srx (R : RoE T S B env σ) (bs : Same B S) (sh : Same S H) : SRx T S B env (env.map fun _ => []) σ H := by
  refine ⟨bs, sh, R.l, by simp [R.l], fun i e s m h1 h2 h3 => ?_, fun i m h => ?_, fun i j m m' _ h1 h2 => ?_⟩
  · simp only [List.getElem?_map, Option.map_eq_some_iff] at h3
    obtain ⟨_, _, rfl⟩ := h3
    exact R.at_ i e s h1 h2
  · simp only [List.getElem?_map, Option.map_eq_some_iff] at h
    obtain ⟨_, _, rfl⟩ := h
    exact ⟨.nil, fun _ h => nomatch h⟩
  · simp only [List.getElem?_map, Option.map_eq_some_iff] at h1
    obtain ⟨_, _, rfl⟩ := h1
    exact fun c hc => nomatch hc
theorem RoE.set {j : Nat} {o : Option Slot} {s : Option V} (R : RoE T S B env σ) (h : SlotR T S B o s []) : RoE T S B (env.set j o) (σ.set j s) := by
  refine ⟨by simp [R.l], fun i e x h1 h2 => ?_⟩
  rcases set_at h1 with ⟨rfl, rfl⟩ | ⟨hj, h1⟩
  · rcases set_at h2 with ⟨_, rfl⟩ | ⟨hj, h2⟩
    · exact h
    · exact absurd rfl hj
  · rcases set_at h2 with ⟨z, rfl⟩ | ⟨_, h2⟩
    · exact absurd z hj
    · exact R.at_ i e x h1 h2
theorem SRx.roE (R : SRx T S B env mss σ H) : RoE T H B (roE env) σ := by
  refine ⟨by simp [R.l1], fun i e s h1 h2 => ?_⟩
  simp only [Tr.roE, List.getElem?_map, Option.map_eq_some_iff] at h1
  obtain ⟨o, h1, rfl⟩ := h1
  have hl : i < mss.length := by rw [R.l2, ← R.l1]; exact (List.getElem?_eq_some_iff.mp h1).1
  have q := R.at_ i o s mss[i] h1 h2 (List.getElem?_eq_getElem hl)
  cases o with
  | none => exact rfl
  | some o =>
    cases s with
    | none => cases o <;> exact q
    | some v =>
      cases o with
      | own d => exact ⟨rfl, Owns.ro q (R.bs.trans R.sh) fun c hc => ((R.ok i mss[i] (List.getElem?_eq_getElem hl)).2 c hc).1⟩
      | ro d => exact ⟨rfl, q.2.mono R.sh (Same.refl _)⟩
theorem slotD_ok {d : D} {v : V} (r : Ros T B S [d] [v]) : SlotR T S B (some (slotD d)) (some v) [] := by
  unfold slotD
  split
  · rename_i h; exact copy_own r (copy1 h)
  · exact ⟨rfl, r⟩
theorem i_lc {j : Nat} {y : Str} {Q : VK} (h : tP T W (mLc mi j mt me) σ H Q) : tLc (tI T W mi) (gName j) (tT T WF mt) (tP T WF me) [j] σ H Q := by
  obtain ⟨S, B, env, mss, R, q⟩ := h
  refine ⟨S, B, env, mss, R, ?_⟩
  cases hi : mi env with
  | ex x => simp only [mLc, hi] at q; exact q
  | er => simp only [mLc, hi] at q; exact q
  | ok items fz =>
    intro S1 B1 H1 J g hJ D hD
    simp only [mLc, hi] at q
    split at q
    · rename_i hc
      simp only [Bool.and_eq_true, List.all_eq_true, decide_eq_true_eq] at hc
      have R1 := R.grow g
      obtain ⟨Sf, f1, f2⟩ := fz_ex (H := H1) (fz := fz) R1.sh (fun k m hk c hc => ((R1.ok k m hk).2 c hc).1) (fun i hi => by rw [R1.l2, ← R1.l1]; exact hc.1 i hi)
      have I := hJ Sf f1 f2
      have E0 := R1.roE
      have hH1 : ∀ {o : HO}, Same H1 (upd H1 D o) := fun {o} a u h => by rw [upd_ne (fun z => by rw [z, hD] at h; cases h)]; exact h
      have base : ∃ ds, lcF j mt me (Tr.roE env) items [] = .ok ds ∧ PP T W S B mss σ H Q (.ok (.own (.lst ds))) := by
        cases hl : lcF j mt me (Tr.roE env) items [] with
        | ok ds => rw [hl] at q; exact ⟨ds, rfl, q⟩
        | ex x => rw [hl] at q; exact q.elim
        | er => rw [hl] at q; exact q.elim
      obtain ⟨ds, hds, q⟩ := base
      let IV : Nat → Hp → Prop := fun i Hx => ∃ B2 ws acc, Same H1 Hx ∧ Hx D = some (.lst ws) ∧ Same B1 B2 ∧ Same B2 Hx ∧ B2 D = none ∧ (∀ a o, B2 a = some o → B1 a = some o ∨ H1 a = none) ∧ Owns T B2 acc ws [] ∧ copyDs acc = true ∧ ws.length ≤ i ∧ lcF j mt me (Tr.roE env) (items.drop i) acc = .ok ds
      refine ⟨fun i m Hx => m = items.length - i ∧ IV i Hx, ⟨items.length, rfl, B1, [], [], hH1, upd_same, Same.refl _, (R1.bs.trans R1.sh).trans hH1, (R1.bs.trans R1.sh).free hD, fun a o h => .inl h, .nil, rfl, Nat.zero_le _, hds⟩, ?_⟩
      rintro i m Hx ⟨rfl, B2, ws, acc, k1, k2, k3, k4, k5, k6, k7, k7c, k8, k9⟩
      obtain ⟨yes, no⟩ := I Hx B2 Hx (f2.trans k1) k3 k4 (Same.refl _) i
      cases hi' : items[i]? with
      | none =>
        have hl : items.length ≤ i := List.getElem?_eq_none_iff.mp hi'
        rw [List.drop_eq_nil_of_le hl] at k9
        simp only [lcF] at k9
        have e9 := Rz.ok.inj k9
        subst e9
        refine .inl ⟨no hi', ?_⟩
        let Sx : Hp := fun a => if a = D then none else Hx a
        have s1 : Same H1 Sx := fun a u h => by
          show (if a = D then none else Hx a) = _
          rw [if_neg (fun z => by rw [z, hD] at h; cases h)]; exact k1 _ _ h
        have b2 : Same B2 Sx := fun a u h => by
          show (if a = D then none else Hx a) = _
          rw [if_neg (fun z => by rw [z, k5] at h; cases h)]; exact k4 _ _ h
        have s2 : Same Sx Hx := fun a u h => by
          have h : (if a = D then none else Hx a) = some u := h
          split at h
          · cases h
          · exact h
        have g' := gr_pure R1.bs R1.sh ⟨s1, k3, k6⟩ b2 s2
        have o : Owns T B2 [.lst acc] [.ref D] [(D, .lst ws)] := .lst (m := []) (ms := []) k7 .nil
        have c : CellsOk Sx Hx [(D, .lst ws)] := ⟨by simp, fun c hc => by
          have e : c = (D, .lst ws) := by simpa using hc
          subst e; exact ⟨k2, if_pos rfl⟩⟩
        exact q _ _ _ _ (g.trans g') ((own_pure R1.sh s1 o c b2).back g.h)
      | some d =>
        have hl : i < items.length := (List.getElem?_eq_some_iff.mp hi').1
        have ed : items.drop i = d :: items.drop (i + 1) := by
          rw [List.drop_eq_getElem_cons hl]
          congr 1
          exact (List.getElem?_eq_some_iff.mp hi').2
        rw [ed] at k9
        obtain ⟨go, yl⟩ := yes d hi'
        refine .inr ⟨go, fun Hx => IV (i + 1) Hx, fun H' h => ⟨items.length - (i + 1), by omega, rfl, h⟩, fun x H2 y => ?_⟩
        obtain ⟨S2, B2', gr, ro⟩ := yl x H2 y
        have hS2 : Same Hx H2 := gr.h
        have bs2 : Same B2' H2 := gr.bs.trans gr.sh
        have E2 : RoE T H2 B2' (Tr.roE env) σ := E0.up (k1.trans hS2) (k3.trans gr.w.b)
        have E3 := E2.set (j := j) (o := none) (s := none) rfl
        have E4 := E3.set (j := j) (o := some (slotD d)) (s := some x) (slotD_ok (ro.mono gr.sh (Same.refl _)))
        simp only [lcF] at k9
        refine ⟨?_, H2, B2', _, _, E4.srx bs2 (Same.refl _), ?_⟩
        · show ((σ.set j none).set j (some x)).set j none = σ.set j none
          rw [List.set_set, List.set_set]
        have nD : ∀ {Bn : Hp}, (∀ a o, Bn a = some o → B2' a = some o ∨ H2 a = none) → Bn D = none ∧ ∀ a o, Bn a = some o → B1 a = some o ∨ H1 a = none := fun {Bn} hn => by
          have key : ∀ a o, Bn a = some o → B2 a = some o ∨ Hx a = none := fun a o h => by
            rcases hn a o h with z | z
            · exact gr.w.n _ _ z
            · exact .inr (hS2.free z)
          refine ⟨?_, fun a o h => ?_⟩
          · cases e : Bn D with
            | none => rfl
            | some u =>
              rcases key _ _ e with z | z
              · rw [k5] at z; cases z
              · rw [k2] at z; cases z
          · rcases key a o h with z | z
            · exact k6 _ _ z
            · exact .inr (k1.free z)
        cases hz : mt (((Tr.roE env).set j none).set j (some (slotD d))) with
        | ok b env3 =>
          intro S3 B3 H3 mss3 g3 R3
          simp only [hz] at k9
          have t3 : Same H2 H3 := g3.s.trans R3.sh
          cases b with
          | false =>
            rw [if_neg Bool.false_ne_true]
            obtain ⟨n1, n2⟩ := nD (Bn := B3) g3.n
            exact ⟨B3, ws, acc, (k1.trans hS2).trans t3, t3 _ _ (hS2 _ _ k2), (k3.trans gr.w.b).trans g3.b, R3.bs.trans R3.sh, n1, n2, k7.mono (gr.w.b.trans g3.b), k7c, by omega, k9⟩
          | true =>
            rw [if_pos rfl]
            refine ⟨S3, B3, env3, mss3, R3, ?_⟩
            cases hm : me env3 with
            | ok r =>
              intro S4 B4 H4 v g4 f4
              simp only [hm] at k9
              split at k9
              · rename_i hcp
                have R4 := R3.grow g4
                have ow : Owns T B4 [r.d] [v] [] := copy_own (f4.read R4) (copy1 hcp)
                have t4 : Same H3 H4 := g4.h
                have hD4 : H4 D = some (.lst ws) := t4 _ _ (t3 _ _ (hS2 _ _ k2))
                obtain ⟨n1, n2⟩ := nD (Bn := B4) fun a o h => by
                  rcases g4.w.n _ _ h with z | z
                  · exact g3.n _ _ z
                  · exact .inr (g3.s.free z)
                have b4 : Same B4 (upd H4 D (.lst (ws ++ [v]))) := fun a u h => by
                  rw [upd_ne (fun z => by rw [z, n1] at h; cases h)]
                  exact (R4.bs.trans R4.sh) _ _ h
                have hk7 := (k7.mono ((gr.w.b.trans g3.b).trans g4.w.b)).ro (Same.refl B4) fun _ h => nomatch h
                have how := ow.ro (Same.refl B4) fun _ h => nomatch h
                have hcc : copyDs (acc ++ [r.d]) = true := by rw [copyDs_append, k7c]; simp [hcp]
                have hsz := le_line hc.2
                refine ⟨ws, hD4, by omega, B4, ws ++ [v], acc ++ [r.d], fun a u h => ?_, upd_same, ((k3.trans gr.w.b).trans g3.b).trans g4.w.b, b4, n1, n2, copy_own (ros_append hk7 how) hcc, hcc, by simp; omega, k9⟩
                rw [upd_ne (fun z => by rw [z, hD] at h; cases h)]
                exact t4 _ _ (t3 _ _ (hS2 _ _ (k1 _ _ h)))
              · cases k9
            | ex x => simp only [hm] at k9; cases k9
            | er => simp only [hm] at k9; cases k9
        | ex x env3 => simp only [hz] at k9; cases k9
        | er => simp only [hz] at k9; cases k9
    · exact q.elim
theorem ep_lc {elt tg iter : Expr} {ifs : List Expr} {scope : Scope} {x : Str} {j : Nat} (hc : X.calm = true) (hN : X.N.Nodup) (hi : PI X tg iter (tI T W mi)) (ok : BlkOk X.N X.env.scope scope [(x, j)])
    (hg : ∀ (s : Shared) (H : Hp) (C : Addr) (cl : List (Str × Addr)) (fp : List Addr), PG (X.blk s H scope (compEnvC scope cl C X.env) fp) tg (gName j)) (ht : ∀ (s : Shared) (H : Hp) (C : Addr) (cl : List (Str × Addr)) (fp : List Addr), PTs (X.blk s H scope (compEnvC scope cl C X.env) fp) ifs (tT T WF mt))
    (he : ∀ (s : Shared) (H : Hp) (C : Addr) (cl : List (Str × Addr)) (fp : List Addr), PE (X.blk s H scope (compEnvC scope cl C X.env) fp) elt (tP T WF me)) (hs : ∀ x, foldedSetIterable iter X.env x = pure x := by intro _; rfl) :
    PE X (.ListComp elt [⟨tg, iter, ifs, 0⟩] scope pos) (tP T W (mLc mi j mt me)) :=
  pe_of (pe_lc (own := [(x, j)]) (g := gName j) (tt := tT T WF mt) hc hN hi ok hg ht he hs) fun _ _ _ => i_lc (y := x)
theorem pts_true : PTs X [] (tT T WF tTrue) := ⟨fun pins s σ H Q I ⟨S, B, env, mss, R, q⟩ => (pts_nil (X := X)).run pins s σ H Q I (q S B H mss Gw.refl R)⟩
theorem ss_setLc {pin : Pins} {σ0 : L2.St} {i : Nat} {y : Str} {py : Pos} {elt tg iter : Expr} {ifs : List Expr} {scope : Scope} {x : Str} {j : Nat} {pos spos : Pos} (hc : X.calm = true) (hN : X.N.Nodup) (hy : X.N[i]? = some y) (hyl : X.env.scope.names.lookup y = some .local) (hpin : pin i = false)
    (hsw : swapsWith (.ListComp elt [⟨tg, iter, ifs, 0⟩] scope pos) (some (.Name y py)) spos.line X.env = pure true) (hi : PI X tg iter (tI T W mi)) (ok : BlkOk X.N X.env.scope scope [(x, j)])
    (hg : ∀ (s : Shared) (H : Hp) (C : Addr) (cl : List (Str × Addr)) (fp : List Addr), PG (X.blk s H scope (compEnvC scope cl C X.env) fp) tg (gName j)) (ht : ∀ (s : Shared) (H : Hp) (C : Addr) (cl : List (Str × Addr)) (fp : List Addr), PTs (X.blk s H scope (compEnvC scope cl C X.env) fp) ifs (tT T WF mt))
    (he : ∀ (s : Shared) (H : Hp) (C : Addr) (cl : List (Str × Addr)) (fp : List Addr), PE (X.blk s H scope (compEnvC scope cl C X.env) fp) elt (tP T WF me)) (hs : ∀ x, foldedSetIterable iter X.env x = pure x := by intro _; rfl) :
    PS X (.Assign [.Name y py] (.ListComp elt [⟨tg, iter, ifs, 0⟩] scope pos) spos) (tS T W pin σ0 (sSet i (liftE (mLc mi j mt me)))) := by
  refine ps_of (ps_setLc (i := i) (own := [(x, j)]) (g := gName j) (tt := tT T WF mt) hc hN hy hyl hsw hi ok hg ht he hs) fun D σ H ⟨S, B, env, mss, R, hp, q⟩ => ?_
  refine i_lc (y := x) (Q := fun v H1 => D.nx (σ.set i (some v)) H1) (i_p ⟨S, B, env, mss, R, ?_⟩)
  cases hm : liftE (mLc mi j mt me) env with
  | ok r env' => simp only [sSet, hm] at q; exact fun S' B' H' mss' v g R' f => setS_ok hpin R' hp f (q.gw g)
  | ex x env' => simp only [sSet, hm] at q; exact fun S' B' H' mss' cls d g R' f => q S' B' mss' σ H' cls d g R' hp f
  | er => simp only [sSet, hm] at q; exact q
end
end Tr

/-! TrV: the empty dict; more plain facts. -/
namespace Tr
open PySem L2
section
variable {X : Cx} {T : Tab} {W : WX} {pos : Pos}
@[simp] def mNewD : ME := fun _ => .ok (.own (.dct [] []))
theorem ep_dnew : PE X (.Dict [] [] pos) (tP T W mNewD) := by
  refine pe_of pe_dnewK fun σ H Q ⟨S, B, env, mss, R, q⟩ => ?_
  exact (Gives.dct (T := T) (B := B) (H := H) (ks := []) (ds := []) (ws := []) (r := fun Q => tDNewK σ H Q) .nil rfl fun Q k p hp => k p hp).run (mss := mss) (Q := Q) R.bs R.sh q
end
@[simp] theorem isi_dct_int (k) (i : List D) : fIsi [.dct k i, .im (.ty "int")] = some (.im (.bl false)) := fIsi_mk rfl (by decide +kernel)
@[simp] theorem isi_dct_str (k) (i : List D) : fIsi [.dct k i, .im (.ty "str")] = some (.im (.bl false)) := fIsi_mk rfl (by decide +kernel)
@[simp] theorem isi_dct_bl (k) (i : List D) : fIsi [.dct k i, .im (.ty "bool")] = some (.im (.bl false)) := fIsi_mk rfl (by decide +kernel)
@[simp] theorem isi_lst_str (i : List D) : fIsi [.lst i, .im (.ty "str")] = some (.im (.bl false)) := fIsi_mk rfl (by decide +kernel)
@[simp] theorem isi_tup_str (i : List D) : fIsi [.tup i, .im (.ty "str")] = some (.im (.bl false)) := fIsi_mk rfl (by decide +kernel)
@[simp] theorem isi_bl_str (i : Bool) : fIsi [.im (.bl i), .im (.ty "str")] = some (.im (.bl false)) := fIsi_mk rfl (by decide +kernel)
@[simp] theorem isi_lst_bl (i : List D) : fIsi [.lst i, .im (.ty "bool")] = some (.im (.bl false)) := fIsi_mk rfl (by decide +kernel)
@[simp] theorem isi_tup_bl (i : List D) : fIsi [.tup i, .im (.ty "bool")] = some (.im (.bl false)) := fIsi_mk rfl (by decide +kernel)
end Tr

/-! TrW: d[k] = v of a dict whose values may be copied. -/
namespace Tr
open PySem L2
def dmap {α : Type} (k : Key) (d : α) : List Key → List α → List α
  | k' :: ks, x :: xs => (if k' = k then d else x) :: dmap k d ks xs
  | _, _ => []
def dput {α : Type} (ks : List Key) (xs : List α) (k : Key) (d : α) : List Key × List α := if (ks.any fun k' => decide (k' = k)) = true then (ks, dmap k d ks xs) else (ks ++ [k], xs ++ [d])
section
variable {X : Cx} {T : Tab} {W : WX}
theorem dmap_len {α : Type} {k : Key} {d : α} : ∀ {ks : List Key} {xs : List α}, ks.length = xs.length → (dmap k d ks xs).length = ks.length
  | [], [], _ => rfl
  | _ :: ks, _ :: xs, h => by simp [dmap, dmap_len (ks := ks) (xs := xs) (by simpa using h)]
  | [], _ :: _, h => by simp at h
  | _ :: _, [], h => by simp at h
theorem any_zip {k : Key} : ∀ {ks : List Key} {ws : List V}, ks.length = ws.length → ((ks.zip ws).any fun kv => decide (kv.1 = k)) = ks.any fun k' => decide (k' = k)
  | [], [], _ => by simp
  | k' :: ks, w :: ws, h => by
    have ih := any_zip (k := k) (ks := ks) (ws := ws) (by simpa using h)
    rw [List.zip_cons_cons, List.any_cons, ih, List.any_cons]
  | [], _ :: _, h => by simp at h
  | _ :: _, [], h => by simp at h
theorem map_zip {k : Key} {v : V} : ∀ {ks : List Key} {ws : List V}, ks.length = ws.length → (ks.zip ws).map (fun kv => if kv.1 = k then (kv.1, v) else kv) = ks.zip (dmap k v ks ws)
  | [], [], _ => rfl
  | k' :: ks, w :: ws, h => by
    have ih := map_zip (k := k) (v := v) (ks := ks) (ws := ws) (by simpa using h)
    rw [List.zip_cons_cons, List.map_cons, ih]
    by_cases e : k' = k <;> simp [dmap, e]
  | [], _ :: _, h => by simp at h
  | _ :: _, [], h => by simp at h
theorem dput_zip {ks : List Key} {ws : List V} {k : Key} {v : V} (h : ks.length = ws.length) : (dput ks ws k v).1.zip (dput ks ws k v).2 = putK (ks.zip ws) k v := by
  unfold dput putK
  rw [any_zip h]
  by_cases e : (ks.any fun k' => decide (k' = k)) = true
  · rw [if_pos e, if_pos e, map_zip h]
  · rw [if_neg e, if_neg e]
    show (ks ++ [k]).zip (ws ++ [v]) = _
    rw [List.zip_append h]
    rfl
theorem dmap_own {B : Hp} {d : D} {v : V} {k : Key} (hd : Owns T B [d] [v] []) : ∀ {ks : List Key} {xs : List D} {ws : List V}, Owns T B xs ws [] → ks.length = ws.length → Owns T B (dmap k d ks xs) (dmap k v ks ws) []
  | [], xs, ws, o, h => by
    cases ws with
    | nil => cases o; exact .nil
    | cons w ws => simp at h
  | k' :: ks, xs, ws, o, h => by
    cases ws with
    | nil => simp at h
    | cons w ws =>
      cases xs with
      | nil => cases o
      | cons x xs =>
        obtain ⟨v', us', p1, p2, e1, e2, w1, w2⟩ := owns_uncons o
        cases e1
        have e2 := e2.symm
        rw [List.append_eq_nil_iff] at e2
        obtain ⟨rfl, rfl⟩ := e2
        have ih := dmap_own (k := k) hd (ks := ks) w2 (by simpa using h)
        simp only [dmap]
        by_cases e : k' = k
        · rw [if_pos e, if_pos e]; exact owns_cons (ms := []) hd ih
        · rw [if_neg e, if_neg e]; exact owns_cons (ms := []) w1 ih
theorem snoc_own {B : Hp} {d : D} {v : V} (hd : Owns T B [d] [v] []) : ∀ {xs : List D} {ws : List V}, Owns T B xs ws [] → Owns T B (xs ++ [d]) (ws ++ [v]) []
  | [], ws, o => by cases o; exact hd
  | x :: xs, ws, o => by
    obtain ⟨v', us', p1, p2, e1, e2, w1, w2⟩ := owns_uncons o
    cases e1
    have e2 := e2.symm
    rw [List.append_eq_nil_iff] at e2
    obtain ⟨rfl, rfl⟩ := e2
    exact owns_cons (ms := []) w1 (snoc_own hd w2)
theorem dput_own {B : Hp} {d : D} {v : V} {k : Key} (hd : Owns T B [d] [v] []) {ks : List Key} {xs : List D} {ws : List V} (o : Owns T B xs ws []) (h : ks.length = ws.length) : Owns T B (dput ks xs k d).2 (dput ks ws k v).2 [] ∧ (dput ks xs k d).1 = (dput ks ws k v).1 ∧ (dput ks ws k v).1.length = (dput ks ws k v).2.length := by
  unfold dput
  by_cases e : (ks.any fun k' => decide (k' = k)) = true
  · simp only [if_pos e]
    exact ⟨dmap_own hd o h, trivial, (dmap_len h).symm⟩
  · simp only [if_neg e]
    exact ⟨snoc_own hd o, trivial, by simp [h]⟩
def opSetD : D → List D → Option (D × D)
  | .dct ks xs, [.im kv, d] => match keyOf (.im kv) with
    | some k => if copyDs xs && copyD d && decide (xs.length < 1000000) then some (.dct (dput ks xs k d).1 (dput ks xs k d).2, .im .non) else none
    | none => none
  | _, _ => none
def rSetDD : V → List V → Hp → VK → Prop := fun u vs H Q => ∃ i v, vs = [i, v] ∧ rSetD u i v H fun H' => Q .non H'
theorem mu_setD : MutS T opSetD rSetDD := by
  intro B S H x u mx ds vs me x' res ox okx od oke ap bh h
  unfold opSetD at h
  split at h
  · rename_i ks xs kv d
    split at h
    · rename_i k hk
      split at h
      · rename_i hc
        simp only [Bool.and_eq_true, decide_eq_true_eq] at hc
        obtain ⟨⟨c1, c2⟩, c3⟩ := hc
        simp only [Option.some.injEq, Prod.mk.injEq] at h
        obtain ⟨rfl, rfl⟩ := h
        cases ox with
        | @dct a ks' ws _ _ _ m _ hl q r =>
          cases r
          have hm := copy_nil q c1
          subst hm
          obtain ⟨v0, us, n0, n1, rfl, rfl, o0, o1⟩ := owns_uncons od
          cases o0 with
          | im hi r0 =>
          cases r0
          obtain ⟨v, us, n1, n2, rfl, rfl, o1, o2⟩ := owns_uncons o1
          cases o2
          have hn := copy_nil o1 (copy1 c2)
          have hn' : n1 = [] := by simpa using hn
          subst hn'
          obtain ⟨z1, z2, z3⟩ := dput_own (k := k) o1 q hl
          have hkv : kv = kV k := ros_key (T := T) (B := fun _ => none) (S := fun _ => none) (.im hi .nil) hk
          have hH : H a = some (.dK (ks.zip ws)) := (okx.2 _ List.mem_cons_self).1
          have hzl : (ks.zip ws).length < sizeLine := by
            have l1 := q.len
            have l2 := le_line (n := xs.length + 1) (by omega)
            rw [List.length_zip]
            omega
          refine ⟨a, .dK ((dput ks ws k v).1.zip (dput ks ws k v).2), [(a, .dK ((dput ks ws k v).1.zip (dput ks ws k v).2))], .non, [], ⟨_, List.mem_cons_self⟩, ?_, own_non, by simp, fun c hc => .inl (by simpa using hc), (fun _ h => nomatch h), fun Q kk => ⟨kv, v, rfl, a, _, rfl, ?_, kk⟩⟩
          · rw [z2]
            exact .dct (m := []) (ms := []) z3 z1 .nil
          · rw [hkv, dput_zip hl]
            exact DPut.k hH hzl
      · cases h
    · cases h
  · cases h
/-- one of two operations -/
def opOr (f g : D → List D → Option (D × D)) : D → List D → Option (D × D) := fun x ds => match f x ds with
  | some z => some z
  | none => g x ds
theorem MutS.or {f g : D → List D → Option (D × D)} {r r' : V → List V → Hp → VK → Prop} (a : MutS T f r) (b : MutS T g r') : MutS T (opOr f g) (fun u vs H Q => r u vs H Q ∨ r' u vs H Q) := by
  intro B S H x u mx ds vs me x' res ox okx od oke ap bh h
  unfold opOr at h
  split at h
  · rename_i z e
    cases h
    obtain ⟨a1, o, mx', w, mr, p1, p2, p3, p4, p5, p6, p7⟩ := a B S H x u mx ds vs me _ _ ox okx od oke ap bh e
    exact ⟨a1, o, mx', w, mr, p1, p2, p3, p4, p5, p6, fun Q q => .inl (p7 Q q)⟩
  · obtain ⟨a1, o, mx', w, mr, p1, p2, p3, p4, p5, p6, p7⟩ := b B S H x u mx ds vs me _ _ ox okx od oke ap bh h
    exact ⟨a1, o, mx', w, mr, p1, p2, p3, p4, p5, p6, fun Q q => .inr (p7 Q q)⟩
def rSetA : V → List V → Hp → VK → Prop := fun u vs H Q => rSetI u vs H Q ∨ rSetDD u vs H Q
abbrev opSetA := opOr opSetI opSetD
theorem mu_setA : MutS T opSetA rSetA := MutS.or mu_setI mu_setD
theorem ps_setA {te to ti : TE} {e o i : Expr} {pos pos' : Pos} (hu : X.A.units + 1 < cLine) (he : PE X e te) (ho : PE X o to) (hi : PE X i ti)
    (ha : ∀ v, assign (.Subscript o i pos') X.env v = (do
      let ov ← holding [v] (eval o X.env)
      let iv ← holding [v, ov] (eval i X.env)
      standAt pos'
      holding [v, ov, iv] (setItem ov iv v)
      release [v, ov, iv] []) := by intro _; rfl)
    (hs : swapsWithSole [.Subscript o i pos'] e pos.line X.env = pure false := by rfl) (hw : swappedStores [.Subscript o i pos'] e X.env = pure none := by rfl)
    (h1 : (assignEach [.Subscript o i pos'] X.env).map (·.2) = [assign (.Subscript o i pos') X.env] := by rfl) :
    PS X (.Assign [.Subscript o i pos'] e pos) (tSub rSetA te to ti) := by
  have hp : PSet X (fun o i v H Q => rSetA o [i, v] H fun _ H' => Q H') := by
    intro pins s σ H x y v xv yv vv Q I r1 r2 r3 q
    rcases q with ⟨i', v', e, q⟩ | ⟨i', v', e, q⟩
    · cases e
      exact set_list pins s σ H x y v xv yv vv Q I r1 r2 r3 q
    · cases e
      exact set_dict hu pins s σ H x y v xv yv vv Q I r1 r2 r3 q
  exact ps_asg he (pg_sub ho hi hp ha) hs hw h1
theorem setA_lst (xs : List D) (i : Int) (d : D) : opSetA (.lst xs) [.im (.int i), d] = opSetI (.lst xs) [.im (.int i), d] := by
  show (match opSetI (.lst xs) [.im (.int i), d] with | some z => some z | none => opSetD (.lst xs) [.im (.int i), d]) = _
  cases opSetI (.lst xs) [.im (.int i), d] with
  | some z => rfl
  | none => rfl
theorem setA_dct (ks : List Key) (xs : List D) (k : V) (d : D) : opSetA (.dct ks xs) [.im k, d] = opSetD (.dct ks xs) [.im k, d] := rfl
end
end Tr

/-! TrX: texts, for the plain laws: well made texts and what the words make of them. -/
namespace Tr
open PySem L2
abbrev xT (z : Str) : D := .im (.str z)
abbrev xI (i : Int) : D := .im (.int i)
abbrev xS (c : Nat) : D := .im (.str ⟨#[c]⟩)
/-- a well made text of at most n signs -/
structure OkT (n : Nat) (z : Str) : Prop where
  s : PyData.strOk z = true
  l : z.length ≤ n
theorem strOk_iff {z : Str} : PyData.strOk z = true ↔ ∀ c ∈ z.cps.toList, c < 0x110000 := by
  unfold PyData.strOk
  rw [← Array.all_toList, List.all_eq_true]
  simp
theorem x_len (z : Str) : z.cps.toList.length = z.length := by simp [Str.length]
theorem x_app (a b : Str) : (a ++ b).length = a.length + b.length := by
  show (a.cps ++ b.cps).size = a.cps.size + b.cps.size
  exact Array.size_append
theorem x_cps (a b : Str) : (a ++ b).cps.toList = a.cps.toList ++ b.cps.toList := by
  show (a.cps ++ b.cps).toList = _
  exact Array.toList_append
theorem OkT.mono {n m : Nat} {z : Str} (h : OkT n z) (k : n ≤ m) : OkT m z := ⟨h.s, Nat.le_trans h.l k⟩
theorem OkT.app {n m : Nat} {a b : Str} (ha : OkT n a) (hb : OkT m b) : OkT (n + m) (a ++ b) := by
  refine ⟨strOk_iff.mpr fun c hc => ?_, by rw [x_app]; have := ha.l; have := hb.l; omega⟩
  rw [x_cps] at hc
  rcases List.mem_append.mp hc with h | h
  · exact strOk_iff.mp ha.s c h
  · exact strOk_iff.mp hb.s c h
theorem OkT.cut {n : Nat} {z : Str} (h : OkT n z) (lo hi : Option Int) : OkT n (cutS z lo hi) := by
  refine ⟨strOk_iff.mpr fun c hc => ?_, Nat.le_trans (cutS_length z lo hi) h.l⟩
  unfold cutS at hc
  have hc : c ∈ ((z.cps.toList.drop (HT.sIx z.length 0 lo)).take (HT.sIx z.length z.length hi - HT.sIx z.length 0 lo)) := by simpa using hc
  exact strOk_iff.mp h.s c (List.mem_of_mem_drop (List.mem_of_mem_take hc))
theorem OkT.one {n : Nat} {z : Str} (h : OkT n z) {c : Nat} (hc : c ∈ z.cps.toList) : OkT 1 ⟨#[c]⟩ := by
  refine ⟨strOk_iff.mpr fun d hd => ?_, by show (#[c] : Array Nat).size ≤ 1; simp⟩
  have : d = c := by simpa using hd
  subst this
  exact strOk_iff.mp h.s d hc
theorem OkT.nil : OkT 0 "" := ⟨by decide +kernel, by decide +kernel⟩
/-- one sign of a text -/
theorem x_ix {n : Nat} {z : Str} (h : OkT n z) (hn : n ≤ 1000000) (i : Int) (h0 : 0 ≤ i) (h1 : i < z.length) : ∃ c, fIxS [xT z, xI i] = some (xS c) ∧ OkT 1 ⟨#[c]⟩ := by
  obtain ⟨k, rfl⟩ : ∃ k : Nat, i = k := ⟨i.toNat, by omega⟩
  have hl := x_len z
  have hk : k < z.cps.toList.length := by omega
  refine ⟨z.cps.toList[k], ?_, h.one (List.getElem_mem hk)⟩
  simp only [fIxS]
  rw [if_pos (Nat.le_trans h.l hn), Tr.atI_nat, List.getElem?_eq_getElem hk]
  rfl
theorem x_add {a b : Str} (h : a.length + b.length ≤ 1000000) : fAdd [xT a, xT b] = some (xT (a ++ b)) := by
  show (match fAddI [xT a, xT b] with | some z => some z | none => (match fAddS [xT a, xT b] with | some z => some z | none => fAddL [xT a, xT b])) = _
  have h1 : fAddI [xT a, xT b] = none := rfl
  have h2 : fAddS [xT a, xT b] = some (xT (a ++ b)) := by simp [fAddS, fS2, h]
  rw [h1, h2]
theorem x_addT {n m : Nat} {a b : Str} (ha : OkT n a) (hb : OkT m b) (h : n + m ≤ 1000000) : fAdd [xT a, xT b] = some (xT (a ++ b)) ∧ OkT (n + m) (a ++ b) :=
  ⟨x_add (by have := ha.l; have := hb.l; omega), ha.app hb⟩
theorem x_sl {n : Nat} {z : Str} (h : OkT n z) (hn : n ≤ 1000000) (lo hi : Option Int) : fSl (xT z) lo hi = some (xT (cutS z lo hi)) ∧ OkT n (cutS z lo hi) := by
  have hs : z.length ≤ 1000000 := Nat.le_trans h.l hn
  exact ⟨by simp [fSl, hs], h.cut lo hi⟩
theorem x_strs : ∀ zs : List Str, strsD (zs.map xT) = some zs
  | [] => rfl
  | z :: zs => by simp [strsD, x_strs zs]
/-- ''.join of signs -/
theorem x_join (zs : List Str) (h : ∀ z ∈ zs, OkT 1 z) (hl : zs.length ≤ 1000) : ∃ z : Str, fJoin [xT "", .lst (zs.map xT)] = some (xT z) ∧ OkT zs.length z := by
  have h0 : ("" : Str).length = 0 := rfl
  have hs : (zs.map (·.length)).sum ≤ zs.length := by
    clear hl
    induction zs with
    | nil => exact Nat.le_refl _
    | cons z zs ih =>
      rw [List.map_cons, List.sum_cons, List.length_cons]
      have h1 := (h z List.mem_cons_self).l
      have h2 := ih fun y hy => h y (List.mem_cons_of_mem _ hy)
      omega
  refine ⟨Txt.join "" zs, ?_, ?_, ?_⟩
  · simp only [fJoin, uz_lst, x_strs]
    rw [h0, if_pos (by omega)]
  · have e : Txt.join "" zs = Str.join "" zs := StrLaws.glued_eq_join "" zs
    rw [e]
    refine strOk_iff.mpr fun c hc => ?_
    rcases (PyProof.Rows.mem_join "" c zs).mp hc with ⟨t, ht, hc⟩ | ⟨_, hc⟩
    · exact strOk_iff.mp (h t ht).s c hc
    · have e0 : ("" : Str).cps.toList = [] := by decide +kernel
      rw [e0] at hc
      cases hc
  · have := StrLaws.join_length_le "" zs
    rw [h0] at this
    show (PySem.Builtin.Str.glued "" _).length ≤ _
    rw [StrLaws.glued_eq_join]
    omega
/-- a row of texts as data -/
abbrev xTs (zs : List Str) : D := .lst (zs.map xT)
theorem x_copy : ∀ zs : List Str, copyDs (zs.map xT) = true
  | [] => rfl
  | z :: zs => by simp [x_copy zs]
theorem x_toPys : ∀ zs : List Str, toPys (zs.map xT) = some (zs.map PyData.str)
  | [] => by simp [toPys]
  | z :: zs => by simp [toPys, toPy, x_toPys zs]
theorem canAll : ∀ zs : List Str, (∀ z ∈ zs, PyData.strOk z = true) → PyData.canLayAll0 (zs.map PyData.str) = true
  | [], _ => rfl
  | z :: zs, h => by simp [PyData.canLayAll0, PyData.canLay0, h z List.mem_cons_self, canAll zs fun y hy => h y (List.mem_cons_of_mem _ hy)]
theorem depthAll : ∀ zs : List Str, PyData.depth (.list (zs.map PyData.str)) ≤ 64 := by
  intro zs
  have : ∀ zs : List Str, PyData.depthAll (zs.map PyData.str) ≤ 1 := fun zs => by
    induction zs with
    | nil => simp [PyData.depthAll]
    | cons z zs ih => simp [PyData.depthAll, PyData.depth]; omega
  have := this zs
  simp only [PyData.depth]
  omega
/-- rows of texts, equal and not -/
theorem x_eqRows (as bs : List Str) (ha : ∀ z ∈ as, PyData.strOk z = true) (hb : ∀ z ∈ bs, PyData.strOk z = true) :
    fNe [xTs as, xTs bs] = some (.im (.bl (!PyData.eqv (.list (as.map PyData.str)) (.list (bs.map PyData.str))))) := by
  have p1 : toPy (xTs as) = some (.list (as.map PyData.str)) := by simp [toPy, x_toPys]
  have p2 : toPy (xTs bs) = some (.list (bs.map PyData.str)) := by simp [toPy, x_toPys]
  have s1 : PySem.SeqAt.shaped (.list (as.map PyData.str)) = true := by simp [PySem.SeqAt.shaped, PyData.canLay0, canAll as ha, depthAll as]
  have s2 : PySem.SeqAt.shaped (.list (bs.map PyData.str)) = true := by simp [PySem.SeqAt.shaped, PyData.canLay0, canAll bs hb, depthAll bs]
  simp [fNe, p1, p2, s1, s2]
end Tr

/-! TrY: an own temporary made to stand still for good (its parts may then be taken). -/
namespace Tr
open PySem L2
section
variable {X : Cx} {T : Tab} {W : WX} {e : Expr} {m : ME} {S B H S' B' H' : Hp}
@[simp] def mFz (m : ME) : ME := fun env => match m env with
  | .ok (.own d) => .ok (.own (if copyD d then d else .fz d))
  | .ok _ => .er
  | .ex x => .ex x
  | .er => .er
theorem wi_some {m : Cells} {a : Addr} {u : HO} (h : Wi S m a = some u) : S a = some u ∨ (S a = none ∧ ∃ c ∈ m, c = (a, u)) := by
  unfold Wi at h
  cases e : S a with
  | some w => rw [e] at h; exact .inl h
  | none =>
    rw [e] at h
    have h : m.lookup a = some u := h
    obtain ⟨l1, l2, rfl, _⟩ := List.lookup_eq_some_iff.mp h
    exact .inr ⟨rfl, (a, u), by simp, rfl⟩
theorem ep_fz (h : PE X e (tP T W m)) : PE X e (tP T W (mFz m)) := by
  refine pe_of h fun σ H Q ⟨S, B, env, mss, R, q⟩ => ⟨S, B, env, mss, R, ?_⟩
  cases hm : m env with
  | ok r =>
    cases r with
    | own d =>
      simp only [mFz, hm] at q
      intro S' B' H' v g f
      split at q
      · exact q S' B' H' v g f
      · obtain ⟨ms, o, c, n⟩ := f
        have cb : CellsOk B' H' ms := ⟨c.1, fun x hx => ⟨(c.2 x hx).1, g.bs.free (c.2 x hx).2⟩⟩
        have g2 : Gr S B H (Wi S' ms) (Wi B' ms) H' := by
          refine ⟨⟨g.w.s.trans Wi.same, g.w.b.trans Wi.same, fun a u h => ?_⟩, g.h, fun a u h => ?_, Wi.le g.sh c, fun a u h => ?_⟩
          · rcases wi_some h with h | ⟨_, x, hx, rfl⟩
            · exact g.w.n _ _ h
            · exact .inr (R.sh.free (n _ hx))
          · rcases wi_some h with h | ⟨_, x, hx, rfl⟩
            · exact g.f _ _ h
            · exact .inr (n _ hx)
          · rcases wi_some h with h | ⟨_, x, hx, rfl⟩
            · exact Wi.same _ _ (g.bs _ _ h)
            · exact Wi.at_ c _ hx
        refine q _ _ _ v g2 ⟨[], .fz ((o.mono Wi.same).ro (Same.refl _) (Wi.at_ cb)) .nil, ⟨.nil, fun _ h => nomatch h⟩, fun _ h => nomatch h⟩
    | ro d => simp only [mFz, hm] at q; exact q.elim
    | bor i d => simp only [mFz, hm] at q; exact q.elim
  | ex x => simp only [mFz, hm] at q; exact q
  | er => simp only [mFz, hm] at q; exact q
end
end Tr

/-! TrZ: several except clauses. -/
namespace Tr
open PySem L2
@[simp] def pickH : List ((Nat → Option Bool) × MS) → Exn → MS
  | [], x, env => .ex x env
  | (sub, ms) :: r, x, env => match sub x.c with
    | some true => match ms env with
      | .ex _ _ => .er
      | z => z
    | some false => pickH r x env
    | none => .er
@[simp] def sTryM (hs : List ((Nat → Option Bool) × MS)) (m : MS) : MS := fun env => match m env with
  | .ex x env => pickH hs x env
  | z => z
section
variable {X : Cx} {T : Tab} {W : WX} {pin : Pins} {σ0 : L2.St} {S B H S' B' H' : Hp} {env : En} {mss : List Cells} {σ : L2.St} {pos : Pos}
inductive HM (X : Cx) (T : Tab) (pin : Pins) (σ0 : L2.St) : List ExceptHandler → List ((Nat → Option Bool) × MS) → List (Value × (Addr → Value → Option Addr → TS)) → Prop
  | nil : HM X T pin σ0 [] [] []
  | cons {x : Str} {cv : Value} {b₀ : Stmt} {suite : List Stmt} {np pos' : Pos} {hds : List ExceptHandler} {hs : List ((Nat → Option Bool) × MS)} {l : List (Value × (Addr → Value → Option Addr → TS))} {sub : Nat → Option Bool} {ms : MS} (hc : Names X x cv)
      (hsub : ∀ c C fl b, T.exc[c]? = some ⟨C, fl⟩ → sub c = some b → PySem.W.exmOne T.K (.ref C) cv = some b)
      (hsu : ∀ (a : Addr) (oe : Obj) (cls : Value) (d : Option Addr) (pn : List (Addr × Obj)), Zc cls d oe → (∃ vs, oe.data = .fields vs) → PSs (X.suite a ((a, oe) :: pn)) (b₀ :: suite) (tS T WF pin σ0 ms))
      (r : HM X T pin σ0 hds hs l) : HM X T pin σ0 (.ExceptHandler (some (.Name x np)) none (b₀ :: suite) pos' :: hds) ((sub, ms) :: hs) ((cv, fun _ _ _ => tS T WF pin σ0 ms) :: l)
theorem hm_ok {hds hs l} (h : HM X T pin σ0 hds hs l) : HdsOk X hds l := by
  induction h with
  | nil => exact .nil
  | cons hc _ hsu _ ih => exact .cons hc hsu ih
theorem hm_w {hds hs l} (hK : X.K = T.K) (h : HM X T pin σ0 hds hs l) {D : Ends} {x : Exn} {env' : En} {σ' : L2.St} {cls : Value} {d : Option Addr} (g : Gw S B S' B') (R' : SRx T S' B' env' mss σ' H') (hp' : Pin pin σ0 σ') (ef : ExF T H' x cls d)
    (q : PS' T W pin σ0 S B D (pickH hs x env')) : wMany X.K W D l cls d σ' H' := by
  induction h with
  | nil => exact q S' B' mss σ' H' cls d g R' hp' ef
  | @cons _ cv _ _ _ _ _ hs l sub ms hc hsub hsu r ih =>
    obtain ⟨C, fl, hC, rfl, _⟩ := id ef
    simp only [pickH] at q
    cases hsb : sub x.c with
    | none => simp only [hsb] at q; exact q.elim
    | some b =>
      refine ⟨b, hK ▸ hsub _ C fl b hC hsb, fun hb a ha => ?_, fun hb => ?_⟩
      · subst hb
        simp only [hsb] at q
        refine ⟨S', B', env', mss, R', hp', ?_⟩
        cases hz : ms env' with
        | ex x2 env2 => simp only [hz] at q; exact q.elim
        | nx env2 => simp only [hz] at q; exact PS'.noex (fun _ _ h => nomatch h) (q.gw g)
        | rt d2 env2 => simp only [hz] at q; exact PS'.noex (fun _ _ h => nomatch h) (q.gw g)
        | bk env2 => simp only [hz] at q; exact PS'.noex (fun _ _ h => nomatch h) (q.gw g)
        | ct env2 => simp only [hz] at q; exact PS'.noex (fun _ _ h => nomatch h) (q.gw g)
        | er => simp only [hz] at q; exact q.elim
      · subst hb
        simp only [hsb] at q
        exact ih q
theorem ss_tryM {body : List Stmt} {h₀ : ExceptHandler} {hds : List ExceptHandler} {hs l} {m : MS} (hK : X.K = T.K) (hs1 : X.stack = X.env :: X.outer) (hf : X.env.frame = some X.env.locals) (tk : Takes X W)
    (hb : ∀ (W : WX) (pn : List (Addr × Obj)) (xe : Value → Shared → Prop), Takes (X.tr pn xe) W → PassesOwn (model X.prog X.w) X.A X.env xe → PSs (X.tr pn xe) body (tS T W pin σ0 m))
    (hh : HM X T pin σ0 (h₀ :: hds) hs l) : PS X (.Try body (h₀ :: hds) [] [] pos) (tS T W pin σ0 (sTryM hs m)) := by
  refine ps_of (ps_try_many hs1 hf tk (tb := fun W => tS T W pin σ0 m) hb (hm_ok hh)) fun D σ H ⟨S, B, env, mss, R, hp, q⟩ => ⟨S, B, env, mss, R, hp, ?_⟩
  cases hm : m env with
  | ex x env' =>
    simp only [sTryM, hm] at q
    intro S' B' mss' σ' H' cls d g R' hp' ef
    exact hm_w hK hh g R' hp' ef q
  | nx env' => simp only [sTryM, hm] at q; exact q
  | rt d env' => simp only [sTryM, hm] at q; exact q
  | bk env' => simp only [sTryM, hm] at q; exact q
  | ct env' => simp only [sTryM, hm] at q; exact q
  | er => simp only [sTryM, hm] at q; exact q
end
end Tr

/-! TsA: calls that are lent places: the caller's state is split, and put together behind. -/
namespace Tr
open PySem L2
section
variable {T : Tab} {B : Hp}
theorem owns_childB : ∀ {ds : List D} {vs : List V} {ms : Cells} {k : Nat} {x : D}, Owns T B ds vs ms → ds[k]? = some x → ∃ u mx m1 m2, vs[k]? = some u ∧ Owns T B [x] [u] mx ∧ ms = m1 ++ (mx ++ m2) ∧ ∀ B' x' mx', Same B B' → Owns T B' [x'] [u] mx' → Owns T B' (ds.set k x') vs (m1 ++ (mx' ++ m2)) := by
  intro ds
  induction ds with
  | nil => intro vs ms k x o h; simp at h
  | cons d ds ih =>
    intro vs ms k x o h
    obtain ⟨v, us, m1, m2, rfl, rfl, o1, o2⟩ := owns_uncons o
    cases k with
    | zero =>
      simp at h; subst h
      exact ⟨v, m1, [], m2, rfl, o1, rfl, fun B' x' mx' b o' => by simpa using owns_cons o' (o2.mono b)⟩
    | succ k =>
      obtain ⟨u, mx, n1, n2, h1, h2, rfl, h4⟩ := ih o2 (k := k) (x := x) (by simpa using h)
      refine ⟨u, mx, m1 ++ n1, n2, by simpa using h1, h2, by simp, fun B' x' mx' b o' => ?_⟩
      have := owns_cons (o1.mono b) (h4 B' x' mx' b o')
      simpa using this
theorem owns_kidsB {d : D} {v : V} {ms : Cells} {xs : List D} (o : Owns T B [d] [v] ms) (h : kids d = some xs) : ∃ ws pre m, ms = pre ++ m ∧ Owns T B xs ws m ∧ (∀ B' xs' m', Same B B' → Owns T B' xs' ws m' → Owns T B' [setKids d xs'] [v] (pre ++ m')) ∧
    (∀ H, Same B H → (∀ c ∈ ms, H c.1 = some c.2) → ∀ (k : Nat) u, ws[k]? = some u → childV H v k = some u) := by
  cases o with
  | im => simp [kids] at h
  | fz => simp [kids] at h
  | @lst a ws xs _ _ m _ q r =>
    cases r; simp [kids] at h; subst h
    refine ⟨ws, [(a, .lst ws)], m, by simp, q, fun B' xs' m' b o' => ?_, fun H b hc k u hu => ?_⟩
    · have := Owns.lst (a := a) o' (Owns.nil (T := T) (B := B')); simpa using this
    · simp only [childV]; rw [hc (a, .lst ws) List.mem_cons_self]; exact hu
  | @tup a ws xs _ _ m _ hb q r =>
    cases r; simp [kids] at h; subst h
    refine ⟨ws, [], m, by simp, q, fun B' xs' m' b o' => ?_, fun H b hc k u hu => ?_⟩
    · have := Owns.tup (b _ _ hb) o' (Owns.nil (T := T) (B := B')); simpa using this
    · simp only [childV]; rw [b _ _ hb]; exact hu
  | @dct a ks ws xs _ _ m _ hl q r =>
    cases r; simp [kids] at h; subst h
    refine ⟨ws, [(a, .dK (ks.zip ws))], m, by simp, q, fun B' xs' m' b o' => ?_, fun H b hc k u hu => ?_⟩
    · have := Owns.dct (a := a) hl o' (Owns.nil (T := T) (B := B')); simpa using this
    · simp only [childV]; rw [hc (a, .dK (ks.zip ws)) List.mem_cons_self]; exact zip_snd (Nat.le_of_eq hl.symm) hu
  | @obj a c C dx fl ws xs _ _ m _ hcl hl q r =>
    cases r; simp [kids] at h; subst h
    refine ⟨ws, [(a, .ins C dx (fl.zip ws))], m, by simp, q, fun B' xs' m' b o' => ?_, fun H b hc k u hu => ?_⟩
    · have := Owns.obj (a := a) (dx := dx) hcl hl o' (Owns.nil (T := T) (B := B')); simpa using this
    · simp only [childV]; rw [hc (a, .ins C dx (fl.zip ws)) List.mem_cons_self]; exact zip_snd hl hu
theorem owns_pathB {p : List Nat} : ∀ {d x : D} {v : V} {ms : Cells}, Owns T B [d] [v] ms → getP p d = some x → ∃ u mx m1 m2, (∀ H, Same B H → (∀ c ∈ ms, H c.1 = some c.2) → valP H p v = some u) ∧ Owns T B [x] [u] mx ∧ ms = m1 ++ (mx ++ m2) ∧
    ∀ B' x' mx', Same B B' → Owns T B' [x'] [u] mx' → Owns T B' [setP p d x'] [v] (m1 ++ (mx' ++ m2)) := by
  induction p with
  | nil =>
    intro d x v ms o h
    cases h
    exact ⟨v, ms, [], [], fun _ _ _ => rfl, o, by simp, fun B' x' mx' b o' => by simpa [setP] using o'⟩
  | cons k p ih =>
    intro d x v ms o h
    simp only [getP] at h
    cases e : kids d with
    | none => rw [e] at h; cases h
    | some xs =>
      rw [e] at h
      cases e2 : xs[k]? with
      | none => simp only [e2] at h; cases h
      | some y =>
        simp only [e2] at h
        obtain ⟨ws, pre, m, rfl, q, back, ch⟩ := owns_kidsB o e
        obtain ⟨u1, my, n1, n2, w1, w2, rfl, w4⟩ := owns_childB q e2
        obtain ⟨u, mx, l1, l2, z1, z2, rfl, z4⟩ := ih w2 h
        refine ⟨u, mx, pre ++ (n1 ++ l1), l2 ++ n2, fun H b hc => ?_, z2, by simp, fun B' x' mx' b o' => ?_⟩
        · simp only [valP]
          rw [ch H b hc k u1 w1]
          exact z1 H b fun c h' => hc c (by simp; simp at h'; rcases h' with h' | h' | h' <;> simp [h'])
        · simp only [setP, e, e2]
          have := back _ _ _ b (w4 _ _ _ b (z4 B' x' mx' b o'))
          simpa using this
end

/-! ### how an argument is handed -/
inductive CA where
  | rd (m : ME)
  | tk (m : ME)
  | pl (m : ML)
inductive CV where
  | rd (r : Rs)
  | tk (d : D)
  | pl (i : Nat) (p : List Nat)
@[simp] def aCA : List CA → En → Rz (List CV)
  | [], _ => .ok []
  | .rd m :: cs, env => match m env with
    | .ok r => match aCA cs env with
      | .ok l => .ok (.rd r :: l)
      | .ex x => .ex x
      | .er => .er
    | .ex x => .ex x
    | .er => .er
  | .tk m :: cs, env => match m env with
    | .ok (.own d) => match aCA cs env with
      | .ok l => .ok (.tk d :: l)
      | .ex x => .ex x
      | .er => .er
    | .ok _ => .er
    | .ex x => .ex x
    | .er => .er
  | .pl m :: cs, env => match m env with
    | .ok i p => match aCA cs env with
      | .ok l => .ok (.pl i p :: l)
      | .ex x => .ex x
      | .er => .er
    | .ex x => .ex x
    | .er => .er
/-- a borrowed thing whose slot is not lent away -/
@[simp] def okB (r : Rs) (env : En) : Bool := match r with
  | .bor j _ => match env[j]? with
    | some (some _) => true
    | _ => false
  | _ => true
@[simp] def cSl : List CV → En → Option (List Slot × En)
  | [], env => some ([], env)
  | .rd r :: cs, env => match cSl cs env with
    | some (ss, env') => if okB r env' = true then some (.ro r.d :: ss, env') else none
    | none => none
  | .tk d :: cs, env => match cSl cs env with
    | some (ss, env') => some (.own d :: ss, env')
    | none => none
  | .pl i p :: cs, env => match env[i]? with
    | some (some (.own d)) => match getP p d with
      | some x => match cSl cs (env.set i none) with
        | some (ss, env') => some (.own x :: ss, env')
        | none => none
      | none => none
    | _ => none
@[simp] def cBk : List CV → En → En → En → Option En
  | [], _, _, env => some env
  | .pl i p :: cs, old, some (.own x') :: as, env => match old[i]? with
    | some (some (.own d)) => cBk cs old as (env.set i (some (.own (setP p d x'))))
    | _ => none
  | .rd _ :: cs, old, _ :: as, env => cBk cs old as env
  | .tk _ :: cs, old, _ :: as, env => cBk cs old as env
  | _ :: _, _, _, _ => none
inductive CAL (T : Tab) (S B H H0 : Hp) (mss : List Cells) (σ : L2.St) : List CV → List V → List Cells → Prop
  | nil : CAL T S B H H0 mss σ [] [] []
  | rd {r v m cvs vs css} (h : RFc T S B H H0 mss r v m) (t : CAL T S B H H0 mss σ cvs vs css) (a : ∀ m' ∈ css, Apart m m') : CAL T S B H H0 mss σ (.rd r :: cvs) (v :: vs) (m :: css)
  | tk {d v m cvs vs css} (h : RFc T S B H H0 mss (.own d) v m) (t : CAL T S B H H0 mss σ cvs vs css) (a : ∀ m' ∈ css, Apart m m') : CAL T S B H H0 mss σ (.tk d :: cvs) (v :: vs) (m :: css)
  | pl {i p v0 u cvs vs css} (h : σ[i]? = some (some v0)) (hu : valP H p v0 = some u) (t : CAL T S B H H0 mss σ cvs vs css) : CAL T S B H H0 mss σ (.pl i p :: cvs) (u :: vs) ([] :: css)
section
variable {T : Tab} {S B H S' B' H' H0 H1 : Hp} {mss : List Cells} {σ : L2.St} {env env0 : En} {cvs : List CV} {vs : List V} {css : List Cells}
theorem apart_nil {m : Cells} : Apart m [] := fun _ _ _ h => nomatch h
theorem nil_apart {m : Cells} : Apart [] m := fun _ h => nomatch h
theorem cells_nil : CellsOk S H [] := ⟨.nil, fun _ h => nomatch h⟩
theorem CAL.grow (R : SRx T S B env mss σ H) (g : Gr S B H S' B' H') (f : CAL T S B H H0 mss σ cvs vs css) : CAL T S' B' H' H0 mss σ cvs vs css := by
  induction f with
  | nil => exact .nil
  | rd h _ a ih => exact .rd (h.grow R g) ih a
  | tk h _ a ih => exact .tk (h.grow R g) ih a
  | pl h hu _ ih => exact .pl h (valP_mono g.h hu) ih
theorem CAL.back (h : Same H0 H1) (f : CAL T S B H H1 mss σ cvs vs css) : CAL T S B H H0 mss σ cvs vs css := by
  induction f with
  | nil => exact .nil
  | rd h1 _ a ih => exact .rd (h1.back h) ih a
  | tk h1 _ a ih => exact .tk (h1.back h) ih a
  | pl h1 hu _ ih => exact .pl h1 hu ih
theorem rfc_new {r : Rs} {v : V} {m : Cells} (h : RFc T S B H H0 mss r v m) : CellsOk S H m ∧ ∀ c ∈ m, H0 c.1 = none := by
  cases r with
  | own d => exact ⟨h.2.1, h.2.2⟩
  | ro d => rw [h.1]; exact ⟨cells_nil, fun _ h => nomatch h⟩
  | bor i d => rw [h.1]; exact ⟨cells_nil, fun _ h => nomatch h⟩
theorem CAL.new (f : CAL T S B H H0 mss σ cvs vs css) : ∀ m ∈ css, CellsOk S H m ∧ ∀ c ∈ m, H0 c.1 = none := by
  induction f with
  | nil => intro m h; cases h
  | rd h1 _ _ ih =>
    intro m' h
    rcases List.mem_cons.mp h with rfl | h
    · exact rfc_new h1
    · exact ih m' h
  | tk h1 _ _ ih =>
    intro m' h
    rcases List.mem_cons.mp h with rfl | h
    · exact rfc_new h1
    · exact ih m' h
  | pl h1 _ _ ih =>
    intro m' h
    rcases List.mem_cons.mp h with rfl | h
    · exact ⟨cells_nil, fun _ h => nomatch h⟩
    · exact ih m' h
/-- what is read (z), handed over (c), kept of a lent thing's tree (w) -/
inductive FL (T : Tab) (S B H : Hp) (σ : L2.St) (env0 : En) : List CV → List V → List Slot → List (Cells × Cells × Cells) → Prop
  | nil : FL T S B H σ env0 [] [] [] []
  | rd {r v z cvs vs ss ps} (h : Ros T B (Wi S z) [r.d] [v]) (hz : CellsOk S H z) (t : FL T S B H σ env0 cvs vs ss ps) : FL T S B H σ env0 (.rd r :: cvs) (v :: vs) (.ro r.d :: ss) ((z, [], []) :: ps)
  | tk {d v c cvs vs ss ps} (h : Owns T B [d] [v] c) (hc : CellsOk S H c) (t : FL T S B H σ env0 cvs vs ss ps) : FL T S B H σ env0 (.tk d :: cvs) (v :: vs) (.own d :: ss) (([], c, []) :: ps)
  | pl {i p d v0 u x c m1 m2 cvs vs ss ps} (hd : env0[i]? = some (some (.own d))) (hσ : σ[i]? = some (some v0)) (h : Owns T B [x] [u] c) (hc : CellsOk S H (m1 ++ (c ++ m2))) (back : ∀ B' x' c', Same B B' → Owns T B' [x'] [u] c' → Owns T B' [setP p d x'] [v0] (m1 ++ (c' ++ m2)))
      (t : FL T S B H σ env0 cvs vs ss ps) : FL T S B H σ env0 (.pl i p :: cvs) (u :: vs) (.own x :: ss) (([], c, m1 ++ m2) :: ps)
structure Far (a b : Cells × Cells × Cells) : Prop where
  zc : Apart a.1 b.2.1
  wc : Apart a.2.2 b.2.1
  cc : Apart a.2.1 b.2.1
  cz : Apart b.1 a.2.1
  cw : Apart b.2.2 a.2.1
  ww : Apart a.2.2 b.2.2
inductive GL (mss : List Cells) : List (Cells × Cells × Cells) → Prop
  | nil : GL mss []
  | cons {p ps} (h0 : Apart p.1 p.2.1) (h1 : Apart p.2.2 p.2.1) (h2 : ∀ q ∈ ps, Far p q) (h3 : ∀ (j : Nat) (m : Cells), mss[j]? = some m → Apart m p.2.1 ∧ Apart m p.2.2) (t : GL mss ps) : GL mss (p :: ps)
theorem GL.at {mss : List Cells} {ps : List (Cells × Cells × Cells)} (g : GL mss ps) {j : Nat} {m : Cells} (h : mss[j]? = some m) {q : Cells × Cells × Cells} (hq : q ∈ ps) : Apart m q.2.1 ∧ Apart m q.2.2 := by
  induction g with
  | nil => cases hq
  | cons _ _ _ h3 _ ih =>
    rcases List.mem_cons.mp hq with rfl | hq
    · exact h3 j m h
    · exact ih hq
theorem apart_new2 {m n : Cells} (c : CellsOk S H m) (n0 : ∀ c ∈ n, H c.1 = none) : Apart m n := fun x hx e he z => by
  have a1 := (c.2 x hx).1
  rw [z, n0 e he] at a1; cases a1
theorem foc : ∀ {cvs : List CV} {vs : List V} {css : List Cells} {env env' : En} {mss : List Cells} {ss : List Slot}, SRx T S B env mss σ H → CAL T S B H H0 mss0 σ cvs vs css → (∀ m ∈ css, ∀ (i : Nat) (m' : Cells), mss[i]? = some m' → Apart m' m) →
    (∀ (j : Nat) (s : Slot), env[j]? = some (some s) → env0[j]? = some (some s) ∧ mss[j]? = mss0[j]?) → cSl cvs env = some (ss, env') →
    ∃ mss' ps, SRx T S B env' mss' σ H ∧ FL T S B H σ env0 cvs vs ss ps ∧ GL mss' ps ∧ (∀ (j : Nat) (m : Cells), mss'[j]? = some m → m = [] ∨ mss[j]? = some m) ∧ (∀ (j : Nat) (s : Slot), env'[j]? = some (some s) → env0[j]? = some (some s) ∧ mss'[j]? = mss0[j]?) ∧
      (∀ A : Cells, (∀ (i : Nat) (m : Cells), mss[i]? = some m → Apart m A) → (∀ m ∈ css, Apart m A) → ∀ p ∈ ps, Apart p.1 A ∧ Apart p.2.1 A ∧ Apart p.2.2 A) := by
  intro cvs
  induction cvs with
  | nil =>
    intro vs css env env' mss ss R f ha h0 h
    cases f
    simp [cSl] at h
    obtain ⟨rfl, rfl⟩ := h
    exact ⟨mss, [], R, .nil, .nil, fun j m h => .inr h, h0, fun _ _ _ _ h => nomatch h⟩
  | cons cv cvs ih =>
    intro vs css env env' mss ss R f ha h0 h
    cases f with
    | @rd r v m _ vs css h1 t a =>
      simp only [cSl] at h
      cases hh : cSl cvs env with
      | none => simp [hh] at h
      | some q =>
        obtain ⟨ss1, env1⟩ := q
        simp only [hh] at h
        split at h
        · rename_i hok
          simp only [Option.some.injEq, Prod.mk.injEq] at h
          obtain ⟨rfl, rfl⟩ := h
          obtain ⟨mss', ps, R', fl, gl, p1, p2, p3⟩ := ih R t (fun m' hm => ha m' (List.mem_cons_of_mem _ hm)) h0 hh
          have low : ∀ z : Cells, CellsOk S H z → Ros T B (Wi S z) [r.d] [v] → (∀ q ∈ ps, Apart z q.2.1) → (∀ A : Cells, (∀ (i : Nat) (m : Cells), mss[i]? = some m → Apart m A) → (∀ m' ∈ m :: css, Apart m' A) → Apart z A) →
              ∃ mss' ps, SRx T S B env1 mss' σ H ∧ FL T S B H σ env0 (.rd r :: cvs) (v :: vs) (.ro r.d :: ss1) ps ∧ GL mss' ps ∧ (∀ (j : Nat) (m : Cells), mss'[j]? = some m → m = [] ∨ mss[j]? = some m) ∧ (∀ (j : Nat) (s : Slot), env1[j]? = some (some s) → env0[j]? = some (some s) ∧ mss'[j]? = mss0[j]?) ∧
              (∀ A : Cells, (∀ (i : Nat) (m : Cells), mss[i]? = some m → Apart m A) → (∀ m' ∈ m :: css, Apart m' A) → ∀ p ∈ ps, Apart p.1 A ∧ Apart p.2.1 A ∧ Apart p.2.2 A) := fun z hz hr hq hA =>
            ⟨mss', (z, [], []) :: ps, R', .rd hr hz fl, .cons apart_nil apart_nil (fun q hq' => ⟨hq q hq', nil_apart, nil_apart, apart_nil, apart_nil, nil_apart⟩) (fun _ _ _ => ⟨apart_nil, apart_nil⟩) gl, p1, p2, fun A h1 h2 p hp => by
              rcases List.mem_cons.mp hp with rfl | hp
              · exact ⟨hA A h1 h2, nil_apart, nil_apart⟩
              · exact p3 A h1 (fun m' hm' => h2 m' (List.mem_cons_of_mem _ hm')) p hp⟩
          cases r with
          | own d =>
            obtain ⟨o, c, n⟩ := h1
            refine low m c ((o.ro (R.bs.trans Wi.same) (Wi.at_ c))) (fun q hq => ?_) fun A _ h2 => h2 m List.mem_cons_self
            have am := p3 m (fun i m' hm => ha m List.mem_cons_self i m' hm) (fun m' hm' => apart_symm (a m' hm')) q hq
            exact apart_symm am.2.1
          | ro d =>
            refine low [] cells_nil (h1.2.mono Wi.same (Same.refl _)) (fun q hq => nil_apart) fun A _ _ => nil_apart
          | bor j d =>
            obtain ⟨_, mj, e1, e2⟩ := h1
            simp only [okB] at hok
            split at hok
            · rename_i s hs
              have e3 := (p2 j s hs).2
              rw [e1] at e3
              have e4 : ∀ q ∈ ps, Apart mj q.2.1 := fun q hq => (gl.at e3 hq).1
              refine low mj (R'.ok j mj e3) e2 e4 fun A h1 _ => ?_
              rcases p1 j mj e3 with rfl | e5
              · exact nil_apart
              · exact h1 j mj e5
            · cases hok
        · cases h
    | @tk d v m _ vs css h1 t a =>
      simp only [cSl] at h
      cases hh : cSl cvs env with
      | none => simp [hh] at h
      | some q =>
        obtain ⟨ss1, env1⟩ := q
        simp only [hh, Option.some.injEq, Prod.mk.injEq] at h
        obtain ⟨rfl, rfl⟩ := h
        obtain ⟨mss', ps, R', fl, gl, p1, p2, p3⟩ := ih R t (fun m' hm => ha m' (List.mem_cons_of_mem _ hm)) h0 hh
        obtain ⟨o, c, n⟩ := h1
        have am := p3 m (fun i m' hm => ha m List.mem_cons_self i m' hm) (fun m' hm' => apart_symm (a m' hm'))
        refine ⟨mss', ([], m, []) :: ps, R', .tk o c fl, .cons nil_apart nil_apart (fun q hq => ⟨nil_apart, nil_apart, apart_symm (am q hq).2.1, (am q hq).1, (am q hq).2.2, nil_apart⟩) (fun j m' hm => ⟨?_, apart_nil⟩) gl, p1, p2, fun A h1 h2 p hp => ?_⟩
        · rcases p1 j m' hm with rfl | h
          · exact nil_apart
          · exact ha m List.mem_cons_self j m' h
        · rcases List.mem_cons.mp hp with rfl | hp
          · exact ⟨nil_apart, h2 m List.mem_cons_self, nil_apart⟩
          · exact p3 A h1 (fun m' hm' => h2 m' (List.mem_cons_of_mem _ hm')) p hp
    | @pl i p v0 u _ vs css h1 hu t =>
      simp only [cSl] at h
      cases hd : env[i]? with
      | none => simp [hd] at h
      | some o =>
      cases o with
      | none => simp [hd] at h
      | some o =>
      cases o with
      | ro d => simp [hd] at h
      | own d =>
        simp only [hd] at h
        cases hg : getP p d with
        | none => simp [hg] at h
        | some x =>
          simp only [hg] at h
          cases hh : cSl cvs (env.set i none) with
          | none => simp [hh] at h
          | some q =>
            obtain ⟨ss1, env1⟩ := q
            simp only [hh, Option.some.injEq, Prod.mk.injEq] at h
            obtain ⟨rfl, rfl⟩ := h
            obtain ⟨v', m, e1, e2, own, okm⟩ := R.own hd
            rw [h1] at e1; cases e1
            obtain ⟨u', c, m1, m2, w1, w2, rfl, back⟩ := owns_pathB own hg
            have eu := w1 H (R.bs.trans R.sh) fun c hc => (okm.2 c hc).1
            rw [hu] at eu; cases eu
            obtain ⟨ok1, ok12, ap1⟩ := cells_split okm
            obtain ⟨okc, ok2, ap2⟩ := cells_split ok12
            have hi := (List.getElem?_eq_some_iff.mp h1).1
            have R1 : SRx T S B (env.set i none) (mss.set i []) σ H := by
              have q := R.set (i := i) (e := none) (s := σ[i]) (m := []) rfl cells_nil (fun _ _ _ _ => apart_nil)
              rwa [List.set_getElem_self] at q
            obtain ⟨mss', ps, R', fl, gl, p1, p2, p3⟩ := ih R1 t (fun m' hm j m2 hj => by
              rcases set_at hj with ⟨_, rfl⟩ | ⟨_, hj⟩
              · exact nil_apart
              · exact ha m' (List.mem_cons_of_mem _ hm) j m2 hj) (fun j s hs => by
              rcases set_at hs with ⟨_, z⟩ | ⟨hj, hs⟩
              · cases z
              · rw [List.getElem?_set_ne (fun z => hj z.symm)]
                exact h0 j s hs) hh
            have am := p3 (m1 ++ (c ++ m2)) (fun j m' hm => by
              rcases set_at hm with ⟨_, rfl⟩ | ⟨hj, hm⟩
              · exact nil_apart
              · exact R.ap j i _ _ hj hm e2) (fun m' hm' => apart_symm (ha m' (List.mem_cons_of_mem _ hm') i _ e2))
            have sub : ∀ z : Cells, Apart z (m1 ++ (c ++ m2)) → Apart z c ∧ Apart z (m1 ++ m2) := fun z hz => ⟨fun x hx e he => hz x hx e (by simp [he]), fun x hx e he => hz x hx e (by rcases List.mem_append.mp he with he | he <;> simp [he])⟩
            refine ⟨mss', ([], c, m1 ++ m2) :: ps, R', .pl (h0 i _ hd).1 h1 w2 okm back fl, .cons nil_apart (apart_app (apart_left ap1) (apart_symm ap2)) (fun q hq => ?_) (fun j m' hm => ?_) gl, fun j m' hm => ?_, p2, fun A h1 h2 p hp => ?_⟩
            · obtain ⟨q1, q2, q3⟩ := am q hq
              exact ⟨nil_apart, apart_symm (sub _ q2).2, apart_symm (sub _ q2).1, (sub _ q1).1, (sub _ q3).1, apart_symm (sub _ q3).2⟩
            · rcases p1 j m' hm with rfl | h
              · exact ⟨nil_apart, nil_apart⟩
              · rcases set_at h with ⟨_, rfl⟩ | ⟨hj, h⟩
                · exact ⟨nil_apart, nil_apart⟩
                · exact sub _ (R.ap j i _ _ hj h e2)
            · rcases p1 j m' hm with rfl | h
              · exact .inl rfl
              · rcases set_at h with ⟨_, rfl⟩ | ⟨hj, h⟩
                · exact .inl rfl
                · exact .inr h
            · rcases List.mem_cons.mp hp with rfl | hp
              · have aw := h1 i _ e2
                exact ⟨nil_apart, fun x hx => aw x (by simp [hx]), fun x hx => aw x (by rcases List.mem_append.mp hx with hx | hx <;> simp [hx])⟩
              · exact p3 A (fun j m' hm => by
                  rcases set_at hm with ⟨_, rfl⟩ | ⟨hj, hm⟩
                  · exact nil_apart
                  · exact h1 j m' hm) (fun m' hm' => h2 m' (List.mem_cons_of_mem _ hm')) p hp

/-! ### the callee's state -/
/-- all that is handed over -/
def allC : List (Cells × Cells × Cells) → Cells
  | [] => []
  | p :: ps => p.2.1 ++ allC ps
theorem allC_mem {ps : List (Cells × Cells × Cells)} {x : Addr × HO} : x ∈ allC ps ↔ ∃ p ∈ ps, x ∈ p.2.1 := by
  induction ps with
  | nil => simp [allC]
  | cons p ps ih => simp [allC, ih]
theorem GL.all {mss : List Cells} {ps : List (Cells × Cells × Cells)} (g : GL mss ps) : ∀ p ∈ ps, Apart p.1 (allC ps) ∧ Apart p.2.2 (allC ps) := by
  induction g with
  | nil => intro p h; cases h
  | @cons p ps h0 h1 h2 h3 t ih =>
    have key : ∀ {a : Cells}, Apart a p.2.1 → (∀ q ∈ ps, Apart a q.2.1) → Apart a (allC (p :: ps)) := fun {a} k1 k2 x hx e he => by
      obtain ⟨q, hq, hq2⟩ := allC_mem.mp he
      rcases List.mem_cons.mp hq with h | hq
      · exact k1 x hx e (h ▸ hq2)
      · exact k2 q hq x hx e hq2
    intro q hq
    rcases List.mem_cons.mp hq with rfl | hq
    · exact ⟨key h0 fun q hq => (h2 q hq).zc, key h1 fun q hq => (h2 q hq).wc⟩
    · obtain ⟨a1, a2⟩ := ih q hq
      exact ⟨key (h2 q hq).cz fun q' hq' x hx e he => a1 x hx e (allC_mem.mpr ⟨q', hq', he⟩), key (h2 q hq).cw fun q' hq' x hx e he => a2 x hx e (allC_mem.mpr ⟨q', hq', he⟩)⟩
theorem GL.out {mss : List Cells} {ps : List (Cells × Cells × Cells)} (g : GL mss ps) {j : Nat} {m : Cells} (h : mss[j]? = some m) : Apart m (allC ps) := fun x hx e he => by
  obtain ⟨q, hq, he⟩ := allC_mem.mp he
  exact (g.at h hq).1 x hx e he
theorem FL.len {ss : List Slot} {ps : List (Cells × Cells × Cells)} (f : FL T S B H σ env0 cvs vs ss ps) : ss.length = vs.length ∧ ps.length = vs.length ∧ cvs.length = vs.length := by
  induction f with
  | nil => exact ⟨rfl, rfl, rfl⟩
  | rd _ _ _ ih => simp [ih.1, ih.2.1, ih.2.2]
  | tk _ _ _ ih => simp [ih.1, ih.2.1, ih.2.2]
  | pl _ _ _ _ _ _ ih => simp [ih.1, ih.2.1, ih.2.2]
theorem FL.cells {ss : List Slot} {ps : List (Cells × Cells × Cells)} (f : FL T S B H σ env0 cvs vs ss ps) : ∀ p ∈ ps, CellsOk S H p.1 ∧ CellsOk S H p.2.1 ∧ CellsOk S H p.2.2 := by
  induction f with
  | nil => intro p h; cases h
  | rd _ hz _ ih =>
    intro p hp
    rcases List.mem_cons.mp hp with rfl | hp
    · exact ⟨hz, cells_nil, cells_nil⟩
    · exact ih p hp
  | tk _ hc _ ih =>
    intro p hp
    rcases List.mem_cons.mp hp with rfl | hp
    · exact ⟨cells_nil, hc, cells_nil⟩
    · exact ih p hp
  | pl _ _ _ hc _ _ ih =>
    intro p hp
    rcases List.mem_cons.mp hp with rfl | hp
    · obtain ⟨ok1, ok12, ap1⟩ := cells_split hc
      obtain ⟨okc, ok2, ap2⟩ := cells_split ok12
      exact ⟨cells_nil, okc, cells_append ok1 ok2 (apart_right ap1)⟩
    · exact ih p hp
theorem FL.at {ss : List Slot} {ps : List (Cells × Cells × Cells)} {Sc : Hp} (f : FL T S B H σ env0 cvs vs ss ps) (hz : ∀ p ∈ ps, Same (Wi S p.1) Sc) : ∀ (k : Nat) (e : Option Slot) (s : Option V) (m : Cells), (ss.map some)[k]? = some e → (vs.map some)[k]? = some s → (ps.map (·.2.1))[k]? = some m → SlotR T Sc B e s m := by
  induction f with
  | nil => intro k e s m h; simp at h
  | @rd r v z cvs vs ss ps h hz' t ih =>
    intro k e s m h1 h2 h3
    cases k with
    | zero =>
      simp at h1 h2 h3; subst h1 h2 h3
      exact ⟨rfl, h.mono (hz _ List.mem_cons_self) (Same.refl _)⟩
    | succ k => exact ih (fun p hp => hz p (List.mem_cons_of_mem _ hp)) k e s m (by simpa using h1) (by simpa using h2) (by simpa using h3)
  | @tk d v c cvs vs ss ps h hc t ih =>
    intro k e s m h1 h2 h3
    cases k with
    | zero =>
      simp at h1 h2 h3; subst h1 h2 h3
      exact h
    | succ k => exact ih (fun p hp => hz p (List.mem_cons_of_mem _ hp)) k e s m (by simpa using h1) (by simpa using h2) (by simpa using h3)
  | @pl i p d v0 u x c m1 m2 cvs vs ss ps hd hσ h hc back t ih =>
    intro k e s m h1 h2 h3
    cases k with
    | zero =>
      simp at h1 h2 h3; subst h1 h2 h3
      exact h
    | succ k => exact ih (fun p hp => hz p (List.mem_cons_of_mem _ hp)) k e s m (by simpa using h1) (by simpa using h2) (by simpa using h3)
theorem GL.ap {mss : List Cells} {ps : List (Cells × Cells × Cells)} (g : GL mss ps) : ∀ (k l : Nat) (m m' : Cells), k ≠ l → (ps.map (·.2.1))[k]? = some m → (ps.map (·.2.1))[l]? = some m' → Apart m m' := by
  induction g with
  | nil => intro k l m m' _ h; simp at h
  | @cons p ps h0 h1 h2 h3 t ih =>
    intro k l m m' hkl g1 g2
    cases k with
    | zero =>
      cases l with
      | zero => exact absurd rfl hkl
      | succ l =>
        simp at g1; subst g1
        have g2 : (ps.map (·.2.1))[l]? = some m' := by simpa using g2
        obtain ⟨q, hq, rfl⟩ := List.mem_map.mp (List.mem_of_getElem? g2)
        exact (h2 q hq).cc
    | succ k =>
      cases l with
      | zero =>
        simp at g2; subst g2
        have g1 : (ps.map (·.2.1))[k]? = some m := by simpa using g1
        obtain ⟨q, hq, rfl⟩ := List.mem_map.mp (List.mem_of_getElem? g1)
        exact apart_symm (h2 q hq).cc
      | succ l => exact ih k l m m' (fun z => hkl (by rw [z])) (by simpa using g1) (by simpa using g2)
/-- the callee's state -/
theorem callee {ss : List Slot} {ps : List (Cells × Cells × Cells)} (R : SRx T S B env mss σ H) (f : FL T S B H σ env0 cvs vs ss ps) (g : GL mss ps) : SRx T (Mi H (allC ps)) B (ss.map some) (ps.map (·.2.1)) (vs.map some) H ∧ Same S (Mi H (allC ps)) ∧
    (∀ z : Cells, CellsOk S H z → Apart z (allC ps) → ∀ c ∈ z, Mi H (allC ps) c.1 = some c.2) := by
  have kept : ∀ z : Cells, CellsOk S H z → Apart z (allC ps) → ∀ c ∈ z, Mi H (allC ps) c.1 = some c.2 := fun z hz ha c hc => by
    rw [Mi.out fun e he w => ha c hc e he w.symm]
    exact (hz.2 c hc).1
  have sS : Same S (Mi H (allC ps)) := fun a o h => by
    rw [Mi.out fun e he w => ?_]
    · exact R.sh _ _ h
    · obtain ⟨p, hp, he⟩ := allC_mem.mp he
      have := ((f.cells p hp).2.1.2 e he).2
      rw [w, h] at this
      cases this
  have sW : ∀ p ∈ ps, Same (Wi S p.1) (Mi H (allC ps)) := fun p hp a o h => by
    unfold Wi at h
    cases e : S a with
    | some x => rw [e] at h; cases h; exact sS _ _ e
    | none =>
      rw [e] at h
      exact kept p.1 (f.cells p hp).1 (g.all p hp).1 _ (mem_of_lookup' h)
  obtain ⟨l1, l2, _⟩ := f.len
  refine ⟨⟨R.bs.trans sS, Mi.le, by simp [l1], by simp [l2], f.at sW, fun k m h => ?_, g.ap⟩, sS, kept⟩
  obtain ⟨p, hp, rfl⟩ := List.mem_map.mp (List.mem_of_getElem? h)
  have c := (f.cells p hp).2.1
  exact ⟨c.1, fun x hx => ⟨(c.2 x hx).1, Mi.in_ (allC_mem.mpr ⟨p, hp, hx⟩)⟩⟩

/-! ### behind the call -/
theorem SRx.keep {S2 B2 : Hp} (R : SRx T S B env mss σ H) (s : Same S S2) (b : Same B B2) (bs : Same B2 S2) (sh : Same S2 H') (k : ∀ (j : Nat) (m : Cells), mss[j]? = some m → ∀ c ∈ m, H' c.1 = some c.2 ∧ S2 c.1 = none) : SRx T S2 B2 env mss σ H' :=
  ⟨bs, sh, R.l1, R.l2, fun i e s' m h1 h2 h3 => (R.at_ i e s' m h1 h2 h3).mono s b, fun i m h => ⟨(R.ok i m h).1, k i m h⟩, R.ap⟩
def isPl : CV → Bool
  | .pl _ _ => true
  | _ => false
theorem back_ok {S2 B2 : Hp} {ms : Cells} : ∀ {cvs : List CV} {vs : List V} {ss : List Slot} {ps : List (Cells × Cells × Cells)} {as : En} {mr : List Cells} {env env2 : En} {mss0 mss : List Cells}, FL T S B H σ env0 cvs vs ss ps → GL mss0 ps →
    SRx T S2 B2 env mss σ H' → Same B B2 → (∀ p ∈ ps, ∀ c ∈ p.2.2, H' c.1 = some c.2 ∧ S2 c.1 = none ∧ S' c.1 ≠ none) →
    (∀ (k : Nat) (e : Option Slot) (s : Option V) (m : Cells), as[k]? = some e → (vs.map some)[k]? = some s → mr[k]? = some m → SlotR T S' B2 e s m ∧ (m.map (·.1)).Nodup ∧ ∀ c ∈ m, H' c.1 = some c.2 ∧ S2 c.1 = none ∧ S' c.1 = none) → as.length = mr.length → as.length = vs.length →
    (∀ (k l : Nat) (m m' : Cells), k ≠ l → mr[k]? = some m → mr[l]? = some m' → Apart m m') →
    (∀ (j : Nat) (m : Cells), mss[j]? = some m → (∀ p ∈ ps, Apart m p.2.2) ∧ (∀ (l : Nat) (m' : Cells), mr[l]? = some m' → Apart m m') ∧ Apart m ms) →
    (∀ c ∈ ms, S' c.1 = none) → (∀ (l : Nat) (m' : Cells) (cv : CV), mr[l]? = some m' → cvs[l]? = some cv → isPl cv = true → Apart m' ms) →
    cBk cvs env0 as env = some env2 → ∃ mss2, SRx T S2 B2 env2 mss2 σ H' ∧ ∀ (j : Nat) (m : Cells), mss2[j]? = some m → Apart m ms := by
  intro cvs
  induction cvs with
  | nil =>
    intro vs ss ps as mr env env2 mss0 mss f g R b hw ha hl hlv hp hm hs hr h
    simp [cBk] at h; subst h
    exact ⟨mss, R, fun j m h => (hm j m h).2.2⟩
  | cons cv cvs ih =>
    intro vs ss ps as mr env env2 mss0 mss f g R b hw ha hl hlv hp hm hs hr h
    cases as with
    | nil => cases cv <;> simp [cBk] at h
    | cons a as =>
    cases mr with
    | nil => simp at hl
    | cons m0 mr =>
      have tl : ∀ {v : V} {vs' : List V} {p : Cells × Cells × Cells} {ps' : List (Cells × Cells × Cells)} {env' : En} {mss' : List Cells} {ss' : List Slot}, vs = v :: vs' → ps = p :: ps' → FL T S B H σ env0 cvs vs' ss' ps' → SRx T S2 B2 env' mss' σ H' →
          (∀ (j : Nat) (m : Cells), mss'[j]? = some m → (∀ p ∈ ps', Apart m p.2.2) ∧ (∀ (l : Nat) (m' : Cells), mr[l]? = some m' → Apart m m') ∧ Apart m ms) → cBk cvs env0 as env' = some env2 →
          ∃ mss2, SRx T S2 B2 env2 mss2 σ H' ∧ ∀ (j : Nat) (m : Cells), mss2[j]? = some m → Apart m ms := fun {v vs' p ps' env' mss' ss'} ev ep f' R' hm' h' => by
        subst ev ep
        cases g with
        | cons _ _ _ _ g' =>
          exact ih f' g' R' b (fun q hq => hw q (List.mem_cons_of_mem _ hq)) (fun k e s m h1 h2 h3 => ha (k + 1) e s m (by simpa using h1) (by simpa using h2) (by simpa using h3)) (by simpa using hl) (by simpa using hlv)
            (fun k l m m' hkl h1 h2 => hp (k + 1) (l + 1) m m' (by omega) (by simpa using h1) (by simpa using h2)) hm' hs (fun l m' cv' h1 h2 h3 => hr (l + 1) m' cv' (by simpa using h1) (by simpa using h2) h3) h'
      cases f with
      | rd h1 hz t =>
        simp only [cBk] at h
        exact tl rfl rfl t R (fun j m hj => ⟨fun q hq => (hm j m hj).1 q (List.mem_cons_of_mem _ hq), fun l m' hl' => (hm j m hj).2.1 (l + 1) m' (by simpa using hl'), (hm j m hj).2.2⟩) h
      | tk h1 hz t =>
        simp only [cBk] at h
        exact tl rfl rfl t R (fun j m hj => ⟨fun q hq => (hm j m hj).1 q (List.mem_cons_of_mem _ hq), fun l m' hl' => (hm j m hj).2.1 (l + 1) m' (by simpa using hl'), (hm j m hj).2.2⟩) h
      | @pl i p d v0 u x c m1 m2 _ vs ss ps hd hσ h1 hc back t =>
        cases a with
        | none => simp [cBk] at h
        | some a =>
        cases a with
        | ro d' => simp [cBk] at h
        | own x' =>
          simp only [cBk, hd] at h
          obtain ⟨sr, nd0, c0⟩ := ha 0 (some (.own x')) (some u) m0 rfl rfl rfl
          have own' := back B2 x' m0 b sr
          have hw0 := hw _ List.mem_cons_self
          obtain ⟨ok1, ok12, ap1⟩ := cells_split hc
          obtain ⟨okc, ok2, ap2⟩ := cells_split ok12
          have w1 : ∀ y ∈ m1, H' y.1 = some y.2 ∧ S2 y.1 = none ∧ S' y.1 ≠ none := fun y hy => hw0 y (List.mem_append_left _ hy)
          have w2 : ∀ y ∈ m2, H' y.1 = some y.2 ∧ S2 y.1 = none ∧ S' y.1 ≠ none := fun y hy => hw0 y (List.mem_append_right _ hy)
          have away : ∀ {y e : Addr × HO}, S' y.1 ≠ none → S' e.1 = none → y.1 ≠ e.1 := fun {y e} h1 h2 z => h1 (by rw [z]; exact h2)
          have oknew : CellsOk S2 H' (m1 ++ (m0 ++ m2)) := by
            refine cells_append ⟨ok1.1, fun y hy => ⟨(w1 y hy).1, (w1 y hy).2.1⟩⟩ (cells_append ⟨nd0, fun y hy => ⟨(c0 y hy).1, (c0 y hy).2.1⟩⟩ ⟨ok2.1, fun y hy => ⟨(w2 y hy).1, (w2 y hy).2.1⟩⟩ ?_) ?_
            · exact fun y hy e he z => away (w2 e he).2.2 (c0 y hy).2.2 z.symm
            · refine apart_symm (apart_app (fun y hy e he z => away (w1 e he).2.2 (c0 y hy).2.2 z.symm) (apart_symm (apart_right ap1)))
          have R1 := R.set (i := i) (e := some (.own (setP p d x'))) (s := some v0) (m := m1 ++ (m0 ++ m2)) own' oknew fun j m' hj hmj => by
            obtain ⟨k1, k2, _⟩ := hm j m' hmj
            have k1 := k1 _ List.mem_cons_self
            have k2 := k2 0 m0 rfl
            intro y hy e he
            rcases List.mem_append.mp he with he | he
            · exact k1 y hy e (List.mem_append_left _ he)
            · rcases List.mem_append.mp he with he | he
              · exact k2 y hy e he
              · exact k1 y hy e (List.mem_append_right _ he)
          have eσ : σ.set i (some v0) = σ := by
            apply List.ext_getElem?
            intro n
            by_cases hn : i = n
            · subst hn
              rw [hσ, List.getElem?_set_self (List.getElem?_eq_some_iff.mp hσ).1]
            · rw [List.getElem?_set_ne hn]
          rw [eσ] at R1
          cases g with
          | cons g0 g1 g2 g3 g' =>
          refine tl rfl rfl t R1 (fun j m hj => ?_) h
          rcases set_at hj with ⟨_, rfl⟩ | ⟨_, hj⟩
          · refine ⟨fun q hq => ?_, fun l m' hl' => ?_, ?_⟩
            · have q1 := (g2 q hq).ww
              have hq' := hw q (List.mem_cons_of_mem _ hq)
              exact apart_app (fun y hy e he => q1 y (List.mem_append_left _ hy) e he) (apart_app (fun y hy e he z => away (hq' e he).2.2 (c0 y hy).2.2 z.symm) fun y hy e he => q1 y (List.mem_append_right _ hy) e he)
            · have hml : ∀ e ∈ m', S' e.1 = none := fun e he => by
                obtain ⟨a', ha'⟩ : ∃ a', as[l]? = some a' := ⟨as[l]'(by have := (List.getElem?_eq_some_iff.mp hl').1; simp at hl; omega), List.getElem?_eq_getElem _⟩
                have lv : l < vs.length := by
                  have hh : l < as.length := (List.getElem?_eq_some_iff.mp ha').1
                  simp at hlv; omega
                exact ((ha (l + 1) a' (some vs[l]) m' (by simpa using ha') (by simp [lv]) (by simpa using hl')).2.2 e he).2.2
              exact apart_app (fun y hy e he z => away (w1 y hy).2.2 (hml e he) z) (apart_app (hp 0 (l + 1) m0 m' (by omega) rfl (by simpa using hl')) fun y hy e he z => away (w2 y hy).2.2 (hml e he) z)
            · exact apart_app (fun y hy e he z => away (w1 y hy).2.2 (hs e he) z) (apart_app (hr 0 m0 _ rfl rfl rfl) fun y hy e he z => away (w2 y hy).2.2 (hs e he) z)
          · exact ⟨fun q hq => (hm j m hj).1 q (List.mem_cons_of_mem _ hq), fun l m' hl' => (hm j m hj).2.1 (l + 1) m' (by simpa using hl'), (hm j m hj).2.2⟩
end
end Tr

/-! TsB: calls of defs and methods that may change what they are lent; objects made. -/
namespace Tr
open PySem L2
section
variable {T : Tab} {S B H S' B' H' H0 S0 B0 : Hp} {mss : List Cells} {σ : L2.St} {env env0 : En} {cvs : List CV} {vs : List V} {css : List Cells}
theorem after {ss : List Slot} {ps : List (Cells × Cells × Cells)} {env' env2 as : En} {mss' mr : List Cells} {ms : Cells} (R : SRx T S B env' mss' σ H) (fl : FL T S B H σ env0 cvs vs ss ps) (gl : GL mss' ps)
    (gw : Gw (Mi H (allC ps)) B S' B') (Rr : SRx T S' B' as mr (vs.map some) H') (hms : ∀ c ∈ ms, S' c.1 = none) (hr : ∀ (l : Nat) (m' : Cells) (cv : CV), mr[l]? = some m' → cvs[l]? = some cv → isPl cv = true → Apart m' ms) (hb : cBk cvs env0 as env' = some env2) :
    ∃ S2 mss2, Gw S B S2 B' ∧ SRx T S2 B' env2 mss2 σ H' ∧ (∀ (j : Nat) (m : Cells), mss2[j]? = some m → Apart m ms) ∧ ∀ c : Addr, S' c = none → S2 c = none := by
  obtain ⟨Rc, sS, kept⟩ := callee R fl gl
  have inS : ∀ z : Cells, CellsOk S H z → Apart z (allC ps) → ∀ c ∈ z, H' c.1 = some c.2 ∧ Jn S B' c.1 = none ∧ S' c.1 ≠ none := fun z hz ha c hc => by
    have k1 := kept z hz ha c hc
    have k2 := gw.s _ _ k1
    refine ⟨Rr.sh _ _ k2, ?_, by rw [k2]; intro h; cases h⟩
    unfold Jn
    rw [(hz.2 c hc).2]
    cases e : B' c.1 with
    | none => rfl
    | some o =>
      rcases gw.n _ _ e with q | q
      · rw [R.bs.free (hz.2 c hc).2] at q; cases q
      · rw [k1] at q; cases q
  have out : ∀ c : Addr, S' c = none → Jn S B' c = none := fun c h => by
    unfold Jn
    rw [sS.free (gw.s.free h)]
    exact Rr.bs.free h
  have s2 : Same S (Jn S B') := fun a u h => by unfold Jn; rw [h]
  have bs2 : Same B' (Jn S B') := fun a u h => by
    unfold Jn
    cases e : S a with
    | some w =>
      rcases gw.n _ _ h with q | q
      · rw [R.bs _ _ q] at e; cases e; rfl
      · rw [sS _ _ e] at q; cases q
    | none => exact h
  have sh2 : Same (Jn S B') H' := fun a u h => by
    unfold Jn at h
    cases e : S a with
    | some w => rw [e] at h; cases h; exact Rr.sh _ _ (gw.s _ _ (sS _ _ e))
    | none => rw [e] at h; exact Rr.sh _ _ (Rr.bs _ _ h)
  have gw2 : Gw S B (Jn S B') B' := ⟨s2, gw.b, fun a u h => (gw.n a u h).imp id fun q => sS.free q⟩
  have R2 : SRx T (Jn S B') B' env' mss' σ H' := R.keep s2 gw.b bs2 sh2 fun j m hm c hc => by
    obtain ⟨a1, a2, _⟩ := inS m (R.ok j m hm) (gl.out hm) c hc
    exact ⟨a1, a2⟩
  have la : as.length = vs.length := by have := Rr.l1; simpa using this
  have lm : mr.length = vs.length := by have := Rr.l2; simpa using this
  obtain ⟨mss2, R3, ap⟩ := back_ok (S' := S') (ms := ms) (as := as) (mr := mr) fl gl R2 gw.b (fun p hp c hc => inS p.2.2 (fl.cells p hp).2.2 (gl.all p hp).2 c hc)
    (fun k e s m h1 h2 h3 => ⟨Rr.at_ k e s m h1 h2 h3, (Rr.ok k m h3).1, fun c hc => ⟨((Rr.ok k m h3).2 c hc).1, out _ ((Rr.ok k m h3).2 c hc).2, ((Rr.ok k m h3).2 c hc).2⟩⟩) (by rw [la, lm]) la Rr.ap
    (fun j m hm => by
      have far : ∀ z : Cells, (∀ c ∈ z, S' c.1 = none) → Apart m z := fun z hz x hx e he w => (inS m (R.ok j m hm) (gl.out hm) x hx).2.2 (by rw [w]; exact hz e he)
      exact ⟨fun p hp => (gl.at hm hp).2, fun l m' hl => far m' fun c hc => ((Rr.ok l m' hl).2 c hc).2, far ms hms⟩) hms hr hb
  exact ⟨_, mss2, gw2, R3, ap, out⟩
end
/-- the call, its arguments reckoned -/
@[simp] def eC1 (mf : List Slot → FR) (cvs : List CV) (env : En) : EO := match cSl cvs env with
  | some (ss, env') => match mf ss with
    | .ok d as => match cBk cvs env as env' with
      | some env2 => .ok (.own d) env2
      | none => .er
    | .ex x as => match cBk cvs env as env' with
      | some env2 => .ex x env2
      | none => .er
    | .er => .er
  | none => .er
@[simp] def eCall (mf : List Slot → FR) (cs : List CA) : EE := fun env => match aCA cs env with
  | .ok cvs => eC1 mf cvs env
  | .ex x => .ex x env
  | .er => .er
def PCA (T : Tab) (W : WX) (S B : Hp) (mss : List Cells) (σ : L2.St) (H : Hp) (Q : List V → Hp → Prop) : Rz (List CV) → Prop
  | .ok cvs => ∀ S' B' H' vs css, Gr S B H S' B' H' → CAL T S' B' H' H mss σ cvs vs css → Q vs H'
  | .ex x => ∀ S' B' H' cls d, Gr S B H S' B' H' → ExF T H' x cls d → W cls d σ H'
  | .er => False
def tCA (T : Tab) (W : WX) (cs : List CA) : TA := fun σ H Q => ∃ S B env mss, SRx T S B env mss σ H ∧ PCA T W S B mss σ H Q (aCA cs env)
def tC1 (T : Tab) (W : WX) : CA → TE
  | .rd m => tP T W m
  | .tk m => tP T W m
  | .pl m => tL T W m
section
variable {X : Cx} {T : Tab} {W : WX} {e o : Expr} {es : List Expr} {S B H S' B' H' H0 S0 B0 S1 B1 H1 : Hp} {mss : List Cells} {σ : L2.St} {env : En} {cvs : List CV} {vs : List V} {css : List Cells} {c : CA} {cs : List CA} {mf : List Slot → FR} {n k : Nat} {pos apos p : Pos} {m x : Str} {f C : Addr} {fd : FuncData} {ps : List Str}
theorem PCA.grow {Q : List V → Hp → Prop} {z : Rz (List CV)} {S1 B1 H1 : Hp} (p : PCA T W S B mss σ H Q z) (g : Gr S B H S1 B1 H1) : PCA T W S1 B1 mss σ H1 Q z := by
  cases z with
  | ok l => exact fun S' B' H' vs css g' f => p S' B' H' vs css (g.trans g') (f.back g.h)
  | ex x => exact fun S' B' H' cls d g' f => p S' B' H' cls d (g.trans g') f
  | er => exact p
theorem pca_nil : PA X [] (tCA T W []) := pa_of pa_nil fun σ H Q ⟨S, B, env, mss, R, q⟩ => q S B H [] [] R.gr .nil
/-- the first of a row, then the others -/
theorem i_ca {σ : L2.St} {H : Hp} {Q : List V → Hp → Prop} (h : tCA T W (c :: cs) σ H Q) : tC1 T W c σ H fun v H1 => tCA T W cs σ H1 fun vs H2 => Q (v :: vs) H2 := by
  obtain ⟨S, B, env, mss, R, q⟩ := h
  cases c with
  | rd m =>
    refine ⟨S, B, env, mss, R, ?_⟩
    cases hr : m env with
    | ok r =>
      simp only [aCA, hr] at q
      intro S1 B1 H1 v g f1
      have R1 := R.grow g
      refine ⟨S1, B1, env, mss, R1, ?_⟩
      cases hs : aCA cs env with
      | ok rs =>
        simp only [hs] at q
        intro S2 B2 H2 vs css g2 f2
        obtain ⟨m1, c1⟩ := f1.toC
        have c2 := c1.grow R1 g2
        refine q S2 B2 H2 (v :: vs) (m1 :: css) (g.trans g2) (.rd c2 (f2.back g.h) fun m' hm' => ?_)
        exact apart_new2 (rfc_new c1).1 (f2.new m' hm').2
      | ex x => simp only [hs] at q; exact fun S2 B2 H2 cls d g2 x2 => q S2 B2 H2 cls d (g.trans g2) x2
      | er => simp only [hs] at q; exact q
    | ex x => simp only [aCA, hr] at q; exact q
    | er => simp only [aCA, hr] at q; exact q
  | tk m =>
    refine ⟨S, B, env, mss, R, ?_⟩
    cases hr : m env with
    | ok r =>
      simp only [aCA, hr] at q
      cases r with
      | ro d => exact q.elim
      | bor i d => exact q.elim
      | own d =>
      intro S1 B1 H1 v g f1
      have R1 := R.grow g
      refine ⟨S1, B1, env, mss, R1, ?_⟩
      cases hs : aCA cs env with
      | ok rs =>
        simp only [hs] at q
        intro S2 B2 H2 vs css g2 f2
        obtain ⟨m1, c1⟩ := f1.toC
        have c2 := c1.grow R1 g2
        refine q S2 B2 H2 (v :: vs) (m1 :: css) (g.trans g2) (.tk c2 (f2.back g.h) fun m' hm' => ?_)
        exact apart_new2 (rfc_new c1).1 (f2.new m' hm').2
      | ex x => simp only [hs] at q; exact fun S2 B2 H2 cls d g2 x2 => q S2 B2 H2 cls d (g.trans g2) x2
      | er => simp only [hs] at q; exact q
    | ex x => simp only [aCA, hr] at q; exact q
    | er => simp only [aCA, hr] at q; exact q
  | pl m =>
    refine ⟨S, B, env, mss, R, ?_⟩
    cases hr : m env with
    | ok i p =>
      simp only [aCA, hr] at q
      intro S1 B1 H1 v u g hv hu
      have R1 := R.grow g
      refine ⟨S1, B1, env, mss, R1, ?_⟩
      cases hs : aCA cs env with
      | ok rs =>
        simp only [hs] at q
        intro S2 B2 H2 vs css g2 f2
        exact q S2 B2 H2 (u :: vs) ([] :: css) (g.trans g2) (.pl hv (valP_mono g2.h hu) (f2.back g.h))
      | ex x => simp only [hs] at q; exact fun S2 B2 H2 cls d g2 x2 => q S2 B2 H2 cls d (g.trans g2) x2
      | er => simp only [hs] at q; exact q
    | ex x => simp only [aCA, hr] at q; exact q
    | er => simp only [aCA, hr] at q; exact q
theorem pca_cons (h1 : PE X e (tC1 T W c)) (h2 : PA X es (tCA T W cs)) (hs : starEach (e :: es) X.env = (false, eval e X.env) :: starEach es X.env := by rfl) : PA X (e :: es) (tCA T W (c :: cs)) :=
  pa_of (pa_cons h1 h2 hs) fun _ _ _ => i_ca
theorem aCA_len {cs : List CA} {env : En} : ∀ {l : List CV}, aCA cs env = .ok l → l.length = cs.length := by
  induction cs with
  | nil => intro l h; simp [aCA] at h; subst h; rfl
  | cons c cs ih =>
    intro l h
    cases c with
    | rd m =>
      simp only [aCA] at h
      split at h
      · split at h
        · rename_i h'; cases h; simp [ih h']
        · cases h
        · cases h
      · cases h
      · cases h
    | tk m =>
      simp only [aCA] at h
      split at h
      · split at h
        · rename_i h'; cases h; simp [ih h']
        · cases h
        · cases h
      · cases h
      · cases h
      · cases h
    | pl m =>
      simp only [aCA] at h
      split at h
      · split at h
        · rename_i h'; cases h; simp [ih h']
        · cases h
        · cases h
      · cases h
      · cases h
theorem CAL.len (f : CAL T S B H H0 mss σ cvs vs css) : cvs.length = vs.length := by
  induction f with
  | nil => rfl
  | rd _ _ _ ih => simp [ih]
  | tk _ _ _ ih => simp [ih]
  | pl _ _ _ ih => simp [ih]
theorem CAL.fresh (R0 : SRx T S0 B0 env mss σ H0) (f : CAL T S B H H0 mss σ cvs vs css) : ∀ m ∈ css, ∀ (i : Nat) (m' : Cells), mss[i]? = some m' → Apart m' m := fun m hm i m' hi => apart_new2 (R0.ok i m' hi) (f.new m hm).2
theorem call_sp {Q : VK} (R0 : SRx T S0 B0 env mss σ H0) (g : Gr S0 B0 H0 S B H) (f : CAL T S B H H0 mss σ cvs vs css) (hn : vs.length = n) (q : PO T W S0 B0 σ Q (eC1 mf cvs env)) : spF T n mf vs H Q (WE W σ) := by
  have R := R0.grow g
  unfold eC1 at q
  cases hs : cSl cvs env with
  | none => simp only [hs] at q; exact q.elim
  | some pr =>
    obtain ⟨ss, env'⟩ := pr
    simp only [hs] at q
    obtain ⟨mss', ps, R', fl, gl, _, _, _⟩ := foc (mss0 := mss) (env0 := env) R f (f.fresh R0) (fun j s h => ⟨h, rfl⟩) hs
    obtain ⟨Rc, _, _⟩ := callee R' fl gl
    refine ⟨hn, Mi H (allC ps), B, ss, _, Rc, ?_⟩
    cases hz : mf ss with
    | ok d as =>
      simp only [hz] at q
      intro S' B' H' v ms mr gw Rr ow co ap
      cases hb : cBk cvs env as env' with
      | none => simp only [hb] at q; exact q.elim
      | some env2 =>
        simp only [hb] at q
        obtain ⟨S2, mss2, g2, R2, a2, out⟩ := after R' fl gl gw Rr (fun c hc => (co.2 c hc).2) (fun l m' _ h _ _ => ap l m' h) hb
        exact q S2 B' H' mss2 v (g.w.trans g2) R2 ⟨ms, ow, ⟨co.1, fun c hc => ⟨(co.2 c hc).1, out _ (co.2 c hc).2⟩⟩, a2⟩
    | ex x as =>
      simp only [hz] at q
      intro S' B' H' mr cls dd gw Rr ef
      cases hb : cBk cvs env as env' with
      | none => simp only [hb] at q; exact q.elim
      | some env2 =>
        simp only [hb] at q
        obtain ⟨S2, mss2, g2, R2, _, _⟩ := after (ms := []) R' fl gl gw Rr (fun _ h => nomatch h) (fun _ _ _ _ _ _ => apart_nil) hb
        exact q S2 B' H' mss2 cls dd (g.w.trans g2) R2 ef
    | er => simp only [hz] at q; exact q.elim
/-- f(..) -/
theorem ee_call (F : FnOk X.prog X.w X.K X.mg X.base (L2.CX X.prog X.w) k f fd ps (spF T n mf)) (hr : Room k X.A) (hg : Gl X x) (hm : X.mg x = some (.ref f)) (hk : PySem.W.keepIn X.K (.ref f) = true) (hb : Binds X.K fd ps []) (tk : Takes X W)
    (ha : PA X (e :: es) (tCA T W cs)) (hn : cs.length = n := by rfl) (hdb : (x == ("__debug__" : Str)) = false := by decide) (he : starEach (e :: es) X.env = (false, eval e X.env) :: starEach es X.env := by rfl) (hpl : (backTo pos (starEach es X.env)).any (·.1) = false := by rfl) :
    PE X (.Call (.Name x p) (e :: es) [] pos) (tE T W (eCall mf cs)) := by
  refine pe_of (pe_callS F hr hg hm hk hb (fun σ => passAt tk σ) ha hdb he hpl) fun σ H Q ⟨S, B, env, mss, R, q⟩ => ⟨S, B, env, mss, R, ?_⟩
  cases hc : aCA cs env with
  | ok cvs =>
    simp only [eCall, hc] at q
    intro S' B' H' vs css g f
    exact call_sp R g f (by rw [← f.len, aCA_len hc, hn]) q
  | ex x => simp only [eCall, hc] at q; exact fun S' B' H' cls d g ef => q S' B' H' mss cls d g.w (R.grow g) ef
  | er => simp only [eCall, hc] at q; exact q

/-! ### methods -/
/-- m is a method of class c -/
structure MethOk (T : Tab) (c : Nat) (m : Str) (f : Addr) : Prop where
  ex : ∃ C fl, T.cls[c]? = some ⟨C, fl⟩ ∧ m ∉ fl ∧ Cls T.K C ∧ Meth T.K C m f
/-- the object at the head of a row is of class c -/
@[simp] def hdIs (c : Nat) : List CV → En → Bool
  | .rd r :: _, _ => match unfz r.d with
    | .obj c' _ => c' == c
    | _ => false
  | .tk d :: _, _ => match d with
    | .obj c' _ => c' == c
    | _ => false
  | .pl i p :: _, env => match atP i p env with
    | some (.obj c' _) => c' == c
    | _ => false
  | [], _ => false
theorem lookup_none {fl : List Str} {ws : List V} {m : Str} (h : m ∉ fl) : (fl.zip ws).lookup m = none := by
  induction fl generalizing ws with
  | nil => simp
  | cons g fl ih =>
    cases ws with
    | nil => simp
    | cons w ws =>
      rw [List.zip_cons_cons, List.lookup_cons]
      have : (m == g) = false := by
        simp only [beq_eq_false_iff_ne, ne_eq]
        intro z; exact h (z ▸ List.mem_cons_self)
      rw [this]
      exact ih fun z => h (List.mem_cons_of_mem _ z)
end
section
variable {X : Cx} {K : PySem.W.Frag} {CX : CXT} {k : Nat} {f C : Addr} {fd : FuncData} {ps : List Str} {sp : Sp} {E : L2.St → XK} {x m : Str} {p pos apos : Pos} {e o : Expr} {es : List Expr} {ta : TE} {t : TA}
/-- o.m(..) with the wish of the very slots -/
def tMethA (C : Addr) (m : Str) (sp : Sp) (E : L2.St → XK) (ta : TE) (t : TA) : TE := fun σ H Q => ta σ H fun y H1 => ∃ b ex gs, y = .ref b ∧ H1 b = some (.ins C ex gs) ∧ gs.lookup m = none ∧ t σ H1 fun ws H2 => sp (y :: ws) H2 Q (E σ)
theorem pe_methA {pl : Sem Bool} (ho : PE X o ta) (c : Cls X.K C) (hm : Meth X.K C m f) (F : FnOk X.prog X.w X.K X.mg X.base CX k f fd ps sp) (hr : Room k X.A) (hb : Binds X.K fd ps []) (hx : ∀ σ, PassesAt CX X σ (E σ)) (ha : PA X (e :: es) t)
    (h1 : starEach (e :: es) X.env = (false, eval e X.env) :: starEach es X.env := by rfl) (h2 : (backTo pos (starEach es X.env)).any (·.1) = false := by rfl)
    (h3 : eval (.Call (.Attribute o m apos) (e :: es) [] pos) X.env = (do
      let z ← eval o X.env
      standAt apos.atName
      let (g, first) ← holding [z] (getMethod z m pl)
      callWith pos g first (backTo pos (starEach (e :: es) X.env)) (backToKw pos (keywordEach [] X.env))) := by rfl) :
    PE X (.Call (.Attribute o m apos) (e :: es) [] pos) (tMethA C m sp E ta t) := by
  refine ⟨fun pins s σ H Q J h => PySem.W.methodCall_KW (pl := pl) (thn (ho.run pins s σ H _ J h) fun u s1 ⟨y, H1, J1, ry, b, ex, gs, ey, eb, lk, q⟩ => ?_) h3⟩
  subst ey
  cases ry
  refine getmeth_ok J1 eb c hm lk (PySem.W.callWith_K (first := [.ref b]) (h₀ := X.base) J.ok.mod.kin hm.kp (thn (ha.run pos pins s1 σ H1 _ J1 q) fun us s2 ⟨ws, H2, J2, rv, q2⟩ => ⟨J2.kIn, ?_⟩) h1 h2)
  exact run_fnS (us := .ref b :: us) (vs := .ref b :: ws) F hr hb (hx σ) J2 (.cons rfl rv) q2
theorem pe_methA0 {pl : Sem Bool} (ho : PE X o ta) (c : Cls X.K C) (hm : Meth X.K C m f) (F : FnOk X.prog X.w X.K X.mg X.base CX k f fd ps sp) (hr : Room k X.A) (hb : Binds X.K fd ps []) (hx : ∀ σ, PassesAt CX X σ (E σ))
    (h3 : eval (.Call (.Attribute o m apos) [] [] pos) X.env = (do
      let z ← eval o X.env
      standAt apos.atName
      let (g, first) ← holding [z] (getMethod z m pl)
      callWith pos g first (backTo pos (starEach [] X.env)) (backToKw pos (keywordEach [] X.env))) := by rfl) :
    PE X (.Call (.Attribute o m apos) [] [] pos) (tMethA C m sp E ta tNil) := by
  refine ⟨fun pins s σ H Q J h => PySem.W.methodCall_KW (pl := pl) (thn (ho.run pins s σ H _ J h) fun u s1 ⟨y, H1, J1, ry, b, ex, gs, ey, eb, lk, q⟩ => ?_) h3⟩
  subst ey
  cases ry
  refine getmeth_ok J1 eb c hm lk ?_
  exact PySem.W.callWith_K0 (first := [.ref b]) J1.kIn hm.kp (run_fnS (us := [.ref b]) (vs := [.ref b]) F hr hb (hx σ) J1 (.cons rfl .nil) q)
end
section
variable {X : Cx} {T : Tab} {W : WX} {e o : Expr} {es : List Expr} {S B H S' B' H' H0 S0 B0 S1 B1 H1 : Hp} {mss : List Cells} {σ : L2.St} {env : En} {cvs : List CV} {vs : List V} {css : List Cells} {c : CA} {cs : List CA} {mf : List Slot → FR} {n k cl : Nat} {pos apos p : Pos} {m x : Str} {f C : Addr} {fd : FuncData} {ps : List Str}
/-- a method of class c -/
@[simp] def eMeth (c : Nat) (mf : List Slot → FR) (ch : CA) (cs : List CA) : EE := fun env => match aCA [ch] env with
  | .ok hv => if hdIs c hv env = true then (match aCA (ch :: cs) env with
    | .ok cvs => eC1 mf cvs env
    | .ex x => .ex x env
    | .er => .er) else .er
  | .ex x => .ex x env
  | .er => .er
theorem hd_obj (M : MethOk T cl m f) {v : V} (R : SRx T S B env mss σ H) (fc : CAL T S B H H0 mss σ cvs (v :: vs) css) (h : hdIs cl cvs env = true) : ∃ C, Cls T.K C ∧ Meth T.K C m f ∧ (∃ fl, T.cls[cl]? = some ⟨C, fl⟩) ∧ ∃ b ex gs, v = .ref b ∧ H b = some (.ins C ex gs) ∧ gs.lookup m = none := by
  obtain ⟨C, fl, hc, hnf, k1, k2⟩ := M.ex
  refine ⟨C, k1, k2, ⟨fl, hc⟩, ?_⟩
  have fin : ∀ {d : D} {S : Hp}, Same S H → Ros T B S [d] [v] → (∃ ds, d = .obj cl ds) → ∃ b ex gs, v = .ref b ∧ H b = some (.ins C ex gs) ∧ gs.lookup m = none := fun {d S} sh r ⟨ds, e⟩ => by
    subst e
    obtain ⟨a, C', dx, fl', ws, rfl, h1, hc', hl, q⟩ := ros_obj r
    rw [hc] at hc'; cases hc'
    exact ⟨a, dx, _, rfl, sh _ _ h1, lookup_none hnf⟩
  cases fc with
  | @rd r _ m' cvs _ css hr t a =>
    simp only [hdIs] at h
    have rr : Ros T B H [r.d] [v] := by
      have f : RF T S B H H0 mss r v := by
        cases r with
        | own d => exact ⟨m', hr⟩
        | ro d => exact hr.2
        | bor i d => exact hr.2
      exact f.read R
    have r2 := ros_unfz (R.bs.trans R.sh) rr
    split at h
    · rename_i c' ds e
      have := beq_iff_eq.mp h
      subst this
      rw [e] at r2
      exact fin (Same.refl _) r2 ⟨ds, rfl⟩
    · cases h
  | @tk d _ m' cvs _ css hr t a =>
    simp only [hdIs] at h
    have rr : Ros T B H [d] [v] := by
      have f : RF T S B H H0 mss (.own d) v := ⟨m', hr⟩
      exact f.read R
    split at h
    · rename_i c' ds
      have := beq_iff_eq.mp h
      subst this
      exact fin (Same.refl _) rr ⟨ds, rfl⟩
    · cases h
  | @pl i p v0 _ cvs _ css hv hu t =>
    simp only [hdIs] at h
    split at h
    · rename_i c' ds hx
      have := beq_iff_eq.mp h
      subst this
      obtain ⟨v', u', mx, e1, e2, own, okx⟩ := R.place hx
      rw [hv] at e1; cases e1
      rw [hu] at e2; cases e2
      exact fin (Same.refl _) (own.ro (R.bs.trans R.sh) fun c hc => (okx.2 c hc).1) ⟨ds, rfl⟩
    · cases h
theorem aCA_cons (c : CA) (cs : List CA) (env : En) : aCA (c :: cs) env = (match aCA [c] env with
    | .ok l => match aCA cs env with
      | .ok l2 => .ok (l ++ l2)
      | .ex x => .ex x
      | .er => .er
    | .ex x => .ex x
    | .er => .er) := by
  cases c with
  | rd m =>
    simp only [aCA]
    cases m env with
    | ok r => simp only; cases aCA cs env <;> rfl
    | ex x => rfl
    | er => rfl
  | tk m =>
    simp only [aCA]
    cases m env with
    | ok r => cases r with
      | own d => simp only; cases aCA cs env <;> rfl
      | ro d => rfl
      | bor i d => rfl
    | ex x => rfl
    | er => rfl
  | pl m =>
    simp only [aCA]
    cases m env with
    | ok i p => simp only; cases aCA cs env <;> rfl
    | ex x => rfl
    | er => rfl
theorem CAL.cons {cv : CV} {v : V} {css1 : List Cells} (f1 : CAL T S1 B1 H1 H0 mss σ [cv] [v] css1) (R1 : SRx T S1 B1 env mss σ H1) (g : Gr S1 B1 H1 S B H) (h01 : Same H0 H1) (t : CAL T S B H H1 mss σ cvs vs css) : ∃ css2, CAL T S B H H0 mss σ (cv :: cvs) (v :: vs) css2 := by
  have f2 := f1.grow R1 g
  cases f1 with
  | rd h1 _ _ => cases f2 with
    | rd h2 _ _ => exact ⟨_, .rd h2 (t.back h01) fun m' hm' => apart_new2 (rfc_new h1).1 (t.new m' hm').2⟩
  | tk h1 _ _ => cases f2 with
    | tk h2 _ _ => exact ⟨_, .tk h2 (t.back h01) fun m' hm' => apart_new2 (rfc_new h1).1 (t.new m' hm').2⟩
  | pl h1 hu _ => cases f2 with
    | pl h2 hu2 _ => exact ⟨_, .pl h2 hu2 (t.back h01)⟩
theorem tC1_imp {c : CA} {σ : L2.St} {H : Hp} {Q Q' : VK} (h : tC1 T W c σ H Q) (i : ∀ v H, Q v H → Q' v H) : tC1 T W c σ H Q' := by
  cases c with
  | rd m =>
    obtain ⟨S, B, env, mss, R, q⟩ := h
    refine ⟨S, B, env, mss, R, ?_⟩
    revert q
    cases m env with
    | ok r => exact fun q S' B' H' v g f => i _ _ (q S' B' H' v g f)
    | ex x => exact id
    | er => exact id
  | tk m =>
    obtain ⟨S, B, env, mss, R, q⟩ := h
    refine ⟨S, B, env, mss, R, ?_⟩
    revert q
    cases m env with
    | ok r => exact fun q S' B' H' v g f => i _ _ (q S' B' H' v g f)
    | ex x => exact id
    | er => exact id
  | pl m =>
    obtain ⟨S, B, env, mss, R, q⟩ := h
    refine ⟨S, B, env, mss, R, ?_⟩
    revert q
    cases m env with
    | ok j p => exact fun q S' B' H' v u g hv hu => i _ _ (q S' B' H' v u g hv hu)
    | ex x => exact id
    | er => exact id
/-- the head of a row alone -/
theorem i_hd {c : CA} {σ : L2.St} {H : Hp} {Q : VK} (R : SRx T S B env mss σ H) (q : match aCA [c] env with
    | .ok l => ∀ S' B' H' v css, Gr S B H S' B' H' → CAL T S' B' H' H mss σ l [v] css → Q v H'
    | .ex x => ∀ S' B' H' cls d, Gr S B H S' B' H' → ExF T H' x cls d → W cls d σ H'
    | .er => False) : tC1 T W c σ H Q := by
  have h : tCA T W [c] σ H (fun vs H' => ∃ v, vs = [v] ∧ Q v H') := by
    refine ⟨S, B, env, mss, R, ?_⟩
    cases hc : aCA [c] env with
    | ok l =>
      simp only [hc] at q
      intro S' B' H' vs css g f
      have hl := f.len
      rw [aCA_len hc] at hl
      match vs, hl with
      | [v], _ => exact ⟨v, rfl, q S' B' H' v css g f⟩
    | ex x => simp only [hc] at q; exact q
    | er => simp only [hc] at q
  refine tC1_imp (i_ca h) fun v H1 ⟨S, B, env, mss, R, q⟩ => ?_
  obtain ⟨v', e, q⟩ := q S B H1 [] [] R.gr .nil
  cases e
  exact q
theorem i_meth {C : Addr} {fl : List Str} {Q : VK} {σ : L2.St} {H : Hp} (M : MethOk T cl m f) (hc : T.cls[cl]? = some ⟨C, fl⟩) (hn : (c :: cs).length = n) (h : tE T W (eMeth cl mf c cs) σ H Q) : tMethA C m (spF T n mf) (WE W) (tC1 T W c) (tCA T W cs) σ H Q := by
  obtain ⟨S, B, env, mss, R, q⟩ := h
  refine i_hd R ?_
  unfold eMeth at q
  rw [aCA_cons c cs] at q
  cases hh : aCA [c] env with
  | ok hv =>
    simp only [hh] at q
    split at q
    · rename_i hd
      intro S1 B1 H1 v css1 g1 f1
      have R1 := R.grow g1
      obtain ⟨C', _, _, ⟨fl', hc'⟩, b, ex, gs, rfl, hb1, hlk⟩ := hd_obj M R1 f1 hd
      rw [hc] at hc'; cases hc'
      refine ⟨b, ex, gs, rfl, hb1, hlk, S1, B1, env, mss, R1, ?_⟩
      cases hs : aCA cs env with
      | ok rs =>
        simp only [hs] at q
        intro S2 B2 H2 vs css g2 f2
        have l1 := aCA_len hh
        match hv, l1 with
        | [cv], _ =>
          obtain ⟨css2, f3⟩ := f1.cons R1 g2 g1.h f2
          exact call_sp R (g1.trans g2) f3 (by rw [← hn, List.length_cons, ← f2.len, aCA_len hs]; rfl) q
      | ex x => simp only [hs] at q; exact fun S2 B2 H2 cls d g2 x2 => q S2 B2 H2 mss cls d (g1.w.trans g2.w) (R1.grow g2) x2
      | er => simp only [hs] at q; exact q.elim
    · exact q.elim
  | ex x => simp only [hh] at q; exact fun S' B' H' cls d g ef => q S' B' H' mss cls d g.w (R.grow g) ef
  | er => simp only [hh] at q; exact q.elim
theorem ee_meth (hK : X.K = T.K) (M : MethOk T cl m f) (F : FnOk X.prog X.w X.K X.mg X.base (L2.CX X.prog X.w) k f fd ps (spF T n mf)) (hr : Room k X.A) (hb : Binds X.K fd ps []) (tk : Takes X W) (ho : PE X o (tC1 T W c)) (ha : PA X (e :: es) (tCA T W cs)) (hn : (c :: cs).length = n := by rfl)
    {pl : Sem Bool} (h1 : starEach (e :: es) X.env = (false, eval e X.env) :: starEach es X.env := by rfl) (h2 : (backTo pos (starEach es X.env)).any (·.1) = false := by rfl)
    (h3 : eval (.Call (.Attribute o m apos) (e :: es) [] pos) X.env = (do
      let z ← eval o X.env
      standAt apos.atName
      let (g, first) ← holding [z] (getMethod z m pl)
      callWith pos g first (backTo pos (starEach (e :: es) X.env)) (backToKw pos (keywordEach [] X.env))) := by rfl) :
    PE X (.Call (.Attribute o m apos) (e :: es) [] pos) (tE T W (eMeth cl mf c cs)) := by
  obtain ⟨C, fl, hc, hnf, k1, k2⟩ := M.ex
  refine pe_of (pe_methA (C := C) (f := f) (pl := pl) ho (hK ▸ k1) (hK ▸ k2) F hr hb (fun σ => passAt tk σ) ha h1 h2 h3) fun σ H Q h => i_meth M hc hn h
theorem ee_meth0 (hK : X.K = T.K) (M : MethOk T cl m f) (F : FnOk X.prog X.w X.K X.mg X.base (L2.CX X.prog X.w) k f fd ps (spF T n mf)) (hr : Room k X.A) (hb : Binds X.K fd ps []) (tk : Takes X W) (ho : PE X o (tC1 T W c)) (hn : [c].length = n := by rfl)
    {pl : Sem Bool} (h3 : eval (.Call (.Attribute o m apos) [] [] pos) X.env = (do
      let z ← eval o X.env
      standAt apos.atName
      let (g, first) ← holding [z] (getMethod z m pl)
      callWith pos g first (backTo pos (starEach [] X.env)) (backToKw pos (keywordEach [] X.env))) := by rfl) :
    PE X (.Call (.Attribute o m apos) [] [] pos) (tE T W (eMeth cl mf c [])) := by
  obtain ⟨C, fl, hc, hnf, k1, k2⟩ := M.ex
  refine pe_of (pe_methA0 (C := C) (f := f) (pl := pl) ho (hK ▸ k1) (hK ▸ k2) F hr hb (fun σ => passAt tk σ) h3) fun σ H Q h => ?_
  have z := i_meth (Q := Q) M hc hn h
  exact tC1_imp z fun v H1 ⟨b, ex, gs, h1, h2, h3, S, B, env, mss, R, q⟩ => ⟨b, ex, gs, h1, h2, h3, q S B H1 [] [] R.gr .nil⟩
end
end Tr

/-! TsC: methods that change nothing, objects made, fields read, lent and stored. -/
namespace Tr
open PySem L2
section
variable {X : Cx} {T : Tab} {W : WX} {e o : Expr} {es : List Expr} {S B H S' B' H' H0 S0 B0 S1 B1 H1 : Hp} {mss : List Cells} {σ : L2.St} {env : En} {vs : List V} {mo : ME} {ms : List ME} {mf : List Slot → FR} {n k cl : Nat} {pos apos p : Pos} {m x : Str} {f C : Addr} {fd : FuncData} {ps : List Str}
/-- what a call gives that changes nothing -/
@[simp] def frR : FR → Rz Rs
  | .ok d _ => .ok (.own d)
  | .ex x _ => .ex x
  | .er => .er
theorem call_pure {Q : VK} {ds : List D} (R : SRx T S B env mss σ H) (r : Ros T B H ds vs) (hn : vs.length = n) (q : PP T W S B mss σ H Q (frR (mf (ds.map Slot.ro)))) : spF T n mf vs H Q (WE W σ) := by
  have bh := R.bs.trans R.sh
  refine ⟨hn, H, B, ds.map Slot.ro, vs.map fun _ => [], srx_ros bh r, ?_⟩
  cases hz : mf (ds.map Slot.ro) with
  | ok d as =>
    rw [hz] at q
    intro S' B' H' v m' mss' gw R' o c _
    exact q _ _ _ _ (gr_pure R.bs R.sh gw R'.bs R'.sh) (own_pure R.sh gw.s o c R'.bs)
  | ex x as =>
    rw [hz] at q
    intro S' B' H' mss' cls dd gw R' ef
    exact q _ _ _ _ _ (gr_pure R.bs R.sh gw R'.bs R'.sh) ef
  | er => rw [hz] at q; exact q.elim
/-- o.m(..), nothing changed -/
@[simp] def mMeth (c : Nat) (mf : List Slot → FR) (mo : ME) (ms : List ME) : ME := fun env => match mo env with
  | .ok r => match unfz r.d with
    | .obj c' _ => if c' = c then (match mAs ms env with
      | .ok rs => frR (mf ((r.d :: rs.map Rs.d).map Slot.ro))
      | .ex x => .ex x
      | .er => .er) else .er
    | _ => .er
  | .ex x => .ex x
  | .er => .er
theorem i_methP {C : Addr} {fl : List Str} {Q : VK} {σ : L2.St} {H : Hp} (M : MethOk T cl m f) (hc : T.cls[cl]? = some ⟨C, fl⟩) (hn : ms.length + 1 = n) (h : tP T W (mMeth cl mf mo ms) σ H Q) : tMethA C m (spF T n mf) (WE W) (tP T W mo) (tPR T W ms) σ H Q := by
  obtain ⟨S, B, env, mss, R, q⟩ := h
  refine ⟨S, B, env, mss, R, ?_⟩
  cases hm : mo env with
  | ok r =>
    simp only [mMeth, hm] at q
    intro S1 B1 H1 v g1 f1
    have R1 := R.grow g1
    have rd := ros_unfz (R1.bs.trans R1.sh) (f1.read R1)
    cases hu : unfz r.d with
    | obj c' ds =>
      simp only [hu] at q
      split at q
      · rename_i hcc
        subst hcc
        rw [hu] at rd
        obtain ⟨a, C', dx, fl', ws, rfl, h1, hc', hl, _⟩ := ros_obj rd
        obtain ⟨C2, fl2, hc2, hnf, k1, k2⟩ := M.ex
        rw [hc] at hc'; cases hc'
        rw [hc] at hc2; cases hc2
        refine ⟨a, dx, _, rfl, h1, lookup_none hnf, S1, B1, env, mss, R1, ?_⟩
        cases hs : mAs ms env with
        | ok rs =>
          simp only [hs] at q
          intro S2 B2 H2 vs g2 r2
          have R2 := R1.grow g2
          have f2 := (f1.grow R1 g2).read R2
          have hl : (V.ref a :: vs).length = n := by
            have l1 := r2.len
            have l2 := mAs_len hs
            rw [List.length_cons, ← l1, List.length_map, l2, hn]
          exact call_pure R2 (ros_cons f2 r2) hl (q.grow (g1.trans g2))
        | ex x => simp only [hs] at q; exact fun S2 B2 H2 cls d g2 ef => q S2 B2 H2 cls d (g1.trans g2) ef
        | er => simp only [hs] at q; exact q.elim
      · exact q.elim
    | _ => simp only [hu] at q; exact q.elim
  | ex x => simp only [mMeth, hm] at q; exact q
  | er => simp only [mMeth, hm] at q; exact q
theorem ep_meth (hK : X.K = T.K) (M : MethOk T cl m f) (F : FnOk X.prog X.w X.K X.mg X.base (L2.CX X.prog X.w) k f fd ps (spF T n mf)) (hr : Room k X.A) (hb : Binds X.K fd ps []) (tk : Takes X W) (ho : PE X o (tP T W mo)) (ha : PA X (e :: es) (tPR T W ms)) (hn : ms.length + 1 = n := by rfl)
    {pl : Sem Bool} (h1 : starEach (e :: es) X.env = (false, eval e X.env) :: starEach es X.env := by rfl) (h2 : (backTo pos (starEach es X.env)).any (·.1) = false := by rfl)
    (h3 : eval (.Call (.Attribute o m apos) (e :: es) [] pos) X.env = (do
      let z ← eval o X.env
      standAt apos.atName
      let (g, first) ← holding [z] (getMethod z m pl)
      callWith pos g first (backTo pos (starEach (e :: es) X.env)) (backToKw pos (keywordEach [] X.env))) := by rfl) :
    PE X (.Call (.Attribute o m apos) (e :: es) [] pos) (tP T W (mMeth cl mf mo ms)) := by
  obtain ⟨C, fl, hc, hnf, k1, k2⟩ := M.ex
  exact pe_of (pe_methA (C := C) (f := f) (pl := pl) ho (hK ▸ k1) (hK ▸ k2) F hr hb (fun σ => passAt tk σ) ha h1 h2 h3) fun σ H Q h => i_methP M hc hn h
theorem ep_meth0 (hK : X.K = T.K) (M : MethOk T cl m f) (F : FnOk X.prog X.w X.K X.mg X.base (L2.CX X.prog X.w) k f fd ps (spF T n mf)) (hr : Room k X.A) (hb : Binds X.K fd ps []) (tk : Takes X W) (ho : PE X o (tP T W mo)) (hn : 1 = n := by rfl)
    {pl : Sem Bool} (h3 : eval (.Call (.Attribute o m apos) [] [] pos) X.env = (do
      let z ← eval o X.env
      standAt apos.atName
      let (g, first) ← holding [z] (getMethod z m pl)
      callWith pos g first (backTo pos (starEach [] X.env)) (backToKw pos (keywordEach [] X.env))) := by rfl) :
    PE X (.Call (.Attribute o m apos) [] [] pos) (tP T W (mMeth cl mf mo [])) := by
  obtain ⟨C, fl, hc, hnf, k1, k2⟩ := M.ex
  refine pe_of (pe_methA0 (C := C) (f := f) (pl := pl) ho (hK ▸ k1) (hK ▸ k2) F hr hb (fun σ => passAt tk σ) h3) fun σ H Q h => ?_
  have z := i_methP (Q := Q) (ms := []) (n := n) M hc hn h
  exact tC1_imp (c := .rd mo) z fun v H1 ⟨b, ex, gs, h1, h2, h3, S, B, env, mss, R, q⟩ => ⟨b, ex, gs, h1, h2, h3, q S B H1 [] R.gr .nil⟩
/-- the object's class chooses -/
@[simp] def mSel (c : Nat) (mo m1 m2 : ME) : ME := fun env => match mo env with
  | .ok r => match unfz r.d with
    | .obj c' _ => if c' = c then m1 env else m2 env
    | _ => m2 env
  | _ => m2 env
theorem ep_sel {c : Nat} {m1 m2 : ME} (h1 : PE X e (tP T W m1)) (h2 : PE X e (tP T W m2)) : PE X e (tP T W (mSel c mo m1 m2)) := ep_or h1 h2 fun env => by
  unfold mSel
  split
  · split
    · split
      · exact .inl rfl
      · exact .inr rfl
    · exact .inr rfl
  · exact .inr rfl
theorem ee_two {m ma mb : EE} (h1 : PE X e (tE T W ma)) (h2 : PE X e (tE T W mb)) (h : ∀ env, m env = ma env ∨ m env = mb env) : PE X e (tE T W m) :=
  pe_of (pe_orE h1 h2) fun σ H Q ⟨S, B, env, mss, R, q⟩ => by
    rcases h env with z | z
    · rw [z] at q; exact .inl ⟨S, B, env, mss, R, q⟩
    · rw [z] at q; exact .inr ⟨S, B, env, mss, R, q⟩
@[simp] def eSel (c : Nat) (ch : CA) (m1 m2 : EE) : EE := fun env => match aCA [ch] env with
  | .ok hv => if hdIs c hv env = true then m1 env else m2 env
  | _ => m2 env
theorem ee_sel {c : Nat} {ch : CA} {m1 m2 : EE} (h1 : PE X e (tE T W m1)) (h2 : PE X e (tE T W m2)) : PE X e (tE T W (eSel c ch m1 m2)) := ee_two h1 h2 fun env => by
  unfold eSel
  split
  · split
    · exact .inl rfl
    · exact .inr rfl
  · exact .inr rfl
/-- e whose answer is thrown away or moved: an own thing -/
theorem ee_er : PE X e (tE T W fun _ => .er) := ⟨fun pins s σ H Q I ⟨S, B, env, mss, R, q⟩ => q.elim⟩
theorem ep_er : PE X e (tP T W fun _ => .er) := ⟨fun pins s σ H Q I ⟨S, B, env, mss, R, q⟩ => q.elim⟩

/-! ### objects made -/
structure MakeOk (T : Tab) (c : Nat) (C f : Addr) : Prop where
  ex : ∃ fl, T.cls[c]? = some ⟨C, fl⟩ ∧ Mk T.K C f
end
section
variable {X : Cx} {CX : CXT} {k : Nat} {f C : Addr} {fd : FuncData} {ps : List Str} {sp : Sp} {E : L2.St → XK} {x : Str} {p pos : Pos} {e : Expr} {es : List Expr} {t : TA}
theorem run_makeA {pins : List (Addr × Obj)} {σ : L2.St} {H : Hp} {s : Shared} {Q : VK} {us : List Value} {ws : List V} (M : Mk X.K C f) (F : FnOk X.prog X.w X.K X.mg X.base CX k f fd ps sp) (hr : Room (k + 1) X.A) (hb : Binds X.K fd ps []) (hx : PassesAt CX X σ (E σ)) (J : Inv X pins σ H s) (rv : Vals ws us)
    (h : ∀ a dx, H a = none → H dx = none → dx ≠ a → sp (.ref a :: ws) (upd (upd H dx (.own a)) a (.ins C dx [])) (fun v H2 => v = .non ∧ Q (.ref a) H2) (E σ)) :
    wpAny (model X.prog X.w) X.A (call (.ref C) us) (EP X pins σ Q) X.xe s := by
  have sz := s.heap.objs.size
  have q := h (s.heap.objs.size + 1) s.heap.objs.size (J.hok.fresh (Nat.le_succ _)) (J.hok.fresh (Nat.le_refl _)) (Nat.ne_of_lt (Nat.lt_succ_self _))
  have J2 := Inv.made (C := C) J
  have r2 : Vals (V.ref (s.heap.objs.size + 1) :: ws) (Value.ref (s.heap.objs.size + 1) :: us) := .cons rfl rv
  have ln : (Value.ref (s.heap.objs.size + 1) :: us ++ []).length = ps.length := by
    rw [List.append_nil, ← r2.length]
    exact F.len _ _ _ _ q
  have bb := hb _ (Value.ref (s.heap.objs.size + 1) :: us) J2.kIn ln
  rw [List.append_nil] at bb
  refine wpAny_call (make_map (f := f) J.kIn M.makes M.init (beq_iff_eq.mp M.fn) (codeAny_mono (F.run _ X.stack _ _ ⟨Value.ref (s.heap.objs.size + 1) :: us, []⟩ _ _ _ (E σ) (hr.make C us []) (J2.env0.make C us []) bb r2 q) fun r s' z => ?_))
  cases r with
  | error er => exact hx pins _ _ er s' J2 z
  | ok fl =>
    cases fl with
    | ret u =>
      obtain ⟨v, Hn, J3, rv3, ev, q3⟩ := J2.after z
      subst ev
      exact ⟨rv3, V.ref (s.heap.objs.size + 1), Hn, J3, rfl, q3⟩
    | next => exact z.elim
    | brk => exact z.elim
    | cont => exact z.elim
def tMakeA (C : Addr) (sp : Sp) (E : L2.St → XK) (t : TA) : TE := fun σ H Q => t σ H fun ws H1 => ∀ a dx, H1 a = none → H1 dx = none → dx ≠ a → sp (.ref a :: ws) (upd (upd H1 dx (.own a)) a (.ins C dx [])) (fun v H2 => v = .non ∧ Q (.ref a) H2) (E σ)
theorem pe_makeA (M : Mk X.K C f) (F : FnOk X.prog X.w X.K X.mg X.base CX k f fd ps sp) (hr : Room (k + 1) X.A) (hg : Gl X x) (hm : X.mg x = some (.ref C)) (hb : Binds X.K fd ps []) (hx : ∀ σ, PassesAt CX X σ (E σ)) (ha : PA X (e :: es) t)
    (h0 : (x == ("__debug__" : Str)) = false := by decide) (h1 : starEach (e :: es) X.env = (false, eval e X.env) :: starEach es X.env := by rfl) (h2 : (backTo pos (starEach es X.env)).any (·.1) = false := by rfl) :
    PE X (.Call (.Name x p) (e :: es) [] pos) (tMakeA C sp E t) :=
  ⟨fun pins s σ H Q J h => wpAny_Call_Name_kw (ld_glob J hg hm (PySem.W.callWith_K (h₀ := X.base) J.ok.mod.kin M.kp (thn (ha.run pos pins s σ H _ J h) fun us s1 ⟨ws, H1, J1, r, q⟩ => ⟨J1.kIn, run_makeA M F hr hb (hx σ) J1 r q⟩) h1 h2) h0)⟩
theorem pe_makeA0 (M : Mk X.K C f) (F : FnOk X.prog X.w X.K X.mg X.base CX k f fd ps sp) (hr : Room (k + 1) X.A) (hg : Gl X x) (hm : X.mg x = some (.ref C)) (hb : Binds X.K fd ps []) (hx : ∀ σ, PassesAt CX X σ (E σ))
    (h0 : (x == ("__debug__" : Str)) = false := by decide) : PE X (.Call (.Name x p) [] [] pos) (tMakeA C sp E tNil) :=
  ⟨fun pins s σ H Q J h => wpAny_Call_Name_kw (ld_glob J hg hm (PySem.W.callWith_K0 J.kIn M.kp (run_makeA (us := []) (ws := []) M F hr hb (hx σ) J .nil h)) h0)⟩
end
section
variable {X : Cx} {T : Tab} {W : WX} {e o : Expr} {es : List Expr} {S B H S' B' H' H0 S0 B0 S1 B1 H1 : Hp} {mss : List Cells} {σ : L2.St} {env : En} {vs : List V} {mo : ME} {ms : List ME} {mf : List Slot → FR} {n k cl : Nat} {pos apos p : Pos} {m x : Str} {f C : Addr} {fd : FuncData} {ps : List Str}
/-- C(..): self is handed over empty, what it has become is the answer -/
@[simp] def mkR : FR → Rz Rs
  | .ok (.im .non) (some (.own d) :: _) => .ok (.own d)
  | .ok _ _ => .er
  | .ex x _ => .ex x
  | .er => .er
@[simp] def mMake (c : Nat) (mf : List Slot → FR) (ms : List ME) : ME := fun env => match mAs ms env with
  | .ok rs => mkR (mf (.own (.obj c []) :: (rs.map Rs.d).map Slot.ro))
  | .ex x => .ex x
  | .er => .er
theorem i_make {Q : VK} {σ : L2.St} {H : Hp} (M : MakeOk T cl C f) (hn : ms.length + 1 = n) (h : tP T W (mMake cl mf ms) σ H Q) : tMakeA C (spF T n mf) (WE W) (tPR T W ms) σ H Q := by
  obtain ⟨S, B, env, mss, R, q⟩ := h
  obtain ⟨fl, hc, _⟩ := M.ex
  refine ⟨S, B, env, mss, R, ?_⟩
  cases hs : mAs ms env with
  | ok rs =>
    simp only [mMake, hs] at q
    intro S1 B1 H1 vs g1 r1 a dx na nd ne
    have R1 := R.grow g1
    have bh := R1.bs.trans R1.sh
    have hl : (V.ref a :: vs).length = n := by
      have l1 := r1.len
      have l2 := mAs_len hs
      rw [List.length_cons, ← l1, List.length_map, l2, hn]
    have sH : Same H1 (upd (upd H1 dx (.own a)) a (.ins C dx [])) := fun b u h => by
      rw [upd_ne (ne_of_none h na), upd_ne (ne_of_none h nd)]; exact h
    have R0 : SRx T H1 B1 (((rs.map Rs.d).map Slot.ro).map some) (vs.map fun _ => []) (vs.map some) (upd (upd H1 dx (.own a)) a (.ins C dx [])) := by
      have z := srx_ros (T := T) bh r1
      exact ⟨z.bs, sH, z.l1, z.l2, z.at_, fun i m hi => by
        simp only [List.getElem?_map, Option.map_eq_some_iff] at hi
        obtain ⟨_, _, rfl⟩ := hi
        exact cells_nil, z.ap⟩
    have Rc : SRx T H1 B1 ((Slot.own (.obj cl []) :: (rs.map Rs.d).map Slot.ro).map some) ([(a, .ins C dx [])] :: vs.map fun _ => []) ((V.ref a :: vs).map some) (upd (upd H1 dx (.own a)) a (.ins C dx [])) := by
      have own : Owns T B1 [.obj cl []] [.ref a] [(a, .ins C dx [])] := by
        have := Owns.obj (a := a) (dx := dx) (ws := []) hc (Nat.zero_le _) (Owns.nil (T := T) (B := B1)) (Owns.nil (T := T) (B := B1))
        simpa using this
      refine ⟨R0.bs, R0.sh, by have := r1.len; simp at this; simp [this], by simp, fun i e s m h1 h2 h3 => ?_, fun i m h => ?_, fun i j m m' hij h1 h2 => ?_⟩
      · cases i with
        | zero => simp at h1 h2 h3; subst h1 h2 h3; exact own
        | succ i => exact R0.at_ i e s m (by simpa using h1) (by simpa using h2) (by simpa using h3)
      · cases i with
        | zero =>
          simp at h; subst h
          exact ⟨by simp, fun c hc => by
            have : c = (a, .ins C dx []) := by simpa using hc
            subst this
            exact ⟨upd_same, na⟩⟩
        | succ i => exact R0.ok i m (by simpa using h)
      · cases i with
        | zero =>
          cases j with
          | zero => exact absurd rfl hij
          | succ j =>
            have h2 : (vs.map fun _ => ([] : Cells))[j]? = some m' := by simpa using h2
            simp only [List.getElem?_map, Option.map_eq_some_iff] at h2
            obtain ⟨_, _, rfl⟩ := h2
            exact apart_nil
        | succ i =>
          have h1 : (vs.map fun _ => ([] : Cells))[i]? = some m := by simpa using h1
          simp only [List.getElem?_map, Option.map_eq_some_iff] at h1
          obtain ⟨_, _, rfl⟩ := h1
          exact nil_apart
    refine ⟨hl, H1, B1, _, _, Rc, ?_⟩
    have g2 : ∀ {S' B' H' : Hp}, Gw H1 B1 S' B' → Same B' S' → Same S' H' → Gr S1 B1 H1 (Jn S1 B') B' H' := fun gw b2 s2 => gr_pure R1.bs R1.sh gw b2 s2
    cases hz : mf (.own (.obj cl []) :: (rs.map Rs.d).map Slot.ro) with
    | ok d as =>
      rw [hz] at q
      intro S' B' H' v m' mss' gw R' o c _
      match d, as, q, o, R' with
      | .im .non, some (.own d') :: as, q, o, R' =>
        cases mss' with
        | nil => have := R'.l2; simp at this
        | cons m0 mss' =>
          refine ⟨own_im o, q _ _ _ _ (g1.trans (g2 gw R'.bs R'.sh)) ((own_pure R1.sh gw.s (R'.at_ 0 _ _ m0 rfl rfl rfl) (R'.ok 0 m0 rfl) R'.bs).back g1.h)⟩
    | ex x as =>
      rw [hz] at q
      intro S' B' H' mss' cls dd gw R' ef
      exact q _ _ _ _ _ (g1.trans (g2 gw R'.bs R'.sh)) ef
    | er => rw [hz] at q; exact q.elim
  | ex x => simp only [mMake, hs] at q; exact q
  | er => simp only [mMake, hs] at q; exact q
theorem ep_make (hK : X.K = T.K) (M : MakeOk T cl C f) (F : FnOk X.prog X.w X.K X.mg X.base (L2.CX X.prog X.w) k f fd ps (spF T n mf)) (hr : Room (k + 1) X.A) (hg : Gl X x) (hm : X.mg x = some (.ref C)) (hb : Binds X.K fd ps []) (tk : Takes X W) (ha : PA X (e :: es) (tPR T W ms)) (hn : ms.length + 1 = n := by rfl)
    (h0 : (x == ("__debug__" : Str)) = false := by decide) (h1 : starEach (e :: es) X.env = (false, eval e X.env) :: starEach es X.env := by rfl) (h2 : (backTo pos (starEach es X.env)).any (·.1) = false := by rfl) :
    PE X (.Call (.Name x p) (e :: es) [] pos) (tP T W (mMake cl mf ms)) := by
  obtain ⟨fl, hc, mk⟩ := M.ex
  exact pe_of (pe_makeA (hK ▸ mk) F hr hg hm hb (fun σ => passAt tk σ) ha h0 h1 h2) fun σ H Q h => i_make M hn h
theorem ep_make0 (hK : X.K = T.K) (M : MakeOk T cl C f) (F : FnOk X.prog X.w X.K X.mg X.base (L2.CX X.prog X.w) k f fd ps (spF T n mf)) (hr : Room (k + 1) X.A) (hg : Gl X x) (hm : X.mg x = some (.ref C)) (hb : Binds X.K fd ps []) (tk : Takes X W) (hn : 1 = n := by rfl)
    (h0 : (x == ("__debug__" : Str)) = false := by decide) : PE X (.Call (.Name x p) [] [] pos) (tP T W (mMake cl mf [])) := by
  obtain ⟨fl, hc, mk⟩ := M.ex
  refine pe_of (pe_makeA0 (hK ▸ mk) F hr hg hm hb (fun σ => passAt tk σ) h0) fun σ H Q h => ?_
  obtain ⟨S, B, env, mss, R, q⟩ := i_make (Q := Q) (ms := []) (n := n) M hn h
  exact q S B H [] R.gr .nil

/-! ### fields by a table -/
def fldT (tb : List (Nat × Nat)) : D → Option D
  | .obj c ds => match tb.lookup c with
    | some k => ds[k]?
    | none => none
  | _ => none
def FldT (T : Tab) (tb : List (Nat × Nat)) (f : Str) : Prop := ∀ c k, tb.lookup c = some k → FldOk T c k f
theorem fldT_nil {f : Str} : FldT T [] f := fun c k h => by cases h
theorem fldT_cons {c k : Nat} {tb : List (Nat × Nat)} {f : Str} (h : FldOk T c k f) (t : FldT T tb f) : FldT T ((c, k) :: tb) f := fun c' k' h' => by
  rw [List.lookup_cons] at h'
  split at h'
  · rename_i e; cases h'; rw [beq_iff_eq.mp e]; exact h
  · exact t c' k' h'
theorem acc_fldT {tb : List (Nat × Nat)} {f : Str} (F : FldT T tb f) : Acc T (fldT tb) (fun H v u => ∃ a C dx fs, v = .ref a ∧ H a = some (.ins C dx fs) ∧ Cls T.K C ∧ NoAttr T.K C f ∧ fs.lookup f = some u) := by
  intro B S H d v x s b r h
  unfold fldT at h
  split at h
  · rename_i c ds
    split at h
    · rename_i k hk
      exact acc_fld (F c k hk) B S H (.obj c ds) v x s b r (by simp [fldG, h])
    · cases h
  · cases h
@[simp] def mFd (tb : List (Nat × Nat)) (ma : ME) : ME := fun env => match ma env with
  | .ok ra => subR ra (fldT tb)
  | .ex x => .ex x
  | .er => .er
theorem ep_fd {tb : List (Nat × Nat)} {ma : ME} {g : Str} (hK : X.K = T.K) (F : FldT T tb g) (ha : PE X o (tP T W ma)) (hb : attributeBase o g X.env (eval o X.env) = eval o X.env := by rfl) : PE X (.Attribute o g pos) (tP T W (mFd tb ma)) := by
  refine pe_of (pe_fld ha hb) fun σ H Q ⟨S, B, env, mss, R, q⟩ => ⟨S, B, env, mss, R, ?_⟩
  cases ha : ma env with
  | ok ra =>
    intro S1 B1 H1 v g1 f1
    simp only [mFd, ha] at q
    have R1 := R.grow g1
    cases hs : subR ra (fldT tb) with
    | ok r' =>
      rw [hs] at q
      obtain ⟨u, hu, a, C, dx, fs, rfl, h1, h2, h3, h4⟩ := subR_ok (acc_fldT F) R1 f1 hs
      exact ⟨a, C, dx, fs, u, rfl, h1, hK ▸ h2, hK ▸ h3, h4, q S1 B1 H1 u g1 hu⟩
    | ex x => exact absurd hs subR_ex
    | er => rw [hs] at q; exact q.elim
  | ex x => simp only [mFd, ha] at q; exact q
  | er => simp only [mFd, ha] at q; exact q
@[simp] def lFd (tb : List (Nat × Nat)) (ml : ML) : ML := fun env => match ml env with
  | .ok i p => match atP i p env with
    | some (.obj c ds) => match tb.lookup c with
      | some k => if k < ds.length then .ok i (p ++ [k]) else .er
      | none => .er
    | _ => .er
  | .ex x => .ex x
  | .er => .er
theorem el_fd {tb : List (Nat × Nat)} {ml : ML} {g : Str} (hK : X.K = T.K) (F : FldT T tb g) (ha : PE X o (tL T W ml)) (hb : attributeBase o g X.env (eval o X.env) = eval o X.env := by rfl) : PE X (.Attribute o g pos) (tL T W (lFd tb ml)) := by
  refine pe_of (pe_fld ha hb) fun σ H Q ⟨S, B, env, mss, R, q⟩ => ⟨S, B, env, mss, R, ?_⟩
  unfold lFd at q
  cases hm : ml env with
  | ok i p =>
    simp only [hm] at q
    intro S' B' H' v u g' hv hu
    have R' := R.grow g'
    cases hx : atP i p env with
    | none => simp only [hx] at q; exact q.elim
    | some x =>
      simp only [hx] at q
      cases x with
      | obj c ds =>
        simp only at q
        split at q
        · rename_i k hk
          split at q
          · rename_i hlt
            obtain ⟨v', u', mx, e1, e2, own, ok⟩ := R'.place hx
            rw [hv] at e1; cases e1
            rw [hu] at e2; cases e2
            cases own with
            | @obj a _ C dx fl ws xs _ _ m _ hcl hl q' r =>
              cases r
              obtain ⟨C', fl', hc', hfk, nd, cl, na, _⟩ := (F c k hk).ex
              rw [hcl] at hc'; cases hc'
              have hws : k < ws.length := by rw [← q'.len]; exact hlt
              have ha := (ok.2 _ List.mem_cons_self).1
              refine ⟨a, C, dx, _, ws[k], rfl, ha, hK ▸ cl, hK ▸ na, lookup_zip nd hfk (List.getElem?_eq_getElem hws), ?_⟩
              refine q S' B' H' v _ g' hv (valP_app hu ?_)
              simp only [valP, childV]
              rw [ha]
              simp only
              rw [zip_snd hl (List.getElem?_eq_getElem hws)]
          · exact q.elim
        · exact q.elim
      | _ => exact q.elim
  | ex x => simp only [hm] at q; exact q
  | er => simp only [hm] at q; exact q

/-! ### a field stored -/
theorem own_set {d : D} {v : V} {me : Cells} (oe : Owns T B [d] [v] me) (ke : CellsOk S H me) : ∀ {ds : List D} {vs : List V} {ms : Cells} {j : Nat}, Owns T B ds vs ms → j < ds.length → CellsOk S H ms → Apart ms me → ∃ m', Owns T B (ds.set j d) (vs.set j v) m' ∧ (m'.map (·.1)).Nodup ∧ (∀ c ∈ m', c ∈ ms ∨ c ∈ me) := by
  intro ds
  induction ds with
  | nil => intro vs ms j o h; simp at h
  | cons y ys ih =>
    intro vs ms j o hl ok ap
    obtain ⟨v', us', p1, p2, rfl, rfl, w1, w2⟩ := owns_uncons o
    obtain ⟨c1, c2, c12⟩ := cells_split ok
    have ap2 : Apart p2 me := fun c hc => ap c (List.mem_append_right _ hc)
    cases j with
    | zero =>
      refine ⟨me ++ p2, by simpa using owns_cons oe w2, (cells_append ke c2 (apart_symm ap2)).1, fun c hc => ?_⟩
      rcases List.mem_append.mp hc with hc | hc
      · exact .inr hc
      · exact .inl (List.mem_append_right _ hc)
    | succ j =>
      obtain ⟨m', w3, w4, w5⟩ := ih w2 (j := j) (by simpa using hl) c2 ap2
      refine ⟨p1 ++ m', by simpa using owns_cons w1 w3, ?_, fun c hc => ?_⟩
      · rw [List.map_append, List.nodup_append]
        refine ⟨c1.1, w4, fun x hx y hy => ?_⟩
        obtain ⟨c, hc, rfl⟩ := List.mem_map.mp hx
        obtain ⟨e, he, rfl⟩ := List.mem_map.mp hy
        rcases w5 e he with he | he
        · exact c12 c hc e he
        · exact ap c (List.mem_append_left _ hc) e he
      · rcases List.mem_append.mp hc with hc | hc
        · exact .inl (List.mem_append_left _ hc)
        · exact (w5 c hc).imp (List.mem_append_right _) id
theorem putF_zip {fl : List Str} {ws : List V} {k : Nat} {g : Str} {y : V} (nd : fl.Nodup) (hk : fl[k]? = some g) (hl : k ≤ ws.length) : putF g y (fl.zip ws) = fl.zip (if k < ws.length then ws.set k y else ws ++ [y]) := by
  induction fl generalizing ws k with
  | nil => simp at hk
  | cons h fl ih =>
    cases k with
    | zero =>
      have : h = g := by simpa using hk
      subst this
      cases ws with
      | nil => simp [putF]
      | cons w ws => simp [putF]
    | succ k =>
      have hk' : fl[k]? = some g := by simpa using hk
      cases ws with
      | nil => simp at hl
      | cons w ws =>
        have hne : ¬ h = g := fun z => (List.nodup_cons.mp nd).1 (z ▸ List.mem_of_getElem? hk')
        rw [List.zip_cons_cons]
        simp only [putF, if_neg hne]
        rw [ih (List.nodup_cons.mp nd).2 hk' (by simpa using hl)]
        have : (k + 1 < (w :: ws).length) = (k < ws.length) := by simp
        simp only [this]
        split <;> simp
def opFd (tb : List (Nat × Nat)) : D → List D → Option (D × D)
  | .obj c ds, [d] => match tb.lookup c with
    | some k => if k < ds.length then some (.obj c (ds.set k d), .im .non) else if k = ds.length then some (.obj c (ds ++ [d]), .im .non) else none
    | none => none
  | _, _ => none
def rFd (K : PySem.W.Frag) (g : Str) : V → List V → Hp → VK → Prop := fun u vs H Q => match vs with
  | [y] => ∃ a C dx fs, u = .ref a ∧ H a = some (.ins C dx fs) ∧ Cls K C ∧ NoAttr K C g ∧ fs.length < 1000 ∧ Q .non (upd H a (.ins C dx (putF g y fs)))
  | _ => False
theorem mut_obj {a : Addr} {o1 o2 : HO} {x' : D} {m me m' : Cells} (ok : CellsOk S H ((a, o1) :: m)) (ap : Apart ((a, o1) :: m) me) (o : Owns T B [x'] [.ref a] ((a, o2) :: m')) (nd : (m'.map (·.1)).Nodup) (s1 : ∀ c ∈ m', c ∈ m ∨ c ∈ me) :
    ∃ a' o' mx' w mr, (∃ o0, (a', o0) ∈ (a, o1) :: m) ∧ Owns T B [x'] [.ref a] mx' ∧ Owns T B [.im .non] [w] mr ∧ ((mx' ++ mr).map (·.1)).Nodup ∧ (∀ c ∈ mx', c = (a', o') ∨ (c.1 ≠ a' ∧ (c ∈ (a, o1) :: m ∨ c ∈ me))) ∧ (∀ c ∈ mr, c.1 ≠ a' ∧ (c ∈ (a, o1) :: m ∨ c ∈ me)) ∧ a' = a ∧ o' = o2 ∧ w = .non := by
  have na : ∀ c, (c ∈ m ∨ c ∈ me) → c.1 ≠ a := fun c hc z => by
    rcases hc with hc | hc
    · have := ok.1
      rw [List.map_cons, List.nodup_cons] at this
      exact this.1 (List.mem_map.mpr ⟨c, hc, z⟩)
    · exact ap _ List.mem_cons_self c hc z.symm
  refine ⟨a, o2, _, .non, [], ⟨o1, List.mem_cons_self⟩, o, own_non, ?_, fun c hc => ?_, (fun _ h => nomatch h), rfl, rfl, rfl⟩
  · rw [List.append_nil, List.map_cons, List.nodup_cons]
    refine ⟨fun h => ?_, nd⟩
    obtain ⟨c, hc, e⟩ := List.mem_map.mp h
    exact na c (s1 c hc) e
  · rcases List.mem_cons.mp hc with rfl | hc
    · exact .inl rfl
    · exact .inr ⟨na c (s1 c hc), (s1 c hc).imp (List.mem_cons_of_mem _) id⟩
theorem mu_fd {tb : List (Nat × Nat)} {g : Str} (F : FldT T tb g) : MutS T (opFd tb) (rFd T.K g) := by
  intro B S H x u mx ds vs me x' res ox okx od oke ap bh h
  unfold opFd at h
  split at h
  · rename_i c xs d
    split at h
    · rename_i k hk
      obtain ⟨C', fl', hc', hfk, nd, cl, na, hlen⟩ := (F c k hk).ex
      cases ox with
      | @obj a _ C dx fl ws _ _ _ m _ hcl hl q r =>
        cases r
        rw [List.append_nil] at *
        rw [hcl] at hc'; cases hc'
        obtain ⟨v, us, n1, n2, rfl, rfl, o1, o2⟩ := owns_uncons od
        cases o2
        rw [List.append_nil] at *
        have okm : CellsOk S H m := ⟨(List.nodup_cons.mp (by simpa using okx.1)).2, fun c hc => okx.2 c (List.mem_cons_of_mem _ hc)⟩
        have apm : Apart m n1 := fun c hc => ap c (List.mem_cons_of_mem _ hc)
        have hx := (okx.2 _ List.mem_cons_self).1
        have ll := q.len
        have hz : (fl'.zip ws).length < 1000 := by rw [List.length_zip]; omega
        have hkf : k < fl'.length := (List.getElem?_eq_some_iff.mp hfk).1
        have fin : ∀ (xs' : List D) (ws' : List V) (m' : Cells), Owns T B xs' ws' m' → ws'.length ≤ fl'.length → (m'.map (·.1)).Nodup → (∀ c ∈ m', c ∈ m ∨ c ∈ n1) → putF g v (fl'.zip ws) = fl'.zip ws' → x' = .obj c xs' → res = .im .non →
            ∃ a' o' mx' w mr, (∃ o0, (a', o0) ∈ (a, HO.ins C' dx (fl'.zip ws)) :: m) ∧ Owns T B [x'] [.ref a] mx' ∧ Owns T B [res] [w] mr ∧ ((mx' ++ mr).map (·.1)).Nodup ∧ (∀ c ∈ mx', c = (a', o') ∨ (c.1 ≠ a' ∧ (c ∈ (a, HO.ins C' dx (fl'.zip ws)) :: m ∨ c ∈ n1))) ∧ (∀ c ∈ mr, c.1 ≠ a' ∧ (c ∈ (a, HO.ins C' dx (fl'.zip ws)) :: m ∨ c ∈ n1)) ∧ ∀ Q : VK, Q w (upd H a' o') → rFd T.K g (.ref a) [v] H Q := by
          intro xs' ws' m' o' hlw ndm sub hp ex er
          subst ex er
          have own' : Owns T B [.obj c xs'] [.ref a] ((a, .ins C' dx (fl'.zip ws')) :: m') := by
            have := Owns.obj (a := a) (dx := dx) hcl hlw o' (Owns.nil (T := T) (B := B))
            simpa using this
          obtain ⟨a', o2, mx', w, mr, z1, z2, z3, z4, z5, z6, rfl, rfl, rfl⟩ := mut_obj okx ap own' ndm sub
          exact ⟨_, _, mx', _, mr, z1, z2, z3, z4, z5, z6, fun Q kq => ⟨a', C', dx, _, rfl, hx, cl, na, hz, by rw [hp]; exact kq⟩⟩
        split at h
        · rename_i hlt
          simp only [Option.some.injEq, Prod.mk.injEq] at h
          obtain ⟨rfl, rfl⟩ := h
          obtain ⟨m', w1, w2, w3⟩ := own_set o1 oke q hlt okm apm
          exact fin _ _ m' w1 (by rw [List.length_set]; exact hl) w2 w3 (by rw [putF_zip nd hfk (by omega), if_pos (by omega)]) rfl rfl
        · split at h
          · rename_i hkl
            simp only [Option.some.injEq, Prod.mk.injEq] at h
            obtain ⟨rfl, rfl⟩ := h
            exact fin _ _ (m ++ n1) (owns_app q o1) (by rw [List.length_append]; simp; omega) (cells_append okm oke apm).1 (fun c hc => List.mem_append.mp hc) (by rw [putF_zip nd hfk (by omega), if_neg (by omega)]) rfl rfl
          · cases h
    · cases h
  · cases h
/-- o.f = e -/
@[simp] def sSto (op : D → List D → Option (D × D)) (me : EE) (ml : ML) : MS := fun env => match me env with
  | .ok (.own dv) env => match ml env with
    | .ok i p => match env[i]? with
      | some (some (.own d)) => match getP p d with
        | some x => match op x [dv] with
          | some (x', _) => .nx (env.set i (some (.own (setP p d x'))))
          | none => .er
        | none => .er
      | _ => .er
    | .ex x => .ex x env
    | .er => .er
  | .ex x env => .ex x env
  | _ => .er
def tSto (r : V → List V → Hp → VK → Prop) (te to : TE) : TS := fun D σ H => te σ H fun y H1 => to σ H1 fun x H2 => r x [y] H2 fun _ H3 => D.nx σ H3
theorem ss_sto {st : Stmt} {pin : Pins} {σ0 : L2.St} {op : D → List D → Option (D × D)} {r : V → List V → Hp → VK → Prop} {me : EE} {ml : ML} (M : MutS T op r) (h : PS X st (tSto r (tE T W me) (tL T W ml))) : PS X st (tS T W pin σ0 (sSto op me ml)) := by
  refine ps_of h fun De σ H ⟨S, B, env, mss, R, hp, q⟩ => ⟨S, B, env, mss, R, ?_⟩
  cases hm : me env with
  | ok rv env1 =>
    intro S1 B1 H1 mss1 y g1 R1 f1
    simp only [sSto, hm] at q
    cases rv with
    | ro d => exact q.elim
    | bor i d => exact q.elim
    | own dv =>
      simp only at q
      obtain ⟨my, oy, oky, apy⟩ := f1
      refine ⟨S1, B1, env1, mss1, R1, ?_⟩
      cases hl : ml env1 with
      | ok i p =>
        simp only [hl] at q
        intro S2 B2 H2 v u g2 hv hu
        have R2 := R1.grow g2
        cases hd : env1[i]? with
        | none => simp only [hd] at q; exact q.elim
        | some o =>
        cases o with
        | none => simp only [hd] at q; exact q.elim
        | some o =>
        cases o with
        | ro d => simp only [hd] at q; exact q.elim
        | own d =>
          simp only [hd] at q
          cases hg : getP p d with
          | none => simp only [hg] at q; exact q.elim
          | some x =>
            simp only [hg] at q
            cases hop : op x [dv] with
            | none => simp only [hop] at q; exact q.elim
            | some xr =>
              obtain ⟨x', res⟩ := xr
              simp only [hop] at q
              exact mut_do M R2 hd hg hop (oy.mono g2.w.b) (oky.grow g2.h g2.f) apy hv hu fun mss4 H4 w4 mr R4 _ _ _ => q S2 B2 mss4 σ H4 (g1.trans g2.w) R4 hp
      | ex x => simp only [hl] at q; exact fun S3 B3 H3 cls d g3 ef => q S3 B3 mss1 σ H3 cls d (g1.trans g3.w) (R1.grow g3) hp ef
      | er => simp only [hl] at q; exact q
  | ex x env1 => simp only [sSto, hm] at q; exact fun S' B' H' mss' cls d g R' ef => q S' B' mss' σ H' cls d g R' hp ef
  | er => simp only [sSto, hm] at q; exact q
theorem ps_fd {g : Str} {value : Expr} {p' : Pos} {te to : TE} (ho : PE X o to) (he : PE X value te) (hs : swapsWith value (some (.Attribute o g p')) pos.line X.env = pure false := by rfl) : PS X (.Assign [.Attribute o g p'] value pos) (tSto (rFd X.K g) te to) :=
  ps_of (ps_fld ho he hs) fun D σ H h => h
end
end Tr

/-! TsD: except clauses of any number, with names or without; exceptions with fields. -/
namespace Tr
open PySem L2 PySem.Spec PyProof.Rows
abbrev HW := Value × Option Nat × (Addr → Value → Option Addr → TS)
def wG (K : PySem.W.Frag) (Wo : WX) (De : Ends) : List HW → WX
  | [] => Wo
  | (c, none, ts) :: r => fun cls d σ H => ∃ b, PySem.W.exmOne K cls c = some b ∧ (b = true → ∀ z, H z = none → ts z cls d De σ H) ∧ (b = false → wG K Wo De r cls d σ H)
  | (c, some i, ts) :: r => fun cls d σ H => ∃ b, PySem.W.exmOne K cls c = some b ∧
      (b = true → ∀ z, H z = none → ts z cls d { nx := fun τ G => De.nx (τ.set i none) G, rt := De.rt, bk := fun τ G => De.bk (τ.set i none) G, ct := fun τ G => De.ct (τ.set i none) G } (σ.set i (some (.ref z))) H) ∧ (b = false → wG K Wo De r cls d σ H)
inductive HG (X : Cx) : List ExceptHandler → List HW → Prop
  | nil : HG X [] []
  | plain {x : Str} {c : Value} {ts : Addr → Value → Option Addr → TS} {b₀ : Stmt} {suite : List Stmt} {np q : Pos} {hds : List ExceptHandler} {l : List HW} (hc : Names X x c)
      (hsu : ∀ (z : Addr) (oz : Obj) (cls : Value) (d : Option Addr) (pn : List (Addr × Obj)), Zc cls d oz → (∃ vs, oz.data = .fields vs) → PSs (X.suite z ((z, oz) :: pn)) (b₀ :: suite) (ts z cls d)) (r : HG X hds l) :
      HG X (.ExceptHandler (some (.Name x np)) none (b₀ :: suite) q :: hds) ((c, none, ts) :: l)
  | named {x n : Str} {i : Nat} {c : Value} {ts : Addr → Value → Option Addr → TS} {b₀ : Stmt} {suite : List Stmt} {np q : Pos} {hds : List ExceptHandler} {l : List HW} (hN : X.N.Nodup) (hi : X.N[i]? = some n) (hln : X.env.kindOf n = some .local) (hc : Names X x c)
      (hsu : ∀ (z : Addr) (oz : Obj) (cls : Value) (d : Option Addr) (pn : List (Addr × Obj)), Zc cls d oz → (∃ vs, oz.data = .fields vs) → PSs (X.suite z ((z, oz) :: pn)) (b₀ :: suite) (ts z cls d)) (r : HG X hds l) :
      HG X (.ExceptHandler (some (.Name x np)) (some n) (b₀ :: suite) q :: hds) ((c, some i, ts) :: l)
section
variable {X : Cx} {body : List Stmt} {h₀ : ExceptHandler} {hds : List ExceptHandler} {l : List HW} {pos : Pos} {tb : WX → TS} {Wo : WX}
theorem ps_tryG (hs : X.stack = X.env :: X.outer) (hf : X.env.frame = some X.env.locals) (tk : Takes X Wo)
    (hb : ∀ (W : WX) (pn : List (Addr × Obj)) (xe : Value → Shared → Prop), Takes (X.tr pn xe) W → PassesOwn (model X.prog X.w) X.A X.env xe → PSs (X.tr pn xe) body (tb W))
    (hh : HG X (h₀ :: hds) l) : PS X (.Try body (h₀ :: hds) [] [] pos) (fun De σ H => tb (wG X.K Wo De l) De σ H) := by
  refine ⟨fun pins s σ H De I h => ?_⟩
  have kk := I.ok
  have fr0 : X.A.frames = some (X.env :: X.outer) := by rw [kk.frames, hs]
  refine wpAny_Try_except (wpAny_mono ((hb (wG X.K Wo De l) (X.pn ++ pins) (fun e s₁ => wpAny (model X.prog X.w) X.A (noteFrame e X.env) (fun _ s₂ => wpAny (model X.prog X.w) X.A (setFlight e none) (fun _ s₃ =>
    wpAny (model X.prog X.w) X.A (handleBy e X.env (h₀ :: hds)) (SP X pins De) X.xe s₃) X.xe s₂) X.xe s₁) (fun u s1 xx => ?_) PassesOwn.looking).run [] s σ H De (I.toTry _) h) (fun fl s1 z => ?_) (fun e s1 z => z))
  · obtain ⟨z, Bz, sz, pz, τ, G, cls, d, rfl, J0, nb, up, sky, nz, os, ag, w⟩ := xx
    have J : Inv X pins τ G sz := J0.ofTry kk
    have sk : Sky Bz (X.env :: X.outer) z (Zc cls d) X.env.locals s1.heap := by rw [← hs]; exact sky
    show wpAny (model X.prog X.w) X.A (noteFrame (.ref z) X.env) _ _ _
    refine Sky.land Zc.steady fr0 hf sk fun ha fa ua => ?_
    have Ja : Inv X pins τ G { s1 with heap := ha } := J.landed nb fa.1 (up.trans ua) os ag
    obtain ⟨oa, va, ea, za, da⟩ := fa.there
    have off : z ∉ frs (X.env :: X.outer) := fun hm => by
      obtain ⟨_, o', e', hn⟩ := fa.2.2.1.mem hm
      rw [ea] at e'; cases e'
      exact hn _ da
    have zL : z ≠ X.env.locals := fun q => off (List.mem_filterMap.mpr ⟨X.env, List.mem_cons_self, by rw [hf, q]⟩)
    have zF : z ∉ X.fs := fun hm => by
      obtain ⟨e, he, q⟩ := List.mem_filterMap.mp hm
      exact off (List.mem_filterMap.mpr ⟨e, List.mem_cons_of_mem _ he, q⟩)
    have Sa := Ja.suite ea da nz zL zF
    have LT : PySem.W.Looks (model X.prog X.w) ha (typeOf (.ref z)) cls := fun A Q E s k q => wpAny_typeOf_ref (k _ _ ea) (by rw [za.1]; exact q)
    have tst : ∀ {x : Str} {c : Value} {np : Pos} {Q : Value → Shared → Prop} {E : Value → Shared → Prop}, Names X x c → Q c { s1 with heap := ha } → wpAny (model X.prog X.w) (X.A.mark (some (.ref z))) (eval (.Name x np) X.env) Q E { s1 with heap := ha } := fun {x c np Q E} hc q => by
      obtain ⟨hg, hdb, hm | ⟨hm, hv, hnn⟩⟩ := hc
      · exact ld_glob (X := X.suite z ((z, oa) :: (X.pn ++ pins))) Sa hg hm q hdb
      · exact ld_blt (X := X.suite z ((z, oa) :: (X.pn ++ pins))) Sa hg hm hv q hnn hdb
    have go : ∀ {hs' : List ExceptHandler} {l' : List HW}, HG X hs' l' → wG X.K Wo De l' cls d τ G → wpAny (model X.prog X.w) X.A (handleBy (.ref z) X.env hs') (SP X pins De) X.xe { s1 with heap := ha } := by
      intro hs' l' hk
      induction hk with
      | nil =>
        intro w
        refine wpAny_handleBy_nil ?_
        obtain ⟨k1, k2, k3, oe, vs, Tb, oT, tz, he, hz, hd, h1, hr⟩ := id fa
        unfold PySem.passOn
        refine wpAny_bind (wpAny_field he hd h1 ?_)
        rw [if_neg (show ¬ ((Value.ref Tb == Value.none) = true) from by simp)]
        have fin : wpAny (model X.prog X.w) X.A (setFlight (.ref z) X.env.frame) (fun _ s4 => wpAny (model X.prog X.w) X.A (throw (.ref z) : Sem Flow) (SP X pins De) X.xe s4) X.xe { s1 with heap := ha } := by
          rw [hf]
          refine HandSPX.setFlight_upZ fa fun h4 hh4 up4 => wpAny_throw (tk _ _ ?_)
          exact ⟨z, Bz, sz, pins, τ, G, cls, d, rfl, J, nb, (up.trans ua).trans up4, .inr (.inr (by rw [hs]; exact hh4)), nz, os, ag, w⟩
        first
          | exact wpAny_bind (wpAny_pure (wpAny_bind fin))
          | exact wpAny_bind fin
      | @plain x c ts b₀ suite np q hds2 l2 hc hsu r ih =>
        intro w
        obtain ⟨b, e1, yes, no⟩ := w
        refine wpAny_handleBy_cons (codeAny_handlers_test (tst hc ((PySem.W.exm_one (M := model X.prog X.w) (Ja.kIn) LT e1).here ?_))) (by intro q; cases q)
        cases b with
        | true =>
          refine codeAny_handlers_suite (HandSPX.lands_againZ fa fun hb fb ub => ?_)
          have Jb : Inv X pins τ G { s1 with heap := hb } := J.landed nb fb.1 ((up.trans ua).trans ub) os ag
          obtain ⟨ob, vb, eb, zb, db⟩ := fb.there
          refine wpAny_mono ((hsu z ob cls d (X.pn ++ pins) zb ⟨_, db⟩).run [] _ _ G _ (Jb.suite eb db nz zL zF) (yes rfl z nz)) (fun f s6 z6 => ?_) (fun _ _ q => False.elim q)
          cases f with
          | next =>
            obtain ⟨τ6, G6, S6, q6⟩ := z6
            exact ⟨_, _, S6.unsuite kk, q6⟩
          | brk =>
            obtain ⟨τ6, G6, S6, q6⟩ := z6
            exact ⟨_, _, S6.unsuite kk, q6⟩
          | cont =>
            obtain ⟨τ6, G6, S6, q6⟩ := z6
            exact ⟨_, _, S6.unsuite kk, q6⟩
          | ret u =>
            obtain ⟨v6, τ6, G6, S6, r6, q6⟩ := z6
            exact ⟨_, _, _, S6.unsuite kk, r6, q6⟩
        | false =>
          show wpAny _ X.A (handleBy (.ref z) X.env hds2) _ _ _
          exact ih (no rfl)
      | @named x n i c ts b₀ suite np q hds2 l2 hN hi hln hc hsu r ih =>
        intro w
        obtain ⟨b, e1, yes, no⟩ := w
        refine wpAny_handleBy_cons (codeAny_handlers_test (tst hc ((PySem.W.exm_one (M := model X.prog X.w) (Ja.kIn) LT e1).here ?_))) (by intro q; cases q)
        cases b with
        | true =>
          refine codeAny_handlers_suite_as (HandSPX.lands_againZ fa fun hb fb ub => ?_)
          have Jb : Inv X pins τ G { s1 with heap := hb } := J.landed nb fb.1 ((up.trans ua).trans ub) os ag
          obtain ⟨ob, vb, eb, zb, db⟩ := fb.there
          have loc : Loc X.env.scope n := .inl hln
          refine store_ok (X := X.suite z ((z, ob) :: (X.pn ++ pins))) (v := .ref z) (Jb.suite eb db nz zL zF) hN hi loc rfl (fun s5 S5 => ?_) (.inr hln)
          refine wpAny_mono ((hsu z ob cls d (X.pn ++ pins) zb ⟨_, db⟩).run [] s5 _ G _ S5 (yes rfl z nz)) (fun f s6 z6 => ?_) (fun _ _ q => False.elim q)
          have fin : ∀ {τ6 : L2.St} {G6 : Hp} {Q : Shared → Prop}, Inv (X.suite z ((z, ob) :: (X.pn ++ pins))) [] τ6 G6 s6 → (∀ s7, Inv X pins (τ6.set i none) G6 s7 → Q s7) →
              wpAny (model X.prog X.w) X.A (do bindName X.env n .none; unbindBehindTheSuite X.env n q) (fun _ s7 => Q s7) X.xe s6 := fun {τ6 G6 Q} S6 hq => gone_ok (S6.unsuite kk) hN hi hln hq
          cases f with
          | next =>
            obtain ⟨τ6, G6, S6, q6⟩ := z6
            exact fin S6 fun s7 J7 => ⟨_, _, J7, q6⟩
          | brk =>
            obtain ⟨τ6, G6, S6, q6⟩ := z6
            exact fin S6 fun s7 J7 => ⟨_, _, J7, q6⟩
          | cont =>
            obtain ⟨τ6, G6, S6, q6⟩ := z6
            exact fin S6 fun s7 J7 => ⟨_, _, J7, q6⟩
          | ret u =>
            obtain ⟨v6, τ6, G6, S6, r6, q6⟩ := z6
            exact fin S6 fun s7 J7 => ⟨_, _, _, J7, r6, q6⟩
        | false =>
          show wpAny _ X.A (handleBy (.ref z) X.env hds2) _ _ _
          exact ih (no rfl)
    exact go hh w
  · cases fl with
    | next =>
      obtain ⟨τ, G, J, q⟩ := z
      exact wpAny_execs_nil ⟨τ, G, J.ofTry kk, q⟩
    | brk =>
      obtain ⟨τ, G, J, q⟩ := z
      exact ⟨τ, G, J.ofTry kk, q⟩
    | cont =>
      obtain ⟨τ, G, J, q⟩ := z
      exact ⟨τ, G, J.ofTry kk, q⟩
    | ret u =>
      obtain ⟨v, τ, G, J, r, q⟩ := z
      exact ⟨v, τ, G, J.ofTry kk, r, q⟩
end

/-! ### the suite of a named clause: the exception stands in slot ie, its dict at dd -/
theorem owns_kind {T : Tab} {B : Hp} {ds : List D} {vs : List V} {ms : Cells} (o : Owns T B ds vs ms) : ∀ c ∈ ms, ∀ fs, c.2 ≠ .xd fs := by
  induction o with
  | nil => intro c h; cases h
  | im _ _ ih => exact ih
  | lst _ _ iq ir =>
    intro c h fs
    rcases List.mem_cons.mp h with rfl | h
    · intro z; cases z
    · rcases List.mem_append.mp h with h | h
      · exact iq c h fs
      · exact ir c h fs
  | tup _ _ _ iq ir =>
    intro c h fs
    rcases List.mem_append.mp h with h | h
    · exact iq c h fs
    · exact ir c h fs
  | dct _ _ _ iq ir =>
    intro c h fs
    rcases List.mem_cons.mp h with rfl | h
    · intro z; cases z
    · rcases List.mem_append.mp h with h | h
      · exact iq c h fs
      · exact ir c h fs
  | obj _ _ _ _ iq ir =>
    intro c h fs
    rcases List.mem_cons.mp h with rfl | h
    · intro z; cases z
    · rcases List.mem_append.mp h with h | h
      · exact iq c h fs
      · exact ir c h fs
  | fz _ _ ir => exact ir
section
variable {X : Cx} {T : Tab} {W : WX} {pin : Pins} {σ0 : L2.St} {e a b : Expr} {es : List Expr} {S B H S' B' H' : Hp} {env : En} {mss : List Cells} {σ : L2.St} {pos : Pos} {st : Stmt} {rest : List Stmt} {m n : MS}
/-- with the exception's dict known -/
def tSx (T : Tab) (W : WX) (pin : Pins) (σ0 : L2.St) (K : Hp → Prop) (m : MS) : TS := fun De σ H => ∃ S B env mss, K S ∧ SRx T S B env mss σ H ∧ Pin pin σ0 σ ∧ PS' T W pin σ0 S B De (m env)
theorem sx_of {K : Hp → Prop} (h : PSs X rest (tS T W pin σ0 m)) : PSs X rest (tSx T W pin σ0 K m) := pss_of h fun D σ H ⟨S, B, env, mss, _, R, hp, q⟩ => ⟨S, B, env, mss, R, hp, q⟩
theorem sx_one {K : Hp → Prop} (h : PS X st (tSx T W pin σ0 K m)) : PSs X [st] (tSx T W pin σ0 K m) := pss_of (pss_one h) fun D σ H q => q
theorem sx_cons {K : Hp → Prop} (hK : ∀ S S', Same S S' → K S → K S') (h1 : PS X st (tS T W pin σ0 m)) (h2 : PSs X rest (tSx T W pin σ0 K n)) : PSs X (st :: rest) (tSx T W pin σ0 K (sSeq m n)) := by
  refine pss_of (pss_cons h1 h2) fun D σ H ⟨S, B, env, mss, k, R, hp, q⟩ => ⟨S, B, env, mss, R, hp, ?_⟩
  cases hm : m env with
  | nx env' =>
    simp only [sSeq, hm] at q
    exact fun S' B' mss' σ' H' g R' hp' => ⟨S', B', env', mss', hK _ _ g.s k, R', hp', q.gw g⟩
  | rt d env' => simp only [sSeq, hm] at q; exact q
  | bk env' => simp only [sSeq, hm] at q; exact q
  | ct env' => simp only [sSeq, hm] at q; exact q
  | ex x env' => simp only [sSeq, hm] at q; exact q
  | er => simp only [sSeq, hm] at q; exact q
/-- what the tables say of an exception's class -/
structure ExFld (T : Tab) (c k : Nat) (f : Str) (C : Addr) : Prop where
  ex : ∃ fl, T.exc[c]? = some ⟨C, fl⟩ ∧ fl[k]? = some f ∧ fl.Nodup ∧ XfC T.K C ∧ PySem.W.findIn T.K (.ref C) f = some none
/-- the state of the suite: the exception is x -/
def KX (T : Tab) (x : Exn) (cls : Value) (d : Option Addr) : Hp → Prop := fun S => ∃ C fl, T.exc[x.c]? = some ⟨C, fl⟩ ∧ cls = .ref C ∧ x.vs.length = fl.length ∧ x.vs.all imm = true ∧ (if fl.isEmpty = true then d = none else ∃ dd, d = some dd ∧ S dd = some (.xd (fl.zip x.vs)))
theorem KX.mono {x : Exn} {cls : Value} {d : Option Addr} : ∀ S S', Same S S' → KX T x cls d S → KX T x cls d S' := fun S S' s ⟨C, fl, h1, h2, h3, h4, h5⟩ => ⟨C, fl, h1, h2, h3, h4, by
  split
  · rename_i h; rw [if_pos h] at h5; exact h5
  · rename_i h; rw [if_neg h] at h5
    obtain ⟨dd, e, q⟩ := h5
    exact ⟨dd, e, s _ _ q⟩⟩
/-- slots j := e.f for one or several fields -/
@[simp] def exV (x : Exn) (k : Nat) : Option V := x.vs[k]?
/-- v = e.f -/
@[simp] def sExF (x : Exn) (c k iv : Nat) : MS := fun env => if x.c = c then (match exV x k with
  | some v => .nx (env.set iv (some (.own (.im v))))
  | none => .er) else .er
/-- v = (e.f, e.g) -/
@[simp] def sExT (x : Exn) (c k l iv : Nat) : MS := fun env => if x.c = c then (match exV x k, exV x l with
  | some v, some w => .nx (env.set iv (some (.own (.tup [.im v, .im w]))))
  | _, _ => .er) else .er
theorem all_imm {vs : List V} {k : Nat} {v : V} (h : vs.all imm = true) (hv : vs[k]? = some v) : imm v = true := List.all_eq_true.mp h v (List.mem_of_getElem? hv)
theorem pe_exf {a C : Addr} {oe : Obj} {cls : Value} {d : Option Addr} {pn : List (Addr × Obj)} {c k : Nat} {f : Str} {te : TE} {e : Expr} (hK : X.K = T.K) (F : ExFld T c k f C) (hz : Zc cls d oe) (hf : ∃ vs, oe.data = .fields vs) (he : PE (X.suite a ((a, oe) :: pn)) e te)
    (hb : attributeBase e f X.env (eval e X.env) = eval e X.env := by rfl) : PE (X.suite a ((a, oe) :: pn)) (.Attribute e f pos) (tXf a cls d C f te) := by
  obtain ⟨fl, h1, h2, h3, h4, h5⟩ := F.ex
  exact pe_xf (hK ▸ h4) (hK ▸ h5) hz hf he hb
/-- the reading of one field -/
theorem kx_get {x : Exn} {a C : Addr} {cls : Value} {d : Option Addr} {c k ie : Nat} {f : Str} {v : V} {Q : VK} (F : ExFld T c k f C) (hx : x.c = c) (hv : x.vs[k]? = some v) (K : KX T x cls d S) (sh : Same S H) (hσ : σ[ie]? = some (some (.ref a))) (q : Q v H) : tXf a cls d C f (tVar ie) σ H Q := by
  obtain ⟨fl, h1, h2, h3, h4, h5⟩ := F.ex
  obtain ⟨C', fl', k1, k2, k3, k4, k5⟩ := K
  rw [hx, h1] at k1; cases k1
  have ne : ¬ fl.isEmpty = true := fun z => by rw [List.isEmpty_iff.mp z] at h2; simp at h2
  rw [if_neg ne] at k5
  obtain ⟨dd, e1, e2⟩ := k5
  exact ⟨.ref a, hσ, rfl, k2, dd, _, v, e1, sh _ _ e2, lookup_zip h3 h2 hv, q⟩
theorem sx_f {x : Exn} {a C : Addr} {oe : Obj} {cls : Value} {d : Option Addr} {pn : List (Addr × Obj)} {c k ie iv : Nat} {f v n : Str} {p1 p2 p3 : Pos} (hK : X.K = T.K) (F : ExFld T c k f C) (hz : Zc cls d oe) (hf : ∃ vs, oe.data = .fields vs)
    (hN : X.N.Nodup) (hi : X.N[iv]? = some v) (hx : Loc X.env.scope v) (hpin : pin iv = false) (hp2 : pin ie = true) (hσ : σ0[ie]? = some (some (.ref a))) (he : PE (X.suite a ((a, oe) :: pn)) (.Name n p1) (tVar ie))
    (hs : ∀ te, PE (X.suite a ((a, oe) :: pn)) (.Attribute (.Name n p1) f p2) te → PS (X.suite a ((a, oe) :: pn)) (.Assign [.Name v p3] (.Attribute (.Name n p1) f p2) pos) (tAsg te (gName iv)))
    (hb : attributeBase (.Name n p1) f X.env (eval (.Name n p1) X.env) = eval (.Name n p1) X.env := by rfl) :
    PS (X.suite a ((a, oe) :: pn)) (.Assign [.Name v p3] (.Attribute (.Name n p1) f p2) pos) (tSx T W pin σ0 (KX T x cls d) (sExF x c k iv)) := by
  refine ps_of (hs _ (pe_exf hK F hz hf he hb)) fun D σ H ⟨S, B, env, mss, kx, R, hp, q⟩ => ?_
  simp only [sExF] at q
  split at q
  · rename_i hxc
    simp only [exV] at q
    cases hv : x.vs[k]? with
    | none => simp only [hv] at q; exact q.elim
    | some v =>
      simp only [hv] at q
      have im : imm v = true := by
        obtain ⟨_, _, _, _, _, h4, _⟩ := kx
        exact all_imm h4 hv
      refine kx_get F hxc hv kx R.sh (by rw [hp.2 ie hp2]; exact hσ) ?_
      exact q S B _ _ H Gw.refl (R.set (m := []) (Owns.im im .nil) cells_nil fun _ _ _ _ => apart_nil) (pin_set hp hpin)
  · exact q.elim
theorem sx_t {x : Exn} {a C : Addr} {oe : Obj} {cls : Value} {d : Option Addr} {pn : List (Addr × Obj)} {c k l ie iv k2 : Nat} {f g v n : Str} {p1 p2 p3 p4 p5 p6 : Pos} (hK : X.K = T.K) (F : ExFld T c k f C) (G : ExFld T c l g C) (hz : Zc cls d oe) (hf : ∃ vs, oe.data = .fields vs)
    (hN : X.N.Nodup) (hi : X.N[iv]? = some v) (hx : Loc X.env.scope v) (hpin : pin iv = false) (hp2 : pin ie = true) (hσ : σ0[ie]? = some (some (.ref a))) (he1 : PE (X.suite a ((a, oe) :: pn)) (.Name n p1) (tVar ie)) (he2 : PE (X.suite a ((a, oe) :: pn)) (.Name n p4) (tVar ie))
    (hs : ∀ te, PE (X.suite a ((a, oe) :: pn)) (.Tuple [.Attribute (.Name n p1) f p2, .Attribute (.Name n p4) g p5] k2 p6) te → PS (X.suite a ((a, oe) :: pn)) (.Assign [.Name v p3] (.Tuple [.Attribute (.Name n p1) f p2, .Attribute (.Name n p4) g p5] k2 p6) pos) (tAsg te (gName iv)))
    (hb1 : attributeBase (.Name n p1) f X.env (eval (.Name n p1) X.env) = eval (.Name n p1) X.env := by rfl) (hb2 : attributeBase (.Name n p4) g X.env (eval (.Name n p4) X.env) = eval (.Name n p4) X.env := by rfl) :
    PS (X.suite a ((a, oe) :: pn)) (.Assign [.Name v p3] (.Tuple [.Attribute (.Name n p1) f p2, .Attribute (.Name n p4) g p5] k2 p6) pos) (tSx T W pin σ0 (KX T x cls d) (sExT x c k l iv)) := by
  refine ps_of (hs _ (pe_tup (pa_cons (pe_exf hK F hz hf he1 hb1) (pa_cons (pe_exf hK G hz hf he2 hb2) pa_nil)))) fun D σ H ⟨S, B, env, mss, kx, R, hp, q⟩ => ?_
  simp only [sExT] at q
  split at q
  · rename_i hxc
    simp only [exV] at q
    cases hv : x.vs[k]? with
    | none => simp only [hv] at q; exact q.elim
    | some v =>
    cases hw : x.vs[l]? with
    | none => simp only [hv, hw] at q; exact q.elim
    | some w =>
      simp only [hv, hw] at q
      have ims : x.vs.all imm = true := by
        obtain ⟨_, _, _, _, _, h4, _⟩ := kx
        exact h4
      have s0 : σ[ie]? = some (some (.ref a)) := by rw [hp.2 ie hp2]; exact hσ
      show tXf a cls d C f (tVar ie) σ H (fun v H1 => tXf a cls d C g (tVar ie) σ H1 fun w H2 => [v, w].length ≤ sizeLine ∧ ∀ p, H2 p = none → D.nx (σ.set iv (some (.ref p))) (upd H2 p (.tup [v, w])))
      refine kx_get F hxc hv kx R.sh s0 ?_
      refine kx_get G hxc hw kx R.sh s0 ?_
      refine ⟨by show 2 ≤ sizeLine; rw [sizeLine_eq]; omega, fun p hp' => ?_⟩
      have gr := Gr.tup (o := .tup [v, w]) R.bs R.sh hp'
      have own : Owns T (upd B p (.tup [v, w])) [.tup [.im v, .im w]] [.ref p] [] := by
        have := Owns.tup (T := T) (B := upd B p (.tup [v, w])) (a := p) upd_same (.im (all_imm ims hv) (.im (all_imm ims hw) .nil)) .nil
        simpa using this
      exact q _ _ _ _ _ gr.w ((R.grow gr).set (m := []) own cells_nil fun _ _ _ _ => apart_nil) (pin_set hp hpin)
  · exact q.elim
/-! ### try -/
@[simp] def unE (ie : Nat) : SS → SS
  | .nx env => .nx (env.set ie none)
  | .bk env => .bk (env.set ie none)
  | .ct env => .ct (env.set ie none)
  | .rt d env => .rt d (env.set ie none)
  | _ => .er
abbrev HT1 := (Nat → Option Bool) × Option Nat × (Exn → MS)
@[simp] def pickX : List HT1 → Exn → MS
  | [], x, env => .ex x env
  | (sub, none, ms) :: r, x, env => match sub x.c with
    | some true => match ms x env with
      | .ex _ _ => .er
      | z => z
    | some false => pickX r x env
    | none => .er
  | (sub, some ie, ms) :: r, x, env => match sub x.c with
    | some true => unE ie (ms x (env.set ie none))
    | some false => pickX r x env
    | none => .er
@[simp] def sTryX (hs : List HT1) (m : MS) : MS := fun env => match m env with
  | .ex x env => pickX hs x env
  | z => z
theorem srx_xd {x : Exn} {cls : Value} {d : Option Addr} (R : SRx T S B env mss σ H) (ef : ExF T H x cls d) : ∃ S2, Gw S B S2 B ∧ SRx T S2 B env mss σ H ∧ KX T x cls d S2 := by
  obtain ⟨C, fl, h1, h2, h3, h4, h5⟩ := ef
  by_cases hz : fl.isEmpty = true
  · rw [if_pos hz] at h5
    exact ⟨S, Gw.refl, R, C, fl, h1, h2, h3, h4, by rw [if_pos hz]; exact h5⟩
  · rw [if_neg hz] at h5
    obtain ⟨dd, e1, e2⟩ := h5
    have s2 : Same S (upd S dd (.xd (fl.zip x.vs))) := fun b u hb => by
      by_cases hbd : b = dd
      · subst hbd
        have := R.sh _ _ hb
        rw [e2] at this; cases this
        rw [upd_same]
      · rw [upd_ne hbd]; exact hb
    have sh2 : Same (upd S dd (.xd (fl.zip x.vs))) H := fun b u hb => by
      by_cases hbd : b = dd
      · subst hbd
        rw [upd_same] at hb; cases hb; exact e2
      · rw [upd_ne hbd] at hb; exact R.sh _ _ hb
    refine ⟨_, ⟨s2, Same.refl _, fun _ _ h => .inl h⟩, R.keep s2 (Same.refl _) (R.bs.trans s2) sh2 fun j m hm c hc => ⟨((R.ok j m hm).2 c hc).1, ?_⟩, C, fl, h1, h2, h3, h4, by rw [if_neg hz]; exact ⟨dd, e1, upd_same⟩⟩
    have hj := (List.getElem?_eq_some_iff.mp hm).1
    rw [R.l2] at hj
    have q := R.at_ j _ _ m (List.getElem?_eq_getElem (by rw [R.l1]; exact hj)) (List.getElem?_eq_getElem hj) hm
    have kind : ∀ fs, c.2 ≠ .xd fs := by
      cases ee : env[j]'(by rw [R.l1]; exact hj) with
      | none => rw [ee] at q; rw [show m = [] from q] at hc; cases hc
      | some es =>
        rw [ee] at q
        cases ss : σ[j] with
        | none => rw [ss] at q; cases es <;> exact q.elim
        | some v =>
          rw [ss] at q
          cases es with
          | own d => exact owns_kind q c hc
          | ro d => rw [q.1] at hc; cases hc
    rw [upd_ne (fun z => by
      have := ((R.ok j m hm).2 c hc).1
      rw [z, e2] at this
      exact kind _ (Option.some.inj this).symm)]
    exact ((R.ok j m hm).2 c hc).2
/-- the proofs of the clauses -/
inductive HX (X : Cx) (T : Tab) (pin : Pins) (σ0 : L2.St) : List ExceptHandler → List HT1 → List HW → Prop
  | nil : HX X T pin σ0 [] [] []
  | plain {x : Str} {cv : Value} {b₀ : Stmt} {suite : List Stmt} {np q : Pos} {hds : List ExceptHandler} {hs : List HT1} {l : List HW} {sub : Nat → Option Bool} {ms : MS} (hc : Names X x cv)
      (hsub : ∀ c C fl b, T.exc[c]? = some ⟨C, fl⟩ → sub c = some b → PySem.W.exmOne T.K (.ref C) cv = some b)
      (hsu : ∀ (a : Addr) (oe : Obj) (cls : Value) (d : Option Addr) (pn : List (Addr × Obj)), Zc cls d oe → (∃ vs, oe.data = .fields vs) → PSs (X.suite a ((a, oe) :: pn)) (b₀ :: suite) (tS T WF pin σ0 ms))
      (r : HX X T pin σ0 hds hs l) : HX X T pin σ0 (.ExceptHandler (some (.Name x np)) none (b₀ :: suite) q :: hds) ((sub, none, fun _ => ms) :: hs) ((cv, none, fun _ _ _ => tS T WF pin σ0 ms) :: l)
  | named {x n : Str} {ie : Nat} {cv : Value} {b₀ : Stmt} {suite : List Stmt} {np q : Pos} {hds : List ExceptHandler} {hs : List HT1} {l : List HW} {sub : Nat → Option Bool} {ms : Exn → MS} (hN : X.N.Nodup) (hi : X.N[ie]? = some n) (hln : X.env.kindOf n = some .local) (hp : pin ie = false) (hc : Names X x cv)
      (hsub : ∀ c C fl b, T.exc[c]? = some ⟨C, fl⟩ → sub c = some b → PySem.W.exmOne T.K (.ref C) cv = some b)
      (hsu : ∀ (σ1 : L2.St) (xx : Exn) (a : Addr) (oe : Obj) (cls : Value) (d : Option Addr) (pn : List (Addr × Obj)), σ1[ie]? = some (some (.ref a)) → Zc cls d oe → (∃ vs, oe.data = .fields vs) → PSs (X.suite a ((a, oe) :: pn)) (b₀ :: suite) (tSx T WF (fun k => pin k || k == ie) σ1 (KX T xx cls d) (ms xx)))
      (r : HX X T pin σ0 hds hs l) : HX X T pin σ0 (.ExceptHandler (some (.Name x np)) (some n) (b₀ :: suite) q :: hds) ((sub, some ie, ms) :: hs)
        ((cv, some ie, fun a cls d De τ G => ∃ σ1 xx, σ1[ie]? = some (some (.ref a)) ∧ tSx T WF (fun k => pin k || k == ie) σ1 (KX T xx cls d) (ms xx) De τ G) :: l)
theorem hx_ok {hds hs l} (h : HX X T pin σ0 hds hs l) : HG X hds l := by
  induction h with
  | nil => exact .nil
  | plain hc _ hsu _ ih => exact .plain hc hsu ih
  | named hN hi hln _ hc _ hsu _ ih => exact .named hN hi hln hc (fun a oe cls d pn hz hf => ⟨fun pins s σ H D I ⟨σ1, xx, h, q⟩ => (hsu σ1 xx a oe cls d pn h hz hf).run pins s σ H D I q⟩) ih
theorem hx_w {hds hs l} (hK : X.K = T.K) (hN0 : X.N.length ≤ σ.length) (h : HX X T pin σ0 hds hs l) {D : Ends} {x : Exn} {cls : Value} {d : Option Addr} (g : Gw S B S' B') (R' : SRx T S' B' env mss σ H') (hp' : Pin pin σ0 σ) (ef : ExF T H' x cls d)
    (q : PS' T W pin σ0 S B D (pickX hs x env)) : wG X.K W D l cls d σ H' := by
  induction h with
  | nil => exact q S' B' mss σ H' cls d g R' hp' ef
  | @plain _ cv _ _ _ _ _ hs l sub ms hc hsub hsu r ih =>
    obtain ⟨C, fl, hC, rfl, _⟩ := id ef
    simp only [pickX] at q
    cases hsb : sub x.c with
    | none => simp only [hsb] at q; exact q.elim
    | some b =>
      refine ⟨b, hK ▸ hsub _ C fl b hC hsb, fun hb a ha => ?_, fun hb => ?_⟩
      · subst hb
        simp only [hsb] at q
        refine ⟨S', B', env, mss, R', hp', ?_⟩
        cases hz : ms env with
        | ex x2 env2 => simp only [hz] at q; exact q.elim
        | nx env2 => simp only [hz] at q; exact PS'.noex (fun _ _ h => nomatch h) (q.gw g)
        | rt d2 env2 => simp only [hz] at q; exact PS'.noex (fun _ _ h => nomatch h) (q.gw g)
        | bk env2 => simp only [hz] at q; exact PS'.noex (fun _ _ h => nomatch h) (q.gw g)
        | ct env2 => simp only [hz] at q; exact PS'.noex (fun _ _ h => nomatch h) (q.gw g)
        | er => simp only [hz] at q; exact q.elim
      · subst hb
        simp only [hsb] at q
        exact ih q
  | @named _ _ ie cv _ _ _ _ _ hs l sub ms hN hi hln hp hc hsub hsu r ih =>
    obtain ⟨C, fl, hC, rfl, _⟩ := id ef
    simp only [pickX] at q
    cases hsb : sub x.c with
    | none => simp only [hsb] at q; exact q.elim
    | some b =>
      refine ⟨b, hK ▸ hsub _ C fl b hC hsb, fun hb a ha => ?_, fun hb => ?_⟩
      · subst hb
        simp only [hsb] at q
        obtain ⟨S2, g2, R2, kx⟩ := srx_xd R' ef
        have hlen : ie < σ.length := Nat.lt_of_lt_of_le (List.getElem?_eq_some_iff.mp hi).1 hN0
        have R3 := R2.set (i := ie) (e := none) (s := some (.ref a)) (m := []) rfl cells_nil (fun _ _ _ _ => apart_nil)
        have back : ∀ {τ : L2.St}, Pin (fun k => pin k || k == ie) (σ.set ie (some (.ref a))) τ → Pin pin σ0 (τ.set ie none) := fun {τ} h => by
          refine pin_set ⟨?_, fun k hk => ?_⟩ hp
          · rw [h.1, List.length_set]; exact hp'.1
          · have hne : ie ≠ k := fun z => by rw [z, hk] at hp; cases hp
            rw [h.2 k (by simp [hk]), List.getElem?_set_ne hne]
            exact hp'.2 k hk
        refine ⟨σ.set ie (some (.ref a)), x, by rw [List.getElem?_set_self hlen], S2, B', env.set ie none, mss.set ie [], kx, R3, ⟨rfl, fun _ _ => rfl⟩, ?_⟩
        have q := q.gw (g.trans g2)
        have st : ∀ {S3 B3 : Hp} {env3 : En} {mss3 : List Cells} {τ : L2.St} {G : Hp}, SRx T S3 B3 env3 mss3 τ G → SRx T S3 B3 (env3.set ie none) (mss3.set ie []) (τ.set ie none) G := fun R => R.set (e := none) (s := none) (m := []) rfl cells_nil (fun _ _ _ _ => apart_nil)
        cases hz : ms x (env.set ie none) with
        | ex x2 env2 => simp only [hz, unE] at q; exact q.elim
        | nx env2 => simp only [hz, unE] at q; exact fun S3 B3 mss3 τ G g3 R hpn => q S3 B3 _ _ G g3 (st R) (back hpn)
        | rt d2 env2 =>
          simp only [hz, unE] at q
          refine fun S3 B3 mss3 τ G v ms' g3 R hpn o c ap => q S3 B3 _ _ G v ms' g3 (st R) (back hpn) o c fun i m hm => ?_
          rcases set_at hm with ⟨_, rfl⟩ | ⟨_, hm⟩
          · exact nil_apart
          · exact ap i m hm
        | bk env2 => simp only [hz, unE] at q; exact fun S3 B3 mss3 τ G g3 R hpn => q S3 B3 _ _ G g3 (st R) (back hpn)
        | ct env2 => simp only [hz, unE] at q; exact fun S3 B3 mss3 τ G g3 R hpn => q S3 B3 _ _ G g3 (st R) (back hpn)
        | er => simp only [hz, unE] at q; exact q.elim
      · subst hb
        simp only [hsb] at q
        exact ih q
theorem ss_tryX {body : List Stmt} {h₀ : ExceptHandler} {hds : List ExceptHandler} {hs l} {m : MS} (hK : X.K = T.K) (hs1 : X.stack = X.env :: X.outer) (hf : X.env.frame = some X.env.locals) (tk : Takes X W)
    (hb : ∀ (W : WX) (pn : List (Addr × Obj)) (xe : Value → Shared → Prop), Takes (X.tr pn xe) W → PassesOwn (model X.prog X.w) X.A X.env xe → PSs (X.tr pn xe) body (tS T W pin σ0 m))
    (hh : HX X T pin σ0 (h₀ :: hds) hs l) : PS X (.Try body (h₀ :: hds) [] [] pos) (tS T W pin σ0 (sTryX hs m)) := by
  have P := ps_tryG (pos := pos) hs1 hf tk (tb := fun W => tS T W pin σ0 m) hb (hx_ok hh)
  refine ⟨fun pins s σ H D I ⟨S, B, env, mss, R, hp, q⟩ => P.run pins s σ H D I ⟨S, B, env, mss, R, hp, ?_⟩⟩
  have hl : X.N.length ≤ σ0.length := by rw [← hp.1]; exact Nat.le_of_eq I.len.symm
  cases hm : m env with
  | ex x env' =>
    simp only [sTryX, hm] at q
    intro S' B' mss' σ' H' cls d g R' hp' ef
    exact hx_w hK (by rw [hp'.1]; exact hl) hh g R' hp' ef q
  | nx env' => simp only [sTryX, hm] at q; exact q
  | rt d env' => simp only [sTryX, hm] at q; exact q
  | bk env' => simp only [sTryX, hm] at q; exact q
  | ct env' => simp only [sTryX, hm] at q; exact q
  | er => simp only [sTryX, hm] at q; exact q
end
end Tr

/-! TsE: raise C(a, b), C an own exception class whose __init__ stores its parameters. -/
namespace Tr
open PySem L2 PySem.Spec PyProof.Rows
/-- the promise of such an __init__: fl the fields, in the order of the stores -/
def spXI (K : PySem.W.Frag) (fl : List Str) : Sp := fun vs H Q _ => ∃ (a C : Addr) (us : List V), vs = .ref a :: us ∧ us.length = fl.length ∧ OexC K C ∧ (∀ f ∈ fl, PySem.W.findIn K (.ref C) f = some none) ∧ H a = some (exo a C none) ∧
  ∀ d H', H d = none → d ≠ a → H' a = some (exo a C (some d)) → H' d = some (exd d (fl.reverse.zip us.reverse)) → (∀ b, b ≠ a → b ≠ d → H' b = H b) → Q .non H'
section
variable {P : Program} {w : World} {K : PySem.W.Frag} {mg : Str → Option Value} {base : Heap}
theorem xi1 {qual x1 p0 p1 : Str} {st : Stmt} {f : Addr} {fd : FuncData} {q1 q2 q3 q4 : Pos} (F : Fun K "__init__" qual st f fd) (Sc : FnScope [p0, p1] [p0, p1] (defScope st)) (hb : defBody st = [.Assign [.Attribute (.Name p0 q1) x1 q2] (.Name p1 q3) q4]) (v0 : Vis (defScope st) p0) (v1 : Vis (defScope st) p1)
    (d0 : (p0 == ("__debug__" : Str)) = false) (d1 : (p1 == ("__debug__" : Str)) = false) (c0 : (p0 == ("__classdict__" : Str)) = false) (c1 : (p1 == ("__classdict__" : Str)) = false) (hs : ∀ env, swapsWith (.Name p1 q3) (some (.Attribute (.Name p0 q1) x1 q2)) q4.line env = pure false) :
    FnOk P w K mg base CX0 1 f fd [p0, p1] (spXI K [x1]) := by
  refine F.ok Sc (fun vs H Q E h => ?_) (fun cdv A outer s H vs Q E hr h => ?_)
  · obtain ⟨a, C, us, rfl, hl, _⟩ := h
    simp only [List.length_cons, hl, List.length_nil]
  · obtain ⟨a, C, us, rfl, hl, T, hno, ha, k⟩ := h
    match us, hl with
    | [v], _ =>
      rw [hb]
      refine ⟨_, pss_one (ps_ost (pv 0 rfl v0 d0 c0) (pv 1 rfl v1 d1 c1) (hs _)), ?_⟩
      refine ⟨v, rfl, .ref a, rfl, a, C, rfl, T, hno x1 List.mem_cons_self, .inl ⟨ha, fun dx nd ne => ?_⟩⟩
      exact k dx _ nd ne upd_same (by rw [upd_ne ne, upd_same]; rfl) fun b n1 n2 => by rw [upd_ne n1, upd_ne n2]
theorem xi2 {qual x1 x2 p0 p1 p2 : Str} {st : Stmt} {f : Addr} {fd : FuncData} {q1 q2 q3 q4 r1 r2 r3 r4 : Pos} (F : Fun K "__init__" qual st f fd) (Sc : FnScope [p0, p1, p2] [p0, p1, p2] (defScope st)) (hb : defBody st = [.Assign [.Attribute (.Name p0 q1) x1 q2] (.Name p1 q3) q4, .Assign [.Attribute (.Name p0 r1) x2 r2] (.Name p2 r3) r4])
    (v0 : Vis (defScope st) p0) (v1 : Vis (defScope st) p1) (v2 : Vis (defScope st) p2) (d0 : (p0 == ("__debug__" : Str)) = false) (d1 : (p1 == ("__debug__" : Str)) = false) (d2 : (p2 == ("__debug__" : Str)) = false) (c0 : (p0 == ("__classdict__" : Str)) = false) (c1 : (p1 == ("__classdict__" : Str)) = false) (c2 : (p2 == ("__classdict__" : Str)) = false)
    (hs : ∀ env, swapsWith (.Name p1 q3) (some (.Attribute (.Name p0 q1) x1 q2)) q4.line env = pure false) (hs2 : ∀ env, swapsWith (.Name p2 r3) (some (.Attribute (.Name p0 r1) x2 r2)) r4.line env = pure false) :
    FnOk P w K mg base CX0 1 f fd [p0, p1, p2] (spXI K [x1, x2]) := by
  refine F.ok Sc (fun vs H Q E h => ?_) (fun cdv A outer s H vs Q E hr h => ?_)
  · obtain ⟨a, C, us, rfl, hl, _⟩ := h
    simp only [List.length_cons, hl, List.length_nil]
  · obtain ⟨a, C, us, rfl, hl, T, hno, ha, k⟩ := h
    match us, hl with
    | [v, v'], _ =>
      rw [hb]
      refine ⟨_, pss_cons (ps_ost (pv 0 rfl v0 d0 c0) (pv 1 rfl v1 d1 c1) (hs _)) (pss_one (ps_ost (pv 0 rfl v0 d0 c0) (pv 2 rfl v2 d2 c2) (hs2 _))), ?_⟩
      refine ⟨v, rfl, .ref a, rfl, a, C, rfl, T, hno x1 List.mem_cons_self, .inl ⟨ha, fun dx nd ne => ?_⟩⟩
      refine ⟨v', rfl, .ref a, rfl, a, C, rfl, T, hno x2 (by simp), .inr ⟨dx, [(x1, v)], upd_same, by rw [upd_ne ne, upd_same], (by simp : [(x1, v)].length ≤ 900), ?_⟩⟩
      refine k dx _ nd ne (by rw [upd_ne (Ne.symm ne), upd_same]) (by rw [upd_same]; rfl) fun b n1 n2 => by rw [upd_ne n2, upd_ne n1, upd_ne n2]
end
section
variable {X : Cx} {T : Tab} {W : WX} {pin : Pins} {σ0 : L2.St} {e : Expr} {es : List Expr} {pos p q : Pos} {x : Str} {C fI : Addr} {k : Nat} {fd : FuncData} {ps fl : List Str} {ms : List ME} {c : Nat}
def allIm : List D → Option (List V)
  | [] => some []
  | .im v :: ds => (allIm ds).map (v :: ·)
  | _ :: _ => none
theorem allIm_ros {B H : Hp} : ∀ {ds : List D} {ws vs : List V}, allIm ds = some ws → Ros T B H ds vs → vs = ws ∧ ws.all imm = true
  | [], ws, vs, h, r => by
    simp [allIm] at h; subst h
    exact ⟨ros_nil r, rfl⟩
  | .im v :: ds, ws, vs, h, r => by
    simp only [allIm, Option.map_eq_some_iff] at h
    obtain ⟨us, h, rfl⟩ := h
    obtain ⟨us', rfl, r, hi⟩ := ros_im r
    obtain ⟨rfl, h2⟩ := allIm_ros h r
    exact ⟨rfl, by simp [hi, h2]⟩
  | .lst _ :: _, _, _, h, _ => by simp [allIm] at h
  | .tup _ :: _, _, _, h, _ => by simp [allIm] at h
  | .dct _ _ :: _, _, _, h, _ => by simp [allIm] at h
  | .obj _ _ :: _, _, _, h, _ => by simp [allIm] at h
  | .fz _ :: _, _, _, h, _ => by simp [allIm] at h
  | .scr _ :: _, _, _, h, _ => by simp [allIm] at h
@[simp] def sRaiseX (c : Nat) (ms : List ME) : MS := fun env => match mAs ms env with
  | .ok rs => match allIm (rs.map Rs.d) with
    | some vs => .ex ⟨c, vs.reverse⟩ env
    | none => .er
  | .ex x => .ex x env
  | .er => .er
/-- what stands of the class; fl: its fields in the order of the stores -/
structure RaiseOk (T : Tab) (c : Nat) (C fI : Addr) (fl : List Str) : Prop where
  cls : T.exc[c]? = some ⟨C, fl.reverse⟩
  ox : OexC T.K C
  iC : PySem.W.findIn T.K (.ref C) "__init__" = some (some (.ref fI))
  tI : PySem.W.typeIn T.K (.ref fI) = some (.type "function")
  no : ∀ f ∈ fl, PySem.W.findIn T.K (.ref C) f = some none
  ne : fl ≠ []
  few : fl.length ≤ 1000
theorem ss_raiseX (hK : X.K = T.K) (hc : X.calm = true) (tk : Takes X W) (R0 : RaiseOk T c C fI fl) (F : FnOk X.prog X.w X.K X.mg X.base CX0 k fI fd ps (spXI T.K fl)) (hr : Room (k + 1) X.A) (hb : Binds X.K fd ps []) (hg : Gl X x) (hm : X.mg x = some (.ref C)) (ha : PA X (e :: es) (tPR T W ms)) (hn : ms.length = fl.length := by rfl)
    (h0 : (x == ("__debug__" : Str)) = false := by decide) (h1 : starEach (e :: es) X.env = (false, eval e X.env) :: starEach es X.env := by rfl) (h2 : (backTo p (starEach es X.env)).any (·.1) = false := by rfl) :
    PS X (.Raise (some (.Call (.Name x q) (e :: es) [] p)) none pos) (tS T W pin σ0 (sRaiseX c ms)) := by
  refine ps_of (ps_raise hc tk (pmk_oex (dvs := []) (hK ▸ R0.ox) (hK ▸ R0.iC) (hK ▸ R0.tI) F hr hb .nil (fun _ _ _ _ _ _ _ h => h.elim) hg hm ha h0 h1 h2)) fun D σ H ⟨S, B, env, mss, R, hp, q⟩ => ⟨S, B, env, mss, R, ?_⟩
  cases hs : mAs ms env with
  | ok rs =>
    simp only [sRaiseX, hs] at q
    intro S1 B1 H1 vs g1 r1
    have R1 := R.grow g1
    cases hi : allIm (rs.map Rs.d) with
    | none => simp only [hi] at q; exact q.elim
    | some ws =>
      simp only [hi] at q
      obtain ⟨rfl, him⟩ := allIm_ros hi r1
      have hl : vs.length = fl.length := by
        have l1 := r1.len
        have l2 := mAs_len hs
        rw [← l1, List.length_map, l2, hn]
      refine ⟨?_, fun a na => ?_⟩
      · rw [hl]; exact R0.few
      · rw [List.append_nil]
        refine ⟨a, C, vs, rfl, hl, R0.ox, R0.no, upd_same, fun d H' nd ne e1 e2 e3 => ?_⟩
        rw [upd_ne ne] at nd
        refine ⟨rfl, d, _, e1, e2, nd, ?_⟩
        have eH : upd (del H' a) d (.xd (fl.reverse.zip vs.reverse)) = upd H1 d (.xd (fl.reverse.zip vs.reverse)) := by
          funext b
          by_cases hbd : b = d
          · rw [hbd, upd_same, upd_same]
          · rw [upd_ne hbd, upd_ne hbd]
            by_cases hba : b = a
            · rw [hba, del_same, na]
            · rw [del_ne hba, e3 b hba hbd, upd_ne hba]
        rw [eH]
        have gr := Gr.own (o := .xd (fl.reverse.zip vs.reverse)) R1.bs R1.sh nd
        refine q S1 B1 mss σ _ (.ref C) (some d) (g1.w.trans gr.w) (R1.grow gr) hp ⟨C, fl.reverse, R0.cls, rfl, by simp [hl], by simpa using him, ?_⟩
        rw [if_neg (by simpa using R0.ne)]
        exact ⟨d, rfl, upd_same⟩
  | ex x => simp only [sRaiseX, hs] at q; exact fun S' B' H' cls d g ef => q S' B' mss σ H' cls d g.w (R.grow g) hp ef
  | er => simp only [sRaiseX, hs] at q; exact q
end
end Tr

/-! TsF: further methods of lists, texts and dicts; names from a tuple; the end. -/
namespace Tr
open PySem L2 PySem.Spec PyProof.Rows
section
variable {X : Cx}
/-! ### xs.remove(text) -/
def isT (k : Str) : Value → Bool
  | .str z _ => z.cps.toList == k.cps.toList
  | _ => false
theorem str_beq (z k : Str) : (z.cps.toList == k.cps.toList) = (z == k) := by
  by_cases h : z = k
  · subst h; simp
  · have : ¬ z.cps.toList = k.cps.toList := fun e => h (by
      cases z; cases k; simp only [Str.mk.injEq]
      exact Array.toList_inj.mp e)
    rw [beq_eq_false_iff_ne.mpr this, beq_eq_false_iff_ne.mpr h]
def rRemT : V → List V → Hp → VK → Prop := fun x xs H Q => ∃ (l : Addr) (zs : List Str) (k : Str), x = .ref l ∧ xs = [.str k] ∧ H l = some (.lst (zs.map V.str)) ∧ k ∈ zs ∧ Q .non (upd H l (.lst ((zs.erase k).map V.str)))
theorem strs_vals : ∀ {zs : List Str} {us : List Value}, Vals (zs.map V.str) us → ∀ (i : Nat) (h : i < us.length), ∃ z t, zs[i]? = some z ∧ us[i] = .str z t
  | [], _, .nil, i, h => absurd h (by simp)
  | z :: zs, u :: us, .cons r rs, 0, _ => by
    obtain ⟨t, rfl⟩ := r
    exact ⟨z, t, rfl, rfl⟩
  | z :: zs, u :: us, .cons r rs, i + 1, h => by
    obtain ⟨z', t, h1, h2⟩ := strs_vals rs i (by simpa using h)
    exact ⟨z', t, by simpa using h1, by simpa using h2⟩
theorem erase_at {k : Str} : ∀ {zs : List Str}, k ∈ zs → ∃ j, zs[j]? = some k ∧ (∀ i, i < j → zs[i]? ≠ some k) ∧ zs.eraseIdx j = zs.erase k
  | [], h => absurd h (by simp)
  | a :: r, h => by
    by_cases e : a = k
    · subst e
      exact ⟨0, rfl, fun i hi => absurd hi (Nat.not_lt_zero _), by simp⟩
    · have hr : k ∈ r := by
        rcases List.mem_cons.mp h with z | z
        · exact absurd z.symm e
        · exact z
      obtain ⟨j, h2, h3, h4⟩ := erase_at hr
      refine ⟨j + 1, by simpa using h2, fun i hi => ?_, ?_⟩
      · cases i with
        | zero => intro z; exact e (Option.some.inj z)
        | succ i =>
          have := h3 i (by omega)
          simpa using this
      · rw [List.erase_cons_tail (by simpa using e), ← h4]; rfl
theorem mt_removeT : MtM X "list.remove" rRemT := by
  intro pins s σ H x xs v us Q J rx rxs h
  obtain ⟨l, zs, k, rfl, rfl, hH, hk, q⟩ := h
  cases rx
  obtain ⟨u, rfl, ru⟩ := rxs.one
  obtain ⟨t, rfl⟩ := ru
  obtain ⟨z, its, n, r, hl, e⟩ := J.lstM hH
  obtain ⟨j, e1, e2, e3⟩ := erase_at hk
  rw [List.length_map] at hl z
  have jl : j < zs.length := (List.getElem?_eq_some_iff.mp e1).1
  have jt : j < its.length := by omega
  refine call_meets PySem.F.slot_list_remove ⟨_, e, rfl⟩ PySem.F.entry_list_remove (PySem.F.args_list_remove_2 _ _)
    (MeetsSeq.list_remove l its.toArray n (.str k t) (isT k) (fun y hy => ?_) j (by rw [List.size_toArray]; exact jt) ?_ ?_ (by rw [List.size_toArray, ← hl]; exact z)) ⟨e, ?_⟩
  · obtain ⟨i, hi, rfl⟩ := List.getElem_of_mem (show y ∈ its by simpa using hy)
    obtain ⟨w, tw, g1, g2⟩ := strs_vals r i hi
    rw [g2]
    exact PySem.SeqRoads2.EqGives.str w k tw t
  · obtain ⟨w, tw, g1, g2⟩ := strs_vals r j jt
    rw [e1] at g1; cases g1
    have : its.toArray[j] = .str k tw := by simpa using g2
    rw [this]
    simp [isT]
  · intro m hm hmj
    have hml : m < its.length := by rw [List.size_toArray] at hm; exact hm
    obtain ⟨w, tw, g1, g2⟩ := strs_vals r m hml
    have : its.toArray[m] = .str w tw := by simpa using g2
    rw [this]
    show (w.cps.toList == k.cps.toList) = false
    rw [str_beq]
    have := e2 m hmj
    rw [g1] at this
    simpa using fun z => this (by rw [z])
  · have r2 := r.eraseIdx j
    have em : (zs.map V.str).eraseIdx j = (zs.erase k).map V.str := by
      rw [← e3]
      clear r2 q hH e3 e1 e2 r hl e jt z hk jl
      induction zs generalizing j with
      | nil => simp
      | cons a r ih => cases j with
        | zero => simp
        | succ j => simp [ih]
    rw [em] at r2
    refine ⟨.non, _, J.lset (its' := its.eraseIdx j) hH e ?_ r2 ?_, rfl, q⟩
    · show its.toArray.eraseIdxIfInBounds j = (its.eraseIdx j).toArray
      rw [List.eraseIdxIfInBounds_toArray]
    · rw [List.length_map]
      have := List.length_erase_le (a := k) (l := zs)
      omega
end
section
variable {X : Cx} {T : Tab} {W : WX} {pin : Pins} {σ0 : L2.St} {e a b o : Expr} {es : List Expr} {S B H S' B' H' : Hp} {env : En} {mss : List Cells} {σ : L2.St} {pos apos cpos : Pos} {ma mb mc m : ME}
theorem owns_strs : ∀ {ds : List D} {vs : List V} {ms : Cells} {zs : List Str}, Owns T B ds vs ms → strsD ds = some zs → vs = zs.map V.str ∧ ms = []
  | [], _, _, zs, o, h => by
    cases o
    simp [strsD] at h; subst h
    exact ⟨rfl, rfl⟩
  | d :: ds, vs, ms, zs, o, h => by
    unfold strsD at h
    split at h
    · rename_i h0; cases h0
    · rename_i z r h0
      cases h0
      simp only [Option.map_eq_some_iff] at h
      obtain ⟨zs', h, rfl⟩ := h
      cases o with
      | im hi r =>
        obtain ⟨rfl, rfl⟩ := owns_strs r h
        exact ⟨rfl, rfl⟩
    · cases h
theorem owns_xts (zs : List Str) : Owns T B (zs.map fun z => D.im (.str z)) (zs.map V.str) [] := by
  induction zs with
  | nil => exact .nil
  | cons z zs ih => exact .im rfl ih
def opRemove : D → List D → Option (D × D)
  | .lst xs, [.im (.str k)] => match strsD xs with
    | some zs => if k ∈ zs then some (.lst ((zs.erase k).map fun z => .im (.str z)), .im .non) else none
    | none => none
  | _, _ => none
theorem mu_remove : MutS T opRemove rRemT := by
  intro B S H x u mx ds vs me x' res ox okx od oke ap bh h
  unfold opRemove at h
  split at h
  · rename_i xs k
    split at h
    · rename_i zs hz
      split at h
      · rename_i hk
        simp only [Option.some.injEq, Prod.mk.injEq] at h
        obtain ⟨rfl, rfl⟩ := h
        cases ox with
        | @lst a ws _ _ _ m _ q r =>
          cases r
          rw [List.append_nil] at *
          obtain ⟨rfl, rfl⟩ := owns_strs q hz
          have ev : vs = [.str k] := by
            cases od with
            | im _ r => cases r; rfl
          subst ev
          obtain ⟨z1, z2, z3, z4, z5, z6⟩ := mut_list (ws' := (zs.erase k).map V.str) okx oke ap (owns_xts (T := T) (B := B) (zs.erase k)) own_non (by simp) (fun _ h => nomatch h) (fun _ h => nomatch h)
          exact ⟨a, _, _, _, _, z1, z2, z3, z4, z5, z6, fun Q kq => ⟨a, zs, k, rfl, rfl, (okx.2 _ List.mem_cons_self).1, hk, kq⟩⟩
      · cases h
    · cases h
  · cases h
/-! ### xs.reverse(), xs.insert(i, d), xs.pop(i) -/
theorem owns_rev : ∀ {ds : List D} {vs : List V}, Owns T B ds vs [] → Owns T B ds.reverse vs.reverse [] := by
  intro ds
  induction ds with
  | nil => intro vs o; cases o; exact .nil
  | cons d ds ih =>
    intro vs o
    obtain ⟨v, us, m1, m2, rfl, e, o1, o2⟩ := owns_uncons o
    have e := List.append_eq_nil_iff.mp e.symm
    rw [e.1] at o1; rw [e.2] at o2
    rw [List.reverse_cons, List.reverse_cons]
    exact owns_app (m := []) (n := []) (ih o2) o1
def opReverse : D → List D → Option (D × D)
  | .lst xs, [] => if copyDs xs then some (.lst xs.reverse, .im .non) else none
  | _, _ => none
theorem mu_reverse : MutS T opReverse rReverse := by
  intro B S H x u mx ds vs me x' res ox okx od oke ap bh h
  unfold opReverse at h
  split at h
  · rename_i xs
    split at h
    · rename_i hc
      simp only [Option.some.injEq, Prod.mk.injEq] at h
      obtain ⟨rfl, rfl⟩ := h
      cases ox with
      | @lst a ws _ _ _ m _ q r =>
        cases r
        cases od
        rw [List.append_nil] at *
        have em := copy_nil q hc
        subst em
        obtain ⟨z1, z2, z3, z4, z5, z6⟩ := mut_list (ws' := ws.reverse) okx oke ap (owns_rev q) own_non (by simp) (fun _ h => nomatch h) (fun _ h => nomatch h)
        exact ⟨a, _, _, _, _, z1, z2, z3, z4, z5, z6, fun Q k => ⟨a, ws, rfl, rfl, (okx.2 _ List.mem_cons_self).1, k⟩⟩
    · cases h
  · cases h
/-! ### list(d), xs.index(t), s.split(t) -/
def fListD : List D → Option D
  | [d] => match unfz d with
    | .dct ks xs => if ks.length = xs.length then some (.lst (ks.map fun k => .im (kV k))) else none
    | _ => none
  | _ => none
theorem imm_kV (k : Key) : imm (kV k) = true := by cases k <;> rfl
theorem owns_keys (ks : List Key) : Owns T B (ks.map fun k => D.im (kV k)) (ks.map kV) [] := by
  induction ks with
  | nil => exact .nil
  | cons k ks ih => exact .im (imm_kV k) ih
theorem zip_fst {ks : List Key} {ws : List V} (h : ks.length = ws.length) : ((ks.zip ws).map fun kv => kV kv.1) = ks.map kV := by
  induction ks generalizing ws with
  | nil => rfl
  | cons k ks ih =>
    cases ws with
    | nil => simp at h
    | cons w ws => simp [ih (by simpa using h)]
def rListD : List V → Hp → VK → Prop := fun xs H Q => ∃ (a : Addr) (kvs : List (Key × V)), xs = [.ref a] ∧ Rd H a (.dK kvs) ∧ ∀ p, H p = none → Q (.ref p) (upd H p (.lst (kvs.map fun kv => kV kv.1)))
theorem vs_listD : VS T fListD rListD := by
  intro B H ds vs z bh ro h
  unfold fListD at h
  split at h
  · rename_i d
    obtain ⟨v, rfl⟩ := ros_c1 ro
    have q := ros_unfz bh ro
    split at h
    · rename_i ks xs e
      split at h
      · cases h
        rw [e] at q
        obtain ⟨a, ws, rfl, h1, hl, q⟩ := ros_dct q
        refine .lst (owns_keys ks) fun Q k => ⟨a, _, rfl, h1, fun p hp => ?_⟩
        rw [zip_fst hl]
        exact k p hp
      · cases h
    · cases h
  · cases h
abbrev fListA := orF fListS fListD
theorem call_listA (hc : X.calm = true) : CallR X (.type "list") (fun xs H Q => (∃ p ys, xs = [.ref p] ∧ (SqL X.K H p ys ∨ SqT X.K H p ys) ∧ ∀ l, H l = none → Q (.ref l) (upd H l (.lst ys))) ∨ rListD xs H Q) := CallR.or call_list_of (call_listD hc)
theorem vs_listA : VS T fListA (fun xs H Q => (∃ p ys, xs = [.ref p] ∧ (SqL T.K H p ys ∨ SqT T.K H p ys) ∧ ∀ l, H l = none → Q (.ref l) (upd H l (.lst ys))) ∨ rListD xs H Q) := VS.orF vs_listS vs_listD
/-- o.m(x), o a built-in thing of the kind ky, nothing changed -/
@[simp] def mBm (ky : D → Bool) (f : List D → Option D) (ma mb : ME) : ME := fun env => match ma env with
  | .ok ra => if ky (unfz ra.d) = true then (match mb env with
    | .ok rb => match f [ra.d, rb.d] with
      | some z => .ok (.own z)
      | none => .er
    | .ex x => .ex x
    | .er => .er) else .er
  | .ex x => .ex x
  | .er => .er
theorem ep_bm {Ty : String} {ky : D → Bool} {f : List D → Option D} {r : V → List V → Hp → VK → Prop} (hf : VS T f (fun vs H Q => ∃ x y, vs = [x, y] ∧ r x [y] H Q)) (hty : ∀ B H d v, Same B H → Ros T B H [d] [v] → ky d = true → tyV X.K Ty v H)
    (h : PE X e (tBM X.K Ty r (tP T W ma) (tPR T W [mb]))) : PE X e (tP T W (mBm ky f ma mb)) := by
  refine pe_of h fun σ H Q ⟨S, B, env, mss, R, q⟩ => ⟨S, B, env, mss, R, ?_⟩
  cases ha : ma env with
  | ok ra =>
    intro S1 B1 H1 v g f1
    simp only [mBm, ha] at q
    have R1 := R.grow g
    split at q
    · rename_i hk
      have bh := R1.bs.trans R1.sh
      refine ⟨hty B1 H1 _ v bh (ros_unfz bh (f1.read R1)) hk, S1, B1, env, mss, R1, ?_⟩
      cases hb : mb env with
      | ok rb =>
        simp only [mAs, hb] at q ⊢
        intro S2 B2 H2 us g2 r2
        obtain ⟨w, rfl⟩ := ros_c1 r2
        cases hz : f [ra.d, rb.d] with
        | none => simp only [hz] at q; exact q.elim
        | some z =>
          simp only [hz] at q
          have R2' := R1.grow g2
          have gv := hf B2 H2 [ra.d, rb.d] [v, w] z (R2'.bs.trans R2'.sh) (ros2 ((f1.grow R1 g2).read R2') r2) hz
          obtain ⟨x, y, e, hx⟩ := gv.run (mss := mss) (Q := Q) R2'.bs R2'.sh ((q.grow g).grow g2)
          cases e
          exact hx
      | ex x => simp only [mAs, hb] at q ⊢; exact q.grow g
      | er => simp only [mAs, hb] at q; exact q.elim
    · exact q.elim
  | ex x => simp only [mBm, ha] at q; exact q
  | er => simp only [mBm, ha] at q; exact q
theorem tyr_lst {K : PySem.W.Frag} : ∀ B H d v, Same B H → Ros T B H [d] [v] → isLst d = true → tyV K "list" v H := by
  intro B H d v bh r hk
  cases r with
  | lst h q r => exact .inl ⟨rfl, _, SqL.of h⟩
  | _ => cases hk
theorem ros_ret {zs : List Str} {B S : Hp} {ds : List D} {vs : List V} (r : Ros T B S ds vs) (h : strsD ds = some zs) : vs = zs.map V.str := ros_strs r h
def fIndex : List D → Option D
  | [d, .im (.str k)] => match unfz d with
    | .lst xs => match strsD xs with
      | some zs => if k ∈ zs then some (.im (.int (zs.idxOf k))) else none
      | none => none
    | _ => none
  | _ => none
theorem idx_at {k : Str} : ∀ {zs : List Str}, k ∈ zs → zs[zs.idxOf k]? = some k ∧ ∀ i, i < zs.idxOf k → zs[i]? ≠ some k
  | [], h => absurd h (by simp)
  | a :: r, h => by
    by_cases e : a = k
    · subst e; simp
    · have hr : k ∈ r := by
        rcases List.mem_cons.mp h with z | z
        · exact absurd z.symm e
        · exact z
      obtain ⟨h1, h2⟩ := idx_at hr
      rw [List.idxOf_cons, show (a == k) = false from beq_eq_false_iff_ne.mpr e, cond_false]
      refine ⟨by simpa using h1, fun i hi => ?_⟩
      cases i with
      | zero => intro z; exact e (Option.some.inj z)
      | succ i =>
        have := h2 i (by omega)
        simpa using this
theorem vs_index : VS T fIndex (fun vs H Q => ∃ x y, vs = [x, y] ∧ rIndex T.K x [y] H Q) := by
  intro B H ds vs z bh ro h
  unfold fIndex at h
  split at h
  · rename_i d k
    split at h
    · rename_i xs ed
      split at h
      · rename_i zs hz
        split at h
        · rename_i hk
          cases h
          obtain ⟨v, u, rfl, r1, r2⟩ := ros_c2 ro
          cases ros_im1 r2
          have q := ros_unfz bh r1
          rw [ed] at q
          obtain ⟨a, ws, rfl, h1, q⟩ := ros_lst q
          have ew := ros_strs q hz
          subst ew
          obtain ⟨i1, i2⟩ := idx_at hk
          refine .im rfl fun Q kq => ⟨_, _, rfl, a, _, .str k, zs.idxOf k, .str k, rfl, rfl, SqL.of h1, rfl, by simp [flatV], by rw [List.getElem?_map, i1]; rfl, by simp [eqV], fun m z' hm hz' => ?_, kq⟩
          rw [List.getElem?_map] at hz'
          cases hh : zs[m]? with
          | none => rw [hh] at hz'; cases hz'
          | some w =>
            rw [hh] at hz'; cases hz'
            have := i2 m hm
            rw [hh] at this
            simpa [eqV] using fun z => this (by rw [z])
        · cases h
      · cases h
    · cases h
  · cases h
def fSplit : List D → Option D
  | [.im (.str a), .im (.str b)] => if (b.length == 0) = false ∧ a.length ≤ 1000000 then some (.lst ((Txt.split a b).map fun z => .im (.str z))) else none
  | _ => none
theorem vs_split : VS T fSplit (fun vs H Q => ∃ x y, vs = [x, y] ∧ ∃ a b, x = .str a ∧ [y] = [.str b] ∧ (b.length == 0) = false ∧ a.length + 2 ≤ sizeLine ∧ rNewStrs (Txt.split a b) H Q) := by
  intro B H ds vs z bh ro h
  unfold fSplit at h
  split at h
  · rename_i a b
    split at h
    · rename_i hc
      cases h
      rw [ros_im2 ro]
      exact .lst (owns_xts _) fun Q k => ⟨_, _, rfl, a, b, rfl, rfl, hc.1, by rw [sizeLine_eq]; omega, k⟩
    · cases h
  · cases h
/-! ### a, b, .. = e, e a tuple -/
@[simp] def sUnp (f : TgF) (m : ME) : MS := fun env => match m env with
  | .ok (.own d) => if copyD d = true then (match f d env with
    | some env => .nx env
    | none => .er) else .er
  | .ok _ => .er
  | .ex x => .ex x env
  | .er => .er
theorem ss_unp {tg : Expr} {g : TG} {f : TgF} (hg : PG X tg g) (htg : TgR T pin g f) (h : PE X e (tP T W m)) (hs : swapsWithSole [tg] e pos.line X.env = pure false := by rfl) (hw : swappedStores [tg] e X.env = pure none := by rfl)
    (h1 : (assignEach [tg] X.env).map (·.2) = [assign tg X.env] := by rfl) : PS X (.Assign [tg] e pos) (tS T W pin σ0 (sUnp f m)) := by
  refine ps_of (ps_asg h hg hs hw h1) fun D σ H ⟨S, B, env, mss, R, hp, q⟩ => ⟨S, B, env, mss, R, ?_⟩
  cases hm : m env with
  | ok r =>
    simp only [sUnp, hm] at q
    cases r with
    | ro d => exact q.elim
    | bor i d => exact q.elim
    | own d =>
      simp only at q
      split at q
      · rename_i hc
        intro S' B' H' v gr f1
        have R' := R.grow gr
        cases hf : f d env with
        | none => simp only [hf] at q; exact q.elim
        | some env2 =>
          simp only [hf] at q
          obtain ⟨ms, o, _, _⟩ := f1
          have em := copy_nil o (copy1 hc)
          subst em
          exact htg S' B' env mss σ0 σ H' d v env2 R' hp (o.ro R'.bs fun _ h => nomatch h) hf _ fun σ' mss' R2 hp2 => q S' B' mss' σ' H' gr.w R2 hp2
      · exact q.elim
  | ex x => simp only [sUnp, hm] at q; exact fun S' B' H' cls d g ef => q S' B' mss σ H' cls d g.w (R.grow g) hp ef
  | er => simp only [sUnp, hm] at q; exact q
end
open PySem.Spec PyProof.Rows
/-- tables of the law's defs, own classes too -/
theorem all_tab2 {l : PySem.W.OpenLaw} {w : World} {K : PySem.W.Frag} {mg : Str → Option Value} {fa : Addr} {k : Nat} {x : Str} {mf : List Slot → FR} {tab : PySem.W.Frag → (Nat → Addr) → (Nat → Addr) → Tab} (ht : ∀ K x y, (tab K x y).K = K)
    (h : ∃ (xs ys : Nat → Addr) (fd : FuncData), (∀ (s : Shared) (v : Value), BindsTo s fd ⟨[v], []⟩ [(x, v)]) ∧ ∀ base : Heap, K.In base → base.Ns mainGlobals mg → FnOk l.prog w K mg base (L2.CX l.prog w) k fa fd [x] (spF (tab K xs ys) 1 mf)) :
    ∃ (tb : Tab), tb.K = K ∧ ∃ fd : FuncData, (∀ (s : Shared) (u : Value), BindsTo s fd ⟨[u], []⟩ [(x, u)]) ∧ ∀ base : Heap, K.In base → base.Ns mainGlobals mg → FnOk l.prog w K mg base (L2.CX l.prog w) k fa fd [x] (spF tb 1 mf) := by
  obtain ⟨xs, ys, fd, h1, h2⟩ := h
  exact ⟨tab K xs ys, ht K xs ys, fd, h1, h2⟩
end Tr

/-! TsG: the mirrors' words one step at a time, for plain laws (simp only [EV1, ..]). -/
namespace Tr
open PySem L2
def SSb (z : SS) (k : MS) : SS := match z with
  | .nx e => k e
  | z => z
def TOb (t : TO') (m n : MS) : SS := match t with
  | .ok true e => m e
  | .ok false e => n e
  | .ex x e => .ex x e
  | .er => .er
def TOn (t : TO') : TO' := match t with
  | .ok b e => .ok (!b) e
  | .ex x e => .ex x e
  | .er => .er
def TOa (t : TO') (n : MT) : TO' := match t with
  | .ok true e => n e
  | .ok false e => .ok false e
  | .ex x e => .ex x e
  | .er => .er
def TOo (t : TO') (n : MT) : TO' := match t with
  | .ok true e => .ok true e
  | .ok false e => n e
  | .ex x e => .ex x e
  | .er => .er
def EOt (z : EO) : TO' := match z with
  | .ok (.own (.im (.bl b))) e => .ok b e
  | .ex x e => .ex x e
  | _ => .er
def EOl (z : Rz Rs) (env : En) : EO := match z with
  | .ok r => .ok r env
  | .ex x => .ex x env
  | .er => .er
def EOr (z : EO) : SS := match z with
  | .ok (.own d) e => .rt d e
  | .ex x e => .ex x e
  | _ => .er
def EOs (i : Nat) (z : EO) : SS := match z with
  | .ok r e => setS i r e
  | .ex x e => .ex x e
  | .er => .er
def EOx (z : EO) : SS := match z with
  | .ok _ e => .nx e
  | .ex x e => .ex x e
  | .er => .er
theorem EV1 :
    (∀ (m n : MS) (env : En), sSeq m n env = SSb (m env) n) ∧ (∀ (e : En) (k : MS), SSb (.nx e) k = k e) ∧ (∀ (d : D) (e : En) (k : MS), SSb (.rt d e) k = .rt d e) ∧ (∀ (e : En) (k : MS), SSb (.bk e) k = .bk e) ∧
    (∀ (e : En) (k : MS), SSb (.ct e) k = .ct e) ∧ (∀ (x : Exn) (e : En) (k : MS), SSb (.ex x e) k = .ex x e) ∧ (∀ k : MS, SSb .er k = .er) ∧
    (∀ (c : MT) (m n : MS) (env : En), sIf c m n env = TOb (c env) m n) ∧ (∀ (e : En) (m n : MS), TOb (.ok true e) m n = m e) ∧ (∀ (e : En) (m n : MS), TOb (.ok false e) m n = n e) ∧ (∀ (x : Exn) (e : En) (m n : MS), TOb (.ex x e) m n = .ex x e) ∧ (∀ (m n : MS), TOb .er m n = .er) ∧
    (∀ (c : MT) (env : En), tNo c env = TOn (c env)) ∧ (∀ (b : Bool) (e : En), TOn (.ok b e) = .ok (!b) e) ∧ (∀ (x : Exn) (e : En), TOn (.ex x e) = .ex x e) ∧
    (∀ (c d : MT) (env : En), tAn c d env = TOa (c env) d) ∧ (∀ (e : En) (n : MT), TOa (.ok true e) n = n e) ∧ (∀ (e : En) (n : MT), TOa (.ok false e) n = .ok false e) ∧ (∀ (x : Exn) (e : En) (n : MT), TOa (.ex x e) n = .ex x e) ∧
    (∀ (c d : MT) (env : En), tO c d env = TOo (c env) d) ∧ (∀ (e : En) (n : MT), TOo (.ok true e) n = .ok true e) ∧ (∀ (e : En) (n : MT), TOo (.ok false e) n = n e) ∧ (∀ (x : Exn) (e : En) (n : MT), TOo (.ex x e) n = .ex x e) ∧
    (∀ (m : EE) (env : En), tBl m env = EOt (m env)) ∧ (∀ (b : Bool) (e : En), EOt (.ok (.own (.im (.bl b))) e) = .ok b e) ∧ (∀ (x : Exn) (e : En), EOt (.ex x e) = .ex x e) ∧
    (∀ (m : ME) (env : En), liftE m env = EOl (m env) env) ∧ (∀ (r : Rs) (e : En), EOl (.ok r) e = .ok r e) ∧ (∀ (x : Exn) (e : En), EOl (.ex x) e = .ex x e) ∧ (∀ (e : En), EOl .er e = .er) ∧
    (∀ (m : EE) (env : En), sRet m env = EOr (m env)) ∧ (∀ (d : D) (e : En), EOr (.ok (.own d) e) = .rt d e) ∧ (∀ (x : Exn) (e : En), EOr (.ex x e) = .ex x e) ∧
    (∀ (i : Nat) (m : EE) (env : En), sSet i m env = EOs i (m env)) ∧ (∀ (i : Nat) (d : D) (e : En), EOs i (.ok (.own d) e) = .nx (e.set i (some (.own d)))) ∧ (∀ (i : Nat) (d : D) (e : En), EOs i (.ok (.ro d) e) = .nx (e.set i (some (.ro d)))) ∧ (∀ (i : Nat) (x : Exn) (e : En), EOs i (.ex x e) = .ex x e) ∧
    (∀ (m : EE) (env : En), sEx m env = EOx (m env)) ∧ (∀ (r : Rs) (e : En), EOx (.ok r e) = .nx e) ∧ (∀ (x : Exn) (e : En), EOx (.ex x e) = .ex x e) ∧
    (∀ env : En, sSkip env = .nx env) ∧ (∀ env : En, sRetN env = .rt (.im .non) env) ∧ (∀ env : En, sBk env = .bk env) ∧ (∀ env : En, sCt env = .ct env) ∧ (∀ (c : Nat) (env : En), sRaise c env = .ex ⟨c, []⟩ env) := by
  refine ⟨fun m n env => ?_, fun _ _ => rfl, fun _ _ _ => rfl, fun _ _ => rfl, fun _ _ => rfl, fun _ _ _ => rfl, fun _ => rfl, fun c m n env => ?_, fun _ _ _ => rfl, fun _ _ _ => rfl, fun _ _ _ _ => rfl, fun _ _ => rfl, fun _ _ => rfl, fun _ _ => rfl, fun _ _ => rfl,
    fun c d env => ?_, fun _ _ => rfl, fun _ _ => rfl, fun _ _ _ => rfl, fun c d env => ?_, fun _ _ => rfl, fun _ _ => rfl, fun _ _ _ => rfl, fun m env => ?_, fun _ _ => rfl, fun _ _ => rfl, fun m env => ?_, fun _ _ => rfl, fun _ _ => rfl, fun _ => rfl,
    fun m env => ?_, fun _ _ => rfl, fun _ _ => rfl, fun i m env => ?_, fun _ _ _ => rfl, fun _ _ _ => rfl, fun _ _ _ => rfl, fun m env => ?_, fun _ _ => rfl, fun _ _ => rfl, fun _ => rfl, fun _ => rfl, fun _ => rfl, fun _ => rfl, fun _ _ => rfl⟩
  · unfold sSeq SSb; cases m env <;> rfl
  · unfold sIf TOb; cases c env with
    | ok b e => cases b <;> rfl
    | _ => rfl
  · unfold tAn TOa; cases c env with
    | ok b e => cases b <;> rfl
    | _ => rfl
  · unfold tO TOo; cases c env with
    | ok b e => cases b <;> rfl
    | _ => rfl
  · rfl
  · unfold liftE EOl; cases m env <;> rfl
  · rfl
  · unfold sSet EOs; cases m env <;> rfl
  · unfold sEx EOx; cases m env <;> rfl
def Zo (o : Option D) : Rz Rs := match o with
  | some z => .ok (.own z)
  | none => .er
def Zv (i : Nat) (o : Option (Option Slot)) : Rz Rs := match o with
  | some (some (.own d)) => .ok (if copyD d then .own d else .bor i d)
  | some (some (.ro d)) => .ok (if copyD d then .own d else .ro d)
  | _ => .er
def Zf (z : Rz Rs) : Rz Rs := match z with
  | .ok (.own d) => .ok (.own (if copyD d then d else .fz d))
  | .ok _ => .er
  | .ex x => .ex x
  | .er => .er
def Zp (r : Rs) (o : Option D) : Rz Rs := match o with
  | some x => if copyD x then .ok (.own x) else match r with
    | .own _ => .er
    | .ro _ => .ok (.ro x)
    | .bor i _ => .ok (.bor i x)
  | none => .er
def Zq (o : Option D) : Rz Rs := match o with
  | some x => .ok (.own (if copyD x then x else .fz x))
  | none => .er
def Zi (d : D) : Rz (Option Int) := match d with
  | .im (.int i) => .ok (some i)
  | _ => .er
def ixR (ra rb : Rs) : Rz Rs := if ixKind ra.d = 2 then Zo (fIxS [ra.d, rb.d]) else if ixKind ra.d = 1 then (match gDk rb.d with
  | some f => subR ra f
  | none => .er) else (match gIx rb.d with
  | some f => subR ra f
  | none => .er)
def Zb (b : D) (y n : Rz Rs) : Rz Rs := match b with
  | .im (.bl true) => y
  | .im (.bl false) => n
  | _ => .er
def ZM (c : Nat) (u : D) (k : Rz Rs) : Rz Rs := match u with
  | .obj c' _ => if c' = c then k else .er
  | _ => .er
def Zs (c : Nat) (z : Rz Rs) (m1 m2 : Rz Rs) : Rz Rs := match z with
  | .ok r => match unfz r.d with
    | .obj c' _ => if c' = c then m1 else m2
    | _ => m2
  | _ => m2
def Zdsp (z : Rz (List Rs)) (k : List D → D) : Rz Rs := match z with
  | .ok rs => match ownAll rs with
    | some ds => if ds.length ≤ 1000000 then .ok (.own (k ds)) else .er
    | none => .er
  | .ex x => .ex x
  | .er => .er
theorem EV2 :
    (∀ (α β : Type) (a : α) (k : α → Rz β), Rz.bind (.ok a) k = k a) ∧ (∀ (α β : Type) (x : Exn) (k : α → Rz β), Rz.bind (.ex x) k = .ex x) ∧ (∀ (α β : Type) (k : α → Rz β), Rz.bind (.er : Rz α) k = .er) ∧
    (∀ (f : List D → Option D) (a : ME) (env : En), m1 f a env = (a env).bind fun r => Zo (f [r.d])) ∧ (∀ (f : List D → Option D) (a b : ME) (env : En), m2 f a b env = (a env).bind fun r => (b env).bind fun s => Zo (f [r.d, s.d])) ∧
    (∀ (f : List D → Option D) (ms : List ME) (env : En), mN f ms env = (mAs ms env).bind fun rs => Zo (f (rs.map Rs.d))) ∧ (∀ env : En, mAs [] env = .ok []) ∧ (∀ (m : ME) (ms : List ME) (env : En), mAs (m :: ms) env = (m env).bind fun r => (mAs ms env).bind fun rs => .ok (r :: rs)) ∧
    (∀ z : D, Zo (some z) = .ok (.own z)) ∧ (∀ (i : Nat) (env : En), mVar i env = Zv i env[i]?) ∧ (∀ (i : Nat) (d : D), Zv i (some (some (.own d))) = .ok (if copyD d then .own d else .bor i d)) ∧ (∀ (i : Nat) (d : D), Zv i (some (some (.ro d))) = .ok (if copyD d then .own d else .ro d)) ∧
    (∀ (v : V) (env : En), mC v env = .ok (.own (.im v))) ∧ (∀ (mf : List Slot → FR) (ms : List ME) (env : En), mCall mf ms env = (mAs ms env).bind fun rs => frR (mf (rs.map fun r => .ro r.d))) ∧
    (∀ (d : D) (as : En), frR (.ok d as) = .ok (.own d)) ∧ (∀ (x : Exn) (as : En), frR (.ex x as) = .ex x) ∧
    (∀ (c : Nat) (mf : List Slot → FR) (mo : ME) (ms : List ME) (env : En), mMeth c mf mo ms env = (mo env).bind fun r => ZM c (unfz r.d) ((mAs ms env).bind fun rs => frR (mf ((r.d :: rs.map Rs.d).map Slot.ro)))) ∧
    (∀ (c c' : Nat) (ds : List D) (k : Rz Rs), ZM c (.obj c' ds) k = if c' = c then k else .er) ∧
    (∀ (c : Nat) (mf : List Slot → FR) (ms : List ME) (env : En), mMake c mf ms env = (mAs ms env).bind fun rs => mkR (mf (.own (.obj c []) :: (rs.map Rs.d).map Slot.ro))) ∧
    (∀ (d : D) (as : En), mkR (.ok (.im .non) (some (.own d) :: as)) = .ok (.own d)) ∧ (∀ (x : Exn) (as : En), mkR (.ex x as) = .ex x) ∧
    (∀ (m : ME) (env : En), mFz m env = Zf (m env)) ∧ (∀ d : D, Zf (.ok (.own d)) = .ok (.own (if copyD d then d else .fz d))) ∧ (∀ x : Exn, Zf (.ex x) = .ex x) ∧
    (∀ (t : List (Nat × Nat)) (m : ME) (env : En), mFd t m env = (m env).bind fun r => subR r (fldT t)) ∧
    (∀ (d : D) (g : D → Option D), subR (.own (.fz d)) g = Zq (g d)) ∧ (∀ (d : D) (g : D → Option D), subR (.ro (.fz d)) g = Zq (g d)) ∧ (∀ (i : Nat) (d : D) (g : D → Option D), subR (.bor i (.fz d)) g = Zq (g d)) ∧
    (∀ z : D, Zq (some z) = .ok (.own (if copyD z then z else .fz z))) ∧
    (∀ (i c : Nat) (ds : List D) (g : D → Option D), subR (.bor i (.obj c ds)) g = Zp (.bor i (.obj c ds)) (g (.obj c ds))) ∧ (∀ (c : Nat) (ds : List D) (g : D → Option D), subR (.ro (.obj c ds)) g = Zp (.ro (.obj c ds)) (g (.obj c ds))) ∧ (∀ (c : Nat) (ds : List D) (g : D → Option D), subR (.own (.obj c ds)) g = Zp (.own (.obj c ds)) (g (.obj c ds))) ∧
    (∀ (i : Nat) (ds : List D) (g : D → Option D), subR (.bor i (.lst ds)) g = Zp (.bor i (.lst ds)) (g (.lst ds))) ∧ (∀ (ds : List D) (g : D → Option D), subR (.ro (.lst ds)) g = Zp (.ro (.lst ds)) (g (.lst ds))) ∧ (∀ (ds : List D) (g : D → Option D), subR (.own (.lst ds)) g = Zp (.own (.lst ds)) (g (.lst ds))) ∧
    (∀ (i : Nat) (ds : List D) (g : D → Option D), subR (.bor i (.tup ds)) g = Zp (.bor i (.tup ds)) (g (.tup ds))) ∧ (∀ (ds : List D) (g : D → Option D), subR (.ro (.tup ds)) g = Zp (.ro (.tup ds)) (g (.tup ds))) ∧ (∀ (ds : List D) (g : D → Option D), subR (.own (.tup ds)) g = Zp (.own (.tup ds)) (g (.tup ds))) ∧
    (∀ (i : Nat) (ks : List Key) (ds : List D) (g : D → Option D), subR (.bor i (.dct ks ds)) g = Zp (.bor i (.dct ks ds)) (g (.dct ks ds))) ∧ (∀ (ks : List Key) (ds : List D) (g : D → Option D), subR (.ro (.dct ks ds)) g = Zp (.ro (.dct ks ds)) (g (.dct ks ds))) ∧ (∀ (ks : List Key) (ds : List D) (g : D → Option D), subR (.own (.dct ks ds)) g = Zp (.own (.dct ks ds)) (g (.dct ks ds))) ∧
    (∀ (i : Nat) (ns : List Int) (g : D → Option D), subR (.bor i (.scr ns)) g = Zp (.bor i (.scr ns)) (g (.scr ns))) ∧ (∀ (ns : List Int) (g : D → Option D), subR (.ro (.scr ns)) g = Zp (.ro (.scr ns)) (g (.scr ns))) ∧
    (∀ (i : Nat) (d x : D), Zp (.bor i d) (some x) = .ok (if copyD x then .own x else .bor i x)) ∧ (∀ (d x : D), Zp (.ro d) (some x) = .ok (if copyD x then .own x else .ro x)) ∧ (∀ (d x : D), Zp (.own d) (some x) = if copyD x then .ok (.own x) else .er) := by
  refine ⟨fun _ _ _ _ => rfl, fun _ _ _ _ => rfl, fun _ _ _ => rfl, fun f a env => ?_, fun f a b env => ?_, fun f ms env => ?_, fun _ => rfl, fun m ms env => ?_, fun _ => rfl, fun i env => ?_, fun _ _ => rfl, fun _ _ => rfl, fun _ _ => rfl, fun mf ms env => ?_, fun _ _ => rfl, fun _ _ => rfl,
    fun c mf mo ms env => ?_, fun _ _ _ _ => rfl, fun c mf ms env => ?_, fun _ _ => rfl, fun _ _ => rfl, fun m env => ?_, fun _ => rfl, fun _ => rfl, fun t m env => ?_, fun _ _ => rfl, fun _ _ => rfl, fun _ _ _ => rfl, fun _ => rfl, ?_⟩
  · unfold m1; cases a env with
    | ok r => simp only [Rz.bind, Zo] <;> rfl
    | _ => rfl
  · unfold m2; cases a env with
    | ok r => cases b env with
      | ok s => simp only [Rz.bind, Zo] <;> rfl
      | _ => rfl
    | _ => rfl
  · unfold mN; cases mAs ms env with
    | ok r => simp only [Rz.bind, Zo] <;> rfl
    | _ => rfl
  · simp only [mAs]; cases m env with
    | ok r => cases mAs ms env <;> rfl
    | _ => rfl
  · rfl
  · unfold mCall; cases mAs ms env with
    | ok rs => simp only [Rz.bind]; cases mf (rs.map fun r => .ro r.d) <;> rfl
    | _ => rfl
  · unfold mMeth; cases mo env with
    | ok r =>
      simp only [Rz.bind, ZM]
      cases unfz r.d with
      | obj c' ds =>
        simp only
        split
        · cases mAs ms env <;> rfl
        · rfl
      | _ => rfl
    | _ => rfl
  · unfold mMake; cases mAs ms env <;> rfl
  · rfl
  · unfold mFd; cases m env <;> rfl
  · have s : ∀ (r : Rs) (g : D → Option D), (∀ d, r.d ≠ .fz d) → subR r g = Zp r (g r.d) := fun r g h => by
      unfold subR Zp
      split
      · rename_i d e; exact absurd e (h d)
      · rfl
    refine ⟨fun _ _ _ _ => s _ _ (fun _ z => by cases z), fun _ _ _ => s _ _ (fun _ z => by cases z), fun _ _ _ => s _ _ (fun _ z => by cases z), fun _ _ _ => s _ _ (fun _ z => by cases z), fun _ _ => s _ _ (fun _ z => by cases z), fun _ _ => s _ _ (fun _ z => by cases z),
      fun _ _ _ => s _ _ (fun _ z => by cases z), fun _ _ => s _ _ (fun _ z => by cases z), fun _ _ => s _ _ (fun _ z => by cases z), fun _ _ _ _ => s _ _ (fun _ z => by cases z), fun _ _ _ => s _ _ (fun _ z => by cases z), fun _ _ _ => s _ _ (fun _ z => by cases z),
      fun _ _ _ => s _ _ (fun _ z => by cases z), fun _ _ => s _ _ (fun _ z => by cases z), fun i d x => ?_, fun d x => ?_, fun d x => ?_⟩
    · unfold Zp; by_cases h : copyD x = true <;> simp [h]
    · unfold Zp; by_cases h : copyD x = true <;> simp [h]
    · unfold Zp; by_cases h : copyD x = true <;> simp [h]
theorem EV3 :
    (∀ (a b : ME) (env : En), (∀ x, a env ≠ .ex x) → (a env ≠ .er) → mIx a b env = (a env).bind fun r => (b env).bind fun s => ixR r s) ∧
    (∀ (z : Str) (s : Rs), ixR (.own (.im (.str z))) s = Zo (fIxS [.im (.str z), s.d])) ∧
    (∀ (ds : List D) (i : Int), ixR (.own (.fz (.lst ds))) (.own (.im (.int i))) = Zq (atI ds i)) ∧ (∀ (ds : List D) (i : Int), ixR (.own (.tup ds)) (.own (.im (.int i))) = Zp (.own (.tup ds)) (atI ds i)) ∧ (∀ (ds : List D) (i : Int), ixR (.own (.fz (.tup ds))) (.own (.im (.int i))) = Zq (atI ds i)) ∧
    (∀ (ds : List D) (i : Int), ixR (.ro (.lst ds)) (.own (.im (.int i))) = Zp (.ro (.lst ds)) (atI ds i)) ∧ (∀ (j : Nat) (ds : List D) (i : Int), ixR (.bor j (.lst ds)) (.own (.im (.int i))) = Zp (.bor j (.lst ds)) (atI ds i)) ∧ (∀ (ds : List D) (i : Int), ixR (.own (.lst ds)) (.own (.im (.int i))) = Zp (.own (.lst ds)) (atI ds i)) ∧
    (∀ (ds : List D) (i : Int), ixR (.ro (.tup ds)) (.own (.im (.int i))) = Zp (.ro (.tup ds)) (atI ds i)) ∧ (∀ (j : Nat) (ds : List D) (i : Int), ixR (.bor j (.tup ds)) (.own (.im (.int i))) = Zp (.bor j (.tup ds)) (atI ds i)) ∧
    (∀ (ns : List Int) (i : Int), ixR (.ro (.scr ns)) (.own (.im (.int i))) = Zp (.ro (.scr ns)) ((atI ns i).map fun n => .im (.int n))) ∧
    (∀ (ks : List Key) (ds : List D) (z : Str), ixR (.ro (.dct ks ds)) (.own (.im (.str z))) = Zp (.ro (.dct ks ds)) (dlook ks ds (.inr z))) ∧ (∀ (j : Nat) (ks : List Key) (ds : List D) (z : Str), ixR (.bor j (.dct ks ds)) (.own (.im (.str z))) = Zp (.bor j (.dct ks ds)) (dlook ks ds (.inr z))) ∧
    (∀ (ks : List Key) (ds : List D) (z : Str), ixR (.own (.fz (.dct ks ds))) (.own (.im (.str z))) = Zq (dlook ks ds (.inr z))) ∧
    (∀ (f : List D → Option D) (a b : ME) (env : En), mM1 f a b env = (a env).bind fun r => if isS r.d = true then ((b env).bind fun s => Zo (f [r.d, s.d])) else .er) ∧
    (∀ (ky : D → Bool) (f : List D → Option D) (a b : ME) (env : En), mBm ky f a b env = (a env).bind fun r => if ky (unfz r.d) = true then ((b env).bind fun s => Zo (f [r.d, s.d])) else .er) ∧
    (∀ (a b : ME) (env : En), mAnd a b env = (a env).bind fun r => Zb r.d (b env) (.ok (.own (.im (.bl false))))) ∧ (∀ (a b : ME) (env : En), mOr a b env = (a env).bind fun r => Zb r.d (.ok (.own (.im (.bl true)))) (b env)) ∧
    (∀ y n : Rz Rs, Zb (.im (.bl true)) y n = y) ∧ (∀ y n : Rz Rs, Zb (.im (.bl false)) y n = n) ∧
    (∀ (a : ME) (l h : Option ME) (env : En), mSl a l h env = (a env).bind fun r => (mPo l env).bind fun x => (mPo h env).bind fun y => Zo (fSl r.d x y)) ∧ (∀ env : En, mPo none env = .ok none) ∧ (∀ (m : ME) (env : En), mPo (some m) env = (m env).bind fun r => Zi r.d) ∧ (∀ i : Int, Zi (.im (.int i)) = .ok (some i)) ∧
    (∀ (k : List D → D) (ms : List ME) (env : En), mDsp k ms env = Zdsp (mAs ms env) k) ∧ (∀ env : En, mNewD env = .ok (.own (.dct [] []))) ∧
    (∀ (n : Nat) (pins : List Bool) (b : MS) (as : List Slot), mF n pins b as = fin pins (b (as.map some ++ List.replicate (n - as.length) none))) ∧
    (∀ (pins : List Bool) (e : En), fin pins (.nx e) = .ok (.im .non) (trunc pins e)) ∧ (∀ (pins : List Bool) (d : D) (e : En), fin pins (.rt d e) = .ok d (trunc pins e)) ∧ (∀ (pins : List Bool) (x : Exn) (e : En), fin pins (.ex x e) = .ex x (trunc pins e)) ∧
    (∀ (ps : List Bool) (e : Option Slot) (es : En), trunc (true :: ps) (e :: es) = e :: trunc ps es) ∧ (∀ (ps : List Bool) (e : Option Slot) (es : En), trunc (false :: ps) (e :: es) = none :: trunc ps es) ∧ (∀ es : En, trunc [] es = []) := by
  refine ⟨fun a b env hx he => ?_, fun _ _ => rfl, fun _ _ => rfl, fun _ _ => rfl, fun _ _ => rfl, fun _ _ => rfl, fun _ _ _ => rfl, fun _ _ => rfl, fun _ _ => rfl, fun _ _ _ => rfl, fun _ _ => rfl, fun _ _ _ => rfl, fun _ _ _ _ => rfl, fun _ _ _ => rfl, fun f a b env => ?_, fun ky f a b env => ?_, fun a b env => ?_, fun a b env => ?_, fun _ _ => rfl, fun _ _ => rfl, fun a l h env => ?_, fun _ => rfl, fun m env => ?_, fun _ => rfl,
    fun k ms env => ?_, fun _ => rfl, fun _ _ _ _ => rfl, fun _ _ => rfl, fun _ _ _ => rfl, fun _ _ _ => rfl, fun _ _ _ => rfl, fun _ _ _ => rfl, fun es => ?_⟩
  · cases ha : a env with
    | ok r =>
      simp only [mIx, ha, Rz.bind, ixR]
      split
      · simp only [m2, ha]; cases b env with
        | ok s => simp only [Zo] <;> rfl
        | _ => rfl
      · split
        · simp only [mSub, ha]; cases b env <;> rfl
        · simp only [mSub, ha]; cases b env <;> rfl
    | ex x => exact absurd ha (hx x)
    | er => exact absurd ha he
  · unfold mM1; cases a env with
    | ok r =>
      simp only [Rz.bind]
      split
      · cases b env with
        | ok s => simp only [Zo] <;> rfl
        | _ => rfl
      · rfl
    | _ => rfl
  · unfold mBm; cases a env with
    | ok r =>
      simp only [Rz.bind]
      split
      · cases b env with
        | ok s => simp only [Zo] <;> rfl
        | _ => rfl
      · rfl
    | _ => rfl
  · unfold mAnd; cases a env with
    | ok r => simp only [Rz.bind, Zb] <;> rfl
    | _ => rfl
  · unfold mOr; cases a env with
    | ok r => simp only [Rz.bind, Zb] <;> rfl
    | _ => rfl
  · unfold mSl; cases a env with
    | ok r => simp only [Rz.bind]; cases mPo l env with
      | ok x => cases mPo h env with
        | ok y => simp only [Zo] <;> rfl
        | _ => rfl
      | _ => rfl
    | _ => rfl
  · simp only [mPo]; cases m env with
    | ok r => simp only [Rz.bind, Zi] <;> rfl
    | _ => rfl
  · unfold mDsp Zdsp; cases mAs ms env <;> rfl
  · unfold trunc; cases es <;> rfl
/-- an index, where the row is there -/
theorem ix_e {a b : ME} {env : En} {r : Rs} (h : a env = .ok r) : mIx a b env = (b env).bind fun s => ixR r s := by
  have := EV3.1 a b env (by rw [h]; intro x z; cases z) (by rw [h]; intro z; cases z)
  rw [this, h]; rfl
end Tr

/-! TsH: comprehensions with any target; over d.items(), d a local dict. -/
namespace Tr
open PySem L2
@[simp] def wipeE (env : En) : List Nat → En
  | [] => env
  | j :: js => (wipeE env js).set j none
@[simp] def lcG (js : List Nat) (f : TgF) (mt : MT) (me : ME) (env : En) : List D → List D → Rz (List D)
  | [], acc => .ok acc
  | d :: ds, acc => match f d (wipeE env js) with
    | some env2 => match mt env2 with
      | .ok true env3 => match me env3 with
        | .ok r => if copyD r.d then lcG js f mt me env ds (acc ++ [r.d]) else .er
        | _ => .er
      | .ok false _ => lcG js f mt me env ds acc
      | _ => .er
    | none => .er
@[simp] def mLcG (mi : MI) (js : List Nat) (f : TgF) (mt : MT) (me : ME) : ME := fun env => match mi env with
  | .ok items fz => if fz.all (fun i => decide (i < env.length)) && decide (items.length ≤ 1000000) then (match lcG js f mt me (roE env) items [] with
    | .ok ds => .ok (.own (.lst ds))
    | _ => .er) else .er
  | .ex x => .ex x
  | .er => .er
def offJ (js : List Nat) : Pins := fun k => !js.contains k
section
variable {X : Cx} {T : Tab} {W : WX} {e : Expr} {ma mb me : ME} {mt : MT} {mi : MI} {pos : Pos} {S B H S' B' H' : Hp} {env : En} {mss : List Cells} {σ : L2.St} {js : List Nat} {f : TgF} {g : TG}
theorem wipe_len : ∀ (js : List Nat) (env : En), (wipeE env js).length = env.length
  | [], _ => rfl
  | j :: js, env => by simp [wipeE, wipe_len js env]
theorem RoE.wipe (R : RoE T S B env σ) : ∀ js : List Nat, RoE T S B (wipeE env js) (wipe σ js)
  | [] => R
  | j :: js => (R.wipe js).set rfl
theorem wipe_pin : ∀ {js : List Nat} {σ σ' : L2.St}, σ'.length = σ.length → (∀ k, offJ js k = true → σ'[k]? = σ[k]?) → L2.wipe σ' js = L2.wipe σ js
  | [], σ, σ', hl, h => List.ext_getElem? fun k => h k rfl
  | j :: js, σ, σ', hl, h => by
    have e : L2.wipe (σ'.set j none) js = L2.wipe (σ.set j none) js := wipe_pin (by simp [hl]) fun k hk => by
      by_cases hj : j = k
      · subst hj
        rw [List.getElem?_set, List.getElem?_set]; simp [hl]
      · rw [List.getElem?_set_ne hj, List.getElem?_set_ne hj]
        refine h k ?_
        unfold offJ at hk ⊢
        simp only [Bool.not_eq_true', List.contains_cons, Bool.or_eq_false_iff, beq_eq_false_iff_ne, ne_eq] at hk ⊢
        exact ⟨fun z => hj z.symm, hk⟩
    have comm : ∀ (js : List Nat) (σ : L2.St), (L2.wipe σ js).set j none = L2.wipe (σ.set j none) js := fun js => by
      induction js with
      | nil => intro σ; rfl
      | cons i js ih =>
        intro σ
        show ((L2.wipe σ js).set i none).set j none = (L2.wipe (σ.set j none) js).set i none
        by_cases hij : i = j
        · subst hij; rw [← ih σ]
        · rw [List.set_comm _ _ hij, ih σ]
    show (L2.wipe σ' js).set j none = (L2.wipe σ js).set j none
    rw [comm, comm, e]
theorem wipe_idem (σ : L2.St) (js : List Nat) : L2.wipe (L2.wipe σ js) js = L2.wipe σ js := by
  refine wipe_pin (L2.wipe_length σ js) fun k hk => ?_
  induction js with
  | nil => rfl
  | cons j js ih =>
    unfold offJ at hk ih
    simp only [Bool.not_eq_true', List.contains_cons, Bool.or_eq_false_iff, beq_eq_false_iff_ne, ne_eq] at hk ih
    show ((L2.wipe σ js).set j none)[k]? = σ[k]?
    rw [List.getElem?_set_ne (fun z => hk.1 z.symm)]
    exact ih hk.2
/-- what a comprehension reaches -/
def LcEnd (T : Tab) (B1 H1 : Hp) (ds : List D) (v : V) (Hx : Hp) : Prop := ∃ Dn B2 ws, v = .ref Dn ∧ H1 Dn = none ∧ Same H1 Hx ∧ Hx Dn = some (.lst ws) ∧ Same B1 B2 ∧ Same B2 Hx ∧ B2 Dn = none ∧ (∀ a o, B2 a = some o → B1 a = some o ∨ H1 a = none) ∧ Owns T B2 ds ws []
theorem lcg_core {J : It} {items ds : List D} {env : En} {B1 H1 : Hp} {Q : VK} (bh : Same B1 H1) (E0 : RoE T H1 B1 env σ)
    (I : ∀ (Hx B2 : Hp), Same H1 Hx → Same B1 B2 → Same B2 Hx → ∀ i : Nat, (∀ d, items[i]? = some d → J.go i Hx ∧ ∀ x H', J.yld i Hx x H' → ∃ S' B', Gr Hx B2 Hx S' B' H' ∧ Ros T B' S' [d] [x]) ∧ (items[i]? = none → J.stop i Hx))
    (hg : TgR T (offJ js) g f) (hlen : items.length ≤ 1000000) (hds : lcG js f mt me env items [] = .ok ds) (hq : ∀ v Hx, LcEnd T B1 H1 ds v Hx → Q v Hx) :
    ∀ D, H1 D = none → ∃ Wt : Nat → Nat → Hp → Prop, (∃ m, Wt 0 m (upd H1 D (.lst []))) ∧ ∀ i m H, Wt i m H →
      (J.stop i H ∧ Q (.ref D) H) ∨ (J.go i H ∧ ∃ Nx : Hp → Prop, (∀ H', Nx H' → ∃ m', m' < m ∧ Wt (i + 1) m' H') ∧ ∀ x H', J.yld i H x H' → g x (wipe σ js) H' fun σ2 H2 => wipe σ2 js = wipe σ js ∧ tT T WF mt σ2 H2 fun b H3 =>
        if b = true then tP T WF me σ2 H3 fun y H4 => ∃ acc, H4 D = some (.lst acc) ∧ acc.length < sizeLine ∧ Nx (upd H4 D (.lst (acc ++ [y]))) else Nx H3) := by
  intro D hD
  have hH1 : ∀ {o : HO}, Same H1 (upd H1 D o) := fun {o} a u h => by rw [upd_ne (fun z => by rw [z, hD] at h; cases h)]; exact h
  let IV : Nat → Hp → Prop := fun i Hx => ∃ B2 ws acc, Same H1 Hx ∧ Hx D = some (.lst ws) ∧ Same B1 B2 ∧ Same B2 Hx ∧ B2 D = none ∧ (∀ a o, B2 a = some o → B1 a = some o ∨ H1 a = none) ∧ Owns T B2 acc ws [] ∧ copyDs acc = true ∧ ws.length ≤ i ∧ lcG js f mt me env (items.drop i) acc = .ok ds
  refine ⟨fun i m Hx => m = items.length - i ∧ IV i Hx, ⟨items.length, rfl, B1, [], [], hH1, upd_same, Same.refl _, bh.trans hH1, bh.free hD, fun a o h => .inl h, .nil, rfl, Nat.zero_le _, hds⟩, ?_⟩
  rintro i m Hx ⟨rfl, B2, ws, acc, k1, k2, k3, k4, k5, k6, k7, k7c, k8, k9⟩
  obtain ⟨yes, no⟩ := I Hx B2 k1 k3 k4 i
  cases hi' : items[i]? with
  | none =>
    have hl : items.length ≤ i := List.getElem?_eq_none_iff.mp hi'
    rw [List.drop_eq_nil_of_le hl] at k9
    simp only [lcG] at k9
    have e9 := Rz.ok.inj k9
    subst e9
    exact .inl ⟨no hi', hq _ _ ⟨D, B2, ws, rfl, hD, k1, k2, k3, k4, k5, k6, k7⟩⟩
  | some d =>
    have hl : i < items.length := (List.getElem?_eq_some_iff.mp hi').1
    have ed : items.drop i = d :: items.drop (i + 1) := by
      rw [List.drop_eq_getElem_cons hl]
      congr 1
      exact (List.getElem?_eq_some_iff.mp hi').2
    rw [ed] at k9
    obtain ⟨go, yl⟩ := yes d hi'
    refine .inr ⟨go, fun Hx => IV (i + 1) Hx, fun H' h => ⟨items.length - (i + 1), by omega, rfl, h⟩, fun x H2 y => ?_⟩
    obtain ⟨S2, B2', gr, ro⟩ := yl x H2 y
    have hS2 : Same Hx H2 := gr.h
    have bs2 : Same B2' H2 := gr.bs.trans gr.sh
    have E2 : RoE T H2 B2' (wipeE env js) (wipe σ js) := (E0.up (k1.trans hS2) (k3.trans gr.w.b)).wipe js
    simp only [lcG] at k9
    cases hf : f d (wipeE env js) with
    | none => simp only [hf] at k9; cases k9
    | some env2 =>
    simp only [hf] at k9
    refine hg H2 B2' _ _ (wipe σ js) (wipe σ js) H2 d x env2 (E2.srx bs2 (Same.refl _)) ⟨rfl, fun k _ => rfl⟩ (ro.mono gr.sh (Same.refl _)) hf _ fun σ2 mss2 R2 hp2 => ?_
    refine ⟨(wipe_pin hp2.1 fun k hk => hp2.2 k hk).trans (wipe_idem σ js), H2, B2', env2, mss2, R2, ?_⟩
    have nD : ∀ {Bn : Hp}, (∀ a o, Bn a = some o → B2' a = some o ∨ H2 a = none) → Bn D = none ∧ ∀ a o, Bn a = some o → B1 a = some o ∨ H1 a = none := fun {Bn} hn => by
      have key : ∀ a o, Bn a = some o → B2 a = some o ∨ Hx a = none := fun a o h => by
        rcases hn a o h with z | z
        · exact gr.w.n _ _ z
        · exact .inr (hS2.free z)
      refine ⟨?_, fun a o h => ?_⟩
      · cases e : Bn D with
        | none => rfl
        | some u =>
          rcases key _ _ e with z | z
          · rw [k5] at z; cases z
          · rw [k2] at z; cases z
      · rcases key a o h with z | z
        · exact k6 _ _ z
        · exact .inr (k1.free z)
    cases hz : mt env2 with
    | ok b env3 =>
      intro S3 B3 H3 mss3 g3 R3
      simp only [hz] at k9
      have t3 : Same H2 H3 := g3.s.trans R3.sh
      cases b with
      | false =>
        rw [if_neg Bool.false_ne_true]
        obtain ⟨n1, n2⟩ := nD (Bn := B3) g3.n
        exact ⟨B3, ws, acc, (k1.trans hS2).trans t3, t3 _ _ (hS2 _ _ k2), (k3.trans gr.w.b).trans g3.b, R3.bs.trans R3.sh, n1, n2, k7.mono (gr.w.b.trans g3.b), k7c, by omega, k9⟩
      | true =>
        rw [if_pos rfl]
        refine ⟨S3, B3, env3, mss3, R3, ?_⟩
        cases hm : me env3 with
        | ok r =>
          intro S4 B4 H4 v g4 f4
          simp only [hm] at k9
          split at k9
          · rename_i hcp
            have R4 := R3.grow g4
            have ow : Owns T B4 [r.d] [v] [] := copy_own (f4.read R4) (copy1 hcp)
            have t4 : Same H3 H4 := g4.h
            have hD4 : H4 D = some (.lst ws) := t4 _ _ (t3 _ _ (hS2 _ _ k2))
            obtain ⟨n1, n2⟩ := nD (Bn := B4) fun a o h => by
              rcases g4.w.n _ _ h with z | z
              · exact g3.n _ _ z
              · exact .inr (g3.s.free z)
            have b4 : Same B4 (upd H4 D (.lst (ws ++ [v]))) := fun a u h => by
              rw [upd_ne (fun z => by rw [z, n1] at h; cases h)]
              exact (R4.bs.trans R4.sh) _ _ h
            have hk7 := (k7.mono ((gr.w.b.trans g3.b).trans g4.w.b)).ro (Same.refl B4) fun _ h => nomatch h
            have how := ow.ro (Same.refl B4) fun _ h => nomatch h
            have hcc : copyDs (acc ++ [r.d]) = true := by rw [copyDs_append, k7c]; simp [hcp]
            have hsz := le_line hlen
            refine ⟨ws, hD4, by omega, B4, ws ++ [v], acc ++ [r.d], fun a u h => ?_, upd_same, ((k3.trans gr.w.b).trans g3.b).trans g4.w.b, b4, n1, n2, copy_own (ros_append hk7 how) hcc, hcc, by simp; omega, k9⟩
            rw [upd_ne (fun z => by rw [z, hD] at h; cases h)]
            exact t4 _ _ (t3 _ _ (hS2 _ _ (k1 _ _ h)))
          · cases k9
        | ex x => simp only [hm] at k9; cases k9
        | er => simp only [hm] at k9; cases k9
    | ex x env3 => simp only [hz] at k9; cases k9
    | er => simp only [hz] at k9; cases k9
theorem lc_fin {ds : List D} {v : V} {Hx Hu S B H B1 H1 : Hp} {Q : VK} (bs : Same B S) (sh : Same S H) (le : LcEnd T B1 H1 ds v Hx) (e1 : ∀ x o, H x = some o → H1 x ≠ none ∧ Hu x = some o) (e2 : ∀ x o, B1 x = some o → B x = some o ∨ H x = none) (b1 : Same B B1) (e3 : ∀ x, H1 x = none → H x = none) (e4 : ∀ x o, (B1 x = some o ∨ H1 x = none) → Hx x = some o → Hu x = some o)
    (q : PP T W S B mss σ H Q (.ok (.own (.lst ds)))) : Q v Hu := by
  obtain ⟨Dn, B2, ws, rfl, hD, k1, k2, k3, k4, k5, k6, k7⟩ := le
  have hDu : Hu Dn = some (.lst ws) := e4 Dn _ (.inr hD) k2
  let Sx : Hp := fun a => if a = Dn then none else Hu a
  have s1 : Same H Sx := fun a u h => by
    show (if a = Dn then none else Hu a) = _
    rw [if_neg (fun z => (e1 _ _ h).1 (by rw [z]; exact hD))]; exact (e1 _ _ h).2
  have b2 : Same B2 Sx := fun a u h => by
    show (if a = Dn then none else Hu a) = _
    rw [if_neg (fun z => by rw [z, k5] at h; cases h)]
    exact e4 a u (k6 _ _ h) (k4 _ _ h)
  have s2 : Same Sx Hu := fun a u h => by
    have h : (if a = Dn then none else Hu a) = some u := h
    split at h
    · cases h
    · exact h
  have g' := gr_pure bs sh ⟨s1, b1.trans k3, fun a o h => by
    rcases k6 a o h with z | z
    · exact e2 _ _ z
    · exact .inr (e3 _ z)⟩ b2 s2
  have o : Owns T B2 [.lst ds] [.ref Dn] [(Dn, .lst ws)] := .lst (m := []) (ms := []) k7 .nil
  have c : CellsOk Sx Hu [(Dn, .lst ws)] := ⟨by simp, fun c hc => by
    have e : c = (Dn, .lst ws) := by simpa using hc
    subst e; exact ⟨hDu, if_pos rfl⟩⟩
  exact q _ _ _ _ g' (own_pure sh s1 o c b2)
theorem i_lcG {Q : VK} (hg : TgR T (offJ js) g f) (h : tP T W (mLcG mi js f mt me) σ H Q) : tLc (tI T W mi) g (tT T WF mt) (tP T WF me) js σ H Q := by
  obtain ⟨S, B, env, mss, R, q⟩ := h
  refine ⟨S, B, env, mss, R, ?_⟩
  cases hi : mi env with
  | ex x => simp only [mLcG, hi] at q; exact q
  | er => simp only [mLcG, hi] at q; exact q
  | ok items fz =>
    intro S1 B1 H1 J gr hJ
    simp only [mLcG, hi] at q
    split at q
    · rename_i hc
      simp only [Bool.and_eq_true, List.all_eq_true, decide_eq_true_eq] at hc
      have R1 := R.grow gr
      obtain ⟨Sf, f1, f2⟩ := fz_ex (H := H1) (fz := fz) R1.sh (fun k m hk c hc => ((R1.ok k m hk).2 c hc).1) (fun i hi => by rw [R1.l2, ← R1.l1]; exact hc.1 i hi)
      have I := hJ Sf f1 f2
      cases hl : lcG js f mt me (Tr.roE env) items [] with
      | ok ds =>
        rw [hl] at q
        have q1 := q.grow gr
        refine lcg_core (R1.bs.trans R1.sh) R1.roE (fun Hx B2 k1 k3 k4 => I Hx B2 Hx (f2.trans k1) k3 k4 (Same.refl _)) hg hc.2 hl fun v Hx le => ?_
        refine lc_fin (B1 := B1) (H1 := H1) (Hx := Hx) R1.bs R1.sh le (fun x o h => ?_) (fun x o h => .inl h) (Same.refl _) (fun x h => h) (fun x o _ h => h) q1
        obtain ⟨_, _, _, _, _, k1, _⟩ := le
        exact ⟨by rw [h]; exact nofun, k1 _ _ h⟩
      | ex x => rw [hl] at q; exact q.elim
      | er => rw [hl] at q; exact q.elim
    · exact q.elim
theorem ep_lcG {elt tg iter : Expr} {ifs : List Expr} {scope : Scope} {own : List (Str × Nat)} (hc : X.calm = true) (hN : X.N.Nodup) (hi : PI X tg iter (tI T W mi)) (ok : BlkOk X.N X.env.scope scope own) (htg : TgR T (offJ (own.map (·.2))) g f)
    (hg : ∀ (s : Shared) (H : Hp) (C : Addr) (cl : List (Str × Addr)) (fp : List Addr), PG (X.blk s H scope (compEnvC scope cl C X.env) fp) tg g) (ht : ∀ (s : Shared) (H : Hp) (C : Addr) (cl : List (Str × Addr)) (fp : List Addr), PTs (X.blk s H scope (compEnvC scope cl C X.env) fp) ifs (tT T WF mt))
    (he : ∀ (s : Shared) (H : Hp) (C : Addr) (cl : List (Str × Addr)) (fp : List Addr), PE (X.blk s H scope (compEnvC scope cl C X.env) fp) elt (tP T WF me)) (hs : ∀ x, foldedSetIterable iter X.env x = pure x := by intro _; rfl) :
    PE X (.ListComp elt [⟨tg, iter, ifs, 0⟩] scope pos) (tP T W (mLcG mi (own.map (·.2)) f mt me)) :=
  pe_of (pe_lc (own := own) (g := g) (tt := tT T WF mt) hc hN hi ok hg ht he hs) fun _ _ _ => i_lcG htg
theorem ss_setLcG {pin : Pins} {σ0 : L2.St} {i : Nat} {y : Str} {py : Pos} {elt tg iter : Expr} {ifs : List Expr} {scope : Scope} {own : List (Str × Nat)} {spos : Pos} (hc : X.calm = true) (hN : X.N.Nodup) (hy : X.N[i]? = some y) (hyl : X.env.scope.names.lookup y = some .local) (hpin : pin i = false)
    (hsw : swapsWith (.ListComp elt [⟨tg, iter, ifs, 0⟩] scope pos) (some (.Name y py)) spos.line X.env = pure true) (hi : PI X tg iter (tI T W mi)) (ok : BlkOk X.N X.env.scope scope own) (htg : TgR T (offJ (own.map (·.2))) g f)
    (hg : ∀ (s : Shared) (H : Hp) (C : Addr) (cl : List (Str × Addr)) (fp : List Addr), PG (X.blk s H scope (compEnvC scope cl C X.env) fp) tg g) (ht : ∀ (s : Shared) (H : Hp) (C : Addr) (cl : List (Str × Addr)) (fp : List Addr), PTs (X.blk s H scope (compEnvC scope cl C X.env) fp) ifs (tT T WF mt))
    (he : ∀ (s : Shared) (H : Hp) (C : Addr) (cl : List (Str × Addr)) (fp : List Addr), PE (X.blk s H scope (compEnvC scope cl C X.env) fp) elt (tP T WF me)) (hs : ∀ x, foldedSetIterable iter X.env x = pure x := by intro _; rfl) :
    PS X (.Assign [.Name y py] (.ListComp elt [⟨tg, iter, ifs, 0⟩] scope pos) spos) (tS T W pin σ0 (sSet i (liftE (mLcG mi (own.map (·.2)) f mt me)))) := by
  refine ps_of (ps_setLc (i := i) (own := own) (g := g) (tt := tT T WF mt) hc hN hy hyl hsw hi ok hg ht he hs) fun D σ H ⟨S, B, env, mss, R, hp, q⟩ => ?_
  refine i_lcG (Q := fun v H1 => D.nx (σ.set i (some v)) H1) htg (i_p ⟨S, B, env, mss, R, ?_⟩)
  cases hm : liftE (mLcG mi (own.map (·.2)) f mt me) env with
  | ok r env' => simp only [sSet, hm] at q; exact fun S' B' H' mss' v g R' f => setS_ok hpin R' hp f (q.gw g)
  | ex x env' => simp only [sSet, hm] at q; exact fun S' B' H' mss' cls d g R' f => q S' B' mss' σ H' cls d g R' hp f
  | er => simp only [sSet, hm] at q; exact q
/-! ### over d.items() -/
def itD (ks : List Key) (xs : List D) : List D := (ks.zip xs).map fun kx => .tup [.im (kV kx.1), kx.2]
@[simp] def mLcI (i : Nat) (js : List Nat) (f : TgF) (mt : MT) (me : ME) : ME := fun env => match env[i]? with
  | some (some (.own (.dct ks xs))) => if decide (ks.length = xs.length) && decide (ks.length ≤ 1000000) then (match lcG js f mt me (roE env) (itD ks xs) [] with
    | .ok ds => .ok (.own (.lst ds))
    | _ => .er) else .er
  | _ => .er
theorem ros_lock {a : Addr} {kvs : List (Key × V)} {od : Obj} : ∀ {S : Hp} {ds : List D} {vs : List V}, S a = some (.dK kvs) → Ros T B S ds vs → Ros T B (upd S a (.frz od (.dK kvs))) ds vs := by
  intro S ds vs hd r
  induction r with
  | nil => exact .nil
  | im h _ ih => exact .im h (ih hd)
  | lst h _ _ ih1 ih2 => exact .lst (by rw [upd_ne (fun z => by rw [z, hd] at h; cases h)]; exact h) (ih1 hd) (ih2 hd)
  | tup h _ _ ih1 ih2 => exact .tup h (ih1 hd) (ih2 hd)
  | @dct S b ks ws xs ds vs h hl _ _ ih1 ih2 =>
    refine .dct ?_ hl (ih1 hd) (ih2 hd)
    rcases h with h | ⟨o, h⟩
    · by_cases e : b = a
      · subst e
        rw [hd] at h; cases h
        exact .inr ⟨od, upd_same⟩
      · exact .inl (by rw [upd_ne e]; exact h)
    · exact .inr ⟨o, by rw [upd_ne (fun z => by rw [z, hd] at h; cases h)]; exact h⟩
  | obj h hc hl _ _ ih1 ih2 => exact .obj (by rw [upd_ne (fun z => by rw [z, hd] at h; cases h)]; exact h) hc hl (ih1 hd) (ih2 hd)
  | scr h _ ih =>
    refine .scr ?_ (ih hd)
    rcases h with h | h
    · refine .inl ?_
      rcases h with h | ⟨o, h⟩
      · exact .inl (by rw [upd_ne (fun z => by rw [z, hd] at h; cases h)]; exact h)
      · exact .inr ⟨o, by rw [upd_ne (fun z => by rw [z, hd] at h; cases h)]; exact h⟩
    · exact .inr h
  | fz q _ _ ih => exact .fz q (ih hd)
theorem RoE.lock {a : Addr} {kvs : List (Key × V)} {od : Obj} (E : RoE T H B env σ) (hd : H a = some (.dK kvs)) : RoE T (upd H a (.frz od (.dK kvs))) B env σ := ⟨E.l, fun i e s h1 h2 => by
  have q := E.at_ i e s h1 h2
  cases e with
  | none => exact q
  | some o =>
    cases s with
    | none => cases o <;> exact q
    | some v =>
      cases o with
      | own d => exact q
      | ro d => exact ⟨q.1, ros_lock hd q.2⟩⟩
theorem i_lcI {i : Nat} {Q : VK} (hg : TgR T (offJ js) g f) (h : tP T W (mLcI i js f mt me) σ H Q) : tLockE (tLc (iItems (tVar i)) g (tT T WF mt) (tP T WF me) js) σ H Q := by
  obtain ⟨S, B, env, mss, R, q⟩ := h
  simp only [mLcI] at q
  split at q
  · rename_i ks xs hv
    split at q
    · rename_i hc
      simp only [Bool.and_eq_true, decide_eq_true_eq] at hc
      cases hl : lcG js f mt me (Tr.roE env) (itD ks xs) [] with
      | ex x => rw [hl] at q; exact q.elim
      | er => rw [hl] at q; exact q.elim
      | ok ds =>
      rw [hl] at q
      obtain ⟨v, m, h1, h2, own, okm⟩ := R.own hv
      have ro : Ros T B H [.dct ks xs] [v] := Owns.ro own (R.bs.trans R.sh) fun c hc => (okm.2 c hc).1
      obtain ⟨a, ws, rfl, hrd, hlen, rox⟩ := ros_dct ro
      have ha : H a = some (.dK (ks.zip ws)) ∧ S a = none := by
        cases own with
        | @dct _ _ ws' _ _ _ m1 m2 hl' q' r' =>
          have c := okm.2 _ List.mem_cons_self
          obtain ⟨c1, c2⟩ := c
          refine ⟨?_, c2⟩
          rcases hrd with hrd | ⟨o, hrd⟩
          · exact hrd
          · rw [c1] at hrd; cases hrd
      have ba : B a = none := R.bs.free ha.2
      refine ⟨a, .dK (ks.zip ws), ha.1, trivial, fun od => ⟨.ref a, h1, a, od, ks.zip ws, rfl, upd_same, ?_⟩⟩
      have hHL : ∀ x o, x ≠ a → (upd H a (.frz od (.dK (ks.zip ws)))) x = some o → H x = some o := fun x o hx h => by rw [upd_ne hx] at h; exact h
      have bhl : Same B (upd H a (.frz od (.dK (ks.zip ws)))) := fun x o h => by
        rw [upd_ne (fun z => by rw [z, ba] at h; cases h)]
        exact (R.bs.trans R.sh) _ _ h
      have rox' := ros_lock (od := od) ha.1 rox
      have zl : (ks.zip ws).length = ks.length := by rw [List.length_zip]; omega
      refine lcg_core (J := Iti a od (ks.zip ws)) (Q := fun v H' => H' a = some (.frz od (.dK (ks.zip ws))) ∧ Q v (upd H' a (.dK (ks.zip ws)))) (items := itD ks xs) bhl (R.roE.lock ha.1) (fun Hx B2 k1 k3 k4 n => ?_) hg (by simp [itD]; omega) hl fun v Hx le => ?_
      · have hax : Hx a = some (.frz od (.dK (ks.zip ws))) := k1 _ _ upd_same
        refine ⟨fun d hd => ?_, fun hd => ⟨hax, ?_⟩⟩
        · simp only [itD, List.getElem?_map, Option.map_eq_some_iff] at hd
          obtain ⟨⟨k, x⟩, hz, rfl⟩ := hd
          obtain ⟨hk, hx⟩ := List.getElem?_zip_eq_some.mp hz
          obtain ⟨w, hw, r⟩ := ros_at rox' hx
          have hlt : n < ks.length := (List.getElem?_eq_some_iff.mp hk).1
          refine ⟨⟨hax, by omega⟩, fun y H' yl => ?_⟩
          obtain ⟨t, k', w', g1, rfl, g2, rfl⟩ := yl
          obtain ⟨gk, gw⟩ := List.getElem?_zip_eq_some.mp g1
          rw [hk] at gk; cases gk
          rw [hw] at gw; cases gw
          have gr := Gr.tup (o := .tup [kV k, w']) k4 (Same.refl Hx) g2
          exact ⟨_, _, gr, .tup upd_same (.im (imm_kV k) (((r.mono k1 k3).mono gr.w.s gr.w.b))) .nil⟩
        · have := List.getElem?_eq_none_iff.mp hd
          simp only [itD, List.length_map, List.length_zip] at this
          omega
      · have k1 : Same (upd H a (.frz od (.dK (ks.zip ws)))) Hx := by obtain ⟨_, _, _, _, _, k1, _⟩ := le; exact k1
        refine ⟨k1 _ _ upd_same, ?_⟩
        refine lc_fin (B1 := B) (Hx := Hx) R.bs R.sh le (fun x o h => ?_) (fun x o h => .inl h) (Same.refl _) (fun x h => ?_) (fun x o h1 h2 => ?_) q
        · by_cases e : x = a
          · subst e
            rw [ha.1] at h; cases h
            exact ⟨by rw [upd_same]; exact nofun, upd_same⟩
          · rw [upd_ne e]
            refine ⟨by rw [h]; exact nofun, ?_⟩
            rw [upd_ne e]
            exact k1 _ _ (by rw [upd_ne e]; exact h)
        · by_cases e : x = a
          · subst e; rw [upd_same] at h; cases h
          · rw [upd_ne e] at h; exact h
        · by_cases e : x = a
          · subst e
            rcases h1 with z | z
            · rw [ba] at z; cases z
            · rw [upd_same] at z; cases z
          · rw [upd_ne e]; exact h2
    · exact q.elim
  · exact q.elim
theorem ep_lcI {elt e : Expr} {elts : List Expr} {kk : Nat} {tpos apos cpos : Pos} {ifs : List Expr} {scope : Scope} {own : List (Str × Nat)} {i : Nat} (hc : X.calm = true) (hN : X.N.Nodup) (hv : PE X e (tVar i)) (ok : BlkOk X.N X.env.scope scope own) (htg : TgR T (offJ (own.map (·.2))) g f)
    (hg : ∀ (s : Shared) (H : Hp) (C : Addr) (cl : List (Str × Addr)) (fp : List Addr), PG (X.blk s H scope (compEnvC scope cl C X.env) fp) (.Tuple elts kk tpos) g) (ht : ∀ (s : Shared) (H : Hp) (C : Addr) (cl : List (Str × Addr)) (fp : List Addr), PTs (X.blk s H scope (compEnvC scope cl C X.env) fp) ifs (tT T WF mt))
    (he : ∀ (s : Shared) (H : Hp) (C : Addr) (cl : List (Str × Addr)) (fp : List Addr), PE (X.blk s H scope (compEnvC scope cl C X.env) fp) elt (tP T WF me))
    (hbase : attributeBase e "items" X.env (eval e X.env) = eval e X.env := by rfl) (hline : (apos.endLine == cpos.line) = true := by rfl) (hs : ∀ x, foldedSetIterable (.Call (.Attribute e "items" apos) [] [] cpos) X.env x = pure x := by intro _; rfl) :
    PE X (.ListComp elt [⟨.Tuple elts kk tpos, .Call (.Attribute e "items" apos) [] [] cpos, ifs, 0⟩] scope pos) (tP T W (mLcI i (own.map (·.2)) f mt me)) :=
  pe_of (pe_lock (pe_lc (own := own) (g := g) (tt := tT T WF mt) hc hN (pi_items hv hbase hline) ok hg ht he hs)) fun _ _ _ => i_lcI htg
end
end Tr

/-! TsI: operations whose first operand may change something. -/
namespace Tr
open PySem L2
@[simp] def e2 (f : List D → Option D) (me : EE) (mb : ME) : EE := fun env => match me env with
  | .ok r env' => if copyD r.d = true then (match mb env' with
    | .ok rb => match f [r.d, rb.d] with
      | some z => .ok (.own z) env'
      | none => .er
    | .ex x => .ex x env'
    | .er => .er) else .er
  | .ex x env' => .ex x env'
  | .er => .er
section
variable {X : Cx} {T : Tab} {W : WX} {e a b : Expr} {me : EE} {mb : ME} {S B H : Hp} {mss : List Cells} {env : En} {σ : L2.St} {v : V} {r : Rs}
theorem RFe.rd (R : SRx T S B env mss σ H) (f : RFe T S B H mss r v) : Ros T B H [r.d] [v] := by
  cases r with
  | own d => obtain ⟨ms, h1, h2, _⟩ := f; exact h1.ro (R.bs.trans R.sh) fun c hc => (h2.2 c hc).1
  | ro d => exact Ros.mono f R.sh (Same.refl _)
  | bor i d => obtain ⟨m, h1, h2⟩ := f; exact h2.mono (Wi.le R.sh (R.ok i m h1)) (Same.refl _)
theorem i_e2 {f : List D → Option D} {rr : R2} (hf : VS2 T f rr) {Q : VK} (h : tE T W (e2 f me mb) σ H Q) : tOp rr (tE T W me) (tP T W mb) σ H Q := by
  obtain ⟨S, B, env, mss, R, q⟩ := h
  refine ⟨S, B, env, mss, R, ?_⟩
  cases ha : me env with
  | ok ra env' =>
    simp only [e2, ha] at q
    intro S1 B1 H1 mss1 v g R1 f1
    split at q
    · rename_i hc
      refine ⟨S1, B1, env', mss1, R1, ?_⟩
      cases hb : mb env' with
      | ok rb =>
        simp only [hb] at q
        intro S2 B2 H2 w g2 f2
        have R2 := R1.grow g2
        cases hz : f [ra.d, rb.d] with
        | none => simp only [hz] at q; exact q.elim
        | some z =>
          simp only [hz] at q
          have r1 := (f1.rd R1).mono g2.h g2.w.b
          have gv := hf B2 H2 [ra.d, rb.d] [v, w] z (R2.bs.trans R2.sh) (ros2 r1 (f2.read R2)) hz
          have q2 : PP T W S2 B2 mss1 σ H2 Q (.ok (.own z)) := fun S3 B3 H3 x g3 f3 => q S3 B3 H3 mss1 x ((g.trans g2.w).trans g3.w) (R2.grow g3) (RF.toE R2 f3)
          obtain ⟨x, y, e, hx⟩ := gv.run (mss := mss1) (Q := Q) R2.bs R2.sh q2
          cases e
          exact hx
      | ex x => simp only [hb] at q; exact fun S2 B2 H2 cls d g2 x2 => q S2 B2 H2 mss1 cls d (g.trans g2.w) (R1.grow g2) x2
      | er => simp only [hb] at q; exact q
    · exact q.elim
  | ex x env' => simp only [e2, ha] at q; exact q
  | er => simp only [e2, ha] at q; exact q
theorem te_cmpE {f : List D → Option D} {rr : R2} (hf : VS2 T f rr) (h : PT X e (tB (tOp rr (tE T W me) (tP T W mb)))) : PT X e (tT T W (tBl (e2 f me mb))) := te_bl (ptB_of h fun _ _ _ => i_e2 hf)
theorem ee_e2 {f : List D → Option D} {rr : R2} (hf : VS2 T f rr) (h : PE X e (tOp rr (tE T W me) (tP T W mb))) : PE X e (tE T W (e2 f me mb)) := pe_of h fun _ _ _ => i_e2 hf
end
end Tr

/-! TsJ: a list and a list that stands still, put together. -/
namespace Tr
open PySem L2
theorem copy_cover (d : D) : copyD (cover d) = true := by
  unfold cover
  split
  · rename_i h; exact h
  · rfl
theorem copyDs_cover : ∀ ds : List D, copyDs (ds.map cover) = true
  | [] => rfl
  | d :: ds => by simp only [List.map_cons, copyDs, copy_cover, copyDs_cover ds, Bool.and_self]
def fAddC : List D → Option D
  | [a, .fz (.lst ys)] => match unfz a with
    | .lst xs => if copyDs xs && decide (xs.length + ys.length ≤ 1000000) then some (.lst (xs ++ ys.map cover)) else none
    | _ => none
  | _ => none
theorem vs_addC {T : Tab} : VS2 T fAddC rCat := by
  intro B H ds vs z bh ro h
  unfold fAddC at h
  split at h
  · rename_i a ys
    split at h
    · rename_i xs ea
      split at h
      · rename_i hc
        cases h
        simp only [Bool.and_eq_true, decide_eq_true_eq] at hc
        obtain ⟨v, u, rfl, r1, r2⟩ := ros_c2 ro
        have q1 := ros_unfz bh r1
        rw [ea] at q1
        obtain ⟨l, ws, rfl, h1, p1⟩ := ros_lst q1
        cases r2 with
        | fz r0 _ =>
          obtain ⟨m, us, rfl, h2, p2⟩ := ros_lst r0
          have p3 := ros_cover (S := H) p2
          have l1 := p1.len
          have l2 := p2.len
          exact .lst (copy_own (ros_append p1 p3) (by rw [copyDs_append, hc.1, copyDs_cover]; rfl)) fun Q q => ⟨_, _, rfl, l, m, ws, us, rfl, rfl, h1, bh _ _ h2, le_line (by omega), q⟩
      · cases h
    · cases h
  · cases h
abbrev fAddX := orF fAdd fAddC
theorem vs_addX {T : Tab} : VS2 T fAddX (fun x y H Q => ((∃ i j, x = .int i ∧ y = .int j ∧ Q (.int (i + j)) H) ∨ (∃ i j, x = .str i ∧ y = .str j ∧ i.length + j.length ≤ sizeLine ∧ Q (.str (i ++ j)) H) ∨ rCat x y H Q) ∨ rCat x y H Q) := VS2.or vs_add vs_addC
theorem op_addX {X : Cx} : OpR X (binaryOp .Add) (fun x y H Q => ((∃ i j, x = .int i ∧ y = .int j ∧ Q (.int (i + j)) H) ∨ (∃ i j, x = .str i ∧ y = .str j ∧ i.length + j.length ≤ sizeLine ∧ Q (.str (i ++ j)) H) ∨ rCat x y H Q) ∨ rCat x y H Q) := OpR.or op_addP op_cat
end Tr

/-! TsK: xs.pop(), xs.pop(i) of things that may be copied. -/
namespace Tr
open PySem L2
section
variable {T : Tab} {B S H : Hp}
theorem owns_pick : ∀ {xs : List D} {ws : List V} {k : Nat} {y : D}, Owns T B xs ws [] → xs[k]? = some y → ∃ w, ws[k]? = some w ∧ Owns T B [y] [w] [] ∧ Owns T B (xs.eraseIdx k) (ws.eraseIdx k) [] := by
  intro xs
  induction xs with
  | nil => intro ws k y o h; simp at h
  | cons x xs ih =>
    intro ws k y o h
    obtain ⟨v, us, m1, m2, rfl, e, o1, o2⟩ := owns_uncons o
    have e := List.append_eq_nil_iff.mp e.symm
    rw [e.1] at o1; rw [e.2] at o2
    cases k with
    | zero =>
      simp at h; subst h
      exact ⟨v, rfl, o1, by simpa using o2⟩
    | succ k =>
      obtain ⟨w, h1, h2, h3⟩ := ih o2 (k := k) (y := y) (by simpa using h)
      exact ⟨w, by simpa using h1, h2, by simpa using owns_app (m := []) (n := []) o1 h3⟩
def opPopAt : D → List D → Option (D × D)
  | .lst xs, [.im (.int i)] => if copyDs xs && decide (-(2 ^ 63) ≤ i ∧ i < 2 ^ 63) then (match seqIndex? i xs.length with
    | some k => match xs[k]? with
      | some y => some (.lst (xs.eraseIdx k), y)
      | none => none
    | none => none) else none
  | _, _ => none
theorem mu_popAt : MutS T opPopAt rPopAt := by
  intro B S H x u mx ds vs me x' res ox okx od oke ap bh h
  unfold opPopAt at h
  split at h
  · rename_i xs i
    split at h
    · rename_i hc
      simp only [Bool.and_eq_true, decide_eq_true_eq] at hc
      split at h
      · rename_i k hk
        split at h
        · rename_i y hy
          simp only [Option.some.injEq, Prod.mk.injEq] at h
          obtain ⟨rfl, rfl⟩ := h
          cases ox with
          | @lst a ws _ _ _ m _ q r =>
            cases r
            rw [List.append_nil] at *
            have em := copy_nil q hc.1
            subst em
            have ev : vs = [.int i] := by
              cases od with
              | im _ r => cases r; rfl
            subst ev
            obtain ⟨w, hw, o1, o2⟩ := owns_pick q hy
            obtain ⟨z1, z2, z3, z4, z5, z6⟩ := mut_list (ws' := ws.eraseIdx k) okx oke ap o2 o1 (by simp) (fun _ h => nomatch h) (fun _ h => nomatch h)
            exact ⟨a, _, _, _, _, z1, z2, z3, z4, z5, z6, fun Q kq => ⟨a, ws, i, k, w, rfl, rfl, (okx.2 _ List.mem_cons_self).1, hc.2.1, hc.2.2, by rw [← q.len]; exact hk, hw, kq⟩⟩
        · cases h
      · cases h
    · cases h
  · cases h
def opPop : D → List D → Option (D × D)
  | .lst xs, [] => if copyDs xs then (match xs[xs.length - 1]? with
    | some y => some (.lst (xs.eraseIdx (xs.length - 1)), y)
    | none => none) else none
  | _, _ => none
theorem drop_last {α : Type} (xs : List α) : xs.eraseIdx (xs.length - 1) = xs.dropLast := by
  induction xs with
  | nil => rfl
  | cons x xs ih =>
    cases xs with
    | nil => rfl
    | cons y ys => simpa using ih
theorem mu_pop : MutS T opPop rPop := by
  intro B S H x u mx ds vs me x' res ox okx od oke ap bh h
  unfold opPop at h
  split at h
  · rename_i xs
    split at h
    · rename_i hc
      split at h
      · rename_i y hy
        simp only [Option.some.injEq, Prod.mk.injEq] at h
        obtain ⟨rfl, rfl⟩ := h
        cases ox with
        | @lst a ws _ _ _ m _ q r =>
          cases r
          cases od
          rw [List.append_nil] at *
          have em := copy_nil q hc
          subst em
          obtain ⟨w, hw, o1, o2⟩ := owns_pick q hy
          have hl : xs.length = ws.length := q.len
          rw [hl] at hw
          have e2 : ws.eraseIdx (xs.length - 1) = ws.dropLast := by rw [hl, drop_last]
          rw [e2] at o2
          obtain ⟨z1, z2, z3, z4, z5, z6⟩ := mut_list (ws' := ws.dropLast) okx oke ap o2 o1 (by simp) (fun _ h => nomatch h) (fun _ h => nomatch h)
          exact ⟨a, _, _, _, _, z1, z2, z3, z4, z5, z6, fun Q kq => ⟨a, ws, w, rfl, rfl, (okx.2 _ List.mem_cons_self).1, hw, kq⟩⟩
      · cases h
    · cases h
  · cases h
end
end Tr

/-! TsL: zip of two lists that stand in places. -/
namespace Tr
open PySem L2
section
variable {X : Cx} {T : Tab} {W : WX} {tg e : Expr} {ma mb : ME} {S B H S' B' H' S0 B0 : Hp} {env : En} {mss : List Cells} {σ : L2.St}
def zpD (xs ys : List D) : List D := (xs.zip ys).map fun p => .tup [p.1, p.2]
theorem its_zip {a b : Addr} {xs ys : List D} (h1 : LsAt T S0 B0 a xs) (h2 : LsAt T S0 B0 b ys) : ItS T S0 B0 (Itz T.K a b) (zpD xs ys) := by
  obtain ⟨ws, hs1, ro1⟩ := h1
  obtain ⟨us, hs2, ro2⟩ := h2
  intro S B H s0 b0 bs sh i
  have hH1 : SqL T.K H a ws := sql_mono (s0.trans sh) hs1
  have hH2 : SqL T.K H b us := sql_mono (s0.trans sh) hs2
  refine ⟨fun d h => ?_, fun h => ?_⟩
  · simp only [zpD, List.getElem?_map, Option.map_eq_some_iff] at h
    obtain ⟨⟨x, y⟩, hz, rfl⟩ := h
    obtain ⟨hx, hy⟩ := List.getElem?_zip_eq_some.mp hz
    obtain ⟨v, hv, r1⟩ := ros_at ro1 hx
    obtain ⟨u, hu, r2⟩ := ros_at ro2 hy
    refine ⟨⟨ws, us, v, u, hH1, hH2, hv, hu⟩, fun z H' yl => ?_⟩
    obtain ⟨p, v', u', rfl, hp, rfl, y1, y2⟩ := yl
    have e1 := y1 ws hH1
    have e2 := y2 us hH2
    rw [hv] at e1; cases e1
    rw [hu] at e2; cases e2
    have gr := Gr.tup (o := .tup [v, u]) bs sh hp
    have q1 := (r1.mono s0 b0).mono gr.w.s gr.w.b
    have q2 := (r2.mono s0 b0).mono gr.w.s gr.w.b
    exact ⟨_, _, gr, .tup upd_same (ros2 q1 q2) .nil⟩
  · refine ⟨ws, us, hH1, hH2, ?_⟩
    have := List.getElem?_eq_none_iff.mp h
    simp only [zpD, List.length_map, List.length_zip] at this
    rw [← ro1.len, ← ro2.len]
    omega
theorem fz1 {i : Nat} {m : Cells} {Sf : Hp} (f : FzOk S mss [i] Sf) (h : mss[i]? = some m) : Sf = Wi S m := by
  cases f with
  | cons h' r =>
    rw [h] at h'; cases h'
    cases r; rfl
theorem fz2 {i j : Nat} {m1 m2 : Cells} {Sf : Hp} (f : FzOk S mss [i, j] Sf) (h1 : mss[i]? = some m1) (h2 : mss[j]? = some m2) (ap : i ≠ j → Apart m1 m2) : Same (Wi S m1) Sf ∧ Same (Wi S m2) Sf := by
  cases f with
  | cons h' r =>
    rw [h1] at h'; cases h'
    cases r with
    | cons h'' r =>
      cases r
      by_cases e : i = j
      · subst e
        rw [h1] at h2; cases h2
        exact ⟨Wi.same, Wi.same⟩
      · rw [List.getElem?_set_ne e, h2] at h''
        cases h''
        refine ⟨Wi.same, fun a o h => ?_⟩
        unfold Wi at h ⊢
        cases hs : S a with
        | some u => rw [hs] at h; simp only at h ⊢; exact h
        | none =>
          rw [hs] at h
          simp only at h ⊢
          have hm : (a, o) ∈ m2 := mem_of_lookup' h
          have hn : m1.lookup a = none := by
            cases hl : m1.lookup a with
            | none => rfl
            | some o' => exact absurd rfl (ap e (a, o') (mem_of_lookup' hl) (a, o) hm)
          rw [hn]
          exact h
@[simp] def noOwn : Rs → Bool
  | .own _ => false
  | _ => true
@[simp] def iZp (ma mb : ME) : MI := fun env => match ma env with
  | .ok r => match mb env with
    | .ok s => if noOwn r && noOwn s then (match itemsOf r.d with
      | some xs => match itemsOf s.d with
        | some ys => .ok (zpD xs ys) (rootOf r ++ rootOf s)
        | none => .er
      | none => .er) else .er
    | .ex x => .ex x
    | .er => .er
  | .ex x => .ex x
  | .er => .er
/-- a place's list, where what it stands in stands still -/
theorem place_ls {r : Rs} {v : V} {m : Cells} {items : List D} {Sf : Hp} (R : SRx T S' B' env mss σ H') (hn : noOwn r = true) (f : RFc T S' B' H' H mss r v m) (h : itemsOf r.d = some items) (s0 : Same S' Sf) (hs : ∀ i mi, r = .bor i r.d → mss[i]? = some mi → Same (Wi S' mi) Sf) : ∃ a, v = .ref a ∧ LsAt T Sf B' a items := by
  cases r with
  | own d => cases hn
  | ro d =>
    obtain ⟨a, rfl, ws, l1, l2⟩ := ls_of f.2 R.bs h
    exact ⟨a, rfl, ws, sql_mono s0 l1, l2.mono s0 (Same.refl _)⟩
  | bor i d =>
    obtain ⟨_, mi, h1, h2⟩ := f
    obtain ⟨a, rfl, ws, l1, l2⟩ := ls_of h2 (R.bs.trans Wi.same) h
    have s1 := hs i mi rfl h1
    exact ⟨a, rfl, ws, sql_mono s1 l1, l2.mono s1 (Same.refl _)⟩
theorem ip_zip (hK : X.K = T.K) (h : PI X tg e (iZip X.K (tPK T W [.p ma, .p mb]))) : PI X tg e (tI T W (iZp ma mb)) := by
  refine pi_of' h fun σ H R ⟨S, B, env, mss, Rx, q⟩ => ⟨S, B, env, mss, Rx, ?_⟩
  simp only [iZp] at q
  cases hm : ma env with
  | ok r =>
    simp only [hm] at q
    cases hm2 : mb env with
    | ok s =>
      simp only [hm2] at q
      simp only [aKs, hm, hm2]
      intro S' B' H' vs css g f
      split at q
      · rename_i hno
        simp only [Bool.and_eq_true] at hno
        cases h1 : itemsOf r.d with
        | none => simp only [h1] at q; exact q.elim
        | some xs =>
          cases h2 : itemsOf s.d with
          | none => simp only [h1, h2] at q; exact q.elim
          | some ys =>
            simp only [h1, h2] at q
            have R' := Rx.grow g
            cases f with
            | @r _ v mc _ vs css fc t ap =>
              cases t with
              | @r _ u md _ vs css fd t ap2 =>
                cases t
                have rd1 : Ros T B' H' [r.d] [v] := by
                  cases r with
                  | own d => cases hno.1
                  | ro d => exact Ros.mono fc.2 g.sh (Same.refl _)
                  | bor i d => obtain ⟨_, m', k1, k2⟩ := fc; exact k2.mono (Wi.le g.sh (R'.ok i m' k1)) (Same.refl _)
                have rd2 : Ros T B' H' [s.d] [u] := by
                  cases s with
                  | own d => cases hno.2
                  | ro d => exact Ros.mono fd.2 g.sh (Same.refl _)
                  | bor i d => obtain ⟨_, m', k1, k2⟩ := fd; exact k2.mono (Wi.le g.sh (R'.ok i m' k1)) (Same.refl _)
                obtain ⟨a, ea, ws, hs1, _⟩ := ls_of rd1 (g.bs.trans g.sh) h1
                obtain ⟨b, eb, us, hs2, _⟩ := ls_of rd2 (g.bs.trans g.sh) h2
                subst ea eb
                refine ⟨a, b, ws, us, rfl, hK ▸ hs1, hK ▸ hs2, ?_⟩
                rw [hK]
                refine q S' B' H' _ g fun Sf hz _ => ?_
                have key : Same S' Sf ∧ (∀ i mi, r = .bor i r.d → mss[i]? = some mi → Same (Wi S' mi) Sf) ∧ (∀ i mi, s = .bor i s.d → mss[i]? = some mi → Same (Wi S' mi) Sf) := by
                  cases r with
                  | own d => cases hno.1
                  | ro d =>
                    cases s with
                    | own d => cases hno.2
                    | ro d2 =>
                      cases hz
                      exact ⟨Same.refl _, fun _ _ z => (by cases z), fun _ _ z => (by cases z)⟩
                    | bor j d2 =>
                      obtain ⟨_, m', k1, _⟩ := fd
                      have e1 := fz1 hz k1
                      subst e1
                      exact ⟨Wi.same, fun _ _ z => (by cases z), fun i mi z hi => by cases z; rw [k1] at hi; cases hi; exact Same.refl _⟩
                  | bor i d =>
                    obtain ⟨_, m1, k1, _⟩ := fc
                    cases s with
                    | own d => cases hno.2
                    | ro d2 =>
                      have e1 := fz1 hz k1
                      subst e1
                      exact ⟨Wi.same, fun i mi z hi => by cases z; rw [k1] at hi; cases hi; exact Same.refl _, fun _ _ z => (by cases z)⟩
                    | bor j d2 =>
                      obtain ⟨_, m2, k2, _⟩ := fd
                      obtain ⟨q1, q2⟩ := fz2 hz k1 k2 fun hij => Rx.ap i j m1 m2 hij k1 k2
                      exact ⟨Wi.same.trans q1, fun i mi z hi => by cases z; rw [k1] at hi; cases hi; exact q1, fun i mi z hi => by cases z; rw [k2] at hi; cases hi; exact q2⟩
                obtain ⟨a1, ea, l1⟩ := place_ls R' hno.1 fc h1 key.1 key.2.1
                obtain ⟨b1, eb, l2⟩ := place_ls R' hno.2 fd h2 key.1 key.2.2
                cases ea
                cases eb
                exact its_zip l1 l2
      · exact q.elim
    | ex x => simp only [hm2] at q; simp only [aKs, hm, hm2]; exact q
    | er => simp only [hm2] at q; exact q.elim
  | ex x => simp only [hm] at q; simp only [aKs, hm]; exact q
  | er => simp only [hm] at q; exact q.elim
end
end Tr

/-! TsM: d.get(k, x), d.get(k): values that may be copied. -/
namespace Tr
open PySem L2
@[simp] def mG2 (ma mb mc : ME) : ME := fun env => match ma env with
  | .ok ra => match unfz ra.d with
    | .dct ks xs => match mb env with
      | .ok rb => match keyOf rb.d with
        | some k => match mc env with
          | .ok rc => if copyD rc.d = true then (match dlook ks xs k with
            | some y => if copyD y = true then .ok (.own y) else .er
            | none => .ok (.own rc.d)) else .er
          | .ex x => .ex x
          | .er => .er
        | none => .er
      | .ex x => .ex x
      | .er => .er
    | _ => .er
  | .ex x => .ex x
  | .er => .er
section
variable {X : Cx} {T : Tab} {W : WX} {e o f : Expr} {ma mb mc : ME} {S B H : Hp} {mss : List Cells} {env : En} {σ : L2.St} {apos cpos : Pos}
theorem i_g2 {Q : VK} (h : tP T W (mG2 ma mb mc) σ H Q) : tDGet2 (tP T W ma) (tP T W mb) (tP T W mc) σ H Q := by
  obtain ⟨S, B, env, mss, R, q⟩ := h
  refine ⟨S, B, env, mss, R, ?_⟩
  cases ha : ma env with
  | ex x => simp only [mG2, ha] at q; exact q
  | er => simp only [mG2, ha] at q; exact q
  | ok ra =>
    intro S1 B1 H1 v g1 f1
    simp only [mG2, ha] at q
    have R1 := R.grow g1
    split at q
    · rename_i ks xs hd
      have r0 := ros_unfz (R1.bs.trans R1.sh) (f1.read R1)
      rw [hd] at r0
      obtain ⟨a, ws, rfl, h1, hl, qx⟩ := ros_dct r0
      refine ⟨a, rfl, .inl ⟨_, h1⟩, S1, B1, env, mss, R1, ?_⟩
      cases hb : mb env with
      | ex x => simp only [hb] at q; exact q.grow g1
      | er => simp only [hb] at q; exact q.elim
      | ok rb =>
        simp only [hb] at q
        intro S2 B2 H2 y g2 f2
        have R2 := R1.grow g2
        cases hk : keyOf rb.d with
        | none => simp only [hk] at q; exact q.elim
        | some k =>
          simp only [hk] at q
          have ey := ros_key (f2.read R2) hk
          refine ⟨S2, B2, env, mss, R2, ?_⟩
          cases hc : mc env with
          | ex x => simp only [hc] at q; exact (q.grow g1).grow g2
          | er => simp only [hc] at q; exact q.elim
          | ok rc =>
            simp only [hc] at q
            intro S3 B3 H3 z g3 f3
            have R3 := R2.grow g3
            split at q
            · rename_i hcp
              have h3 : Rd H3 a (.dK (ks.zip ws)) := rd_mono (g2.h.trans g3.h) h1
              have qx3 := qx.mono (g2.h.trans g3.h) (g2.w.b.trans g3.w.b)
              refine ⟨valV (ks.zip ws) k, .inl ⟨_, k, h3, ey, rfl⟩, ?_⟩
              cases hy : dlook ks xs k with
              | some d =>
                simp only [hy] at q
                obtain ⟨u, e1, e2⟩ := (ros_look qx3 hl).1 _ hy
                rw [e1]
                split at q
                · rename_i hcd
                  exact (Gives.cpy (r := fun Q : VK => Q u H3) e2 hcd fun Q q => q).run (mss := mss) (Q := Q) R3.bs R3.sh (((q.grow g1).grow g2).grow g3)
                · exact q.elim
              | none =>
                simp only [hy] at q
                rw [(ros_look qx3 hl).2 hy]
                exact (Gives.cpy (r := fun Q : VK => Q z H3) (f3.read R3) hcp fun Q q => q).run (mss := mss) (Q := Q) R3.bs R3.sh (((q.grow g1).grow g2).grow g3)
            · exact q.elim
    · exact q.elim
theorem ep_g2 (hu : X.A.units + 1 < cLine) (ho : PE X o (tP T W ma)) (he : PE X e (tP T W mb)) (hf : PE X f (tP T W mc)) (m : M2 X o "get" apos e f cpos) : PE X (.Call (.Attribute o "get" apos) [e, f] [] cpos) (tP T W (mG2 ma mb mc)) := pe_of (pe_dget2 hu ho he hf m) fun _ _ _ => i_g2
end
end Tr

/-! TsN: name += e, name -= e, whole numbers. -/
namespace Tr
open PySem L2
@[simp] def sAug (i : Nat) (g : Int → Int → Int) (m : ME) : MS := fun env => match env[i]? with
  | some (some (.own (.im (.int a)))) => match m env with
    | .ok r => match r.d with
      | .im (.int b) => .nx (env.set i (some (.own (.im (.int (g a b))))))
      | _ => .er
    | .ex x => .ex x env
    | .er => .er
  | _ => .er
section
variable {X : Cx} {T : Tab} {W : WX} {pin : Pins} {σ0 : L2.St} {e : Expr} {m : ME} {pos pos' : Pos} {g : Int → Int → Int} {op : Operator} {i : Nat} {x : Str}
theorem ss_aug (hN : X.N.Nodup) (hi : X.N[i]? = some x) (hx : Loc X.env.scope x) (hpin : pin i = false) (he : PE X e (tP T W m)) (ho : PIp X op (ipI g))
    (hf : X.fn x = true ∨ X.env.scope.names.lookup x = some .local := by first | exact .inl rfl | exact .inr rfl | assumption) : PS X (.AugAssign (.Name x pos') op e pos) (tS T W pin σ0 (sAug i g m)) := by
  refine ps_of (ps_aug hN hi hx he ho hf) fun D σ H ⟨S, B, env, mss, R, hp, q⟩ => ?_
  simp only [sAug] at q
  split at q
  · rename_i a ha
    obtain ⟨v, mc, h1, _, own, _⟩ := R.own ha
    have ev : v = .int a := by
      cases own with
      | im _ r => cases r; rfl
    subst ev
    refine ⟨.int a, h1, S, B, env, mss, R, ?_⟩
    cases hm : m env with
    | ok r =>
      simp only [hm] at q
      intro S' B' H' w gr f
      have R' := R.grow gr
      split at q
      · rename_i b hb
        have rd := f.read R'
        rw [hb] at rd
        cases ros_im1 rd
        exact ⟨a, b, rfl, rfl, setS_ok (r := .own (.im (.int (g a b)))) hpin R' hp (RFe.imm rfl) (q.gw gr.w)⟩
      · exact q.elim
    | ex x => simp only [hm] at q; exact fun S' B' H' cls d gr f => q S' B' mss σ H' cls d gr.w (R.grow gr) hp f
    | er => simp only [hm] at q; exact q.elim
  · exact q.elim
end
end Tr

/-! TsO: xs[i] op= e, by values. -/
namespace Tr
open PySem L2 PySem.Spec PyProof.Rows
theorem get_list {X : Cx} : PGet X (rIxL X.K) := by
  intro pins s σ H x y v u Q I rx ry h
  obtain ⟨p, xs, i, z, rfl, rfl, hq, he, q⟩ := h
  cases rx
  obtain ⟨t, rfl⟩ := ry
  obtain ⟨its, r, pl, hz⟩ := I.list hq
  obtain ⟨j, h1, h2, h3, h4, h5⟩ := atI_get he
  obtain ⟨w, ew, rw'⟩ := r.get h2
  have hl := r.length
  have hn := line63
  have fin : EP X pins σ Q w s := ⟨z, H, I, rw', q⟩
  by_cases h0 : 0 ≤ i
  · have hj : i.toNat = j := by
      rw [seqIndex_of h0 h5] at h1
      exact Option.some.inj h1
    exact wpAny_getItem_list pl.isList h0 (by omega) (by rw [hj]; simpa using ew) fin
  · have hj : (i + (its.toArray.size : Int)).toNat = j := by
      rw [seqIndex_neg (by omega) h4] at h1
      rw [List.size_toArray, ← hl]
      exact Option.some.inj h1
    exact wpAny_getItem_list_neg (Q := fun r s' => EP X pins σ Q r s') pl.isList (by omega) (by rw [List.size_toArray] <;> omega) (by omega) (by rw [hj]; simpa using ew) fin
@[simp] def sAugL (g : Int → Int → Int) (ml : ML) (mi me : ME) : MS := fun env => match ml env with
  | .ok i p => match mi env with
    | .ok ri => match ri.d with
      | .im (.int k) => match env[i]? with
        | some (some (.own d)) => match getP p d with
          | some (.lst xs) => match L2.atI xs k with
            | some (.im (.int a)) => match me env with
              | .ok re => match re.d with
                | .im (.int b) => match opSetI (.lst xs) [.im (.int k), .im (.int (g a b))] with
                  | some (x', _) => .nx (env.set i (some (.own (setP p d x'))))
                  | none => .er
                | _ => .er
              | .ex x => .ex x env
              | .er => .er
            | _ => .er
          | _ => .er
        | _ => .er
      | _ => .er
    | .ex x => .ex x env
    | .er => .er
  | .ex x => .ex x env
  | .er => .er
section
variable {X : Cx} {T : Tab} {W : WX} {pin : Pins} {σ0 : L2.St} {e o ie : Expr} {ml : ML} {mi me : ME} {pos tpos : Pos} {g : Int → Int → Int} {op : Operator}
theorem ss_augL (hK : X.K = T.K) (ho : PE X o (tL T W ml)) (hi : PE X ie (tP T W mi)) (he : PE X e (tP T W me)) (hp : PIp X op (ipI g))
    (ha : ∀ ov iv new, augStore ie ov iv new = (do holding [new, ov, iv] (setItem ov iv new); release [new, ov, iv] []; pure .next) := by intros; rfl) : PS X (.AugAssign (.Subscript o ie tpos) op e pos) (tS T W pin σ0 (sAugL g ml mi me)) := by
  refine ps_of (ps_augS ho hi get_list he hp set_list ha) fun D σ H ⟨S, B, env, mss, R, hpn, q⟩ => ⟨S, B, env, mss, R, ?_⟩
  cases hl : ml env with
  | ex x => simp only [sAugL, hl] at q; exact fun S3 B3 H3 cls d g3 ef => q S3 B3 mss σ H3 cls d g3.w (R.grow g3) hpn ef
  | er => simp only [sAugL, hl] at q; exact q
  | ok i p =>
    simp only [sAugL, hl] at q
    intro S2 B2 H2 v u g2 hv hu
    have R2 := R.grow g2
    refine ⟨S2, B2, env, mss, R2, ?_⟩
    cases hm : mi env with
    | ex x => simp only [hm] at q; exact fun S3 B3 H3 cls d g3 ef => q S3 B3 mss σ H3 cls d (g2.w.trans g3.w) (R2.grow g3) hpn ef
    | er => simp only [hm] at q; exact q
    | ok ri =>
      simp only [hm] at q
      intro S3 B3 H3 w g3 f3
      have R3 := R2.grow g3
      have rd := f3.read R3
      split at q
      · rename_i k hk
        rw [hk] at rd
        cases ros_im1 rd
        split at q
        · rename_i d hd
          split at q
          · rename_i xs hgp
            split at q
            · rename_i a hat
              have hu3 := valP_mono g3.h hu
              obtain ⟨v', u', mx, e1, e2, own, okx, _, _⟩ := R3.mut hd hgp
              rw [hv] at e1; cases e1
              rw [hu3] at e2; cases e2
              have r0 : Ros T B3 H3 [.lst xs] [u] := own.ro (R3.bs.trans R3.sh) fun c hc => (okx.2 c hc).1
              obtain ⟨ad, ws, rfl, h1, rx⟩ := ros_lst r0
              obtain ⟨z, hz, rz⟩ := ros_atI rx hat
              cases ros_im1 rz
              refine ⟨ad, ws, k, _, rfl, rfl, hK ▸ SqL.of h1, hz, S3, B3, env, mss, R3, ?_⟩
              cases hme : me env with
              | ex x => simp only [hme] at q; exact fun S4 B4 H4 cls d g4 ef => q S4 B4 mss σ H4 cls d ((g2.w.trans g3.w).trans g4.w) (R3.grow g4) hpn ef
              | er => simp only [hme] at q; exact q.elim
              | ok re =>
                simp only [hme] at q
                intro S4 B4 H4 y g4 f4
                have R4 := R3.grow g4
                have rd4 := f4.read R4
                split at q
                · rename_i b hb
                  rw [hb] at rd4
                  cases ros_im1 rd4
                  refine ⟨a, b, rfl, rfl, ?_⟩
                  split at q
                  · rename_i x' res hop
                    have od : Owns T B4 [.im (.int k), .im (.int (g a b))] [.int k, .int (g a b)] [] := .im rfl (.im rfl .nil)
                    have fin := mut_do (Q := fun _ H' => D.nx σ H') mu_setI R4 hd hgp hop od ⟨.nil, fun _ h => nomatch h⟩ (fun _ _ _ _ _ _ h => nomatch h) hv (valP_mono g4.h hu3) fun mss5 H5 w5 mr R5 _ _ _ => q S4 B4 mss5 σ H5 ((g2.w.trans g3.w).trans g4.w) R5 hpn
                    obtain ⟨i', v', e', fin⟩ := fin
                    cases e'
                    exact fin
                  · exact q.elim
                · exact q.elim
            · exact q.elim
          · exact q.elim
        · exact q.elim
      · exact q.elim
end
end Tr

/-! TsP: a text in a text. -/
namespace Tr
open PySem L2
def fInT : List D → Option D
  | [.im (.str a), .im (.str z)] => some (.im (.bl (decide (Txt.find z a ≠ -1))))
  | _ => none
def rInT : R2 := fun x y H Q => ∃ a z : Str, x = .str a ∧ y = .str z ∧ Q (.bl (decide (Txt.find z a ≠ -1))) H
theorem find_in (x y : Str) : (!(Builtin.Str.occurrences x y 0 x.length 1).isEmpty) = decide (Txt.find x y ≠ -1) := by
  unfold Txt.find
  cases Builtin.Str.occurrences x y 0 x.length 1 with
  | nil => rfl
  | cons i r =>
    have : ¬ ((i : Int) = -1) := by omega
    simp [this]
section
variable {X : Cx}
theorem op_inT : OpR X (compareOp .In) rInT := by
  intro pins s σ H x y v u Q I rx ry h
  obtain ⟨c, z, rfl, rfl, q⟩ := h
  obtain ⟨t, rfl⟩ := rx
  obtain ⟨t', rfl⟩ := ry
  exact PyProof.Rows.in_str (fin_bl I q (find_in z c).symm)
end
section
variable {T : Tab}
theorem vs_inT : VS2 T fInT rInT := by
  intro B H ds vs z bh ro h
  unfold fInT at h
  split at h
  · rename_i a y
    cases h
    rw [ros_im2 ro]
    exact .im rfl fun Q k => ⟨_, _, rfl, a, y, rfl, rfl, k⟩
  · cases h
end
/-- the first place of a text in a text -/
theorem find_first (x y : Str) : (Txt.find x y = -1 ∧ ∀ i, ¬ StrLaws.At x y x.length i) ∨ ∃ i : Nat, Txt.find x y = (i : Int) ∧ StrLaws.At x y x.length i ∧ ∀ k, k < i → ¬ StrLaws.At x y x.length k := by
  unfold Txt.find
  rcases StrLaws.occ_head x y 1 (Nat.le_refl 1) with ⟨h0, hn⟩ | ⟨i, r, h0, hi, hn⟩
  · rw [h0]; exact .inl ⟨rfl, hn⟩
  · rw [h0]; exact .inr ⟨i, rfl, hi, hn⟩
end Tr

/-! ToA: len(set(xs)), xs a list of texts, as many as one likes. -/
namespace Tr
open PySem L2 PySem.Spec PyProof.Rows
/-- a text more, where it is not there -/
def dd1 (acc : List Str) (v : Str) : List Str := if acc.any (· == v) then acc else acc ++ [v]
def ddS (xs : List Str) : List Str := xs.foldl dd1 []
theorem dd1_any (acc : List Str) (v k : Str) : (dd1 acc v).any (· == k) = (acc.any (· == k) || decide (k = v)) := by
  unfold dd1
  by_cases h : acc.any (· == v) = true
  · rw [if_pos h]
    by_cases e : k = v
    · subst e; rw [h]; simp
    · simp [e]
  · rw [if_neg h, List.any_append]
    by_cases e : k = v
    · subst e; simp
    · have hb : (v == k) = false := by simpa [beq_iff_eq] using (fun h' : v = k => e h'.symm)
      simp [hb, e]
theorem dd1_len (acc : List Str) (v : Str) : (dd1 acc v).length = if acc.any (· == v) then acc.length else acc.length + 1 := by
  unfold dd1; split <;> simp
theorem ddS_succ {xs : List Str} {i : Nat} (h : i < xs.length) : ddS (xs.take (i + 1)) = dd1 (ddS (xs.take i)) (xs.getD i Str.empty) := by
  unfold ddS
  rw [List.take_add_one, List.getElem?_eq_getElem h, List.foldl_append, List.getD_eq_getElem?_getD, List.getElem?_eq_getElem h]
  rfl
theorem foldl_le : ∀ (xs acc : List Str), (xs.foldl dd1 acc).length ≤ acc.length + xs.length
  | [], acc => by simp
  | x :: xs, acc => by
    have h := foldl_le xs (dd1 acc x)
    have h2 := dd1_len acc x
    rw [List.foldl_cons, List.length_cons]
    split at h2 <;> omega
theorem ddS_le (xs : List Str) : (ddS xs).length ≤ xs.length := by
  have := foldl_le xs []
  simpa [ddS] using this
section
variable {prog : Program} {w : World} {A : Around} {R : Result → Shared → Prop} {I : Addr} {fp wr : List Addr} {G : Array GenState → Array GenState → Prop} {n : Nat} {P : Nat → Value → Prop} {St : Nat → Shared → Prop}
theorem loopSet (W : WalksS prog w A.in1 I fp wr G n P St) (S : Addr) (hSf : S ∉ fp) (xs : List Str) (hsz : xs.length = n) (hb : n + 1 < scanBound)
    (hval : ∀ i v, P i v → ∃ t, v = .str (xs.getD i Str.empty) t) :
    ∀ (k i : Nat) (s : Shared), n - i = k → i ≤ n → St i s →
      s.heap.SetOf (PySem.strKind prog w) S (fun k' => (ddS (xs.take i)).any (· == k')) (ddS (xs.take i)).length →
      (∀ s', Moved (S :: wr) G s s' → s'.heap.SetOf (PySem.strKind prog w) S (fun k' => (ddS (xs.take n)).any (· == k')) (ddS (xs.take n)).length → R (.ok (.ret .none)) s') →
      codeAny (model prog w) A (.builtin "set.update.loop" ⟨[.ref S, .ref I], []⟩) R s := by
  have hSw : S ∉ wr := fun h => hSf (W.sub _ h)
  have hsub : ∀ b ∈ wr, b ∈ S :: wr := fun b hb => List.mem_cons_of_mem _ hb
  intro k
  induction k with
  | zero =>
    intro i s hk hi hst hS hR
    obtain rfl : i = n := by omega
    refine codeAny_builtin PyProof.Rows.F.entry_set_update_loop ?_
    rw [Around.under_plainId PyProof.Rows.F.plain_set_update_loop _]
    show wpAny _ A.in1 (pyNext (.ref I) >>= _) _ _ s
    refine wpAny_bind (W.done s _ _ hst fun s' hm => ?_)
    show wpAny _ A.in1 (ret Value.none) _ _ s'
    refine wpAny_pure (hR s' (hm.mono hsub) ?_)
    obtain ⟨o, es, ep, t, ho, rest⟩ := hS
    exact ⟨o, es, ep, t, hm.heap S _ hSw ho, rest⟩
  | succ k ih =>
    intro i s hk hi hst hS hR
    have hlt : i < n := by omega
    refine codeAny_builtin PyProof.Rows.F.entry_set_update_loop ?_
    rw [Around.under_plainId PyProof.Rows.F.plain_set_update_loop _]
    show wpAny _ A.in1 (pyNext (.ref I) >>= _) _ _ s
    refine wpAny_bind (W.item i s _ _ hlt hst fun v s' hP hst' hm => ?_)
    obtain ⟨t, rfl⟩ := hval i v hP
    have hS' : s'.heap.SetOf (PySem.strKind prog w) S (fun k' => (ddS (xs.take i)).any (· == k')) (ddS (xs.take i)).length := by
      obtain ⟨o, es, ep, tb, ho, rest⟩ := hS
      exact ⟨o, es, ep, tb, hm.heap S _ hSw ho, rest⟩
    show wpAny _ A.in1 (holding [Value.str (xs.getD i Str.empty) t] (setAdd S (.str (xs.getD i Str.empty) t)) >>= _) _ _ s'
    refine wpAny_bind (wpAny_holding ?_)
    unfold setAdd
    refine wpAny_holding ?_
    refine wpAny_bind ((PySem.strKind prog w).pyHash (k := xs.getD i Str.empty) (strKind_is _ _ _ _) ?_)
    have room : (ddS (xs.take i)).length + 1 < scanBound := by
      have h1 := ddS_le (xs.take i)
      rw [List.length_take] at h1
      omega
    refine wpAny_setAddHashed_of (knd := PySem.strKind prog w) (s := { s' with toks := s'.toks + 1 }) (strKind_is _ _ _ _) rfl hS' room fun h' hsb hS2 => ?_
    have hSi : h'.SetOf (PySem.strKind prog w) S (fun k' => (ddS (xs.take (i + 1))).any (· == k')) (ddS (xs.take (i + 1))).length := by
      rw [ddS_succ (by omega)]
      exact SetOf_congr hS2 (fun k' => (dd1_any _ _ k').symm) (dd1_len _ _).symm
    refine wpAny_pure ⟨plainId_quiet PyProof.Rows.F.plain_set_update_loop _, ih (i + 1) _ (by omega) hlt (W.frame _ s' _ _ hst' (Nat.le_succ _) fun b hb o e => ?_) hSi fun s'' hm'' hS'' => ?_⟩
    · rw [hsb.2 b (fun h : b = S => hSf (by rw [← h]; exact hb))]; exact e
    · refine hR s'' (Moved.trans W.gtrans ((hm.mono hsub).then_heap (Nat.le_succ _) fun b o hb e => ?_) hm'') hS''
      rw [hsb.2 b (fun h : b = S => hb (by rw [h]; exact List.mem_cons_self))]; exact e
end
section
variable {prog : Program} {w : World} {A : Around} {E : Value → Shared → Prop} {s : Shared}
set_option maxHeartbeats 3200000 in
/-- set(xs), xs a list of texts -/
theorem callSet {l : Addr} {items : Array Value} {xs : List Str} {Q : Value → Shared → Prop}
    (hh : A.handled = none) (hl : s.heap.IsList l items) (hi : PyProof.Rows.StrsAre items.toList xs) (hb : items.size + 1 < scanBound)
    (h : ∀ (h' : Heap) (tk : Nat), h'.SetOf (PySem.strKind prog w) s.heap.objs.size (fun k' => (ddS xs).any (· == k')) (ddS xs).length →
      (∀ b o, b < s.heap.objs.size → s.heap.get? b = some o → h'.get? b = some o) → Q (.ref s.heap.objs.size) { s with heap := h', toks := tk }) :
    wpAny (model prog w) A (call (.type "set") [.ref l]) Q E s := by
  obtain ⟨c, tl, hmro⟩ := PySem.F.called_set.mro
  have hmade := PySem.F.called_set.made
  have hsub := PySem.F.called_set.sub
  refine wpAny_call (codeAny_of_tree ?_)
  show wpAny _ _ (callAny (.type "set") _) _ _ _
  refine wpAny_pure ⟨Code.quiet_builtin _ (by decide +kernel), codeAny_builtin PySem.F.entry_type_call ?_⟩
  rw [Around.under_plain (weight_type_call_type "set" [.ref l] []) rfl]
  have h1 := PySem.F.called_set.notType
  have h2 := PySem.F.called_set.canCreate
  have hct := PySem.F.typeCall_set_1 (.ref l)
  repeat (any_goals (first | assumption | wp_step))
  refine codeAny_mono (code_set_new_1 (.ref l) (E := E) (Q₁ := fun obj s₁ => ∃ led : Bool, obj = .ref s.heap.objs.size ∧ s₁ = { s with heap := s.heap.push { cls := .type "set", dict := none, data := .set #[] 0 (.fresh 0 0 led) } }) fun led => ⟨led, rfl, rfl⟩) fun r s₁ hr => ?_
  cases r with
  | error e => exact hr
  | ok fl =>
    cases fl with
    | ret obj =>
      obtain ⟨led, rfl, rfl⟩ := hr
      have hS : (s.heap.push { cls := .type "set", dict := none, data := .set #[] 0 (.fresh 0 0 led) }).get? s.heap.objs.size = some { cls := .type "set", dict := none, data := .set #[] 0 (.fresh 0 0 led) } := Heap.get?_push_size _ rfl
      have hT : Shared.TypeIs { s with heap := s.heap.push { cls := .type "set", dict := none, data := .set #[] 0 (.fresh 0 0 led) } } (.ref s.heap.objs.size) "set" := ⟨_, hS, rfl⟩
      have hli := PySem.F.called_set.init.lookup
      have hbi := PySem.F.called_set.init.bind (.ref s.heap.objs.size)
      repeat (any_goals (first | assumption | wp_step))
      refine codeAny_mono (codeAny_call_builtin (R := wants (fun r s₂ => r = .none ∧ ∃ h' tk, s₂ = { s with heap := h', toks := tk } ∧
          h'.SetOf (PySem.strKind prog w) s.heap.objs.size (fun k' => (ddS xs).any (· == k')) (ddS xs).length ∧
          (∀ b o, b < s.heap.objs.size → s.heap.get? b = some o → h'.get? b = some o)) E) PySem.F.called_set.init.plain PySem.F.entry_set_init (check_set_init_1 hT ?_)) fun r₂ s₂ hr₂ => ?_
      · obtain ⟨ol, hol, hcl, nl, hdl⟩ := hl
        obtain ⟨ocls, odict, odata, oslots⟩ := ol
        simp only at hcl hdl
        subst hcl; subst hdl
        have hol' : (s.heap.push { cls := .type "set", dict := none, data := .set #[] 0 (.fresh 0 0 led) }).get? l = some { cls := .type "list", dict := odict, data := .seq items nl, slots := oslots } := Heap.get?_push_of_some _ hol
        have hsls := F.sub_list_set
        have hslf := F.sub_list_frozenset
        have hne : (Value.type "list" == Value.type "dict") = false := by decide
        have hl1 : (s.heap.push { cls := .type "set", dict := none, data := .set #[] 0 (.fresh 0 0 led) }).IsList l items := ⟨_, hol', rfl, nl, rfl⟩
        unfold Builtin.«set.__init__» noKeywords Builtin.Frozenset.updateFrom
        generalize hPI : pyIter = PI
        wp_walk
        subst hPI
        refine wpAny_pyIter_list hl1 ?_
        refine wpAny_bind (wpAny_runValue ?_)
        have hlS : l < s.heap.objs.size := Heap.lt_size hol
        have hh3 : A.in1.in1.in1.handled = none := by simp [hh]
        have hneI : l ≠ (s.heap.push { cls := .type "set", dict := none, data := .set #[] 0 (.fresh 0 0 led) }).objs.size := by
          rw [Heap.size_push]; exact Nat.ne_of_lt (Nat.lt_succ_of_lt hlS)
        have hSf : s.heap.objs.size ∉ [(s.heap.push { cls := .type "set", dict := none, data := .set #[] 0 (.fresh 0 0 led) }).objs.size, l] := by
          rw [Heap.size_push]; simp only [List.mem_cons, List.not_mem_nil, or_false, not_or]
          exact ⟨Nat.ne_of_lt (Nat.lt_succ_self _), Nat.ne_of_gt hlS⟩
        have hsz : xs.length = items.size := by rw [← StrsAre.len_eq hi, Array.length_toList]
        have hval : ∀ (i : Nat) (v : Value), items[i]? = some v → ∃ t, v = .str (xs.getD i Str.empty) t := fun i v hv => SS.strs_at hi i v (by rw [Array.getElem?_toList]; exact hv)
        refine loopSet ((Walks.list hh3 _ l hneI items).toS) s.heap.objs.size
          hSf xs hsz hb hval (items.size - 0) 0 _ (by omega) (Nat.zero_le _)
          ⟨⟨_, Heap.get?_push_size _ rfl, rfl, rfl⟩, (hl1.push _)⟩ ?hS0 ?hR
        case hS0 =>
          have hget : ((s.heap.push { cls := .type "set", dict := none, data := .set #[] 0 (.fresh 0 0 led) }).push { cls := .type "list_iterator", data := .fields #[.ref l, .int 0 0] }).get? s.heap.objs.size = some { cls := .type "set", dict := none, data := .set #[] 0 (.fresh 0 0 led) } := Heap.get?_push_of_some _ hS
          exact PyProof.Rows.SetOf_congr ((PyProof.Rows.setObjOf_fresh (knd := PySem.strKind prog w) led).setOf hget (by unfold scanBound; omega)) (fun _ => rfl) rfl
        case hR =>
          intro s' hm hS'
          rw [← hsz, List.take_length] at hS'
          obtain ⟨h', g', d', tk', os'⟩ := s'
          have eg : g' = s.gens := hm.gens
          have ed : d' = s.drawn := hm.drawn
          have eo : os' = s.os := hm.os
          subst eg; subst ed; subst eo
          show wpAny _ _ _ _ _ _
          refine wpAny_pure ?_
          show wpAny _ _ (ret Value.none) _ _ _
          refine wpAny_pure ⟨rfl, h', tk', rfl, hS', fun b o hb e => ?_⟩
          have hb1 : b ≠ s.heap.objs.size := Nat.ne_of_lt hb
          have hb2 : b ≠ (s.heap.push { cls := .type "set", dict := none, data := .set #[] 0 (.fresh 0 0 led) }).objs.size := by
            rw [Heap.size_push]; exact Nat.ne_of_lt (Nat.lt_succ_of_lt hb)
          exact hm.heap b o (by simp only [List.mem_cons, List.not_mem_nil, or_false, not_or]; exact ⟨hb1, hb2⟩) (Heap.get?_push_of_some _ (Heap.get?_push_of_some _ e))
      · cases r₂ with
        | error e => exact hr₂
        | ok fl₂ =>
          cases fl₂ with
          | ret r =>
            obtain ⟨rfl, h', tk, rfl, hS', hk'⟩ := hr₂
            repeat (any_goals (first | assumption | wp_step))
            exact h _ _ hS' hk'
          | _ => exact hr₂.elim
    | _ => exact hr.elim
end
section
variable {X : Cx} {T : Tab} {W : WX} {a : Expr} {ma : ME} {ta : TE} {p p2 q pos : Pos}
def rLenSet (K : PySem.W.Frag) : V → Hp → VK → Prop := fun x H Q => ∃ (l : Addr) (xs : List Str), x = .ref l ∧ SqL K H l (xs.map V.str) ∧ xs.length ≤ 4000 ∧ Q (.int ((ddS xs).length : Nat)) H
theorem pe_lenS (hc : X.calm = true) (hg : Gl X "len") (hm : X.mg "len" = none) (hg2 : Gl X "set") (hm2 : X.mg "set" = none) (ha : PE X a ta)
    (na : starEach [a] X.env = (false, eval a X.env) :: starEach [] X.env := by rfl) : PE X (.Call (.Name "len" p) [.Call (.Name "set" p2) [a] [] q] [] pos) (tUn (rLenSet X.K) ta) := by
  refine ⟨fun pins s σ H Q I h => ?_⟩
  refine Call_ (ld_blt I hg hm boot_len ?_)
  refine PyProof.Rows.callWith_builtin1 (PyProof.Rows.args_cons ?_ rfl) rfl rfl
  refine Call_ (ld_blt I hg2 hm2 boot_set ?_)
  refine PyProof.Rows.callWith_type1 (PyProof.Rows.args_cons (thn (ha.run pins s σ H _ I h) fun v s1 ⟨x, H1, I1, r1, q1⟩ => PyProof.Rows.args_nil ?_) na) na rfl
  obtain ⟨l, xs, rfl, hq, h1, q1⟩ := q1
  cases r1
  obtain ⟨its, r, pl, hz⟩ := I1.list hq
  have hlen : its.toArray.size = xs.length := by rw [List.size_toArray, ← r.length, List.length_map]
  refine callSet (I1.ok.hd hc) pl.isList (by simpa using strsAre_of r) (by rw [hlen]; unfold scanBound; omega) fun h' tk hS hk => ?_
  refine PyProof.Rows.args_nil ?_
  obtain ⟨o, es, ep, t, ho, hex, hd, _, _, _, hf, hn⟩ := hS
  have I2 : Inv X pins σ H1 { s1 with heap := h', toks := tk } := I1.kept fun b o e => hk b o (Heap.lt_size e) e
  have := ddS_le xs
  exact call_len_set ho hex hd hf (by rw [hn] <;> omega) ⟨.int (ddS xs).length, H1, I2.tok _, ⟨_, by rw [hn]⟩, q1⟩
def fLenSet : List D → Option D
  | [d] => match unfz d with
    | .lst xs => match strsD xs with
      | some ys => if ys.length ≤ 4000 then some (.im (.int ((ddS ys).length : Nat))) else none
      | none => none
    | _ => none
  | _ => none
theorem vs_lenSet : VS T fLenSet (fun vs H Q => ∃ x, vs = [x] ∧ rLenSet T.K x H Q) := by
  intro B H ds vs z bh ro h
  unfold fLenSet at h
  split at h
  · rename_i d
    obtain ⟨v, rfl⟩ := ros_c1 ro
    have q := ros_unfz bh ro
    split at h
    · rename_i xs e
      rw [e] at q
      split at h
      · rename_i ys hy
        split at h
        · rename_i hl
          cases h
          obtain ⟨p, ws, rfl, h1, q⟩ := ros_lst q
          have := ros_strs q hy
          subst this
          exact .im rfl fun Q k => ⟨_, rfl, _, _, rfl, SqL.of h1, hl, k⟩
        · cases h
      · cases h
    · cases h
  · cases h
theorem ep_lenS (hK : X.K = T.K) (hc : X.calm = true) (hg : Gl X "len") (hm : X.mg "len" = none) (hg2 : Gl X "set") (hm2 : X.mg "set" = none) (ha : PE X a (tP T W ma))
    (na : starEach [a] X.env = (false, eval a X.env) :: starEach [] X.env := by rfl) : PE X (.Call (.Name "len" p) [.Call (.Name "set" p2) [a] [] q] [] pos) (tP T W (m1 fLenSet ma)) :=
  ep_1 (hK ▸ vs_lenSet) (pe_lenS hc hg hm hg2 hm2 ha na)
end
end Tr

namespace G
open PySem L2 Tr
def top (i : Nat) : Stmt := PySem.Challenge.pw_castoff_k51_parts_end_to_end.main.body.getD i (.Pass ⟨0, 0, 0, 0⟩)
abbrev x_CastError : Nat := 0
abbrev x_NoNumber : Nat := 1
def sub0 : Nat → Option Bool := fun c => match c with | 1 => some true | _ => none
def sub1 : Nat → Option Bool := fun c => match c with | 1 => some true | _ => none
def is_ValueError : Nat → Option Bool := fun c => match c with | 1 => some true | _ => none
/-! _law_cell -/
abbrev s3 : Stmt := top 12
abbrev N3 : List Str := ["_law_script", "_law_k"]
def mL_cell : List Slot → FR := mF 2 [true, true] (sSeq (sIf (tBl (liftE (m2 fLt (mVar 1) (mN fLen [(mVar 0)]))))
 (sRet (liftE (mIx (mVar 0) (mVar 1))))
 sSkip)
 (sRet (liftE (mC (.int 0)))))
/-! _law_names -/
abbrev s5 : Stmt := top 14
abbrev N5 : List Str := ["_law_cell_here", "_law_many", "_law_signs", "_law_tail", "_law_size", "_law_at", "_law_base", "_law_names_here", "_law_k", "_law_sign"]
def mL_names_e0 : ME := (mIx (mVar 2) (m2 fMod (m2 fAdd (m2 fDiv (mVar 0) (mC (.int 36))) (m2 (orF fMul fMulS) (m2 (orF fMul fMulS) (mC (.int 5)) (mVar 8)) (mVar 8))) (mC (.int 36))))
def mL_names_e1 : ME := (m2 fAdd (mIx (mVar 2) (m2 fMod (m2 fAdd (m2 fDiv (mVar 0) (mC (.int 4))) (m2 fDiv (mVar 8) (mC (.int 8)))) (mC (.int 26)))) (mSl (mVar 3) none (some (m2 fMod (mVar 8) (mC (.int 8))))))
def mL_names_b2 : MS := (sSeq (sSet 9 (liftE (mIx (mVar 2) (m2 fMod (m2 fAdd (m2 fDiv (mVar 0) (mC (.int 1296))) (mVar 8)) (mC (.int 26))))))
 (sEx (eMut isLst opAppend (lVar 7) [.p (m2 fAdd (m2 fAdd (m2 fAdd (mSl (mVar 6) none (some (mVar 5))) (mVar 9)) (mSl (mVar 6) (some (m2 fAdd (mVar 5) (mC (.int 1)))) none)) (mSl (mC (.str "zz")) none (some (m2 fDiv (mVar 8) (mC (.int 26))))))])))
def mL_names_t8 : MS := (sRet (eMv 7))
def mL_names_t7 : MS := (sSeq (sFor (pinL [true, true]) (pinL [true, true]) (iRg1 (mVar 1)) (tgN 8)
 mL_names_b2)
 mL_names_t8)
def mL_names_t6 : MS := (sSeq (sSet 7 (eLst (eRow [])))
 mL_names_t7)
def mL_names_t5 : MS := (sSeq (sSet 6 (liftE (m2 fAdd (mIx (mVar 2) (m2 fMod (m2 fDiv (mVar 0) (mC (.int 36))) (mC (.int 26)))) (mSl (mVar 3) none (some (m2 fSub (mVar 4) (mC (.int 1))))))))
 mL_names_t6)
def mL_names_t4 : MS := (sSeq (sSet 5 (liftE (m2 fMod (m2 fDiv (mVar 0) (mC (.int 24))) (mVar 4))))
 mL_names_t5)
def mL_names_t3 : MS := (sSeq (sSet 4 (liftE (m2 fAdd (mC (.int 1)) (m2 fMod (m2 fDiv (mVar 0) (mC (.int 4))) (mC (.int 6))))))
 mL_names_t4)
def mL_names_t2 : MS := (sSeq (sIf (tBl (liftE (m2 fEq (m2 fMod (mVar 0) (mC (.int 4))) (mC (.int 3)))))
 (sRet (liftE (mLc (iRg1 (mVar 1)) 8 tTrue mL_names_e1)))
 sSkip)
 mL_names_t3)
def mL_names_t1 : MS := (sSeq (sSet 3 (liftE (mM1 fJoin (mC (.str "")) (mLc (iRg2 (mC (.int 1)) (mC (.int 8))) 8 tTrue mL_names_e0))))
 mL_names_t2)
def mL_names : List Slot → FR := mF 10 [true, true] (sSeq (sSet 2 (liftE (mC (.str "abcdefghijklmnopqrstuvwxyz0123456789"))))
 mL_names_t1)
/-! _law_stream -/
abbrev s4 : Stmt := top 13
abbrev N4 : List Str := ["_law_cell_here", "_law_many", "_law_found", "_law_number", "_law_k"]
def mL_stream_b0 : MS := (sSeq (sSet 3 (liftE (m2 fMod (m2 fAdd (m2 fAdd (m2 (orF fMul fMulS) (mVar 3) (mC (.int 48271))) (m2 (orF fMul fMulS) (mC (.int 7919)) (mVar 4))) (mC (.int 1))) (mC (.int 2147483647)))))
 (sEx (eMut isLst opAppend (lVar 2) [.p (m2 fDiv (mVar 3) (mC (.int 5)))])))
def mL_stream_t3 : MS := (sRet (eMv 2))
def mL_stream_t2 : MS := (sSeq (sFor (pinL [true, true]) (pinL [true, true]) (iRg1 (mVar 1)) (tgN 4)
 mL_stream_b0)
 mL_stream_t3)
def mL_stream_t1 : MS := (sSeq (sSet 3 (liftE (m2 fAdd (m2 fMod (mVar 0) (mC (.int 2147483629))) (mC (.int 17)))))
 mL_stream_t2)
def mL_stream : List Slot → FR := mF 5 [true, true] (sSeq (sSet 2 (eLst (eRow [])))
 mL_stream_t1)
/-! _law_row -/
abbrev s6 : Stmt := top 15
abbrev N6 : List Str := ["_law_script", "_law_cell_here", "_law_many", "_law_names_here", "_law_limit", "_law_picks", "_law_pick"]
def mL_row_e0 : ME := (mIx (mVar 3) (m2 fMod (mVar 6) (mVar 2)))
def mL_row_t7 : MS := (sRet (liftE (mLc (iAny (mVar 5)) 6 tTrue mL_row_e0)))
def mL_row_t6 : MS := (sSeq (sSet 5 (liftE (m2 fAdd (mSl (mVar 0) (some (mC (.int 8))) (some (mC (.int 68)))) (mCall mL_stream [(mCall mL_cell [(mVar 0), (mC (.int 4))]), (m2 fMod (mCall mL_cell [(mVar 0), (mC (.int 5))]) (mVar 4))]))))
 mL_row_t7)
def mL_row_t5 : MS := (sSeq (sIf (tBl (liftE (m2 fEq (m2 fMod (mCall mL_cell [(mVar 0), (mC (.int 4))]) (mC (.int 4))) (mC (.int 1)))))
 (sSet 4 (liftE (mC (.int 139))))
 sSkip)
 mL_row_t6)
def mL_row_t4 : MS := (sSeq (sSet 4 (liftE (mC (.int 30))))
 mL_row_t5)
def mL_row_t3 : MS := (sSeq (sSet 3 (liftE (mCall mL_names [(mCall mL_cell [(mVar 0), (mC (.int 1))]), (mVar 2)])))
 mL_row_t4)
def mL_row_t2 : MS := (sSeq (sIf (tBl (liftE (m2 fEq (m2 fMod (m2 fDiv (mVar 1) (mC (.int 8))) (mC (.int 9))) (mC (.int 4)))))
 (sSet 2 (liftE (m2 fAdd (mC (.int 20)) (m2 fMod (m2 fDiv (mVar 1) (mC (.int 72))) (mC (.int 41))))))
 sSkip)
 mL_row_t3)
def mL_row_t1 : MS := (sSeq (sSet 2 (liftE (m2 fAdd (mC (.int 1)) (m2 fMod (mVar 1) (mC (.int 8))))))
 mL_row_t2)
def mL_row : List Slot → FR := mF 7 [true] (sSeq (sSet 1 (liftE (mCall mL_cell [(mVar 0), (mC (.int 0))])))
 mL_row_t1)
/-! _law_most -/
abbrev s7 : Stmt := top 16
abbrev N7 : List Str := ["_law_cell_here"]
def mL_most : List Slot → FR := mF 1 [true] (sSeq (sIf (tBl (liftE (m2 fEq (m2 fMod (m2 fDiv (mVar 0) (mC (.int 6))) (mC (.int 7))) (mC (.int 3)))))
 (sRet (liftE (m2 fAdd (mC (.int 1)) (m2 fMod (m2 fDiv (mVar 0) (mC (.int 42))) (mC (.int 60))))))
 sSkip)
 (sSeq (sIf (tBl (liftE (m2 fEq (m2 fMod (m2 fDiv (mVar 0) (mC (.int 6))) (mC (.int 7))) (mC (.int 5)))))
 (sRet (liftE (m2 fPow (mC (.int 10)) (mC (.int 6)))))
 sSkip)
 (sRet (liftE (m2 fAdd (mC (.int 1)) (m2 fMod (mVar 0) (mC (.int 6))))))))
/-! is_whole -/
abbrev s0 : Stmt := top 5
abbrev N0 : List Str := ["thing"]
def m_is_whole : List Slot → FR := mF 1 [true] (sRet (liftE (mAnd (mN fIsi [(mVar 0), (mC (.ty "int"))]) (m1 fNot (mN fIsi [(mVar 0), (mC (.ty "bool"))])))))
/-! need_places -/
abbrev s1 : Stmt := top 8
abbrev N1 : List Str := ["places"]
def m_need_places : List Slot → FR := mF 1 [true] (sSeq (sIf (tO (tNo (tBl (liftE (mCall m_is_whole [(mVar 0)])))) (tO (tBl (liftE (m2 fLt (mVar 0) (mC (.int 1))))) (tBl (liftE (m2 fGt (mVar 0) (mC (.int 1000000)))))))
 (sRaise x_NoNumber)
 sSkip)
 (sRet (eMv 0)))
/-! parts_of -/
abbrev s2 : Stmt := top 10
abbrev N2 : List Str := ["asks", "most", "parts", "start", "seen", "at", "name"]
def m_parts_of_b0 : MS := (sSeq (sIf (tAn (tBl (liftE (m2 (orF (fInD true) fNi) (mVar 6) (mVar 4)))) (tBl (liftE (m2 fEq (mN fLen [(mVar 4)]) (mVar 1)))))
 (sSeq (sEx (eMut isLst opAppend (lVar 2) [.p (mDsp D.tup [(mVar 3), (mVar 5)])]))
 (sSeq (sSet 3 (eMv 5))
 (sSet 4 (liftE mNewD))))
 sSkip)
 (sSub opSetA (liftE (mC (.bl true))) (lVar 4) (mVar 6)))
def m_parts_of_t6 : MS := (sRet (eMv 2))
def m_parts_of_t5 : MS := (sSeq (sIf (tBl (liftE (m2 fLt (mVar 3) (mN fLen [(mVar 0)]))))
 (sEx (eMut isLst opAppend (lVar 2) [.p (mDsp D.tup [(mVar 3), (mN fLen [(mVar 0)])])]))
 sSkip)
 m_parts_of_t6)
def m_parts_of_t4 : MS := (sSeq (sFor (pinL [true, true]) ((fun k => pinL [true, true] k || k == 0)) (iEn (mVar 0)) (tgT (tsCons (tgN 5) (tsCons (tgN 6) tsNil)))
 m_parts_of_b0)
 m_parts_of_t5)
def m_parts_of_t3 : MS := (sSeq (sSet 4 (liftE mNewD))
 m_parts_of_t4)
def m_parts_of_t2 : MS := (sSeq (sSet 3 (liftE (mC (.int 0))))
 m_parts_of_t3)
def m_parts_of_t1 : MS := (sSeq (sSet 2 (eLst (eRow [])))
 m_parts_of_t2)
def m_parts_of : List Slot → FR := mF 7 [true, true] (sSeq (sEx (liftE (mCall m_need_places [(mVar 1)])))
 m_parts_of_t1)
/-! _law_whole -/
abbrev s8 : Stmt := top 17
abbrev N8 : List Str := ["_law_found"]
def mL_whole : List Slot → FR := mF 1 [true] (sRet (liftE (mAnd (mN fIsi [(mVar 0), (mC (.ty "int"))]) (m1 fNot (mN fIsi [(mVar 0), (mC (.ty "bool"))])))))
/-! _law_end_to_end -/
abbrev s9 : Stmt := top 18
abbrev N9 : List Str := ["_law_found", "_law_asks", "_law_most_here", "_law_at", "_law_part", "_law_some"]
def mL_end_to_end_b0 : MS := (sSeq (sIf (tO (tNo (tBl (liftE (mN fIsi [(mVar 4), (mC (.ty "tuple"))])))) (tO (tBl (liftE (m2 fNe (mN fLen [(mVar 4)]) (mC (.int 2))))) (tO (tNo (tBl (liftE (mCall mL_whole [(mIx (mVar 4) (mC (.int 0)))])))) (tNo (tBl (liftE (mCall mL_whole [(mIx (mVar 4) (mC (.int 1)))])))))))
 (sRet (liftE (mC (.bl false))))
 sSkip)
 (sSeq (sIf (tO (tBl (liftE (m2 fNe (mIx (mVar 4) (mC (.int 0))) (mVar 3)))) (tO (tBl (liftE (m2 fLe (mIx (mVar 4) (mC (.int 1))) (mVar 3)))) (tBl (liftE (m2 fGt (mIx (mVar 4) (mC (.int 1))) (mN fLen [(mVar 1)]))))))
 (sRet (liftE (mC (.bl false))))
 sSkip)
 (sSeq (sSet 5 (liftE (mSl (mVar 1) (some (mVar 3)) (some (mIx (mVar 4) (mC (.int 1)))))))
 (sSeq (sIf (tBl (liftE (m2 fGt (m1 fLenSet (mVar 5)) (mVar 2))))
 (sRet (liftE (mC (.bl false))))
 sSkip)
 (sSeq (sSet 3 (liftE (mIx (mVar 4) (mC (.int 1)))))
 (sIf (tAn (tBl (liftE (m2 fLt (mVar 3) (mN fLen [(mVar 1)])))) (tO (tBl (liftE (m2 fNe (m1 fLenSet (mVar 5)) (mVar 2)))) (tBl (liftE (m2 (orF (fInD false) fIn) (mIx (mVar 1) (mVar 3)) (mVar 5))))))
 (sRet (liftE (mC (.bl false))))
 sSkip))))))
def mL_end_to_end_t3 : MS := (sRet (liftE (m2 fEq (mVar 3) (mN fLen [(mVar 1)]))))
def mL_end_to_end_t2 : MS := (sSeq (sFor (pinL [true, true, true]) ((fun k => pinL [true, true, true] k || k == 0)) (iAny (mVar 0)) (tgN 4)
 mL_end_to_end_b0)
 mL_end_to_end_t3)
def mL_end_to_end_t1 : MS := (sSeq (sSet 3 (liftE (mC (.int 0))))
 mL_end_to_end_t2)
def mL_end_to_end : List Slot → FR := mF 6 [true, true, true] (sSeq (sIf (tNo (tBl (liftE (mN fIsi [(mVar 0), (mC (.ty "list"))]))))
 (sRet (liftE (mC (.bl false))))
 sSkip)
 mL_end_to_end_t1)
/-! _law_refused -/
abbrev s10 : Stmt := top 19
abbrev N10 : List Str := ["_law_asks", "_law_most_here", "_law_told", "_law_base", "e"]
def mL_refused_t4 : MS := (sRet (liftE (mAnd (mVar 2) (mVar 3))))
def mL_refused_t3 : MS := (sSeq (sTryIs sub0 is_ValueError 4 3
 (sEx (liftE (mCall m_parts_of [(mVar 0), (mVar 1)]))))
 mL_refused_t4)
def mL_refused_t2 : MS := (sSeq (sTry sub1 (sEx (liftE (mCall m_parts_of [(mVar 0), (mVar 1)])))
 (sSet 2 (liftE (mC (.bl true)))))
 mL_refused_t3)
def mL_refused_t1 : MS := (sSeq (sSet 3 (liftE (mC (.bl false))))
 mL_refused_t2)
def mL_refused : List Slot → FR := mF 5 [true, true] (sSeq (sSet 2 (liftE (mC (.bl false))))
 mL_refused_t1)
/-! law -/
abbrev s11 : Stmt := top 20
abbrev N11 : List Str := ["_law_script", "_law_asks", "_law_most_here", "_law_cell_here", "_law_far", "_law_bad", "_law_handed", "_law_found"]
def m_law_t9 : MS := (sRet (liftE (mCall mL_end_to_end [(mCall m_parts_of [(mVar 6), (mVar 2)]), (mVar 1), (mVar 2)])))
def m_law_t8 : MS := (sSeq (sEx (eMut isLst opClear (lVar 7) []))
 m_law_t9)
def m_law_t7 : MS := (sSeq (sIf (tO (tBl (liftE (m2 fNe (mVar 6) (mVar 1)))) (tO (tNo (tBl (liftE (mCall mL_end_to_end [(mVar 7), (mVar 1), (mVar 2)])))) (tNo (tBl (liftE (mCall mL_refused [(mVar 6), (mVar 5)]))))))
 (sRet (liftE (mC (.bl false))))
 sSkip)
 m_law_t8)
def m_law_t6 : MS := (sSeq (sSet 7 (liftE (mCall m_parts_of [(mVar 6), (mVar 2)])))
 m_law_t7)
def m_law_t5 : MS := (sSeq (sSet 6 (liftE (mN fListA [(mVar 1)])))
 m_law_t6)
def m_law_t4 : MS := (sSeq (sSet 5 (liftE (mIx (mFz (mDsp D.lst [(mC (.int 0)), (m2 fAdd (m2 fPow (mC (.int 10)) (mC (.int 6))) (mC (.int 1))), (mC .non), (mC (.bl true)), (mC (.bl false)), (mC (.str "7")), (mDsp D.lst [(mC (.int 3))]), (mDsp D.tup [(mC (.int 2))]), (m2 fSub (m2 fSub (mC (.int 0)) (mC (.int 1))) (mVar 4)), (m2 fAdd (m2 fAdd (m2 fPow (mC (.int 10)) (mC (.int 6))) (mC (.int 1))) (mVar 4))])) (m2 fMod (mVar 3) (mC (.int 10))))))
 m_law_t5)
def m_law_t3 : MS := (sSeq (sSet 4 (liftE (m2 fMod (m2 fDiv (mVar 3) (mC (.int 10))) (m2 fPow (mC (.int 10)) (mC (.int 9))))))
 m_law_t4)
def m_law_t2 : MS := (sSeq (sSet 3 (liftE (mCall mL_cell [(mVar 0), (mC (.int 3))])))
 m_law_t3)
def m_law_t1 : MS := (sSeq (sSet 2 (liftE (mCall mL_most [(mCall mL_cell [(mVar 0), (mC (.int 2))])])))
 m_law_t2)
def m_law : List Slot → FR := mF 8 [true] (sSeq (sSet 1 (liftE (mCall mL_row [(mVar 0)])))
 m_law_t1)
def tab (K : PySem.W.Frag) (x y : Nat → Addr) : Tab := ⟨K, [], [⟨x 0, []⟩, ⟨x 1, []⟩]⟩
structure Txt (K : PySem.W.Frag) (mg : Str → Option Value) (a x y : Nat → Addr) (fd : Nat → FuncData) : Prop where
  f3 : Fun K "_law_cell" "_law_cell" s3 (a 3) (fd 3)
  b3 : Binds K (fd 3) ["_law_script", "_law_k"] []
  g3 : mg "_law_cell" = some (.ref (a 3))
  f5 : Fun K "_law_names" "_law_names" s5 (a 5) (fd 5)
  b5 : Binds K (fd 5) ["_law_cell_here", "_law_many"] []
  g5 : mg "_law_names" = some (.ref (a 5))
  f4 : Fun K "_law_stream" "_law_stream" s4 (a 4) (fd 4)
  b4 : Binds K (fd 4) ["_law_cell_here", "_law_many"] []
  g4 : mg "_law_stream" = some (.ref (a 4))
  f6 : Fun K "_law_row" "_law_row" s6 (a 6) (fd 6)
  b6 : Binds K (fd 6) ["_law_script"] []
  g6 : mg "_law_row" = some (.ref (a 6))
  f7 : Fun K "_law_most" "_law_most" s7 (a 7) (fd 7)
  b7 : Binds K (fd 7) ["_law_cell_here"] []
  g7 : mg "_law_most" = some (.ref (a 7))
  f0 : Fun K "is_whole" "is_whole" s0 (a 0) (fd 0)
  b0 : Binds K (fd 0) ["thing"] []
  g0 : mg "is_whole" = some (.ref (a 0))
  f1 : Fun K "need_places" "need_places" s1 (a 1) (fd 1)
  b1 : Binds K (fd 1) ["places"] []
  g1 : mg "need_places" = some (.ref (a 1))
  f2 : Fun K "parts_of" "parts_of" s2 (a 2) (fd 2)
  b2 : Binds K (fd 2) ["asks", "most"] []
  g2 : mg "parts_of" = some (.ref (a 2))
  f8 : Fun K "_law_whole" "_law_whole" s8 (a 8) (fd 8)
  b8 : Binds K (fd 8) ["_law_found"] []
  g8 : mg "_law_whole" = some (.ref (a 8))
  f9 : Fun K "_law_end_to_end" "_law_end_to_end" s9 (a 9) (fd 9)
  b9 : Binds K (fd 9) ["_law_found", "_law_asks", "_law_most_here"] []
  g9 : mg "_law_end_to_end" = some (.ref (a 9))
  f10 : Fun K "_law_refused" "_law_refused" s10 (a 10) (fd 10)
  b10 : Binds K (fd 10) ["_law_asks", "_law_most_here"] []
  g10 : mg "_law_refused" = some (.ref (a 10))
  f11 : Fun K "law" "law" s11 (a 11) (fd 11)
  b11 : Binds K (fd 11) ["_law_script"] []
  g11 : mg "law" = some (.ref (a 11))
  z_ValueError : mg "ValueError" = none
  z_bool : mg "bool" = none
  z_enumerate : mg "enumerate" = none
  z_int : mg "int" = none
  z_isinstance : mg "isinstance" = none
  z_len : mg "len" = none
  z_list : mg "list" = none
  z_range : mg "range" = none
  z_set : mg "set" = none
  z_tuple : mg "tuple" = none
  c_MOST_PLACES : ∃ t, mg "MOST_PLACES" = some (.int 1000000 t)
  g_CastError : mg "CastError" = some (.ref (x 0))
  g_NoNumber : mg "NoNumber" = some (.ref (x 1))
  b_0 : PySem.W.subIn K (.ref (x 0)) (.type "BaseException") = some true
  t_0 : PySem.W.typeIn K (.ref (x 0)) = some (.type "type")
  x1 : PySem.W.excIn K (x 1) [.type "ValueError", .type "Exception", .type "BaseException", .type "object"] "ValueError.__new__" = true
  k_NoNumber : PySem.W.keepIn K (.ref (x 1)) = true
  b_1 : PySem.W.subIn K (.ref (x 1)) (.type "BaseException") = some true
  t_1 : PySem.W.typeIn K (.ref (x 1)) = some (.type "type")
  sb_1_0 : PySem.W.exmOne K (.ref (x 1)) (.ref (x 0)) = some true
  sb_1_1 : PySem.W.exmOne K (.ref (x 1)) (.ref (x 1)) = some true
  xc_1 : ExcC K (x 1)
  ki_1_ValueError : PySem.W.kitOne K (.ref (x 1)) (.type "ValueError") = some true
theorem sT0 {K : PySem.W.Frag} {mg : Str → Option Value} {a x y : Nat → Addr} {fd : Nat → FuncData} (T : Txt K mg a x y fd) : ∀ c C fl b, (tab K x y).exc[c]? = some ⟨C, fl⟩ → sub0 c = some b → PySem.W.exmOne (tab K x y).K (.ref C) (.ref (x 0)) = some b := by
  intro c C fl b h1 h2; unfold sub0 at h2
  split at h2 <;> first | (have e : some (⟨x 1, []⟩ : Cd) = some ⟨C, fl⟩ := h1; cases e; cases h2; exact T.sb_1_0) | cases h2
theorem sT1 {K : PySem.W.Frag} {mg : Str → Option Value} {a x y : Nat → Addr} {fd : Nat → FuncData} (T : Txt K mg a x y fd) : ∀ c C fl b, (tab K x y).exc[c]? = some ⟨C, fl⟩ → sub1 c = some b → PySem.W.exmOne (tab K x y).K (.ref C) (.ref (x 1)) = some b := by
  intro c C fl b h1 h2; unfold sub1 at h2
  split at h2 <;> first | (have e : some (⟨x 1, []⟩ : Cd) = some ⟨C, fl⟩ := h1; cases e; cases h2; exact T.sb_1_1) | cases h2
theorem isT_ValueError {K : PySem.W.Frag} {mg : Str → Option Value} {a x y : Nat → Addr} {fd : Nat → FuncData} (T : Txt K mg a x y fd) : IsTab (tab K x y) is_ValueError (.ty "ValueError") := by
  refine ⟨?_⟩; intro c C b h1 h2; unfold is_ValueError at h2
  split at h2 <;> first | (have e : some (⟨x 1, []⟩ : Cd) = some ⟨C, []⟩ := h1; cases e; cases h2; exact ⟨T.xc_1, _, fun u h => h, T.ki_1_ValueError⟩) | cases h2
section
variable {P : Program} {w : World} {K : PySem.W.Frag} {mg : Str → Option Value} {base : Heap} {a x y : Nat → Addr} {fd : Nat → FuncData}
theorem sc3 : FnScope ["_law_script", "_law_k"] ["_law_script", "_law_k"] (defScope s3) := ⟨rfl, rfl, rfl, by decide +kernel, rfl, by decide +kernel, by decide +kernel⟩
theorem ok3 (T : Txt K mg a x y fd) : FnOk P w K mg base (L2.CX P w) 1 (a 3) (fd 3) ["_law_script", "_law_k"] (spF (tab K x y) 2 mL_cell) :=
  fn_ok T.f3 sc3 [true, true] rfl fun cdv A outer s H E σ0 hr => (ss_cons (ss_if (te_cmp vs_lt (pt_cmpR op_lt (ep_var (pv 1)) (ep_N vs_len (pe_callB call_lenP (by rfl) T.z_len (by decide +kernel) (pr_cons (ep_var (pv 0)) pr_nil))) (nomark _)))
 (ss_one (ss_ret (ee_p (ep_ix rfl (hu_of hr) (ep_var (pv 0)) (ep_var (pv 1)) (fun _ _ => rfl) (fun _ _ => rfl)))))
 ss_nil)
 (ss_one (ss_ret (ee_p (ep_c pe_int)))))
theorem sc5 : FnScope ["_law_cell_here", "_law_many", "_law_signs", "_law_tail", "_law_size", "_law_at", "_law_base", "_law_names_here", "_law_k", "_law_sign"] ["_law_cell_here", "_law_many"] (defScope s5) := ⟨rfl, rfl, rfl, by decide +kernel, rfl, by decide +kernel, by decide +kernel⟩
theorem ok5 (T : Txt K mg a x y fd) : FnOk P w K mg base (L2.CX P w) 1 (a 5) (fd 5) ["_law_cell_here", "_law_many"] (spF (tab K x y) 2 mL_names) :=
  fn_ok T.f5 sc5 [true, true] rfl fun cdv A outer s H E σ0 hr => (ss_cons (ss_set (i := 2) sc5.nd rfl (by first | exact Or.inl rfl | exact Or.inr rfl) rfl (ee_p (ep_c pe_str)))
 (ss_cons (ss_set (i := 3) sc5.nd rfl (by first | exact Or.inl rfl | exact Or.inr rfl) rfl (ee_p (ep_m1 vs_join (pe_m1 F.slot_str_join F.type_str_join mt_join (ep_c pe_str) (ep_lc (x := "_law_k") (j := 8) (mt := tTrue) (me := mL_names_e0) rfl sc5.nd (ip_rg2 (pi_range2 rfl T.z_range (pr_cons (ep_c pe_int) (pr_cons (ep_c pe_int) pr_nil)))) (blkOk_by (N := N5) (sc := defScope s5) (by decide +kernel)) (fun _ _ _ _ _ => pg_name (i := 8) sc5.nd rfl (Or.inl rfl)) (fun _ _ _ _ _ => pts_true) (fun _ _ _ _ _ => (ep_ix rfl (hu_of hr) (ep_var (pv 2)) (ep_2 vs_mod (pe_op op_modX (ep_2 vs_add (pe_op op_addP (ep_2 vs_div (pe_op op_fdivX (ep_var (pv 0)) (ep_c pe_int))) (ep_2 vs_mulPS (pe_op op_mulPS (ep_2 vs_mulPS (pe_op op_mulPS (ep_c pe_int) (ep_var (pv 8)))) (ep_var (pv 8)))))) (ep_c pe_int))) (fun _ _ => rfl) (fun _ _ => rfl))))))))
 (ss_cons (ss_if (te_cmp vs_eq (pt_cmpR (op_eqD hr.units) (ep_2 vs_mod (pe_op op_modX (ep_var (pv 0)) (ep_c pe_int))) (ep_c pe_int) (nomark _)))
 (ss_one (ss_ret (ee_p (ep_lc (x := "_law_k") (j := 8) (mt := tTrue) (me := mL_names_e1) rfl sc5.nd (ip_rg1 (pi_range1 rfl T.z_range (pr_cons (ep_var (pv 1)) pr_nil))) (blkOk_by (N := N5) (sc := defScope s5) (by decide +kernel)) (fun _ _ _ _ _ => pg_name (i := 8) sc5.nd rfl (Or.inl rfl)) (fun _ _ _ _ _ => pts_true) (fun _ _ _ _ _ => (ep_2 vs_add (pe_op op_addP (ep_ix rfl (hu_of hr) (ep_var (pv 2)) (ep_2 vs_mod (pe_op op_modX (ep_2 vs_add (pe_op op_addP (ep_2 vs_div (pe_op op_fdivX (ep_var (pv 0)) (ep_c pe_int))) (ep_2 vs_div (pe_op op_fdivX (ep_var (pv 8)) (ep_c pe_int))))) (ep_c pe_int))) (fun _ _ => rfl) (fun _ _ => rfl)) (ep_sl (ml := none) (mh := (some (m2 fMod (mVar 8) (mC (.int 8))))) rfl (ep_var (pv 3)) po_none (po_some (ep_2 vs_mod (pe_op op_modX (ep_var (pv 8)) (ep_c pe_int))))))))))))
 ss_nil)
 (ss_cons (ss_set (i := 4) sc5.nd rfl (by first | exact Or.inl rfl | exact Or.inr rfl) rfl (ee_p (ep_2 vs_add (pe_op op_addP (ep_c pe_int) (ep_2 vs_mod (pe_op op_modX (ep_2 vs_div (pe_op op_fdivX (ep_var (pv 0)) (ep_c pe_int))) (ep_c pe_int)))))))
 (ss_cons (ss_set (i := 5) sc5.nd rfl (by first | exact Or.inl rfl | exact Or.inr rfl) rfl (ee_p (ep_2 vs_mod (pe_op op_modX (ep_2 vs_div (pe_op op_fdivX (ep_var (pv 0)) (ep_c pe_int))) (ep_var (pv 4))))))
 (ss_cons (ss_set (i := 6) sc5.nd rfl (by first | exact Or.inl rfl | exact Or.inr rfl) rfl (ee_p (ep_2 vs_add (pe_op op_addP (ep_ix rfl (hu_of hr) (ep_var (pv 2)) (ep_2 vs_mod (pe_op op_modX (ep_2 vs_div (pe_op op_fdivX (ep_var (pv 0)) (ep_c pe_int))) (ep_c pe_int))) (fun _ _ => rfl) (fun _ _ => rfl)) (ep_sl (ml := none) (mh := (some (m2 fSub (mVar 4) (mC (.int 1))))) rfl (ep_var (pv 3)) po_none (po_some (ep_2 vs_sub (pe_op op_sub (ep_var (pv 4)) (ep_c pe_int)))))))))
 (ss_cons (ss_set (i := 7) sc5.nd rfl (by first | exact Or.inl rfl | exact Or.inr rfl) rfl (ee_lst (pd_row pk_nil')))
 (ss_cons (ss_for (passes_of rfl) rfl (ip_rg1 (pi_range1 rfl T.z_range (pr_cons (ep_var (pv 1)) pr_nil))) (pg_name (i := 8) sc5.nd rfl (Or.inl rfl)) (tg_name rfl) (fun _ h => h) (fun σ1 => (ss_cons (ss_set (i := 9) sc5.nd rfl (by first | exact Or.inl rfl | exact Or.inr rfl) rfl (ee_p (ep_ix rfl (hu_of hr) (ep_var (pv 2)) (ep_2 vs_mod (pe_op op_modX (ep_2 vs_add (pe_op op_addP (ep_2 vs_div (pe_op op_fdivX (ep_var (pv 0)) (ep_c pe_int))) (ep_var (pv 8)))) (ep_c pe_int))) (fun _ _ => rfl) (fun _ _ => rfl))))
 (ss_one (ss_expr (ee_mut mu_append ty_lst (pe_bm PySem.F.plainAttrs_list PySem.F.slot_list_append PySem.F.type_list_append mt_append (el_var (pv 7)) (pk_p (ep_2 vs_add (pe_op op_addP (ep_2 vs_add (pe_op op_addP (ep_2 vs_add (pe_op op_addP (ep_sl (ml := none) (mh := (some (mVar 5))) rfl (ep_var (pv 6)) po_none (po_some (ep_var (pv 5)))) (ep_var (pv 9)))) (ep_sl (ml := (some (m2 fAdd (mVar 5) (mC (.int 1))))) (mh := none) rfl (ep_var (pv 6)) (po_some (ep_2 vs_add (pe_op op_addP (ep_var (pv 5)) (ep_c pe_int)))) po_none))) (ep_sl (ml := none) (mh := (some (m2 fDiv (mVar 8) (mC (.int 26))))) rfl (ep_c pe_str) po_none (po_some (ep_2 vs_div (pe_op op_fdivX (ep_var (pv 8)) (ep_c pe_int))))))) pk_nil'))))))))
 (ss_one (ss_ret (ee_mv (pv 7))))))))))))
theorem sc4 : FnScope ["_law_cell_here", "_law_many", "_law_found", "_law_number", "_law_k"] ["_law_cell_here", "_law_many"] (defScope s4) := ⟨rfl, rfl, rfl, by decide +kernel, rfl, by decide +kernel, by decide +kernel⟩
theorem ok4 (T : Txt K mg a x y fd) : FnOk P w K mg base (L2.CX P w) 1 (a 4) (fd 4) ["_law_cell_here", "_law_many"] (spF (tab K x y) 2 mL_stream) :=
  fn_ok T.f4 sc4 [true, true] rfl fun cdv A outer s H E σ0 hr => (ss_cons (ss_set (i := 2) sc4.nd rfl (by first | exact Or.inl rfl | exact Or.inr rfl) rfl (ee_lst (pd_row pk_nil')))
 (ss_cons (ss_set (i := 3) sc4.nd rfl (by first | exact Or.inl rfl | exact Or.inr rfl) rfl (ee_p (ep_2 vs_add (pe_op op_addP (ep_2 vs_mod (pe_op op_modX (ep_var (pv 0)) (ep_c pe_int))) (ep_c pe_int)))))
 (ss_cons (ss_for (passes_of rfl) rfl (ip_rg1 (pi_range1 rfl T.z_range (pr_cons (ep_var (pv 1)) pr_nil))) (pg_name (i := 4) sc4.nd rfl (Or.inl rfl)) (tg_name rfl) (fun _ h => h) (fun σ1 => (ss_cons (ss_set (i := 3) sc4.nd rfl (by first | exact Or.inl rfl | exact Or.inr rfl) rfl (ee_p (ep_2 vs_mod (pe_op op_modX (ep_2 vs_add (pe_op op_addP (ep_2 vs_add (pe_op op_addP (ep_2 vs_mulPS (pe_op op_mulPS (ep_var (pv 3)) (ep_c pe_int))) (ep_2 vs_mulPS (pe_op op_mulPS (ep_c pe_int) (ep_var (pv 4)))))) (ep_c pe_int))) (ep_c pe_int)))))
 (ss_one (ss_expr (ee_mut mu_append ty_lst (pe_bm PySem.F.plainAttrs_list PySem.F.slot_list_append PySem.F.type_list_append mt_append (el_var (pv 2)) (pk_p (ep_2 vs_div (pe_op op_fdivX (ep_var (pv 3)) (ep_c pe_int))) pk_nil'))))))))
 (ss_one (ss_ret (ee_mv (pv 2)))))))
theorem sc6 : FnScope ["_law_script", "_law_cell_here", "_law_many", "_law_names_here", "_law_limit", "_law_picks", "_law_pick"] ["_law_script"] (defScope s6) := ⟨rfl, rfl, rfl, by decide +kernel, rfl, by decide +kernel, by decide +kernel⟩
theorem ok6 (T : Txt K mg a x y fd) : FnOk P w K mg base (L2.CX P w) 2 (a 6) (fd 6) ["_law_script"] (spF (tab K x y) 1 mL_row) :=
  fn_ok T.f6 sc6 [true] rfl fun cdv A outer s H E σ0 hr => (ss_cons (ss_set (i := 1) sc6.nd rfl (by first | exact Or.inl rfl | exact Or.inr rfl) rfl (ee_p (ep_call (ok3 T) (hr.mono (by decide)) rfl T.g3 T.f3.kp T.b3 (takes_of rfl rfl rfl rfl) (pr_cons (ep_var (pv 0)) (pr_cons (ep_c pe_int) pr_nil)))))
 (ss_cons (ss_set (i := 2) sc6.nd rfl (by first | exact Or.inl rfl | exact Or.inr rfl) rfl (ee_p (ep_2 vs_add (pe_op op_addP (ep_c pe_int) (ep_2 vs_mod (pe_op op_modX (ep_var (pv 1)) (ep_c pe_int)))))))
 (ss_cons (ss_if (te_cmp vs_eq (pt_cmpR (op_eqD hr.units) (ep_2 vs_mod (pe_op op_modX (ep_2 vs_div (pe_op op_fdivX (ep_var (pv 1)) (ep_c pe_int))) (ep_c pe_int))) (ep_c pe_int) (nomark _)))
 (ss_one (ss_set (i := 2) sc6.nd rfl (by first | exact Or.inl rfl | exact Or.inr rfl) rfl (ee_p (ep_2 vs_add (pe_op op_addP (ep_c pe_int) (ep_2 vs_mod (pe_op op_modX (ep_2 vs_div (pe_op op_fdivX (ep_var (pv 1)) (ep_c pe_int))) (ep_c pe_int))))))))
 ss_nil)
 (ss_cons (ss_set (i := 3) sc6.nd rfl (by first | exact Or.inl rfl | exact Or.inr rfl) rfl (ee_p (ep_call (ok5 T) (hr.mono (by decide)) rfl T.g5 T.f5.kp T.b5 (takes_of rfl rfl rfl rfl) (pr_cons (ep_call (ok3 T) (hr.mono (by decide)) rfl T.g3 T.f3.kp T.b3 (takes_of rfl rfl rfl rfl) (pr_cons (ep_var (pv 0)) (pr_cons (ep_c pe_int) pr_nil))) (pr_cons (ep_var (pv 2)) pr_nil)))))
 (ss_cons (ss_set (i := 4) sc6.nd rfl (by first | exact Or.inl rfl | exact Or.inr rfl) rfl (ee_p (ep_c pe_int)))
 (ss_cons (ss_if (te_cmp vs_eq (pt_cmpR (op_eqD hr.units) (ep_2 vs_mod (pe_op op_modX (ep_call (ok3 T) (hr.mono (by decide)) rfl T.g3 T.f3.kp T.b3 (takes_of rfl rfl rfl rfl) (pr_cons (ep_var (pv 0)) (pr_cons (ep_c pe_int) pr_nil))) (ep_c pe_int))) (ep_c pe_int) (nomark _)))
 (ss_one (ss_set (i := 4) sc6.nd rfl (by first | exact Or.inl rfl | exact Or.inr rfl) rfl (ee_p (ep_c pe_int))))
 ss_nil)
 (ss_cons (ss_set (i := 5) sc6.nd rfl (by first | exact Or.inl rfl | exact Or.inr rfl) rfl (ee_p (ep_2 vs_add (pe_op op_addP (ep_sl (ml := (some (mC (.int 8)))) (mh := (some (mC (.int 68)))) rfl (ep_var (pv 0)) (po_some (ep_c pe_int)) (po_some (ep_c pe_int))) (ep_call (ok4 T) (hr.mono (by decide)) rfl T.g4 T.f4.kp T.b4 (takes_of rfl rfl rfl rfl) (pr_cons (ep_call (ok3 T) (hr.mono (by decide)) rfl T.g3 T.f3.kp T.b3 (takes_of rfl rfl rfl rfl) (pr_cons (ep_var (pv 0)) (pr_cons (ep_c pe_int) pr_nil))) (pr_cons (ep_2 vs_mod (pe_op op_modX (ep_call (ok3 T) (hr.mono (by decide)) rfl T.g3 T.f3.kp T.b3 (takes_of rfl rfl rfl rfl) (pr_cons (ep_var (pv 0)) (pr_cons (ep_c pe_int) pr_nil))) (ep_var (pv 4)))) pr_nil)))))))
 (ss_one (ss_ret (ee_p (ep_lc (x := "_law_pick") (j := 6) (mt := tTrue) (me := mL_row_e0) rfl sc6.nd (ip_any rfl (ep_var (pv 5))) (blkOk_by (N := N6) (sc := defScope s6) (by decide +kernel)) (fun _ _ _ _ _ => pg_name (i := 6) sc6.nd rfl (Or.inl rfl)) (fun _ _ _ _ _ => pts_true) (fun _ _ _ _ _ => (ep_ix rfl (hu_of hr) (ep_var (pv 3)) (ep_2 vs_mod (pe_op op_modX (ep_var (pv 6)) (ep_var (pv 2)))) (fun _ _ => rfl) (fun _ _ => rfl))))))))))))))
theorem sc7 : FnScope ["_law_cell_here"] ["_law_cell_here"] (defScope s7) := ⟨rfl, rfl, rfl, by decide +kernel, rfl, by decide +kernel, by decide +kernel⟩
theorem ok7 (T : Txt K mg a x y fd) : FnOk P w K mg base (L2.CX P w) 1 (a 7) (fd 7) ["_law_cell_here"] (spF (tab K x y) 1 mL_most) :=
  fn_ok T.f7 sc7 [true] rfl fun cdv A outer s H E σ0 hr => (ss_cons (ss_if (te_cmp vs_eq (pt_cmpR (op_eqD hr.units) (ep_2 vs_mod (pe_op op_modX (ep_2 vs_div (pe_op op_fdivX (ep_var (pv 0)) (ep_c pe_int))) (ep_c pe_int))) (ep_c pe_int) (nomark _)))
 (ss_one (ss_ret (ee_p (ep_2 vs_add (pe_op op_addP (ep_c pe_int) (ep_2 vs_mod (pe_op op_modX (ep_2 vs_div (pe_op op_fdivX (ep_var (pv 0)) (ep_c pe_int))) (ep_c pe_int))))))))
 ss_nil)
 (ss_cons (ss_if (te_cmp vs_eq (pt_cmpR (op_eqD hr.units) (ep_2 vs_mod (pe_op op_modX (ep_2 vs_div (pe_op op_fdivX (ep_var (pv 0)) (ep_c pe_int))) (ep_c pe_int))) (ep_c pe_int) (nomark _)))
 (ss_one (ss_ret (ee_p (ep_2 vs_pow (pe_op op_pow (ep_c pe_int) (ep_c pe_int))))))
 ss_nil)
 (ss_one (ss_ret (ee_p (ep_2 vs_add (pe_op op_addP (ep_c pe_int) (ep_2 vs_mod (pe_op op_modX (ep_var (pv 0)) (ep_c pe_int))))))))))
theorem sc0 : FnScope ["thing"] ["thing"] (defScope s0) := ⟨rfl, rfl, rfl, by decide +kernel, rfl, by decide +kernel, by decide +kernel⟩
theorem ok0 (T : Txt K mg a x y fd) : FnOk P w K mg base (L2.CX P w) 1 (a 0) (fd 0) ["thing"] (spF (tab K x y) 1 m_is_whole) :=
  fn_ok T.f0 sc0 [true] rfl fun cdv A outer s H E σ0 hr => (ss_one (ss_ret (ee_p (ep_and (ep_N vs_isi (pe_callB call_isi (by rfl) T.z_isinstance (by decide +kernel) (pr_cons (ep_var (pv 0)) (pr_cons (ep_c (pe_bltn (v := .ty "int") (by rfl) T.z_int (by decide +kernel) rfl)) pr_nil)))) (pe_one (ep_not (ep_N vs_isi (pe_callB call_isi (by rfl) T.z_isinstance (by decide +kernel) (pr_cons (ep_var (pv 0)) (pr_cons (ep_c (pe_bltn (v := .ty "bool") (by rfl) T.z_bool (by decide +kernel) rfl)) pr_nil))))))))))
theorem sc1 : FnScope ["places"] ["places"] (defScope s1) := ⟨rfl, rfl, rfl, by decide +kernel, rfl, by decide +kernel, by decide +kernel⟩
theorem ok1 (T : Txt K mg a x y fd) : FnOk P w K mg base (L2.CX P w) 2 (a 1) (fd 1) ["places"] (spF (tab K x y) 1 m_need_places) :=
  fn_ok T.f1 sc1 [true] rfl fun cdv A outer s H E σ0 hr => (ss_cons (ss_if (PW.pt (tw_or (te_not (te_bl (pt_val (ee_p (ep_call (ok0 T) (hr.mono (by decide)) rfl T.g0 T.f0.kp T.b0 (takes_of rfl rfl rfl rfl) (pr_cons (ep_var (pv 0)) pr_nil)))))) (tw_or (te_cmp vs_lt (pt_cmpR op_lt (ep_var (pv 0)) (ep_c pe_int) (nomark _))) (pw_or1 (te_cmp vs_gt (pt_cmpR op_gt (ep_var (pv 0)) (ep_c (pe_glob rfl T.c_MOST_PLACES.choose_spec ⟨_, rfl⟩)) (nomark _)))))))
 (ss_one (ss_raise rfl (takes_of rfl rfl rfl rfl) (pmk_own PySem.F.excBase_ValueError T.x1 T.g_NoNumber T.k_NoNumber (raises_own T.b_1 T.t_1) rfl) rfl))
 ss_nil)
 (ss_one (ss_ret (ee_mv (pv 0)))))
theorem sc2 : FnScope ["asks", "most", "parts", "start", "seen", "at", "name"] ["asks", "most"] (defScope s2) := ⟨rfl, rfl, rfl, by decide +kernel, rfl, by decide +kernel, by decide +kernel⟩
theorem ok2 (T : Txt K mg a x y fd) : FnOk P w K mg base (L2.CX P w) 3 (a 2) (fd 2) ["asks", "most"] (spF (tab K x y) 2 m_parts_of) :=
  fn_ok T.f2 sc2 [true, true] rfl fun cdv A outer s H E σ0 hr => (ss_cons (ss_expr (ee_p (ep_call (ok1 T) (hr.mono (by decide)) rfl T.g1 T.f1.kp T.b1 (takes_of rfl rfl rfl rfl) (pr_cons (ep_var (pv 1)) pr_nil))))
 (ss_cons (ss_set (i := 2) sc2.nd rfl (by first | exact Or.inl rfl | exact Or.inr rfl) rfl (ee_lst (pd_row pk_nil')))
 (ss_cons (ss_set (i := 3) sc2.nd rfl (by first | exact Or.inl rfl | exact Or.inr rfl) rfl (ee_p (ep_c pe_int)))
 (ss_cons (ss_set (i := 4) sc2.nd rfl (by first | exact Or.inl rfl | exact Or.inr rfl) rfl (ee_p ep_dnew))
 (ss_cons (ss_for (passes_of rfl) rfl (ip_enum rfl (pi_enum (by rfl) T.z_enumerate (pk_p (ep_var (pv 0)) pk_nil'))) (pg_tup rfl (pgs_cons (pg_name (i := 5) sc2.nd rfl (Or.inl rfl)) (pgs_cons (pg_name (i := 6) sc2.nd rfl (Or.inl rfl)) pgs_nil))) (tg_tup (tgs_cons (tg_name rfl) (tgs_cons (tg_name rfl) tgs_nil)) (tl_cons (tl_cons tl_nil))) (fun _ h => by simp [h]) (fun σ1 => (ss_cons (ss_if (PW.pt (tw_and (te_ni rfl (hu_of hr) (ep_var (pv 6)) (ep_var (pv 4)) rfl) (pw_and1 (te_cmp vs_eq (pt_cmpR (op_eqD hr.units) (ep_N vs_len (pe_callB call_lenP (by rfl) T.z_len (by decide +kernel) (pr_cons (ep_var (pv 4)) pr_nil))) (ep_var (pv 1)) (nomark _))))))
 (ss_cons (ss_expr (ee_mut mu_append ty_lst (pe_bm PySem.F.plainAttrs_list PySem.F.slot_list_append PySem.F.type_list_append mt_append (el_var (pv 2)) (pk_p (ep_tup (ms := [(mVar 3), (mVar 5)]) (pk_p (ep_var (pv 3)) (pk_p (ep_var (pv 5)) pk_nil'))) pk_nil'))))
 (ss_cons (ss_set (i := 3) sc2.nd rfl (by first | exact Or.inl rfl | exact Or.inr rfl) rfl (ee_mv (pv 5)))
 (ss_one (ss_set (i := 4) sc2.nd rfl (by first | exact Or.inl rfl | exact Or.inr rfl) rfl (ee_p ep_dnew)))))
 ss_nil)
 (ss_one (ss_sub (r := rSetA) mu_setA (ps_setA (hu_of hr) ((ee_p (ep_c pe_bl))) (el_var (pv 4)) (ep_var (pv 6))))))))
 (ss_cons (ss_if (te_cmp vs_lt (pt_cmpR op_lt (ep_var (pv 3)) (ep_N vs_len (pe_callB call_lenP (by rfl) T.z_len (by decide +kernel) (pr_cons (ep_var (pv 0)) pr_nil))) (nomark _)))
 (ss_one (ss_expr (ee_mut mu_append ty_lst (pe_bm PySem.F.plainAttrs_list PySem.F.slot_list_append PySem.F.type_list_append mt_append (el_var (pv 2)) (pk_p (ep_tup (ms := [(mVar 3), (mN fLen [(mVar 0)])]) (pk_p (ep_var (pv 3)) (pk_p (ep_N vs_len (pe_callB call_lenP (by rfl) T.z_len (by decide +kernel) (pr_cons (ep_var (pv 0)) pr_nil))) pk_nil'))) pk_nil')))))
 ss_nil)
 (ss_one (ss_ret (ee_mv (pv 2))))))))))
theorem sc8 : FnScope ["_law_found"] ["_law_found"] (defScope s8) := ⟨rfl, rfl, rfl, by decide +kernel, rfl, by decide +kernel, by decide +kernel⟩
theorem ok8 (T : Txt K mg a x y fd) : FnOk P w K mg base (L2.CX P w) 1 (a 8) (fd 8) ["_law_found"] (spF (tab K x y) 1 mL_whole) :=
  fn_ok T.f8 sc8 [true] rfl fun cdv A outer s H E σ0 hr => (ss_one (ss_ret (ee_p (ep_and (ep_N vs_isi (pe_callB call_isi (by rfl) T.z_isinstance (by decide +kernel) (pr_cons (ep_var (pv 0)) (pr_cons (ep_c (pe_bltn (v := .ty "int") (by rfl) T.z_int (by decide +kernel) rfl)) pr_nil)))) (pe_one (ep_not (ep_N vs_isi (pe_callB call_isi (by rfl) T.z_isinstance (by decide +kernel) (pr_cons (ep_var (pv 0)) (pr_cons (ep_c (pe_bltn (v := .ty "bool") (by rfl) T.z_bool (by decide +kernel) rfl)) pr_nil))))))))))
theorem sc9 : FnScope ["_law_found", "_law_asks", "_law_most_here", "_law_at", "_law_part", "_law_some"] ["_law_found", "_law_asks", "_law_most_here"] (defScope s9) := ⟨rfl, rfl, rfl, by decide +kernel, rfl, by decide +kernel, by decide +kernel⟩
theorem ok9 (T : Txt K mg a x y fd) : FnOk P w K mg base (L2.CX P w) 2 (a 9) (fd 9) ["_law_found", "_law_asks", "_law_most_here"] (spF (tab K x y) 3 mL_end_to_end) :=
  fn_ok T.f9 sc9 [true, true, true] rfl fun cdv A outer s H E σ0 hr => (ss_cons (ss_if (te_not (te_bl (pt_val (ee_p (ep_N vs_isi (pe_callB call_isi (by rfl) T.z_isinstance (by decide +kernel) (pr_cons (ep_var (pv 0)) (pr_cons (ep_c (pe_bltn (v := .ty "list") (by rfl) T.z_list (by decide +kernel) rfl)) pr_nil))))))))
 (ss_one (ss_ret (ee_p (ep_c pe_bl))))
 ss_nil)
 (ss_cons (ss_set (i := 3) sc9.nd rfl (by first | exact Or.inl rfl | exact Or.inr rfl) rfl (ee_p (ep_c pe_int)))
 (ss_cons (ss_for (passes_of rfl) rfl (ip_any rfl (ep_var (pv 0))) (pg_name (i := 4) sc9.nd rfl (Or.inl rfl)) (tg_name rfl) (fun _ h => by simp [h]) (fun σ1 => (ss_cons (ss_if (PW.pt (tw_or (te_not (te_bl (pt_val (ee_p (ep_N vs_isi (pe_callB call_isi (by rfl) T.z_isinstance (by decide +kernel) (pr_cons (ep_var (pv 4)) (pr_cons (ep_c (pe_bltn (v := .ty "tuple") (by rfl) T.z_tuple (by decide +kernel) rfl)) pr_nil)))))))) (tw_or (te_cmp vs_ne (pt_cmpR (op_neD hr.units) (ep_N vs_len (pe_callB call_lenP (by rfl) T.z_len (by decide +kernel) (pr_cons (ep_var (pv 4)) pr_nil))) (ep_c pe_int) (nomark _))) (tw_or (te_not (te_bl (pt_val (ee_p (ep_call (ok8 T) (hr.mono (by decide)) rfl T.g8 T.f8.kp T.b8 (takes_of rfl rfl rfl rfl) (pr_cons (ep_ix rfl (hu_of hr) (ep_var (pv 4)) (ep_c pe_int) (fun _ _ => rfl) (fun _ _ => rfl)) pr_nil)))))) (pw_or1 (te_not (te_bl (pt_val (ee_p (ep_call (ok8 T) (hr.mono (by decide)) rfl T.g8 T.f8.kp T.b8 (takes_of rfl rfl rfl rfl) (pr_cons (ep_ix rfl (hu_of hr) (ep_var (pv 4)) (ep_c pe_int) (fun _ _ => rfl) (fun _ _ => rfl)) pr_nil)))))))))))
 (ss_one (ss_ret (ee_p (ep_c pe_bl))))
 ss_nil)
 (ss_cons (ss_if (PW.pt (tw_or (te_cmp vs_ne (pt_cmpR (op_neD hr.units) (ep_ix rfl (hu_of hr) (ep_var (pv 4)) (ep_c pe_int) (fun _ _ => rfl) (fun _ _ => rfl)) (ep_var (pv 3)) (nomark _))) (tw_or (te_cmp vs_le (pt_cmpR op_le (ep_ix rfl (hu_of hr) (ep_var (pv 4)) (ep_c pe_int) (fun _ _ => rfl) (fun _ _ => rfl)) (ep_var (pv 3)) (nomark _))) (pw_or1 (te_cmp vs_gt (pt_cmpR op_gt (ep_ix rfl (hu_of hr) (ep_var (pv 4)) (ep_c pe_int) (fun _ _ => rfl) (fun _ _ => rfl)) (ep_N vs_len (pe_callB call_lenP (by rfl) T.z_len (by decide +kernel) (pr_cons (ep_var (pv 1)) pr_nil))) (nomark _)))))))
 (ss_one (ss_ret (ee_p (ep_c pe_bl))))
 ss_nil)
 (ss_cons (ss_set (i := 5) sc9.nd rfl (by first | exact Or.inl rfl | exact Or.inr rfl) rfl (ee_p (ep_sl (ml := (some (mVar 3))) (mh := (some (mIx (mVar 4) (mC (.int 1))))) rfl (ep_var (pv 1)) (po_some (ep_var (pv 3))) (po_some (ep_ix rfl (hu_of hr) (ep_var (pv 4)) (ep_c pe_int) (fun _ _ => rfl) (fun _ _ => rfl))))))
 (ss_cons (ss_if (te_cmp vs_gt (pt_cmpR op_gt (ep_lenS rfl rfl (by rfl) T.z_len (by rfl) T.z_set (ep_var (pv 5))) (ep_var (pv 2)) (nomark _)))
 (ss_one (ss_ret (ee_p (ep_c pe_bl))))
 ss_nil)
 (ss_cons (ss_set (i := 3) sc9.nd rfl (by first | exact Or.inl rfl | exact Or.inr rfl) rfl (ee_p (ep_ix rfl (hu_of hr) (ep_var (pv 4)) (ep_c pe_int) (fun _ _ => rfl) (fun _ _ => rfl))))
 (ss_one (ss_if (PW.pt (tw_and (te_cmp vs_lt (pt_cmpR op_lt (ep_var (pv 3)) (ep_N vs_len (pe_callB call_lenP (by rfl) T.z_len (by decide +kernel) (pr_cons (ep_var (pv 1)) pr_nil))) (nomark _))) (pw_and1 (PW.pt (tw_or (te_cmp vs_ne (pt_cmpR (op_neD hr.units) (ep_lenS rfl rfl (by rfl) T.z_len (by rfl) T.z_set (ep_var (pv 5))) (ep_var (pv 2)) (nomark _))) (pw_or1 (te_in rfl (hu_of hr) (ep_ix rfl (hu_of hr) (ep_var (pv 1)) (ep_var (pv 3)) (fun _ _ => rfl) (fun _ _ => rfl)) (ep_var (pv 5)) rfl)))))))
 (ss_one (ss_ret (ee_p (ep_c pe_bl))))
 ss_nil)))))))))
 (ss_one (ss_ret (ee_p (ep_2 vs_eq (pe_cmpR (op_eqD hr.units) (ep_var (pv 3)) (ep_N vs_len (pe_callB call_lenP (by rfl) T.z_len (by decide +kernel) (pr_cons (ep_var (pv 1)) pr_nil))) (nomark _)))))))))
theorem sc10 : FnScope ["_law_asks", "_law_most_here", "_law_told", "_law_base", "e"] ["_law_asks", "_law_most_here"] (defScope s10) := ⟨rfl, rfl, rfl, by decide +kernel, rfl, by decide +kernel, by decide +kernel⟩
theorem ok10 (T : Txt K mg a x y fd) : FnOk P w K mg base (L2.CX P w) 4 (a 10) (fd 10) ["_law_asks", "_law_most_here"] (spF (tab K x y) 2 mL_refused) :=
  fn_ok T.f10 sc10 [true, true] rfl fun cdv A outer s H E σ0 hr => (ss_cons (ss_set (i := 2) sc10.nd rfl (by first | exact Or.inl rfl | exact Or.inr rfl) rfl (ee_p (ep_c pe_bl)))
 (ss_cons (ss_set (i := 3) sc10.nd rfl (by first | exact Or.inl rfl | exact Or.inr rfl) rfl (ee_p (ep_c pe_bl)))
 (ss_cons (ss_try rfl rfl rfl ⟨rfl, by decide, .inl T.g_NoNumber⟩ (takes_of rfl rfl rfl rfl) (sT1 T) (fun W pn xe tk po => (ss_one (ss_expr (ee_p (ep_call (ok2 T) (hr.mono (by decide)) rfl T.g2 T.f2.kp T.b2 tk (pr_cons (ep_var (pv 0)) (pr_cons (ep_var (pv 1)) pr_nil))))))) (fun a oe cls d pn hz hf => (ss_one (ss_set (i := 2) sc10.nd rfl (by first | exact Or.inl rfl | exact Or.inr rfl) rfl (ee_p (ep_c pe_bl))))))
 (ss_cons (ss_tryIs (c := (.ty "ValueError")) (ie := 4) (iv := 3) rfl rfl rfl sc10.nd rfl rfl rfl rfl (Or.inl rfl) ⟨rfl, by decide, .inl T.g_CastError⟩ (takes_of rfl rfl rfl rfl) rfl rfl (by decide) (sT0 T) (isT_ValueError T) T.z_isinstance (by rfl) (fun _ _ => pe_bltn (v := .ty "ValueError") (by rfl) T.z_ValueError (by decide +kernel) rfl) (fun _ _ => pv 4) (fun _ _ te h => ps_set sc10.nd rfl (Or.inl rfl) h) (fun W pn xe tk po => (ss_one (ss_expr (ee_p (ep_call (ok2 T) (hr.mono (by decide)) rfl T.g2 T.f2.kp T.b2 tk (pr_cons (ep_var (pv 0)) (pr_cons (ep_var (pv 1)) pr_nil))))))))
 (ss_one (ss_ret (ee_p (ep_and (ep_var (pv 2)) (pe_one (ep_var (pv 3)))))))))))
theorem sc11 : FnScope ["_law_script", "_law_asks", "_law_most_here", "_law_cell_here", "_law_far", "_law_bad", "_law_handed", "_law_found"] ["_law_script"] (defScope s11) := ⟨rfl, rfl, rfl, by decide +kernel, rfl, by decide +kernel, by decide +kernel⟩
theorem ok11 (T : Txt K mg a x y fd) : FnOk P w K mg base (L2.CX P w) 5 (a 11) (fd 11) ["_law_script"] (spF (tab K x y) 1 m_law) :=
  fn_ok T.f11 sc11 [true] rfl fun cdv A outer s H E σ0 hr => (ss_cons (ss_set (i := 1) sc11.nd rfl (by first | exact Or.inl rfl | exact Or.inr rfl) rfl (ee_p (ep_call (ok6 T) (hr.mono (by decide)) rfl T.g6 T.f6.kp T.b6 (takes_of rfl rfl rfl rfl) (pr_cons (ep_var (pv 0)) pr_nil))))
 (ss_cons (ss_set (i := 2) sc11.nd rfl (by first | exact Or.inl rfl | exact Or.inr rfl) rfl (ee_p (ep_call (ok7 T) (hr.mono (by decide)) rfl T.g7 T.f7.kp T.b7 (takes_of rfl rfl rfl rfl) (pr_cons (ep_call (ok3 T) (hr.mono (by decide)) rfl T.g3 T.f3.kp T.b3 (takes_of rfl rfl rfl rfl) (pr_cons (ep_var (pv 0)) (pr_cons (ep_c pe_int) pr_nil))) pr_nil))))
 (ss_cons (ss_set (i := 3) sc11.nd rfl (by first | exact Or.inl rfl | exact Or.inr rfl) rfl (ee_p (ep_call (ok3 T) (hr.mono (by decide)) rfl T.g3 T.f3.kp T.b3 (takes_of rfl rfl rfl rfl) (pr_cons (ep_var (pv 0)) (pr_cons (ep_c pe_int) pr_nil)))))
 (ss_cons (ss_set (i := 4) sc11.nd rfl (by first | exact Or.inl rfl | exact Or.inr rfl) rfl (ee_p (ep_2 vs_mod (pe_op op_modX (ep_2 vs_div (pe_op op_fdivX (ep_var (pv 3)) (ep_c pe_int))) (ep_2 vs_pow (pe_op op_pow (ep_c pe_int) (ep_c pe_int)))))))
 (ss_cons (ss_set (i := 5) sc11.nd rfl (by first | exact Or.inl rfl | exact Or.inr rfl) rfl (ee_p (ep_ix rfl (hu_of hr) (ep_fz (ep_lst (ms := [(mC (.int 0)), (m2 fAdd (m2 fPow (mC (.int 10)) (mC (.int 6))) (mC (.int 1))), (mC .non), (mC (.bl true)), (mC (.bl false)), (mC (.str "7")), (mDsp D.lst [(mC (.int 3))]), (mDsp D.tup [(mC (.int 2))]), (m2 fSub (m2 fSub (mC (.int 0)) (mC (.int 1))) (mVar 4)), (m2 fAdd (m2 fAdd (m2 fPow (mC (.int 10)) (mC (.int 6))) (mC (.int 1))) (mVar 4))]) (pk_p (ep_c pe_int) (pk_p (ep_2 vs_add (pe_op op_addP (ep_2 vs_pow (pe_op op_pow (ep_c pe_int) (ep_c pe_int))) (ep_c pe_int))) (pk_p (ep_c pe_non) (pk_p (ep_c pe_bl) (pk_p (ep_c pe_bl) (pk_p (ep_c pe_str) (pk_p (ep_lst (ms := [(mC (.int 3))]) (pk_p (ep_c pe_int) pk_nil')) (pk_p (ep_tup (ms := [(mC (.int 2))]) (pk_p (ep_c pe_int) pk_nil')) (pk_p (ep_2 vs_sub (pe_op op_sub (ep_2 vs_sub (pe_op op_sub (ep_c pe_int) (ep_c pe_int))) (ep_var (pv 4)))) (pk_p (ep_2 vs_add (pe_op op_addP (ep_2 vs_add (pe_op op_addP (ep_2 vs_pow (pe_op op_pow (ep_c pe_int) (ep_c pe_int))) (ep_c pe_int))) (ep_var (pv 4)))) pk_nil')))))))))))) (ep_2 vs_mod (pe_op op_modX (ep_var (pv 3)) (ep_c pe_int))) (fun _ _ => rfl) (fun _ _ => rfl))))
 (ss_cons (ss_set (i := 6) sc11.nd rfl (by first | exact Or.inl rfl | exact Or.inr rfl) rfl (ee_p (ep_N vs_listA (pe_callTy (call_listA rfl) (by rfl) T.z_list (by decide +kernel) (pr_cons (ep_var (pv 1)) pr_nil)))))
 (ss_cons (ss_set (i := 7) sc11.nd rfl (by first | exact Or.inl rfl | exact Or.inr rfl) rfl (ee_p (ep_call (ok2 T) (hr.mono (by decide)) rfl T.g2 T.f2.kp T.b2 (takes_of rfl rfl rfl rfl) (pr_cons (ep_var (pv 6)) (pr_cons (ep_var (pv 2)) pr_nil)))))
 (ss_cons (ss_if (PW.pt (tw_or (te_cmp vs_ne (pt_cmpR (op_neD hr.units) (ep_var (pv 6)) (ep_var (pv 1)) (nomark _))) (tw_or (te_not (te_bl (pt_val (ee_p (ep_call (ok9 T) (hr.mono (by decide)) rfl T.g9 T.f9.kp T.b9 (takes_of rfl rfl rfl rfl) (pr_cons (ep_var (pv 7)) (pr_cons (ep_var (pv 1)) (pr_cons (ep_var (pv 2)) pr_nil)))))))) (pw_or1 (te_not (te_bl (pt_val (ee_p (ep_call (ok10 T) (hr.mono (by decide)) rfl T.g10 T.f10.kp T.b10 (takes_of rfl rfl rfl rfl) (pr_cons (ep_var (pv 6)) (pr_cons (ep_var (pv 5)) pr_nil)))))))))))
 (ss_one (ss_ret (ee_p (ep_c pe_bl))))
 ss_nil)
 (ss_cons (ss_expr (ee_mut0 mu_clear ty_lst (pe_bm0 PySem.F.plainAttrs_list PySem.F.slot_list_clear PySem.F.type_list_clear mt_clear (el_var (pv 7)))))
 (ss_one (ss_ret (ee_p (ep_call (ok9 T) (hr.mono (by decide)) rfl T.g9 T.f9.kp T.b9 (takes_of rfl rfl rfl rfl) (pr_cons (ep_call (ok2 T) (hr.mono (by decide)) rfl T.g2 T.f2.kp T.b2 (takes_of rfl rfl rfl rfl) (pr_cons (ep_var (pv 6)) (pr_cons (ep_var (pv 2)) pr_nil))) (pr_cons (ep_var (pv 1)) (pr_cons (ep_var (pv 2)) pr_nil))))))))))))))))
end
theorem all_mk {l : PySem.W.OpenLaw} {w : World} {K : PySem.W.Frag} {h : Heap} {mg : Str → Option Value} {fa : Addr} (X : K.In h) (G : h.Ns mainGlobals mg) (hfa : mg "law" = some (.ref fa))
    {x0 : Addr}
    {x1 : Addr}
    {f3 : Addr} {od3 an3 : Option Addr} {sl3 : Array (Option Value)} {oc3 kV3 dc3 pm3 cd3 ct3 : Value}
    {f5 : Addr} {od5 an5 : Option Addr} {sl5 : Array (Option Value)} {oc5 kV5 dc5 pm5 cd5 ct5 : Value}
    {f4 : Addr} {od4 an4 : Option Addr} {sl4 : Array (Option Value)} {oc4 kV4 dc4 pm4 cd4 ct4 : Value}
    {f6 : Addr} {od6 an6 : Option Addr} {sl6 : Array (Option Value)} {oc6 kV6 dc6 pm6 cd6 ct6 : Value}
    {f7 : Addr} {od7 an7 : Option Addr} {sl7 : Array (Option Value)} {oc7 kV7 dc7 pm7 cd7 ct7 : Value}
    {f0 : Addr} {od0 an0 : Option Addr} {sl0 : Array (Option Value)} {oc0 kV0 dc0 pm0 cd0 ct0 : Value}
    {f1 : Addr} {od1 an1 : Option Addr} {sl1 : Array (Option Value)} {oc1 kV1 dc1 pm1 cd1 ct1 : Value}
    {f2 : Addr} {od2 an2 : Option Addr} {sl2 : Array (Option Value)} {oc2 kV2 dc2 pm2 cd2 ct2 : Value}
    {f8 : Addr} {od8 an8 : Option Addr} {sl8 : Array (Option Value)} {oc8 kV8 dc8 pm8 cd8 ct8 : Value}
    {f9 : Addr} {od9 an9 : Option Addr} {sl9 : Array (Option Value)} {oc9 kV9 dc9 pm9 cd9 ct9 : Value}
    {f10 : Addr} {od10 an10 : Option Addr} {sl10 : Array (Option Value)} {oc10 kV10 dc10 pm10 cd10 ct10 : Value}
    {f11 : Addr} {od11 an11 : Option Addr} {sl11 : Array (Option Value)} {oc11 kV11 dc11 pm11 cd11 ct11 : Value}
    {t_MOST_PLACES : Tok}
    (g_CastError : PySem.W.nsIn K mainGlobals "CastError" = some (some (.ref x0)))
    (g_NoNumber : PySem.W.nsIn K mainGlobals "NoNumber" = some (some (.ref x1)))
    (a3 : PySem.W.nsIn K mainGlobals "_law_cell" = some (some (.ref f3)))
    (l3 : K.lookup f3 = some ⟨oc3, od3, .func (PySem.W.fnOf "_law_cell" "_law_cell" (defArgs s3) (defBody s3) (defScope s3) .none kV3 dc3 pm3 an3 cd3 ct3), sl3⟩)
    (c3 : PySem.W.codeIn K cd3 "_law_cell" = true)
    (k3 : PySem.W.keepIn K (.ref f3) = true)
    (a5 : PySem.W.nsIn K mainGlobals "_law_names" = some (some (.ref f5)))
    (l5 : K.lookup f5 = some ⟨oc5, od5, .func (PySem.W.fnOf "_law_names" "_law_names" (defArgs s5) (defBody s5) (defScope s5) .none kV5 dc5 pm5 an5 cd5 ct5), sl5⟩)
    (c5 : PySem.W.codeIn K cd5 "_law_names" = true)
    (k5 : PySem.W.keepIn K (.ref f5) = true)
    (a4 : PySem.W.nsIn K mainGlobals "_law_stream" = some (some (.ref f4)))
    (l4 : K.lookup f4 = some ⟨oc4, od4, .func (PySem.W.fnOf "_law_stream" "_law_stream" (defArgs s4) (defBody s4) (defScope s4) .none kV4 dc4 pm4 an4 cd4 ct4), sl4⟩)
    (c4 : PySem.W.codeIn K cd4 "_law_stream" = true)
    (k4 : PySem.W.keepIn K (.ref f4) = true)
    (a6 : PySem.W.nsIn K mainGlobals "_law_row" = some (some (.ref f6)))
    (l6 : K.lookup f6 = some ⟨oc6, od6, .func (PySem.W.fnOf "_law_row" "_law_row" (defArgs s6) (defBody s6) (defScope s6) .none kV6 dc6 pm6 an6 cd6 ct6), sl6⟩)
    (c6 : PySem.W.codeIn K cd6 "_law_row" = true)
    (k6 : PySem.W.keepIn K (.ref f6) = true)
    (a7 : PySem.W.nsIn K mainGlobals "_law_most" = some (some (.ref f7)))
    (l7 : K.lookup f7 = some ⟨oc7, od7, .func (PySem.W.fnOf "_law_most" "_law_most" (defArgs s7) (defBody s7) (defScope s7) .none kV7 dc7 pm7 an7 cd7 ct7), sl7⟩)
    (c7 : PySem.W.codeIn K cd7 "_law_most" = true)
    (k7 : PySem.W.keepIn K (.ref f7) = true)
    (a0 : PySem.W.nsIn K mainGlobals "is_whole" = some (some (.ref f0)))
    (l0 : K.lookup f0 = some ⟨oc0, od0, .func (PySem.W.fnOf "is_whole" "is_whole" (defArgs s0) (defBody s0) (defScope s0) .none kV0 dc0 pm0 an0 cd0 ct0), sl0⟩)
    (c0 : PySem.W.codeIn K cd0 "is_whole" = true)
    (k0 : PySem.W.keepIn K (.ref f0) = true)
    (a1 : PySem.W.nsIn K mainGlobals "need_places" = some (some (.ref f1)))
    (l1 : K.lookup f1 = some ⟨oc1, od1, .func (PySem.W.fnOf "need_places" "need_places" (defArgs s1) (defBody s1) (defScope s1) .none kV1 dc1 pm1 an1 cd1 ct1), sl1⟩)
    (c1 : PySem.W.codeIn K cd1 "need_places" = true)
    (k1 : PySem.W.keepIn K (.ref f1) = true)
    (a2 : PySem.W.nsIn K mainGlobals "parts_of" = some (some (.ref f2)))
    (l2 : K.lookup f2 = some ⟨oc2, od2, .func (PySem.W.fnOf "parts_of" "parts_of" (defArgs s2) (defBody s2) (defScope s2) .none kV2 dc2 pm2 an2 cd2 ct2), sl2⟩)
    (c2 : PySem.W.codeIn K cd2 "parts_of" = true)
    (k2 : PySem.W.keepIn K (.ref f2) = true)
    (a8 : PySem.W.nsIn K mainGlobals "_law_whole" = some (some (.ref f8)))
    (l8 : K.lookup f8 = some ⟨oc8, od8, .func (PySem.W.fnOf "_law_whole" "_law_whole" (defArgs s8) (defBody s8) (defScope s8) .none kV8 dc8 pm8 an8 cd8 ct8), sl8⟩)
    (c8 : PySem.W.codeIn K cd8 "_law_whole" = true)
    (k8 : PySem.W.keepIn K (.ref f8) = true)
    (a9 : PySem.W.nsIn K mainGlobals "_law_end_to_end" = some (some (.ref f9)))
    (l9 : K.lookup f9 = some ⟨oc9, od9, .func (PySem.W.fnOf "_law_end_to_end" "_law_end_to_end" (defArgs s9) (defBody s9) (defScope s9) .none kV9 dc9 pm9 an9 cd9 ct9), sl9⟩)
    (c9 : PySem.W.codeIn K cd9 "_law_end_to_end" = true)
    (k9 : PySem.W.keepIn K (.ref f9) = true)
    (a10 : PySem.W.nsIn K mainGlobals "_law_refused" = some (some (.ref f10)))
    (l10 : K.lookup f10 = some ⟨oc10, od10, .func (PySem.W.fnOf "_law_refused" "_law_refused" (defArgs s10) (defBody s10) (defScope s10) .none kV10 dc10 pm10 an10 cd10 ct10), sl10⟩)
    (c10 : PySem.W.codeIn K cd10 "_law_refused" = true)
    (k10 : PySem.W.keepIn K (.ref f10) = true)
    (a11 : PySem.W.nsIn K mainGlobals "law" = some (some (.ref f11)))
    (l11 : K.lookup f11 = some ⟨oc11, od11, .func (PySem.W.fnOf "law" "law" (defArgs s11) (defBody s11) (defScope s11) .none kV11 dc11 pm11 an11 cd11 ct11), sl11⟩)
    (c11 : PySem.W.codeIn K cd11 "law" = true)
    (k11 : PySem.W.keepIn K (.ref f11) = true)
    (z_ValueError : PySem.W.nsIn K mainGlobals "ValueError" = some none)
    (z_bool : PySem.W.nsIn K mainGlobals "bool" = some none)
    (z_enumerate : PySem.W.nsIn K mainGlobals "enumerate" = some none)
    (z_int : PySem.W.nsIn K mainGlobals "int" = some none)
    (z_isinstance : PySem.W.nsIn K mainGlobals "isinstance" = some none)
    (z_len : PySem.W.nsIn K mainGlobals "len" = some none)
    (z_list : PySem.W.nsIn K mainGlobals "list" = some none)
    (z_range : PySem.W.nsIn K mainGlobals "range" = some none)
    (z_set : PySem.W.nsIn K mainGlobals "set" = some none)
    (z_tuple : PySem.W.nsIn K mainGlobals "tuple" = some none)
    (c_MOST_PLACES : PySem.W.nsIn K mainGlobals "MOST_PLACES" = some (some (.int 1000000 t_MOST_PLACES)))
    (b_0 : PySem.W.subIn K (.ref x0) (.type "BaseException") = some true)
    (t_0 : PySem.W.typeIn K (.ref x0) = some (.type "type"))
    (e1 : PySem.W.excIn K x1 [.type "ValueError", .type "Exception", .type "BaseException", .type "object"] "ValueError.__new__" = true)
    (k_NoNumber : PySem.W.keepIn K (.ref x1) = true)
    (b_1 : PySem.W.subIn K (.ref x1) (.type "BaseException") = some true)
    (t_1 : PySem.W.typeIn K (.ref x1) = some (.type "type"))
    (hd_0 : PySem.W.hasDictIn K x0 = true)
    (hd_1 : PySem.W.hasDictIn K x1 = true)
    (h_1_0 : PySem.W.subIn K (.ref x1) (.ref x0) = some true)
    (h_1_1 : PySem.W.subIn K (.ref x1) (.ref x1) = some true)
    (xa1 : PySem.W.findIn K (.ref x1) "__getattribute__" = some (some (.builtin "BaseException.__getattribute__")))
    (xb1 : PySem.W.findIn K (.ref x1) "__getattr__" = some none)
    (xd1 : PySem.W.hasDictIn K x1 = true)
    (xe1 : PySem.W.findIn K (.ref x1) "__class__" = some (some (.builtin "object.__class__")))
    (xg1 : PySem.W.takesIn K (.builtin "object.__class__") = some true)
    (xh1 : PySem.W.mroIn K x1 (.type "object") = some true)
    (xf1 : PySem.W.specialIn K (.builtin "object.__class__") "__get__" = some (some (.builtin "getset_descriptor.__get__")))
    (ki_1_ValueError : PySem.W.subIn K (.ref x1) (.type "ValueError") = some true)
    : ∃ (x y : Nat → Addr) (fd : FuncData), (∀ (s : Shared) (v : Value), BindsTo s fd ⟨[v], []⟩ [("_law_script", v)]) ∧ ∀ base : Heap, K.In base → base.Ns mainGlobals mg → FnOk l.prog w K mg base (L2.CX l.prog w) 5 fa fd ["_law_script"] (spF (tab K x y) 1 m_law) := by
  have e := hfa.symm.trans (PySem.W.mg_of X G a11)
  cases e
  have F3 := fun_mk (st := s3) l3 c3 k3
  have B3 := F3.binds (ps := ["_law_script", "_law_k"]) fun _ _ _ _ _ _ us hl => match us, hl with | [_, _], _ => rfl
  have F5 := fun_mk (st := s5) l5 c5 k5
  have B5 := F5.binds (ps := ["_law_cell_here", "_law_many"]) fun _ _ _ _ _ _ us hl => match us, hl with | [_, _], _ => rfl
  have F4 := fun_mk (st := s4) l4 c4 k4
  have B4 := F4.binds (ps := ["_law_cell_here", "_law_many"]) fun _ _ _ _ _ _ us hl => match us, hl with | [_, _], _ => rfl
  have F6 := fun_mk (st := s6) l6 c6 k6
  have B6 := F6.binds (ps := ["_law_script"]) fun _ _ _ _ _ _ us hl => match us, hl with | [_], _ => rfl
  have F7 := fun_mk (st := s7) l7 c7 k7
  have B7 := F7.binds (ps := ["_law_cell_here"]) fun _ _ _ _ _ _ us hl => match us, hl with | [_], _ => rfl
  have F0 := fun_mk (st := s0) l0 c0 k0
  have B0 := F0.binds (ps := ["thing"]) fun _ _ _ _ _ _ us hl => match us, hl with | [_], _ => rfl
  have F1 := fun_mk (st := s1) l1 c1 k1
  have B1 := F1.binds (ps := ["places"]) fun _ _ _ _ _ _ us hl => match us, hl with | [_], _ => rfl
  have F2 := fun_mk (st := s2) l2 c2 k2
  have B2 := F2.binds (ps := ["asks", "most"]) fun _ _ _ _ _ _ us hl => match us, hl with | [_, _], _ => rfl
  have F8 := fun_mk (st := s8) l8 c8 k8
  have B8 := F8.binds (ps := ["_law_found"]) fun _ _ _ _ _ _ us hl => match us, hl with | [_], _ => rfl
  have F9 := fun_mk (st := s9) l9 c9 k9
  have B9 := F9.binds (ps := ["_law_found", "_law_asks", "_law_most_here"]) fun _ _ _ _ _ _ us hl => match us, hl with | [_, _, _], _ => rfl
  have F10 := fun_mk (st := s10) l10 c10 k10
  have B10 := F10.binds (ps := ["_law_asks", "_law_most_here"]) fun _ _ _ _ _ _ us hl => match us, hl with | [_, _], _ => rfl
  have F11 := fun_mk (st := s11) l11 c11 k11
  have B11 := F11.binds (ps := ["_law_script"]) fun _ _ _ _ _ _ us hl => match us, hl with | [_], _ => rfl
  have T : Txt K mg (fun n => match n with | 3 => f3 | 5 => f5 | 4 => f4 | 6 => f6 | 7 => f7 | 0 => f0 | 1 => f1 | 2 => f2 | 8 => f8 | 9 => f9 | 10 => f10 | 11 => fa | _ => 0) (fun n => match n with | 0 => x0 | 1 => x1 | _ => 0) (fun n => match n with  | _ => 0) (fun n => match n with | 3 => PySem.W.fnOf "_law_cell" "_law_cell" (defArgs s3) (defBody s3) (defScope s3) .none kV3 dc3 pm3 an3 cd3 ct3 | 5 => PySem.W.fnOf "_law_names" "_law_names" (defArgs s5) (defBody s5) (defScope s5) .none kV5 dc5 pm5 an5 cd5 ct5 | 4 => PySem.W.fnOf "_law_stream" "_law_stream" (defArgs s4) (defBody s4) (defScope s4) .none kV4 dc4 pm4 an4 cd4 ct4 | 6 => PySem.W.fnOf "_law_row" "_law_row" (defArgs s6) (defBody s6) (defScope s6) .none kV6 dc6 pm6 an6 cd6 ct6 | 7 => PySem.W.fnOf "_law_most" "_law_most" (defArgs s7) (defBody s7) (defScope s7) .none kV7 dc7 pm7 an7 cd7 ct7 | 0 => PySem.W.fnOf "is_whole" "is_whole" (defArgs s0) (defBody s0) (defScope s0) .none kV0 dc0 pm0 an0 cd0 ct0 | 1 => PySem.W.fnOf "need_places" "need_places" (defArgs s1) (defBody s1) (defScope s1) .none kV1 dc1 pm1 an1 cd1 ct1 | 2 => PySem.W.fnOf "parts_of" "parts_of" (defArgs s2) (defBody s2) (defScope s2) .none kV2 dc2 pm2 an2 cd2 ct2 | 8 => PySem.W.fnOf "_law_whole" "_law_whole" (defArgs s8) (defBody s8) (defScope s8) .none kV8 dc8 pm8 an8 cd8 ct8 | 9 => PySem.W.fnOf "_law_end_to_end" "_law_end_to_end" (defArgs s9) (defBody s9) (defScope s9) .none kV9 dc9 pm9 an9 cd9 ct9 | 10 => PySem.W.fnOf "_law_refused" "_law_refused" (defArgs s10) (defBody s10) (defScope s10) .none kV10 dc10 pm10 an10 cd10 ct10 | _ => PySem.W.fnOf "law" "law" (defArgs s11) (defBody s11) (defScope s11) .none kV11 dc11 pm11 an11 cd11 ct11) :=
    { f3 := F3,
      b3 := B3,
      g3 := PySem.W.mg_of X G a3,
      f5 := F5,
      b5 := B5,
      g5 := PySem.W.mg_of X G a5,
      f4 := F4,
      b4 := B4,
      g4 := PySem.W.mg_of X G a4,
      f6 := F6,
      b6 := B6,
      g6 := PySem.W.mg_of X G a6,
      f7 := F7,
      b7 := B7,
      g7 := PySem.W.mg_of X G a7,
      f0 := F0,
      b0 := B0,
      g0 := PySem.W.mg_of X G a0,
      f1 := F1,
      b1 := B1,
      g1 := PySem.W.mg_of X G a1,
      f2 := F2,
      b2 := B2,
      g2 := PySem.W.mg_of X G a2,
      f8 := F8,
      b8 := B8,
      g8 := PySem.W.mg_of X G a8,
      f9 := F9,
      b9 := B9,
      g9 := PySem.W.mg_of X G a9,
      f10 := F10,
      b10 := B10,
      g10 := PySem.W.mg_of X G a10,
      f11 := F11,
      b11 := B11,
      g11 := PySem.W.mg_of X G a11,
      z_ValueError := PySem.W.mg_none_of X G z_ValueError,
      z_bool := PySem.W.mg_none_of X G z_bool,
      z_enumerate := PySem.W.mg_none_of X G z_enumerate,
      z_int := PySem.W.mg_none_of X G z_int,
      z_isinstance := PySem.W.mg_none_of X G z_isinstance,
      z_len := PySem.W.mg_none_of X G z_len,
      z_list := PySem.W.mg_none_of X G z_list,
      z_range := PySem.W.mg_none_of X G z_range,
      z_set := PySem.W.mg_none_of X G z_set,
      z_tuple := PySem.W.mg_none_of X G z_tuple,
      c_MOST_PLACES := ⟨_, PySem.W.mg_of X G c_MOST_PLACES⟩,
      g_CastError := PySem.W.mg_of X G g_CastError,
      g_NoNumber := PySem.W.mg_of X G g_NoNumber,
      b_0 := b_0,
      t_0 := t_0,
      x1 := e1,
      k_NoNumber := k_NoNumber,
      b_1 := b_1,
      t_1 := t_1,
      sb_1_0 := PySem.W.exm_ref b_0 hd_0 t_0 h_1_0,
      sb_1_1 := PySem.W.exm_ref b_1 hd_1 t_1 h_1_1,
      xc_1 := ⟨xa1, xb1, b_1, xd1, xe1, xf1, xg1, xh1⟩,
      ki_1_ValueError := kit1_ty (by decide +kernel) ki_1_ValueError }
  exact ⟨_, _, _, fun s v => .of_eq rfl, fun base _ _ => ok11 T⟩
end G
namespace G
open PySem L2 Tr
/-! base: no mirror of a law stands here -/
def cell (ns : List Int) (k : Nat) : Int := ns.getD k 0
/-! loops -/
theorem loop_inv (f : TgF) (b : MS) (P : Nat → En → Prop) : ∀ (items : List D) (k : Nat) (env : En), P k env → (∀ j d env, items[j]? = some d → P (k + j) env → ∃ e1 e2, f d env = some e1 ∧ b e1 = .nx e2 ∧ P (k + j + 1) e2) → ∃ env', loopF f b items env = .nx env' ∧ P (k + items.length) env'
  | [], k, env, h, _ => ⟨env, by simp [loopF], h⟩
  | d :: ds, k, env, h, st => by
    obtain ⟨e1, e2, h1, h2, h3⟩ := st 0 d env rfl h
    obtain ⟨env', h4, h5⟩ := loop_inv f b P ds (k + 1) e2 h3 fun j d' env' hj hp => by
      obtain ⟨e3, e4, g1, g2, g3⟩ := st (j + 1) d' env' (by simpa using hj) (by rw [show k + (j + 1) = k + 1 + j by omega]; exact hp)
      exact ⟨e3, e4, g1, g2, by rw [show k + 1 + j + 1 = k + (j + 1) + 1 by omega]; exact g3⟩
    refine ⟨env', by simp only [loopF, h1, h2, h4], ?_⟩
    rw [List.length_cons, show k + (ds.length + 1) = k + 1 + ds.length by omega]
    exact h5
/-- what a loop's body leaves, told by its ways out -/
def After (N : En → Prop) (Q : SS → Prop) : SS → Prop
  | .nx e => N e
  | .ct e => N e
  | .bk e => Q (.nx e)
  | z => Q z
theorem loop_wp (f : TgF) (b : MS) (Q : SS → Prop) (P : Nat → En → Prop) : ∀ (items : List D) (k : Nat) (env : En), P k env → (∀ j d env, items[j]? = some d → P (k + j) env → ∃ e1, f d env = some e1 ∧ After (P (k + j + 1)) Q (b e1)) → (∀ env, P (k + items.length) env → Q (.nx env)) → Q (loopF f b items env)
  | [], k, env, h, _, fin => by simpa [loopF] using fin env h
  | d :: ds, k, env, h, st, fin => by
    obtain ⟨e1, h1, h2⟩ := st 0 d env rfl h
    have go : ∀ e2, P (k + 1) e2 → Q (loopF f b ds e2) := fun e2 h3 => loop_wp f b Q P ds (k + 1) e2 h3 (fun j d' env' hj hp => by
      obtain ⟨e3, g1, g2⟩ := st (j + 1) d' env' (by simpa using hj) (by rw [show k + (j + 1) = k + 1 + j by omega]; exact hp)
      exact ⟨e3, g1, by rw [show k + 1 + j + 1 = k + (j + 1) + 1 by omega]; exact g2⟩) (fun env hp => fin env (by rw [List.length_cons, show k + (ds.length + 1) = k + 1 + ds.length by omega]; exact hp))
    simp only [loopF, h1]
    cases hb : b e1 with
    | nx e => rw [hb] at h2; exact go e h2
    | ct e => rw [hb] at h2; exact go e h2
    | bk e => rw [hb] at h2; exact h2
    | rt d e => rw [hb] at h2; exact h2
    | ex x e => rw [hb] at h2; exact h2
    | er => rw [hb] at h2; exact h2
/-- the items of range(m) -/
abbrev rgI (m : Int) : List D := (List.range m.toNat).map fun k : Nat => xI (k : Int)
theorem rgI_at {m : Int} {j : Nat} {d : D} (h : (rgI m)[j]? = some d) : d = xI (j : Int) ∧ (j : Int) < m := by
  obtain ⟨hj, e⟩ := List.getElem?_eq_some_iff.mp h
  simp at hj e
  exact ⟨e.symm, by omega⟩
theorem rg1 {mi : ME} {env : En} {m : Int} (h : ∃ r, mi env = .ok r ∧ r.d = xI m) (hr : rgOk m = true) : iRg1 mi env = .ok (rgI m) [] := by
  obtain ⟨r, e, hd⟩ := h
  simp [e, hd, hr, rgI]
theorem rg_ok {m : Int} (h0 : -100000 ≤ m) (h1 : m ≤ 100000000) : rgOk m = true := decide_eq_true (by omega)
/-! signs, texts -/
abbrev FG : Str := "0123456789"
abbrev LT : Str := "abcdefghijklmnopqrstuvwxyz"
abbrev SG : Str := "abcdefghijklmnopqrstuvwxyz0123456789"
theorem fg_cps : FG.cps.toList = [48, 49, 50, 51, 52, 53, 54, 55, 56, 57] := by decide +kernel
theorem lt_cps : LT.cps.toList = [97, 98, 99, 100, 101, 102, 103, 104, 105, 106, 107, 108, 109, 110, 111, 112, 113, 114, 115, 116, 117, 118, 119, 120, 121, 122] := by decide +kernel
theorem sg_cps : SG.cps.toList = [97, 98, 99, 100, 101, 102, 103, 104, 105, 106, 107, 108, 109, 110, 111, 112, 113, 114, 115, 116, 117, 118, 119, 120, 121, 122, 48, 49, 50, 51, 52, 53, 54, 55, 56, 57] := by decide +kernel
def dig (c : Nat) : Bool := decide (48 ≤ c ∧ c ≤ 57)
def lett (c : Nat) : Bool := decide (97 ≤ c ∧ c ≤ 122)
def dl (c : Nat) : Bool := lett c || dig c
theorem mem_fg (c : Nat) : decide (c ∈ FG.cps.toList) = dig c := by
  rw [fg_cps, dig, decide_eq_decide]; simp; omega
theorem mem_lt (c : Nat) : decide (c ∈ LT.cps.toList) = lett c := by
  rw [lt_cps, lett, decide_eq_decide]; simp; omega
theorem mem_sg (c : Nat) : decide (c ∈ SG.cps.toList) = dl c := by
  rw [sg_cps, dl, lett, dig, ← Bool.decide_or, decide_eq_decide]; simp; omega
theorem dig_lett {c : Nat} (h : dig c = true) : lett c = false := by
  simp only [dig, decide_eq_true_eq] at h
  simp only [lett, decide_eq_false_iff_not]; omega
theorem in_one (c : Nat) (y : Str) : orF (fInD false) fIn [xS c, xT y] = some (.im (.bl (decide (c ∈ y.cps.toList)))) := by
  have hi : fIn [xS c, xT y] = some (.im (.bl (decide (c ∈ y.cps.toList)))) := by
    simp [orF, fInR, fInS, rowOf, oneSign]
  show (match fInD false [xS c, xT y] with | some z => some z | none => fIn [xS c, xT y]) = _
  rw [hi]; rfl
theorem ni_one (c : Nat) (y : Str) : orF (fInD true) fNi [xS c, xT y] = some (.im (.bl (!decide (c ∈ y.cps.toList)))) := by
  have hi : fNi [xS c, xT y] = some (.im (.bl (!decide (c ∈ y.cps.toList)))) := by
    simp [orF, fInR, fInS, rowOf, oneSign]
  show (match fInD true [xS c, xT y] with | some z => some z | none => fNi [xS c, xT y]) = _
  rw [hi]; rfl
/-- a text by its signs -/
def tx (cs : List Nat) : Str := ⟨cs.toArray⟩
@[simp] theorem tx_cps (cs : List Nat) : (tx cs).cps.toList = cs := by simp [tx]
@[simp] theorem tx_len (cs : List Nat) : (tx cs).length = cs.length := by simp [tx, Str.length]
theorem tx_of (z : Str) : z = tx z.cps.toList := by simp [tx]
theorem tx_one (c : Nat) : (⟨#[c]⟩ : Str) = tx [c] := rfl
theorem tx_app (a b : List Nat) : tx a ++ tx b = tx (a ++ b) := by
  rw [tx_of (tx a ++ tx b), x_cps]; simp
theorem tx_inj {a b : List Nat} : tx a = tx b ↔ a = b := ⟨fun h => by have := congrArg (fun z : Str => z.cps.toList) h; simpa using this, fun h => by rw [h]⟩
theorem tx_nil : ("" : Str) = tx [] := by decide +kernel
abbrev xX (cs : List Nat) : D := .im (.str (tx cs))
theorem xS_eq (c : Nat) : xS c = xX [c] := rfl
theorem add_tx {a b : List Nat} (h : a.length + b.length ≤ 1000000) : fAdd [xX a, xX b] = some (xX (a ++ b)) := by
  have := x_add (a := tx a) (b := tx b) (by simpa using h)
  rw [tx_app] at this; exact this
theorem ix_tx {cs : List Nat} {i : Int} {c : Nat} (h0 : 0 ≤ i) (hc : cs[i.toNat]? = some c) (hl : cs.length ≤ 1000000) : fIxS [xX cs, xI i] = some (xS c) := by
  obtain ⟨k, rfl⟩ : ∃ k : Nat, i = k := ⟨i.toNat, by omega⟩
  simp only [fIxS]
  rw [if_pos (by simpa using hl), Tr.atI_nat, tx_cps]
  simp only [Int.toNat_natCast] at hc
  rw [hc]; rfl
theorem ix_at (z : Str) (i : Int) (h0 : 0 ≤ i) (h1 : i < z.length) (hl : z.length ≤ 1000000) : ∃ c, z.cps.toList[i.toNat]? = some c ∧ fIxS [xT z, xI i] = some (xS c) := by
  have hz := x_len z
  have hk : i.toNat < z.cps.toList.length := by omega
  refine ⟨_, List.getElem?_eq_getElem hk, ?_⟩
  have := ix_tx (cs := z.cps.toList) (i := i) h0 (List.getElem?_eq_getElem hk) (by omega)
  have e : xX z.cps.toList = xT z := by show D.im (.str (tx z.cps.toList)) = _; rw [← tx_of z]
  rw [e] at this
  exact this
theorem sIx_pos {n d : Nat} {i : Int} (h0 : 0 ≤ i) (h1 : i ≤ n) : HT.sIx n d (some i) = i.toNat := by
  unfold HT.sIx
  simp only
  rw [if_neg (by omega)]
  omega
/-- cut -/
theorem sl_tx {cs : List Nat} {lo hi : Option Int} (hl : cs.length ≤ 1000000) : fSl (xX cs) lo hi = some (xT (cutS (tx cs) lo hi)) := by
  simp [fSl, hl]
theorem cut_lo {cs : List Nat} {i : Int} (h0 : 0 ≤ i) (h1 : i ≤ cs.length) : cutS (tx cs) none (some i) = tx (cs.take i.toNat) := by
  have e : HT.sIx cs.length cs.length (some i) - 0 = i.toNat := by rw [sIx_pos h0 h1]; omega
  have e0 : HT.sIx cs.length 0 none = 0 := rfl
  simp only [cutS, tx_cps, tx_len, e0, e, List.drop_zero]
  rfl
theorem cut_hi {cs : List Nat} {i : Int} (h0 : 0 ≤ i) (h1 : i ≤ cs.length) : cutS (tx cs) (some i) none = tx (cs.drop i.toNat) := by
  have e0 : HT.sIx cs.length 0 (some i) = i.toNat := sIx_pos h0 h1
  have e1 : HT.sIx cs.length cs.length none = cs.length := rfl
  simp only [cutS, tx_cps, tx_len, e0, e1]
  rw [List.take_of_length_le (by simp)]
  rfl
/-! names -/
def nmL (cs : List Nat) : Bool := decide (1 ≤ cs.length ∧ cs.length ≤ 8) && cs.all dl && (match cs with | c :: _ => lett c | [] => false)
def nm (z : Str) : Bool := nmL z.cps.toList
theorem nm_tx (cs : List Nat) : nm (tx cs) = nmL cs := by simp [nm]
theorem nm_len {z : Str} (h : nm z = true) : 1 ≤ z.length ∧ z.length ≤ 8 := by
  simp only [nm, nmL, Bool.and_eq_true, decide_eq_true_eq] at h
  rw [← x_len]; exact h.1.1
theorem dl_ok {c : Nat} (h : dl c = true) : c < 1000 := by
  simp only [dl, lett, dig, Bool.or_eq_true, decide_eq_true_eq] at h; omega
theorem nm_ok {z : Str} (h : nm z = true) : OkT 8 z := by
  refine ⟨strOk_iff.mpr fun c hc => ?_, (nm_len h).2⟩
  simp only [nm, nmL, Bool.and_eq_true] at h
  have := dl_ok (List.all_eq_true.mp h.1.2 c hc)
  omega
/-! rows of texts -/
theorem inV_str (a : Str) : ∀ seen : List Str, inV (.str a) (seen.map V.str) = decide (a ∈ seen)
  | [] => by simp [inV]
  | b :: seen => by
    have ih := inV_str a seen
    unfold inV at ih ⊢
    rw [List.map_cons, List.any_cons, ih]
    have e : eqV (.str b) (.str a) = decide (b = a) := by
      by_cases h : b = a <;> simp [eqV, h]
    rw [e]
    by_cases h : b = a
    · subst h; simp
    · have h' : ¬ a = b := fun z => h z.symm
      simp [h, h']
theorem ims_strs : ∀ seen : List Str, ims (seen.map xT) = some (seen.map V.str)
  | [] => rfl
  | b :: seen => by simp [ims, ims_strs seen]
theorem flat_strs (seen : List Str) : (seen.map V.str).all flatV = true := by simp [flatV]
theorem ni_lst (a : Str) (seen : List Str) : orF (fInD true) fNi [xT a, xTs seen] = some (.im (.bl (!decide (a ∈ seen)))) := by
  have h1 : fInR true [xT a, xTs seen] = some (.im (.bl (!decide (a ∈ seen)))) := by
    simp only [fInR, uz_lst, rowOf, ims_strs, flat_strs, inV_str]
    simp [flatV]
  show (match fInD true [xT a, xTs seen] with | some z => some z | none => (match fInR true [xT a, xTs seen] with | some z => some z | none => fInS true [xT a, xTs seen])) = _
  rw [h1]
  rfl
theorem in_lst (a : Str) (seen : List Str) : orF (fInD false) fIn [xT a, xTs seen] = some (.im (.bl (decide (a ∈ seen)))) := by
  have h1 : fInR false [xT a, xTs seen] = some (.im (.bl (decide (a ∈ seen)))) := by
    simp only [fInR, uz_lst, rowOf, ims_strs, flat_strs, inV_str]
    simp [flatV]
  show (match fInD false [xT a, xTs seen] with | some z => some z | none => (match fInR false [xT a, xTs seen] with | some z => some z | none => fInS false [xT a, xTs seen])) = _
  rw [h1]
  rfl
/-! dicts by texts -/
abbrev dKs (ps : List (Str × D)) : List Key := ps.map fun p => Sum.inr p.1
abbrev dic (ps : List (Str × D)) : D := .dct (dKs ps) (ps.map (·.2))
def dget (ps : List (Str × D)) (a : Str) : Option D := (ps.find? fun p => decide (p.1 = a)).map (·.2)
theorem look_dic (a : Str) : ∀ ps : List (Str × D), dlook (dKs ps) (ps.map (·.2)) (Sum.inr a) = dget ps a
  | [] => by simp [dlook, dget]
  | p :: ps => by
    have ih := look_dic a ps
    simp only [List.map_cons, dlook, dget, List.find?_cons]
    by_cases h : p.1 = a
    · subst h; simp
    · have h' : ¬ ((Sum.inr p.1 : Key) = Sum.inr a) := fun z => h (Sum.inr.inj z)
      rw [if_neg h']
      simp only [h, decide_false]
      exact ih
theorem dget_some (a : Str) : ∀ ps : List (Str × D), (dget ps a).isSome = decide (a ∈ ps.map (·.1))
  | [] => by simp [dget]
  | p :: ps => by
    have ih := dget_some a ps
    simp only [dget, List.find?_cons] at ih ⊢
    by_cases h : p.1 = a
    · subst h; simp
    · have h2 : ¬ a = p.1 := fun z => h z.symm
      simp only [h, decide_false]
      rw [ih]
      simp [h2]
theorem in_dic (a : Str) {d : D} (ps : List (Str × D)) (hd : unfz d = dic ps) : orF (fInD false) fIn [xT a, d] = some (.im (.bl (decide (a ∈ ps.map (·.1))))) := by
  have h1 : fInD false [xT a, d] = some (.im (.bl (decide (a ∈ ps.map (·.1))))) := by
    simp only [fInD, Tr.keyOf, hd]
    rw [look_dic, dget_some]; rfl
  show (match fInD false [xT a, d] with | some z => some z | none => fIn [xT a, d]) = _
  rw [h1]
theorem ni_dic (a : Str) {d : D} (ps : List (Str × D)) (hd : unfz d = dic ps) : orF (fInD true) fNi [xT a, d] = some (.im (.bl (!decide (a ∈ ps.map (·.1))))) := by
  have h1 : fInD true [xT a, d] = some (.im (.bl (!decide (a ∈ ps.map (·.1))))) := by
    simp only [fInD, Tr.keyOf, hd]
    rw [look_dic, dget_some]; rfl
  show (match fInD true [xT a, d] with | some z => some z | none => fNi [xT a, d]) = _
  rw [h1]
theorem any_dic (a : Str) : ∀ ps : List (Str × D), ((dKs ps).any fun k' => decide (k' = Sum.inr a)) = decide (a ∈ ps.map (·.1))
  | [] => by simp
  | p :: ps => by
    have ih := any_dic a ps
    simp only [dKs, List.map_cons, List.any_cons] at ih ⊢
    rw [ih]
    by_cases h : p.1 = a
    · subst h; simp
    · have h' : ¬ ((Sum.inr p.1 : Key) = Sum.inr a) := fun z => h (Sum.inr.inj z)
      have h2 : ¬ a = p.1 := fun z => h z.symm
      simp [h', h2]
def dset (ps : List (Str × D)) (a : Str) (d : D) : List (Str × D) := if decide (a ∈ ps.map (·.1)) = true then ps.map fun p => if p.1 = a then (p.1, d) else p else ps ++ [(a, d)]
theorem dmap_dic (a : Str) (d : D) : ∀ ps : List (Str × D), dmap (Sum.inr a) d (dKs ps) (ps.map (·.2)) = (ps.map fun p => if p.1 = a then (p.1, d) else p).map (·.2)
  | [] => rfl
  | p :: ps => by
    simp only [List.map_cons, dmap, dmap_dic a d ps]
    by_cases h : p.1 = a
    · subst h; simp
    · have h' : ¬ ((Sum.inr p.1 : Key) = Sum.inr a) := fun z => h (Sum.inr.inj z)
      simp [h, h']
theorem put_dic (a : Str) (d : D) (ps : List (Str × D)) (hd : copyD d = true) (hc : copyDs (ps.map (·.2)) = true) (hl : ps.length < 1000) : opSetA (dic ps) [xT a, d] = some (dic (dset ps a d), .im .non) := by
  rw [setA_dct]
  have hlt : ps.length < 1000000 := by omega
  have e : dput (dKs ps) (ps.map (·.2)) (Sum.inr a) d = (dKs (dset ps a d), (dset ps a d).map (·.2)) := by
    unfold dput dset
    rw [any_dic, dmap_dic]
    by_cases h : a ∈ ps.map (·.1)
    · rw [if_pos (by simpa using h), if_pos (by simpa using h)]
      congr 1
      simp only [dKs, List.map_map]
      apply List.map_congr_left
      intro p _
      simp only [Function.comp]
      split <;> rfl
    · rw [if_neg (by simpa using h), if_neg (by simpa using h)]
      simp [dKs]
  simp [opSetD, Tr.keyOf, hc, hd, hlt, e]
theorem r_len_dct (ks : List Key) (xs : List D) : fLen [.dct ks xs] = some (.im (.int ks.length)) := by
  show orF fLenS fLenD _ = _
  simp [orF, fLenS, fLenD]
/-! equal rows -/
theorem eq_of_py {a b : D} {p r : PyData} (ha : toPy a = some p) (hb : toPy b = some r) (h1 : PySem.SeqAt.shaped p = true) (h2 : PySem.SeqAt.shaped r = true) : fEq [a, b] = some (.im (.bl (PyData.eqv p r))) ∧ fNe [a, b] = some (.im (.bl (!PyData.eqv p r))) := by
  constructor
  · simp [fEq, ha, hb, h1, h2]
  · simp [fNe, ha, hb, h1, h2]
theorem eqv_strs : ∀ as bs : List Str, PyData.eqv (.list (as.map PyData.str)) (.list (bs.map PyData.str)) = decide (as = bs)
  | [], [] => by simp [PyData.eqv, PyData.eqvAll]
  | [], b :: bs => by simp [PyData.eqv, PyData.eqvAll]
  | a :: as, [] => by simp [PyData.eqv, PyData.eqvAll]
  | a :: as, b :: bs => by
    have ih := eqv_strs as bs
    simp only [PyData.eqv, List.map_cons, PyData.eqvAll] at ih ⊢
    rw [ih]
    by_cases h1 : a = b <;> by_cases h2 : as = bs <;> simp [h1, h2]
theorem eq_strs {as bs : List Str} (ha : ∀ z ∈ as, PyData.strOk z = true) (hb : ∀ z ∈ bs, PyData.strOk z = true) : fEq [xTs as, xTs bs] = some (.im (.bl (decide (as = bs)))) ∧ fNe [xTs as, xTs bs] = some (.im (.bl (!decide (as = bs)))) := by
  have p1 : toPy (xTs as) = some (.list (as.map PyData.str)) := by simp [toPy, x_toPys]
  have p2 : toPy (xTs bs) = some (.list (bs.map PyData.str)) := by simp [toPy, x_toPys]
  have s1 : PySem.SeqAt.shaped (.list (as.map PyData.str)) = true := by simp [PySem.SeqAt.shaped, PyData.canLay0, canAll as ha, depthAll as]
  have s2 : PySem.SeqAt.shaped (.list (bs.map PyData.str)) = true := by simp [PySem.SeqAt.shaped, PyData.canLay0, canAll bs hb, depthAll bs]
  have := eq_of_py p1 p2 s1 s2
  rw [eqv_strs] at this
  exact this
theorem copy_strs (zs : List Str) : copyDs (zs.map xT) = true := x_copy zs
/-! things that may be compared with themselves -/
def PyOk (n : Nat) (d : D) : Prop := ∃ p, toPy d = some p ∧ p.canLay0 = true ∧ p.depth ≤ n
theorem PyOk.mono {n m : Nat} {d : D} (h : PyOk n d) (k : n ≤ m) : PyOk m d := by
  obtain ⟨p, h1, h2, h3⟩ := h
  exact ⟨p, h1, h2, Nat.le_trans h3 k⟩
theorem py_int (i : Int) : PyOk 0 (xI i) := ⟨.int i, rfl, rfl, by simp [PyData.depth]⟩
theorem py_bl (b : Bool) : PyOk 0 (.im (.bl b)) := ⟨.bool b, rfl, rfl, by simp [PyData.depth]⟩
theorem py_non : PyOk 0 (.im .non) := ⟨.none, rfl, rfl, by simp [PyData.depth]⟩
theorem py_str {z : Str} (h : PyData.strOk z = true) : PyOk 0 (xT z) := ⟨.str z, rfl, h, by simp [PyData.depth]⟩
theorem py_all {n : Nat} : ∀ ds : List D, (∀ d ∈ ds, PyOk n d) → ∃ ps, toPys ds = some ps ∧ PyData.canLayAll0 ps = true ∧ PyData.depthAll ps ≤ n
  | [], _ => ⟨[], by simp [toPys], rfl, by simp [PyData.depthAll]⟩
  | d :: ds, h => by
    obtain ⟨p, h1, h2, h3⟩ := h d List.mem_cons_self
    obtain ⟨ps, h4, h5, h6⟩ := py_all ds fun e he => h e (List.mem_cons_of_mem _ he)
    refine ⟨p :: ps, by simp [toPys, h1, h4], by simp [PyData.canLayAll0, h2, h5], ?_⟩
    simp only [PyData.depthAll]
    omega
theorem py_lst {n : Nat} {ds : List D} (h : ∀ d ∈ ds, PyOk n d) : PyOk (n + 1) (.lst ds) := by
  obtain ⟨ps, h1, h2, h3⟩ := py_all ds h
  refine ⟨.list ps, by simp [toPy, h1], h2, ?_⟩
  simp only [PyData.depth]
  omega
theorem py_tup {n : Nat} {ds : List D} (h : ∀ d ∈ ds, PyOk n d) : PyOk (n + 1) (.tup ds) := by
  obtain ⟨ps, h1, h2, h3⟩ := py_all ds h
  refine ⟨.tuple ps, by simp [toPy, h1], h2, ?_⟩
  simp only [PyData.depth]
  omega
theorem eq_self {d : D} (h : PyOk 60 d) : fEq [d, d] = some (.im (.bl true)) ∧ fNe [d, d] = some (.im (.bl false)) := by
  obtain ⟨p, h1, h2, h3⟩ := h
  have s : PySem.SeqAt.shaped p = true := by simp [PySem.SeqAt.shaped, h2]; omega
  have := eq_of_py h1 h1 s s
  rw [PySem.SeqAt.eqv_refl p h2] at this
  exact this
theorem nm_py {z : Str} (h : nm z = true) : PyOk 0 (xT z) := py_str (nm_ok h).s
/-- a loop whose thing need not stand still; generalize the whole sFor afterwards -/
theorem for_e {pin pin' : Pins} {mi : MI} {f : TgF} {b : MS} {env : En} {items : List D} {r : SS} (hr : mi env = .ok items []) (e : loopF f b items env = r) : sFor pin pin' mi f b env = r := by
  unfold sFor
  rw [hr]
  exact e

theorem cell_i (ns : List Int) (x : Int) (h : 0 ≤ x) : mL_cell [.ro (.scr ns), .ro (xI x)] = .ok (xI (cell ns x.toNat)) [some (.ro (.scr ns)), some (.ro (xI x))] := by
  obtain ⟨k, rfl⟩ : ∃ k : Nat, x = k := ⟨x.toNat, by omega⟩
  by_cases h : k < ns.length
  · simp [mL_cell, mF, h, Tr.atI_nat, cell]
  · simp [mL_cell, mF, h, cell]
theorem mul_sm {a b : Int} (ha : a.natAbs < 10 ^ 200) (hb : b.natAbs < 10 ^ 200) : orF fMul fMulS [xI a, xI b] = some (xI (a * b)) := by
  rw [mulPS_int, r_mul9 ha hb]
theorem rep_e {xs : List D} {k : Int} (hc : copyDs xs = true) (h0 : 0 ≤ k) (h1 : xs.length * k.toNat ≤ 1000000) (h2 : k ≤ 1000000) : orF fMul fMulS [.lst xs, xI k] = some (.lst (List.replicate k.toNat xs).flatten) := by
  rw [mulPS_lst]
  have : fRep [.lst xs, xI k] = some (.lst (List.replicate k.toNat xs).flatten) := by
    simp only [fRep, uz_lst, hc, h0, h1, h2, decide_true, Bool.and_self, if_true]
  show (match fMulI [.lst xs, xI k] with | some z => some z | none => fRep [.lst xs, xI k]) = _
  rw [this]; rfl
theorem list_e {xs : List D} (hc : copyDs xs = true) : fListA [.lst xs] = some (.lst xs) := by
  have : fListS [.lst xs] = some (.lst xs) := by simp only [fListS, uz_lst, hc, if_true]
  show (match fListS [.lst xs] with | some z => some z | none => fListD [.lst xs]) = _
  rw [this]
theorem fNe_bb (a b : Bool) : fNe [.im (.bl a), .im (.bl b)] = some (.im (.bl (!(a == b)))) := fNe_bl a b
theorem s_eq {a b : Str} (ha : PyData.strOk a = true) (hb : PyData.strOk b = true) : fEq [xT a, xT b] = some (.im (.bl (decide (a = b)))) := by
  rw [fEq_str ha hb]; rfl
theorem s_ne {a b : Str} (ha : PyData.strOk a = true) (hb : PyData.strOk b = true) : fNe [xT a, xT b] = some (.im (.bl (!decide (a = b)))) := by
  rw [fNe_str ha hb]; rfl
theorem str_e {i : Int} (h : i.natAbs < 10 ^ 200) : fStr [xI i] = some (xT (Str.ofString (toString i))) := by
  have hb : i.natAbs < 10 ^ 500 := Nat.lt_of_lt_of_le h (Nat.pow_le_pow_right (by decide) (by decide))
  simp only [fStr]; rw [if_pos hb]
theorem row_p {m : ME} {env : En} {x : D} (h : m env = .ok (.own x)) : eRow [.p m] env = .ok [x] env := by
  simp [h]
theorem app_e {i : Nat} {k : AK} {env : En} {G : List D} {x : D} (hd : env[i]? = some (some (.own (.lst G)))) (hrow : eRow [k] env = .ok [x] env) (hl : G.length < 1000000) : sEx (eMut isLst opAppend (lVar i) [k]) env = .nx (env.set i (some (.own (.lst (G ++ [x]))))) := by
  have ha : opAppend (.lst G) [x] = some (.lst (G ++ [x]), .im .non) := if_pos hl
  unfold sEx eMut lVar atP
  simp only [hd, getP, isLst, if_true, hrow, ha, setP]
/-- a row of a dict or list set -/
theorem sub_e {i : Nat} {mk : ME} {me : EE} {env : En} {x v r : D} {k : V} {d : D} (hd : env[i]? = some (some (.own d))) (hk : mk env = .ok (.own (.im k))) (he : me env = .ok (.own v) env) (ho : opSetA d [.im k, v] = some (x, r)) : sSub opSetA me (lVar i) mk env = .nx (env.set i (some (.own x))) := by
  simp only [sSub, lVar, hd, he, hk, getP, ho, setP, d_own]
theorem mut_e {op : D → List D → Option (D × D)} {ky : D → Bool} {i : Nat} {k : AK} {env : En} {d d' r x : D} (hd : env[i]? = some (some (.own d))) (hk : ky d = true) (hrow : eRow [k] env = .ok [x] env) (ho : op d [x] = some (d', r)) : sEx (eMut ky op (lVar i) [k]) env = .nx (env.set i (some (.own d'))) := by
  unfold sEx eMut lVar atP
  simp only [hd, getP, hk, if_true, hrow, ho, setP]

/-! drawn names, streams (k20-k29, k51-k58) -/
theorem cell_k (ns : List Int) (k : Nat) : mL_cell [.ro (.scr ns), .ro (.im (.int k))] = .ok (.im (.int (cell ns k))) [some (.ro (.scr ns)), some (.ro (.im (.int k)))] := by
  by_cases h : k < ns.length
  · simp [mL_cell, mF, h, Tr.atI_nat, cell]
  · simp [mL_cell, mF, h, cell]
theorem sg_len : SG.length = 36 := by decide +kernel
theorem sg_ok : OkT 36 SG := ⟨by decide +kernel, by decide +kernel⟩
theorem sg_ix (i : Int) (n : Int) (h0 : 0 < n) (hn : n ≤ 36) : ∃ c, fIxS [xT SG, xI (i % n)] = some (xS c) ∧ OkT 1 ⟨#[c]⟩ := by
  have b1 := Int.emod_nonneg i (show n ≠ 0 by omega)
  have b2 := Int.emod_lt_of_pos i h0
  exact x_ix sg_ok (by decide) _ b1 (by rw [sg_len]; omega)
/-- what a comprehension makes, item by item -/
theorem lc_gen (j : Nat) (me : ME) (renv : En) (P : Int → Prop) (n : Nat) (hstep : ∀ i, P i → ∃ z, me ((renv.set j none).set j (some (.own (xI i)))) = .ok (.own (xT z)) ∧ OkT n z) :
    ∀ (is : List Int) (acc : List D), (∀ i ∈ is, P i) → ∃ zs : List Str, lcF j tTrue me renv (is.map xI) acc = .ok (acc ++ zs.map xT) ∧ zs.length = is.length ∧ ∀ z ∈ zs, OkT n z
  | [], acc, _ => ⟨[], by simp, rfl, fun _ h => nomatch h⟩
  | i :: is, acc, h => by
    obtain ⟨z, ev, oz⟩ := hstep i (h i List.mem_cons_self)
    obtain ⟨zs, e, el, hz⟩ := lc_gen j me renv P n hstep is (acc ++ [xT z]) fun k hk => h k (List.mem_cons_of_mem _ hk)
    refine ⟨z :: zs, ?_, by simp [el], fun y hy => ?_⟩
    · have hs : slotD (xI i) = .own (xI i) := rfl
      rw [List.map_cons]
      simp only [lcF, tTrue, hs, ev]
      rw [show (acc ++ (z :: zs).map xT) = (acc ++ [xT z]) ++ zs.map xT by simp]
      rw [← e]
      rfl
    · rcases List.mem_cons.mp hy with rfl | hy
      · exact oz
      · exact hz y hy
/-- a whole comprehension over ints, nothing frozen -/
theorem lc_all {mi : MI} {j : Nat} {me : ME} {env : En} {is : List Int} (hi : mi env = .ok (is.map xI) []) (hl : is.length ≤ 1000) (P : Int → Prop) (n : Nat) (hP : ∀ i ∈ is, P i)
    (hstep : ∀ i, P i → ∃ z, me (((Tr.roE env).set j none).set j (some (.own (xI i)))) = .ok (.own (xT z)) ∧ OkT n z) : ∃ zs : List Str, mLc mi j tTrue me env = .ok (.own (xTs zs)) ∧ zs.length = is.length ∧ ∀ z ∈ zs, OkT n z := by
  obtain ⟨zs, e, el, hz⟩ := lc_gen j me (Tr.roE env) P n hstep is [] hP
  refine ⟨zs, ?_, el, hz⟩
  unfold mLc
  simp only [hi, e]
  have : (is.map xI).length ≤ 1000000 := by rw [List.length_map]; omega
  simp [this]
  omega
theorem x_range (m : Int) : (List.range m.toNat).map (fun k : Nat => xI (k : Int)) = ((List.range m.toNat).map fun k : Nat => (k : Int)).map xI := by rw [List.map_map]; rfl
section
variable (c : Int)
/-- the tail of the names -/
theorem n_tail (x1 : Option Tr.Slot) : ∃ z, mM1 fJoin (mC (.str "")) (mLc (iRg2 (mC (.int 1)) (mC (.int 8))) 8 tTrue mL_names_e0) [some (.ro (xI c)), x1, some (.own (xT SG)), none, none, none, none, none, none, none] = .ok (.own (xT z)) ∧ OkT 7 z := by
  obtain ⟨zs, e, el, hz⟩ := lc_all (mi := iRg2 (mC (.int 1)) (mC (.int 8))) (j := 8) (me := mL_names_e0) (env := [some (.ro (xI c)), x1, some (.own (xT SG)), none, none, none, none, none, none, none]) (is := [1, 2, 3, 4, 5, 6, 7])
    (by simp [rgOk, List.range_succ]) (by decide) (fun i => 0 ≤ i ∧ i < 100) 1 (by decide) (fun i hi => by
      have d := r_divp (a := c) (b := 36) (by decide) (by decide)
      have m1 := r_mul (a := 5) (b := i) (decide_eq_true (.inl (by omega)))
      have m2 := r_mul (a := 5 * i) (b := i) (decide_eq_true (.inr (.inl (by omega))))
      have m3 := r_modp (a := c / 36 + 5 * i * i) (b := 36) (by decide)
      obtain ⟨g, hg, og⟩ := sg_ix (c / 36 + 5 * i * i) 36 (by decide) (by decide)
      generalize (c / 36 + 5 * i * i) % 36 = r at m3 hg
      refine ⟨⟨#[g]⟩, ?_, og⟩
      simp only [xI, xT, xS] at *
      simp [mL_names_e0, d, m1, m2, m3, hg])
  obtain ⟨z, hj, oz⟩ := x_join zs hz (by rw [el]; decide)
  refine ⟨z, ?_, oz.mono (by rw [el]; decide)⟩
  simp only [mM1, mC, e, isS, d_own]
  simp only [xTs] at *
  simp [hj]
/-- the names that begin one another -/
theorem n_beg (m : Int) (h0 : 0 ≤ m) (hm : m ≤ 100) (t : Str) (ot : OkT 7 t) : ∃ zs : List Str, mLc (iRg1 (mVar 1)) 8 tTrue mL_names_e1 [some (.ro (xI c)), some (.ro (xI m)), some (.own (xT SG)), some (.own (xT t)), none, none, none, none, none, none] = .ok (.own (xTs zs)) ∧ zs.length = m.toNat ∧ ∀ z ∈ zs, OkT 8 z := by
  have hr : rgOk m = true := decide_eq_true (by omega)
  obtain ⟨zs, e, el, hz⟩ := lc_all (mi := iRg1 (mVar 1)) (j := 8) (me := mL_names_e1) (env := [some (.ro (xI c)), some (.ro (xI m)), some (.own (xT SG)), some (.own (xT t)), none, none, none, none, none, none]) (is := (List.range m.toNat).map fun k : Nat => (k : Int))
    (by simp [hr]) (by simp; omega) (fun i => 0 ≤ i) 8 (by simp) (fun i hi => by
      have d := r_divp (a := c) (b := 4) (by decide) (by decide)
      have d2 := r_divp (a := i) (b := 8) (by decide) (by decide)
      have m1 := r_modp (a := c / 4 + i / 8) (b := 26) (by decide)
      have m2 := r_modp (a := i) (b := 8) (by decide)
      obtain ⟨g, hg, og⟩ := sg_ix (c / 4 + i / 8) 26 (by decide) (by decide)
      generalize (c / 4 + i / 8) % 26 = r at m1 hg
      generalize i % 8 = u at m2
      obtain ⟨f1, of⟩ := x_sl ot (by decide) none (some u)
      obtain ⟨a1, oa⟩ := x_addT og of (by decide)
      refine ⟨_, ?_, oa⟩
      simp only [xI, xT, xS] at *
      simp [mL_names_e1, d, d2, m1, m2, hg, f1, a1])
  exact ⟨zs, e, by rw [el]; simp, hz⟩
theorem n_step (m at_ k : Int) (b : Str) (ob : OkT 8 b) (x1 x3 x4 x9 : Option Tr.Slot) (zs : List Str) (hl : zs.length < 1000) (hk : 0 ≤ k) : ∃ z y, OkT 20 z ∧ mL_names_b2 [some (.ro (xI c)), x1, some (.own (xT SG)), x3, x4, some (.own (xI at_)), some (.own (xT b)), some (.own (xTs zs)), some (.own (xI k)), x9] =
    .nx [some (.ro (xI c)), x1, some (.own (xT SG)), x3, x4, some (.own (xI at_)), some (.own (xT b)), some (.own (xTs (zs ++ [z]))), some (.own (xI k)), y] := by
  have d := r_divp (a := c) (b := 1296) (by decide) (by decide)
  have d2 := r_divp (a := k) (b := 26) (by decide) (by decide)
  have m1 := r_modp (a := c / 1296 + k) (b := 26) (by decide)
  obtain ⟨g, hg, og⟩ := sg_ix (c / 1296 + k) 26 (by decide) (by decide)
  generalize (c / 1296 + k) % 26 = r at m1 hg
  generalize k / 26 = u at d2
  have oz : OkT 2 "zz" := ⟨by decide +kernel, by decide +kernel⟩
  obtain ⟨f1, o1⟩ := x_sl ob (by decide) none (some at_)
  obtain ⟨f2, o2⟩ := x_sl ob (by decide) (some (at_ + 1)) none
  obtain ⟨f3, o3⟩ := x_sl oz (by decide) none (some u)
  obtain ⟨a1, p1⟩ := x_addT o1 og (by decide)
  obtain ⟨a2, p2⟩ := x_addT p1 o2 (by decide)
  obtain ⟨a3, p3⟩ := x_addT p2 o3 (by decide)
  have hlen : zs.length < 1000000 := by omega
  refine ⟨_, some (.own (xS g)), p3.mono (by decide), ?_⟩
  simp only [xI, xT, xS, xTs] at *
  simp [mL_names_b2, d, d2, m1, hg, f1, f2, f3, a1, a2, a3, opAppend, hlen]
theorem n_loop (m at_ : Int) (b : Str) (ob : OkT 8 b) (x1 x3 x4 : Option Tr.Slot) : ∀ (ks : List Nat) (zs : List Str) (s8 x9 : Option Tr.Slot), zs.length + ks.length ≤ 1000 → (∀ z ∈ zs, OkT 20 z) → ∃ zs' t8 t9, loopF (tgN 8) mL_names_b2 (ks.map fun k : Nat => xI (k : Int)) [some (.ro (xI c)), x1, some (.own (xT SG)), x3, x4, some (.own (xI at_)), some (.own (xT b)), some (.own (xTs zs)), s8, x9] =
    .nx [some (.ro (xI c)), x1, some (.own (xT SG)), x3, x4, some (.own (xI at_)), some (.own (xT b)), some (.own (xTs zs')), t8, t9] ∧ zs'.length = zs.length + ks.length ∧ ∀ z ∈ zs', OkT 20 z
  | [], zs, s8, x9, _, hz => ⟨zs, s8, x9, by simp, by simp, hz⟩
  | k :: ks, zs, s8, x9, h, hz => by
    simp only [List.length_cons] at h
    obtain ⟨z, y, oz, st⟩ := n_step c m at_ k b ob x1 x3 x4 x9 zs (by omega) (by omega)
    obtain ⟨zs', t8, t9, e, el, hz'⟩ := n_loop m at_ b ob x1 x3 x4 ks (zs ++ [z]) (some (.own (xI k))) y (by simp; omega) (fun w hw => by
      rcases List.mem_append.mp hw with q | q
      · exact hz w q
      · have : w = z := by simpa using q
        subst this; exact oz)
    refine ⟨zs', t8, t9, ?_, by rw [el]; simp; omega, hz'⟩
    rw [List.map_cons]
    have e0 : ([some (.ro (xI c)), x1, some (.own (xT SG)), x3, x4, some (.own (xI at_)), some (.own (xT b)), some (.own (xTs zs)), s8, x9] : En).set 8 (some (slotD (xI k))) = [some (.ro (xI c)), x1, some (.own (xT SG)), x3, x4, some (.own (xI at_)), some (.own (xT b)), some (.own (xTs zs)), some (.own (xI k)), x9] := rfl
    simp only [loopF, tgN, e0, st, e]
theorem n_t3 (m : Int) (h0 : 0 ≤ m) (hm : m ≤ 100) (t : Str) (ot : OkT 7 t) : ∃ zs env, mL_names_t3 [some (.ro (xI c)), some (.ro (xI m)), some (.own (xT SG)), some (.own (xT t)), none, none, none, none, none, none] = .rt (xTs zs) env ∧ env.take 2 = [some (.ro (xI c)), some (.ro (xI m))] ∧ 2 ≤ env.length ∧ zs.length = m.toNat ∧ ∀ z ∈ zs, OkT 20 z := by
  have hr : rgOk m = true := decide_eq_true (by omega)
  have d4 := r_divp (a := c) (b := 4) (by decide) (by decide)
  have m6 := r_modp (a := c / 4) (b := 6) (by decide)
  have d24 := r_divp (a := c) (b := 24) (by decide) (by decide)
  have d36 := r_divp (a := c) (b := 36) (by decide) (by decide)
  have b1 := Int.emod_nonneg (c / 4) (show (6 : Int) ≠ 0 by decide)
  generalize c / 4 % 6 = sz at m6 b1
  have msz := r_modp (a := c / 24) (b := 1 + sz) (by omega)
  generalize c / 24 % (1 + sz) = at_ at msz
  have m26 := r_modp (a := c / 36) (b := 26) (by decide)
  obtain ⟨g, hg, og⟩ := sg_ix (c / 36) 26 (by decide) (by decide)
  generalize c / 36 % 26 = r at m26 hg
  obtain ⟨f1, of⟩ := x_sl ot (by decide) none (some (1 + sz - 1))
  obtain ⟨a1, oa⟩ := x_addT og of (by decide)
  generalize hb : (⟨#[g]⟩ : Str) ++ cutS t none (some (1 + sz - 1)) = b at a1 oa
  obtain ⟨zs, t8, t9, e, el, hz⟩ := n_loop c m at_ b oa (some (.ro (xI m))) (some (.own (xT t))) (some (.own (xI (1 + sz)))) (List.range m.toNat) [] none none (by simp; omega) (fun _ h => nomatch h)
  have hg1 : iRg1 (mVar 1) [some (.ro (xI c)), some (.ro (xI m)), some (.own (xT SG)), some (.own (xT t)), some (.own (xI (1 + sz))), some (.own (xI at_)), some (.own (xT b)), some (.own (xTs [])), none, none] = .ok ((List.range m.toNat).map fun k : Nat => xI (k : Int)) [] := by
    simp [hr]
  have h7 : mL_names_t7 [some (.ro (xI c)), some (.ro (xI m)), some (.own (xT SG)), some (.own (xT t)), some (.own (xI (1 + sz))), some (.own (xI at_)), some (.own (xT b)), some (.own (xTs [])), none, none] = .rt (xTs zs) [some (.ro (xI c)), some (.ro (xI m)), some (.own (xT SG)), some (.own (xT t)), some (.own (xI (1 + sz))), some (.own (xI at_)), some (.own (xT b)), none, t8, t9] := by
    simp only [mL_names_t7, sSeq, sFor, hg1, frL, e, mL_names_t8]
    rfl
  refine ⟨zs, [some (.ro (xI c)), some (.ro (xI m)), some (.own (xT SG)), some (.own (xT t)), some (.own (xI (1 + sz))), some (.own (xI at_)), some (.own (xT b)), none, t8, t9], ?_, rfl, by simp, by rw [el]; simp, hz⟩
  simp only [xI, xT, xS, xTs, List.map_nil] at *
  simp [mL_names_t3, mL_names_t4, mL_names_t5, mL_names_t6, d4, m6, d24, msz, d36, m26, hg, f1, a1, h7, takeAll]
theorem names_k (m : Int) (h0 : 0 ≤ m) (hm : m ≤ 100) : ∃ (zs : List Str) (as : En), mL_names [.ro (xI c), .ro (xI m)] = .ok (xTs zs) as ∧ zs.length = m.toNat ∧ ∀ z ∈ zs, OkT 20 z := by
  obtain ⟨t, ht, ot⟩ := n_tail c (some (.ro (xI m)))
  obtain ⟨zs, env, e3, _, _, l3, z3⟩ := n_t3 c m h0 hm t ot
  obtain ⟨zs2, e2, l2, z2⟩ := n_beg c m h0 hm t ot
  have m4 := r_modp (a := c) (b := 4) (by decide)
  have hs : sSet 3 (liftE (mM1 fJoin (mC (.str "")) (mLc (iRg2 (mC (.int 1)) (mC (.int 8))) 8 tTrue mL_names_e0))) [some (.ro (xI c)), some (.ro (xI m)), some (.own (xT SG)), none, none, none, none, none, none, none] = .nx [some (.ro (xI c)), some (.ro (xI m)), some (.own (xT SG)), some (.own (xT t)), none, none, none, none, none, none] := by
    simp only [sSet, liftE, ht]
    rfl
  have h1 : sSet 2 (liftE (mC (.str SG))) [some (.ro (xI c)), some (.ro (xI m)), none, none, none, none, none, none, none, none] = .nx [some (.ro (xI c)), some (.ro (xI m)), some (.own (xT SG)), none, none, none, none, none, none, none] := by simp
  by_cases h : c % 4 = 3
  · have h2 : mL_names_t2 [some (.ro (xI c)), some (.ro (xI m)), some (.own (xT SG)), some (.own (xT t)), none, none, none, none, none, none] = .rt (xTs zs2) [some (.ro (xI c)), some (.ro (xI m)), some (.own (xT SG)), some (.own (xT t)), none, none, none, none, none, none] := by
      rw [h] at m4
      generalize hq : mLc (iRg1 (mVar 1)) 8 tTrue mL_names_e1 = q at e2
      simp only [xI, xT] at *
      simp [-mLc, mL_names_t2, m4, hq, e2]
    refine ⟨zs2, trunc [true, true] [some (.ro (xI c)), some (.ro (xI m)), some (.own (xT SG)), some (.own (xT t)), none, none, none, none, none, none], ?_, l2, fun z hz => (z2 z hz).mono (by decide)⟩
    show fin [true, true] (sSeq (sSet 2 (liftE (mC (.str SG)))) (sSeq _ mL_names_t2) _) = _
    simp only [sSeq]
    show fin [true, true] (match sSet 2 (liftE (mC (.str SG))) [some (.ro (xI c)), some (.ro (xI m)), none, none, none, none, none, none, none, none] with | .nx env => _ | z => z) = _
    rw [h1]
    show fin [true, true] (match sSet 3 _ [some (.ro (xI c)), some (.ro (xI m)), some (.own (xT SG)), none, none, none, none, none, none, none] with | .nx env => mL_names_t2 env | z => z) = _
    rw [hs]
    show fin [true, true] (mL_names_t2 _) = _
    rw [h2]
    rfl
  · have h2 : mL_names_t2 [some (.ro (xI c)), some (.ro (xI m)), some (.own (xT SG)), some (.own (xT t)), none, none, none, none, none, none] = .rt (xTs zs) env := by
      simp only [xI, xT] at *
      simp [-mLc, mL_names_t2, m4, h, e3]
    refine ⟨zs, trunc [true, true] env, ?_, l3, z3⟩
    show fin [true, true] (sSeq (sSet 2 (liftE (mC (.str SG)))) (sSeq _ mL_names_t2) _) = _
    simp only [sSeq]
    show fin [true, true] (match sSet 2 (liftE (mC (.str SG))) [some (.ro (xI c)), some (.ro (xI m)), none, none, none, none, none, none, none, none] with | .nx env => _ | z => z) = _
    rw [h1]
    show fin [true, true] (match sSet 3 _ [some (.ro (xI c)), some (.ro (xI m)), some (.own (xT SG)), none, none, none, none, none, none, none] with | .nx env => mL_names_t2 env | z => z) = _
    rw [hs]
    show fin [true, true] (mL_names_t2 _) = _
    rw [h2]
    rfl
end
theorem copy_ints : ∀ js : List Int, copyDs (js.map xI) = true
  | [] => rfl
  | j :: js => by simp [copy_ints js]
theorem st5 (x0 x1 : Option Tr.Slot) (n i : Int) (is : List Int) (hl : is.length < 1000) : ∃ r : Int,
    mL_stream_b0 [x0, x1, some (.own (.lst (is.map xI))), some (.own (xI n)), some (.own (xI i))] = .nx [x0, x1, some (.own (.lst ((is ++ [r / 5]).map xI))), some (.own (xI r)), some (.own (xI i))] := by
  have m1 := r_mul (a := n) (b := 48271) (decide_eq_true (.inr (.inl (by omega))))
  have m2 := r_mul (a := 7919) (b := i) (decide_eq_true (.inl (by omega)))
  have m4 := r_modp (a := n * 48271 + 7919 * i + 1) (b := 2147483647) (by decide)
  generalize (n * 48271 + 7919 * i + 1) % 2147483647 = r at m4
  have d := r_divp (a := r) (b := 5) (by decide) (by decide)
  refine ⟨r, ?_⟩
  have hlen : is.length < 1000000 := by omega
  simp only [xI] at *
  simp [mL_stream_b0, m1, m2, m4, d, opAppend, takeAll, hlen]
theorem loop5 (x0 x1 : Option Tr.Slot) : ∀ (ks : List Nat) (n : Int) (is : List Int) (s4 : Option Tr.Slot), is.length + ks.length ≤ 1000 →
    ∃ (n' : Int) (is' : List Int) (t4 : Option Tr.Slot), loopF (tgN 4) mL_stream_b0 (ks.map fun k : Nat => xI (k : Int)) [x0, x1, some (.own (.lst (is.map xI))), some (.own (xI n)), s4] = .nx [x0, x1, some (.own (.lst (is'.map xI))), some (.own (xI n')), t4] ∧ is'.length = is.length + ks.length
  | [], n, is, s4, _ => ⟨n, is, s4, by simp, by simp⟩
  | k :: ks, n, is, s4, h => by
    simp only [List.length_cons] at h
    obtain ⟨r, st⟩ := st5 x0 x1 n k is (by omega)
    obtain ⟨n', is', t4, e, el⟩ := loop5 x0 x1 ks r (is ++ [r / 5]) (some (.own (xI k))) (by simp; omega)
    refine ⟨n', is', t4, ?_, by rw [el]; simp; omega⟩
    rw [List.map_cons]
    have e0 : ([x0, x1, some (.own (.lst (is.map xI))), some (.own (xI n)), s4] : En).set 4 (some (slotD (xI k))) = [x0, x1, some (.own (.lst (is.map xI))), some (.own (xI n)), some (.own (xI k))] := rfl
    simp only [loopF, tgN, e0, st, e]
theorem stream_k (c m : Int) (h0 : 0 ≤ m) (hm : m ≤ 200) : ∃ (is : List Int) (as : En), mL_stream [.ro (xI c), .ro (xI m)] = .ok (.lst (is.map xI)) as ∧ is.length ≤ 200 := by
  have hm1 := r_modp (a := c) (b := 2147483629) (by decide)
  generalize c % 2147483629 = r at hm1
  have hr : rgOk m = true := decide_eq_true (by omega)
  obtain ⟨n', is', t4, e, el⟩ := loop5 (some (.ro (xI c))) (some (.ro (xI m))) (List.range m.toNat) (r + 17) [] none (by simp; omega)
  have hg : iRg1 (mVar 1) [some (.ro (xI c)), some (.ro (xI m)), some (.own (.lst [])), some (.own (xI (r + 17))), none] = .ok ((List.range m.toNat).map fun k : Nat => xI (k : Int)) [] := by
    simp [hr]
  have h2 : mL_stream_t2 [some (.ro (xI c)), some (.ro (xI m)), some (.own (.lst [])), some (.own (xI (r + 17))), none] = .rt (.lst (is'.map xI)) [some (.ro (xI c)), some (.ro (xI m)), none, some (.own (xI n')), t4] := by
    simp only [List.map_nil] at e
    simp only [mL_stream_t2, sSeq, sFor, hg, frL, e, mL_stream_t3]
    rfl
  refine ⟨is', [some (.ro (xI c)), some (.ro (xI m))], ?_, by rw [el]; simp; omega⟩
  generalize is'.map xI = L at h2
  simp only [xI] at *
  simp [mL_stream, mL_stream_t1, mF, hm1, h2, takeAll]
theorem lc_fz {mi : MI} {j : Nat} {me : ME} {env : En} {is : List Int} {fz : List Nat} (hi : mi env = .ok (is.map xI) fz) (hf : fz.all (fun i => decide (i < env.length)) = true) (hl : is.length ≤ 1000) (P : Int → Prop) (n : Nat) (hP : ∀ i ∈ is, P i)
    (hstep : ∀ i, P i → ∃ z, me (((Tr.roE env).set j none).set j (some (.own (xI i)))) = .ok (.own (xT z)) ∧ OkT n z) : ∃ zs : List Str, mLc mi j tTrue me env = .ok (.own (xTs zs)) ∧ zs.length = is.length ∧ ∀ z ∈ zs, OkT n z := by
  obtain ⟨zs, e, el, hz⟩ := lc_gen j me (Tr.roE env) P n hstep is [] hP
  refine ⟨zs, ?_, el, hz⟩
  unfold mLc
  have h1 : (is.map xI).length ≤ 1000000 := by rw [List.length_map]; omega
  simp only [hi, hf, e, decide_eq_true h1, Bool.and_self, if_true]
  rfl
theorem add_ints (a b : List Int) (h : a.length + b.length ≤ 1000) : fAdd [.lst (a.map xI), .lst (b.map xI)] = some (.lst ((a ++ b).map xI)) := by
  show (match fAddI [.lst (a.map xI), .lst (b.map xI)] with | some z => some z | none => (match fAddS [.lst (a.map xI), .lst (b.map xI)] with | some z => some z | none => fAddL [.lst (a.map xI), .lst (b.map xI)])) = _
  have h1 : fAddI [.lst (a.map xI), .lst (b.map xI)] = none := rfl
  have h2 : fAddS [.lst (a.map xI), .lst (b.map xI)] = none := rfl
  have h3 : fAddL [.lst (a.map xI), .lst (b.map xI)] = some (.lst ((a ++ b).map xI)) := by
    simp only [fAddL, uz_lst, copy_ints, List.length_map, Bool.true_and, decide_eq_true_eq]
    rw [if_pos (by omega), List.map_append]
  rw [h1, h2, h3]

/-! a row of asks out of the stream -/
/-- the asked names -/
theorem r_end (ns : List Int) (x1 x4 : Option Tr.Slot) (m : Int) (hm : 0 < m) (names : List Str) (hn : names.length = m.toNat) (ok : ∀ z ∈ names, OkT 20 z) (is : List Int) (hl : is.length ≤ 1000) :
    ∃ (asks : List Str) (env : En), mL_row_t7 [some (.ro (.scr ns)), x1, some (.own (xI m)), some (.own (xTs names)), x4, some (.own (.lst (is.map xI))), none] = .rt (xTs asks) env ∧ asks.length = is.length ∧ ∀ z ∈ asks, OkT 20 z := by
  obtain ⟨asks, e, el, hz⟩ := lc_fz (mi := iAny (mVar 5)) (j := 6) (me := mL_row_e0) (env := [some (.ro (.scr ns)), x1, some (.own (xI m)), some (.own (xTs names)), x4, some (.own (.lst (is.map xI))), none]) (is := is) (fz := [5])
    (by simp [itemsOf]) (by simp) hl (fun _ => True) 20 (fun _ _ => trivial) (fun i _ => by
      have m1 := r_modp (a := i) (b := m) hm
      have b1 := Int.emod_nonneg i (show m ≠ 0 by omega)
      have b2 := Int.emod_lt_of_pos i hm
      obtain ⟨k, hk⟩ : ∃ k : Nat, i % m = k := ⟨(i % m).toNat, by omega⟩
      have hlt : k < names.length := by omega
      have hx : atI (names.map xT) (i % m) = some (xT names[k]) := by
        rw [hk, Tr.atI_nat, List.getElem?_map, List.getElem?_eq_getElem hlt]; rfl
      refine ⟨names[k], ?_, ok _ (List.getElem_mem hlt)⟩
      generalize i % m = r at m1 hx
      simp only [xI, xT, xTs] at *
      simp [mL_row_e0, m1, hx])
  refine ⟨asks, [some (.ro (.scr ns)), x1, some (.own (xI m)), some (.own (xTs names)), x4, some (.own (.lst (is.map xI))), none], ?_, el, hz⟩
  simp only [mL_row_t7, sRet, liftE, e]
theorem r_t4 (ns : List Int) (hns : ns.length ≤ 63) (x1 : Option Tr.Slot) (m : Int) (hm : 0 < m) (names : List Str) (hn : names.length = m.toNat) (ok : ∀ z ∈ names, OkT 20 z) :
    ∃ (asks : List Str) (env : En), mL_row_t4 [some (.ro (.scr ns)), x1, some (.own (xI m)), some (.own (xTs names)), none, none, none] = .rt (xTs asks) env ∧ asks.length ≤ 300 ∧ ∀ z ∈ asks, OkT 20 z := by
  have q4 : mL_cell [.ro (.scr ns), .ro (.im (.int 4))] = .ok (.im (.int (cell ns 4))) _ := cell_k ns 4
  have q5 : mL_cell [.ro (.scr ns), .ro (.im (.int 5))] = .ok (.im (.int (cell ns 5))) _ := cell_k ns 5
  generalize cell ns 4 = c4 at q4
  generalize cell ns 5 = c5 at q5
  have m4 := r_modp (a := c4) (b := 4) (by decide)
  obtain ⟨sl, hsl, lsl⟩ : ∃ sl : List Int, fSl (.scr ns) (some 8) (some 68) = some (.lst (sl.map xI)) ∧ sl.length ≤ 63 := by
    refine ⟨(ns.drop (HT.sIx ns.length 0 (some 8))).take (HT.sIx ns.length ns.length (some 68) - HT.sIx ns.length 0 (some 8)), by simp [fSl], ?_⟩
    rw [List.length_take, List.length_drop]; omega
  have key : ∀ lim : Int, 0 < lim → lim ≤ 200 → ∃ (asks : List Str) (env : En), mL_row_t6 [some (.ro (.scr ns)), x1, some (.own (xI m)), some (.own (xTs names)), some (.own (xI lim)), none, none] = .rt (xTs asks) env ∧ asks.length ≤ 300 ∧ ∀ z ∈ asks, OkT 20 z := by
    intro lim h0 h1
    have ml := r_modp (a := c5) (b := lim) h0
    have b1 := Int.emod_nonneg c5 (show lim ≠ 0 by omega)
    have b2 := Int.emod_lt_of_pos c5 h0
    obtain ⟨is, _, e, el⟩ := stream_k c4 (c5 % lim) b1 (by omega)
    generalize c5 % lim = u at ml e
    obtain ⟨asks, env, ea, la, oa⟩ := r_end ns x1 (some (.own (xI lim))) m hm names hn ok (sl ++ is) (by rw [List.length_append]; omega)
    have ad := add_ints sl is (by omega)
    refine ⟨asks, env, ?_, by rw [la, List.length_append]; omega, oa⟩
    generalize sl.map xI = L1 at hsl ad
    generalize is.map xI = L2 at e ad
    generalize (sl ++ is).map xI = L3 at ad ea
    generalize names.map xT = L4 at ea ⊢
    simp only [xI] at *
    simp [mL_row_t6, q4, q5, hsl, ml, e, ad, ea]
  obtain ⟨a1, env1, k1, r1⟩ := key 30 (by decide) (by decide)
  obtain ⟨a2, env2, k2, r2⟩ := key 139 (by decide) (by decide)
  generalize names.map xT = L4 at k1 k2 ⊢
  simp only [xI] at *
  by_cases h : c4 % 4 = 1
  · rw [h] at m4
    exact ⟨a2, env2, by simp [mL_row_t4, mL_row_t5, q4, m4, k2], r2⟩
  · exact ⟨a1, env1, by simp [mL_row_t4, mL_row_t5, q4, m4, h, k1], r1⟩
theorem row_k (ns : List Int) (hns : ns.length ≤ 63) : ∃ (asks : List Str) (as : En), mL_row [.ro (.scr ns)] = .ok (xTs asks) as ∧ asks.length ≤ 300 ∧ ∀ z ∈ asks, OkT 20 z := by
  have q0 : mL_cell [.ro (.scr ns), .ro (.im (.int 0))] = .ok (.im (.int (cell ns 0))) _ := cell_k ns 0
  have q1 : mL_cell [.ro (.scr ns), .ro (.im (.int 1))] = .ok (.im (.int (cell ns 1))) _ := cell_k ns 1
  generalize cell ns 0 = c0 at q0
  generalize cell ns 1 = c1 at q1
  have m8 := r_modp (a := c0) (b := 8) (by decide)
  have d8 := r_divp (a := c0) (b := 8) (by decide) (by decide)
  have m9 := r_modp (a := c0 / 8) (b := 9) (by decide)
  have d72 := r_divp (a := c0) (b := 72) (by decide) (by decide)
  have m41 := r_modp (a := c0 / 72) (b := 41) (by decide)
  have key : ∀ m : Int, 0 < m → m ≤ 100 → ∃ (asks : List Str) (env : En), mL_row_t3 [some (.ro (.scr ns)), some (.own (xI c0)), some (.own (xI m)), none, none, none, none] = .rt (xTs asks) env ∧ asks.length ≤ 300 ∧ ∀ z ∈ asks, OkT 20 z := by
    intro m h0 h1
    obtain ⟨names, _, e, hl, ok⟩ := names_k c1 m (by omega) h1
    obtain ⟨asks, env, ea, r⟩ := r_t4 ns hns (some (.own (xI c0))) m h0 names hl ok
    refine ⟨asks, env, ?_, r⟩
    generalize names.map xT = L4 at e ea
    simp only [xI] at *
    simp [mL_row_t3, q1, e, ea]
  have b1 : 0 < 1 + c0 % 8 ∧ 1 + c0 % 8 ≤ 100 := by omega
  have b2 : 0 < 20 + c0 / 72 % 41 ∧ 20 + c0 / 72 % 41 ≤ 100 := by omega
  obtain ⟨a1, env1, k1, r1⟩ := key _ b1.1 b1.2
  obtain ⟨a2, env2, k2, r2⟩ := key _ b2.1 b2.2
  clear b1 b2
  generalize c0 % 8 = u at *
  generalize c0 / 72 % 41 = v at *
  simp only [xI] at *
  by_cases h : c0 / 8 % 9 = 4
  · rw [h] at m9
    exact ⟨a2, _, by simp [mL_row, mL_row_t1, mL_row_t2, mF, q0, m8, d8, m9, d72, m41, k2]; rfl, r2⟩
  · exact ⟨a1, _, by simp [mL_row, mL_row_t1, mL_row_t2, mF, q0, m8, d8, m9, h, k1]; rfl, r1⟩

/-! places, and the parts of a row -/
theorem need_places_e {p : Int} (h : 1 ≤ p ∧ p ≤ 1000000) : m_need_places [.ro (xI p)] = .ok (xI p) [some (.ro (xI p))] := by
  have i : m_is_whole [.ro (xI p)] = .ok (.im (.bl true)) [some (.ro (xI p))] := by simp only [EV1, EV2, EV3, cp_im, cp_fz, cp_lst, cp_scr, cp_dct, cp_obj, cp_tup, cps_nil, cps_cons, uz_im, uz_lst, uz_tup, uz_scr, uz_dct, uz_obj, uz_fz, d_own, d_ro, d_bor, d_if, d_if2, List.getElem?_cons_zero, List.getElem?_cons_succ, List.set_cons_zero, List.set_cons_succ, List.map_cons, List.map_nil, List.cons_append, List.nil_append, List.length_cons, List.length_nil, List.replicate_succ, List.replicate_zero, Nat.reduceAdd, Nat.reduceSub, Nat.zero_add, Nat.sub_self, Bool.not_true, Bool.not_false, Bool.and_true, Bool.true_and, Bool.and_false, Bool.false_and, Bool.or_true, Bool.true_or, Bool.or_false, Bool.false_or, Zdsp, ownAll, Nat.reduceLeDiff, eMv, eLst, eTup, eRow, aKs, takeAll, sFor, frL, smv, Nat.zero_le, reduceIte, Bool.false_eq_true, Bool.true_eq_false, decide_true, decide_false, reduceCtorEq, ne_eq, not_false_eq_true, not_true_eq_false, implies_true, forall_const, and_self, and_true, true_and, isi_int_int, isi_bl_int, isi_int_bl, isi_bl_bl, isi_lst_lst, isi_tup_tup, isi_lst_tup, isi_tup_lst, isi_str_str, isi_non_int, beq_self_eq_true, Bool.true_beq, Bool.false_beq, r_add, r_sub, r_lt, r_le, r_gt, r_ge, r_not, r_neg, r_abs, fEq_int, fNe_int, fEq_bl, fNe_bl, m_is_whole]
  have h1 : ¬ p < 1 := by omega
  have h2 : ¬ 1000000 < p := by omega
  simp only [EV1, EV2, EV3, cp_im, cp_fz, cp_lst, cp_scr, cp_dct, cp_obj, cp_tup, cps_nil, cps_cons, uz_im, uz_lst, uz_tup, uz_scr, uz_dct, uz_obj, uz_fz, d_own, d_ro, d_bor, d_if, d_if2, List.getElem?_cons_zero, List.getElem?_cons_succ, List.set_cons_zero, List.set_cons_succ, List.map_cons, List.map_nil, List.cons_append, List.nil_append, List.length_cons, List.length_nil, List.replicate_succ, List.replicate_zero, Nat.reduceAdd, Nat.reduceSub, Nat.zero_add, Nat.sub_self, Bool.not_true, Bool.not_false, Bool.and_true, Bool.true_and, Bool.and_false, Bool.false_and, Bool.or_true, Bool.true_or, Bool.or_false, Bool.false_or, Zdsp, ownAll, Nat.reduceLeDiff, eMv, eLst, eTup, eRow, aKs, takeAll, sFor, frL, smv, Nat.zero_le, reduceIte, Bool.false_eq_true, Bool.true_eq_false, decide_true, decide_false, reduceCtorEq, ne_eq, not_false_eq_true, not_true_eq_false, implies_true, forall_const, and_self, and_true, true_and, isi_int_int, isi_bl_int, isi_int_bl, isi_bl_bl, isi_lst_lst, isi_tup_tup, isi_lst_tup, isi_tup_lst, isi_str_str, isi_non_int, beq_self_eq_true, Bool.true_beq, Bool.false_beq, r_add, r_sub, r_lt, r_le, r_gt, r_ge, r_not, r_neg, r_abs, fEq_int, fNe_int, fEq_bl, fNe_bl, m_need_places, i, h1, h2]
def Bad (d : D) : Prop := m_need_places [.ro d] = .ex ⟨x_NoNumber, []⟩ [some (.ro d)]
theorem bad_int (p : Int) (h : p < 1 ∨ 1000000 < p) : Bad (xI p) := by
  rcases h with h | h
  · simp [Bad, m_need_places, mF, m_is_whole, h]
  · have n0 : ¬ (p < 1) := by omega
    simp [Bad, m_need_places, mF, m_is_whole, n0, h]
theorem bad_non : Bad (.im .non) := by simp [Bad, m_need_places, mF, m_is_whole]
theorem bad_bl (b : Bool) : Bad (.im (.bl b)) := by simp [Bad, m_need_places, mF, m_is_whole]
theorem bad_str (b : Str) : Bad (.im (.str b)) := by simp [Bad, m_need_places, mF, m_is_whole]
theorem bad_fz (xs : List D) : Bad (.fz (.lst xs)) := by
  have h : fIsi [.fz (.lst xs), .im (.ty "int")] = some (.im (.bl false)) := fIsi_mk rfl (by decide +kernel)
  simp [Bad, m_need_places, mF, m_is_whole, h]
theorem bad_tup : Bad (.tup [xI 2]) := by simp [Bad, m_need_places, mF, m_is_whole]
theorem bads (far : Int) (h : 0 ≤ far) : ∀ d ∈ ([xI 0, xI 1000001, .im .non, .im (.bl true), .im (.bl false), .im (.str "7"), .fz (.lst [xI 3]), .tup [xI 2], xI (0 - 1 - far), xI (1000001 + far)] : List D), Bad d ∧ copyD d = true := by
  intro d hd
  simp only [List.mem_cons, List.not_mem_nil, or_false] at hd
  rcases hd with rfl | rfl | rfl | rfl | rfl | rfl | rfl | rfl | rfl | rfl
  · exact ⟨bad_int 0 (.inl (by decide)), rfl⟩
  · exact ⟨bad_int 1000001 (.inr (by decide)), rfl⟩
  · exact ⟨bad_non, rfl⟩
  · exact ⟨bad_bl _, rfl⟩
  · exact ⟨bad_bl _, rfl⟩
  · exact ⟨bad_str _, rfl⟩
  · exact ⟨bad_fz _, rfl⟩
  · exact ⟨bad_tup, by simp⟩
  · exact ⟨bad_int _ (.inl (by omega)), rfl⟩
  · exact ⟨bad_int _ (.inr (by omega)), rfl⟩
/-! different texts -/
theorem dd1_eq (acc : List Str) (a : Str) : dd1 acc a = if decide (a ∈ acc) = true then acc else acc ++ [a] := by
  unfold dd1
  have : acc.any (· == a) = decide (a ∈ acc) := by
    induction acc with
    | nil => simp
    | cons b r ih =>
      rw [List.any_cons, ih]
      by_cases h : b = a
      · subst h; simp
      · have h2 : ¬ a = b := fun z => h z.symm
        simp [h, h2]
  rw [this]
theorem mem_dd (a : Str) : ∀ (xs acc : List Str), a ∈ xs.foldl dd1 acc ↔ a ∈ acc ∨ a ∈ xs
  | [], acc => by simp
  | x :: xs, acc => by
    rw [List.foldl_cons, mem_dd a xs (dd1 acc x), dd1_eq]
    split
    · rename_i h
      have h := of_decide_eq_true h
      constructor
      · rintro (k | k)
        · exact .inl k
        · exact .inr (List.mem_cons_of_mem _ k)
      · rintro (k | k)
        · exact .inl k
        · rcases List.mem_cons.mp k with k | k
          · subst k; exact .inl h
          · exact .inr k
    · simp [or_assoc]
theorem mem_ddS {a : Str} {xs : List Str} : a ∈ ddS xs ↔ a ∈ xs := by
  have := mem_dd a xs []
  simpa [ddS] using this
theorem ddS_snoc (xs : List Str) (a : Str) : ddS (xs ++ [a]) = dd1 (ddS xs) a := by simp [ddS]
def slc (zs : List Str) (s e : Nat) : List Str := (zs.drop s).take (e - s)
theorem slc_snoc {zs : List Str} {s e : Nat} {a : Str} (h : s ≤ e) (ha : zs[e]? = some a) : slc zs s (e + 1) = slc zs s e ++ [a] := by
  unfold slc
  rw [show e + 1 - s = e - s + 1 by omega, List.take_add_one, List.getElem?_drop, show s + (e - s) = e by omega, ha]
  rfl
theorem slc_one {zs : List Str} {e : Nat} {a : Str} (ha : zs[e]? = some a) : slc zs e (e + 1) = [a] := by
  rw [slc_snoc (Nat.le_refl _) ha]; simp [slc]
theorem slc_nil (zs : List Str) (s : Nat) : slc zs s s = [] := by simp [slc]
theorem slc_e {zs : List Str} {s e : Nat} (h : s ≤ e) (he : e ≤ zs.length) : fSl (xTs zs) (some (s : Int)) (some (e : Int)) = some (xTs (slc zs s e)) := by
  have e0 : HT.sIx (zs.map xT).length 0 (some (s : Int)) = s := by rw [sIx_pos (by omega) (by simp; omega)]; simp
  have e1 : HT.sIx (zs.map xT).length (zs.map xT).length (some (e : Int)) = e := by rw [sIx_pos (by omega) (by simp; omega)]; simp
  have ec : cutD (zs.map xT) (some (s : Int)) (some (e : Int)) = (slc zs s e).map xT := by
    simp only [cutD, e0, e1]
    rw [slc, List.map_take, List.map_drop]
  simp only [fSl, uz_lst, xTs, ec]
  rw [if_pos (copy_strs _)]
theorem lenS_e {ys : List Str} (h : ys.length ≤ 4000) : fLenSet [xTs ys] = some (xI ((ddS ys).length : Nat)) := by
  simp only [fLenSet, uz_lst, xTs, x_strs]
  rw [if_pos h]
/-! parts -/
structure Part (p : Int) (asks : List Str) (s e : Nat) : Prop where
  lt : s < e
  le : e ≤ asks.length
  few : ((ddS (slc asks s e)).length : Int) ≤ p
  full : e < asks.length → ((ddS (slc asks s e)).length : Int) = p ∧ ∀ a, asks[e]? = some a → a ∉ slc asks s e
def CutS (p : Int) (asks : List Str) : Nat → List (Int × Int) → Nat → Prop
  | s0, [], s => s0 = s
  | s0, q :: r, s => ∃ e : Nat, q = ((s0 : Int), (e : Int)) ∧ Part p asks s0 e ∧ CutS p asks e r s
theorem CutS.snoc {p : Int} {asks : List Str} : ∀ {ps : List (Int × Int)} {s0 s e : Nat}, CutS p asks s0 ps s → Part p asks s e → CutS p asks s0 (ps ++ [((s : Int), (e : Int))]) e
  | [], s0, s, e, h, q => by
    have h : s0 = s := h
    subst h
    exact ⟨e, rfl, q, rfl⟩
  | _ :: r, s0, s, e, ⟨e1, h1, h2, h3⟩, q => ⟨e1, h1, h2, CutS.snoc h3 q⟩
theorem CutS.le {p : Int} {asks : List Str} : ∀ {ps : List (Int × Int)} {s0 s : Nat}, CutS p asks s0 ps s → s0 + ps.length ≤ s
  | [], s0, s, h => by have h : s0 = s := h; simp [h]
  | _ :: r, s0, s, ⟨e1, h1, h2, h3⟩ => by
    have := CutS.le h3
    have := h2.lt
    simp only [List.length_cons]; omega
abbrev pr2 (q : Int × Int) : D := .tup [xI q.1, xI q.2]
def sn (ks : List Str) : List (Str × D) := ks.map fun k => (k, (.im (.bl true) : D))
theorem sn_keys (ks : List Str) : (sn ks).map (·.1) = ks := by
  unfold sn; rw [List.map_map]; exact List.map_id ks
theorem sn_cp (ks : List Str) : copyDs ((sn ks).map (·.2)) = true := by
  induction ks with
  | nil => rfl
  | cons k ks ih => simp [sn] at ih ⊢; exact ih
theorem sn_put (ks : List Str) (a : Str) (hl : ks.length < 900) : opSetA (dic (sn ks)) [xT a, .im (.bl true)] = some (dic (sn (dd1 ks a)), .im .non) := by
  rw [put_dic a _ (sn ks) rfl (sn_cp ks) (by simp [sn]; omega)]
  have : dset (sn ks) a (.im (.bl true)) = sn (dd1 ks a) := by
    unfold dset
    rw [sn_keys, dd1_eq]
    by_cases h : a ∈ ks
    · rw [if_pos (by simpa using h), if_pos (by simpa using h)]
      simp only [sn, List.map_map]
      apply List.map_congr_left
      intro k _
      simp only [Function.comp]
      split <;> rfl
    · rw [if_neg (by simpa using h), if_neg (by simpa using h)]
      simp [sn]
  rw [this]
theorem parts_b0 (x0 : Option Tr.Slot) (p : Int) (ps : List (Int × Int)) (st k : Int) (seen : List Str) (a : Str) (hl : seen.length < 800) (hp : ps.length < 900) :
    m_parts_of_b0 [x0, some (.ro (xI p)), some (.own (.lst (ps.map pr2))), some (.own (xI st)), some (.own (dic (sn seen))), some (.own (xI k)), some (.own (xT a))] =
    (if (!decide (a ∈ seen) && decide ((seen.length : Int) = p)) = true then .nx [x0, some (.ro (xI p)), some (.own (.lst ((ps ++ [(st, k)]).map pr2))), some (.own (xI k)), some (.own (dic (sn [a]))), some (.own (xI k)), some (.own (xT a))]
      else .nx [x0, some (.ro (xI p)), some (.own (.lst (ps.map pr2))), some (.own (xI st)), some (.own (dic (sn (dd1 seen a)))), some (.own (xI k)), some (.own (xT a))]) := by
  have h1 := ni_dic a (sn seen) (d := dic (sn seen)) rfl
  rw [sn_keys] at h1
  have hlen : fLen [dic (sn seen)] = some (xI seen.length) := by rw [r_len_dct]; simp [sn]
  have w1 := sub_e (i := 4) (mk := mVar 6) (me := liftE (mC (.bl true))) (env := [x0, some (.ro (xI p)), some (.own (.lst (ps.map pr2))), some (.own (xI st)), some (.own (dic (sn seen))), some (.own (xI k)), some (.own (xT a))]) (v := .im (.bl true)) (k := .str a) rfl rfl rfl (sn_put seen a (by omega))
  have w2 := sub_e (i := 4) (mk := mVar 6) (me := liftE (mC (.bl true))) (env := [x0, some (.ro (xI p)), some (.own (.lst ((ps ++ [(st, k)]).map pr2))), some (.own (xI k)), some (.own (.dct [] [])), some (.own (xI k)), some (.own (xT a))]) (v := .im (.bl true)) (k := .str a) rfl rfl rfl (sn_put [] a (by decide))
  rw [show dd1 [] a = [a] from rfl] at w2
  have ap := app_e (i := 2) (x := pr2 (st, k)) (G := ps.map pr2) (env := [x0, some (.ro (xI p)), some (.own (.lst (ps.map pr2))), some (.own (xI st)), some (.own (dic (sn seen))), some (.own (xI k)), some (.own (xT a))]) (k := .p (mDsp D.tup [(mVar 3), (mVar 5)])) rfl (by simp [ownAll]) (by simp; omega)
  rw [show ps.map pr2 ++ [pr2 (st, k)] = (ps ++ [(st, k)]).map pr2 by simp] at ap
  simp only [List.set_cons_succ, List.set_cons_zero] at ap w1 w2
  have cpd : copyD (dic (sn seen)) = false := rfl
  simp only [m_parts_of_b0]
  generalize (sSub opSetA _ _ _) = SB at *
  generalize (sEx (eMut isLst opAppend (lVar 2) _)) = AP at *
  generalize (ps ++ [(st, k)]).map pr2 = P2 at *
  generalize ps.map pr2 = P1 at *
  generalize dic (sn (dd1 seen a)) = D2 at *
  generalize dic (sn [a]) = D1 at *
  generalize (seen.length : Int) = L at *
  generalize dic (sn seen) = DS at *
  by_cases ha : a ∈ seen
  · rw [decide_eq_true ha] at h1
    rw [if_neg (by simp [ha])]
    simp only [EV1, EV2, EV3, cp_im, cp_fz, cp_lst, cp_scr, cp_dct, cp_obj, cp_tup, cps_nil, cps_cons, uz_im, uz_lst, uz_tup, uz_scr, uz_dct, uz_obj, uz_fz, d_own, d_ro, d_bor, d_if, d_if2, List.getElem?_cons_zero, List.getElem?_cons_succ, List.set_cons_zero, List.set_cons_succ, List.map_cons, List.map_nil, List.cons_append, List.nil_append, List.length_cons, List.length_nil, List.replicate_succ, List.replicate_zero, Nat.reduceAdd, Nat.reduceSub, Nat.zero_add, Nat.sub_self, Bool.not_true, Bool.not_false, Bool.and_true, Bool.true_and, Bool.and_false, Bool.false_and, Bool.or_true, Bool.true_or, Bool.or_false, Bool.false_or, Zdsp, ownAll, Nat.reduceLeDiff, eMv, eLst, eTup, eRow, aKs, takeAll, sFor, frL, smv, Nat.zero_le, reduceIte, Bool.false_eq_true, Bool.true_eq_false, decide_true, decide_false, reduceCtorEq, ne_eq, not_false_eq_true, not_true_eq_false, implies_true, forall_const, and_self, and_true, true_and, isi_int_int, isi_bl_int, isi_int_bl, isi_bl_bl, isi_lst_lst, isi_tup_tup, isi_lst_tup, isi_tup_lst, isi_str_str, isi_non_int, beq_self_eq_true, Bool.true_beq, Bool.false_beq, r_add, r_sub, r_lt, r_le, r_gt, r_ge, r_not, r_neg, r_abs, fEq_int, fNe_int, fEq_bl, fNe_bl, h1, cpd, w1]
  · rw [decide_eq_false ha] at h1
    by_cases hp : L = p
    · have k1 : decide (L = p) = true := decide_eq_true hp
      rw [if_pos (by simp [ha, hp])]
      simp only [EV1, EV2, EV3, cp_im, cp_fz, cp_lst, cp_scr, cp_dct, cp_obj, cp_tup, cps_nil, cps_cons, uz_im, uz_lst, uz_tup, uz_scr, uz_dct, uz_obj, uz_fz, d_own, d_ro, d_bor, d_if, d_if2, List.getElem?_cons_zero, List.getElem?_cons_succ, List.set_cons_zero, List.set_cons_succ, List.map_cons, List.map_nil, List.cons_append, List.nil_append, List.length_cons, List.length_nil, List.replicate_succ, List.replicate_zero, Nat.reduceAdd, Nat.reduceSub, Nat.zero_add, Nat.sub_self, Bool.not_true, Bool.not_false, Bool.and_true, Bool.true_and, Bool.and_false, Bool.false_and, Bool.or_true, Bool.true_or, Bool.or_false, Bool.false_or, Zdsp, ownAll, Nat.reduceLeDiff, eMv, eLst, eTup, eRow, aKs, takeAll, sFor, frL, smv, Nat.zero_le, reduceIte, Bool.false_eq_true, Bool.true_eq_false, decide_true, decide_false, reduceCtorEq, ne_eq, not_false_eq_true, not_true_eq_false, implies_true, forall_const, and_self, and_true, true_and, isi_int_int, isi_bl_int, isi_int_bl, isi_bl_bl, isi_lst_lst, isi_tup_tup, isi_lst_tup, isi_tup_lst, isi_str_str, isi_non_int, beq_self_eq_true, Bool.true_beq, Bool.false_beq, r_add, r_sub, r_lt, r_le, r_gt, r_ge, r_not, r_neg, r_abs, fEq_int, fNe_int, fEq_bl, fNe_bl, h1, cpd, hlen, k1, ap, w2]
    · have k1 : decide (L = p) = false := decide_eq_false hp
      rw [if_neg (by simp [hp])]
      simp only [EV1, EV2, EV3, cp_im, cp_fz, cp_lst, cp_scr, cp_dct, cp_obj, cp_tup, cps_nil, cps_cons, uz_im, uz_lst, uz_tup, uz_scr, uz_dct, uz_obj, uz_fz, d_own, d_ro, d_bor, d_if, d_if2, List.getElem?_cons_zero, List.getElem?_cons_succ, List.set_cons_zero, List.set_cons_succ, List.map_cons, List.map_nil, List.cons_append, List.nil_append, List.length_cons, List.length_nil, List.replicate_succ, List.replicate_zero, Nat.reduceAdd, Nat.reduceSub, Nat.zero_add, Nat.sub_self, Bool.not_true, Bool.not_false, Bool.and_true, Bool.true_and, Bool.and_false, Bool.false_and, Bool.or_true, Bool.true_or, Bool.or_false, Bool.false_or, Zdsp, ownAll, Nat.reduceLeDiff, eMv, eLst, eTup, eRow, aKs, takeAll, sFor, frL, smv, Nat.zero_le, reduceIte, Bool.false_eq_true, Bool.true_eq_false, decide_true, decide_false, reduceCtorEq, ne_eq, not_false_eq_true, not_true_eq_false, implies_true, forall_const, and_self, and_true, true_and, isi_int_int, isi_bl_int, isi_int_bl, isi_bl_bl, isi_lst_lst, isi_tup_tup, isi_lst_tup, isi_tup_lst, isi_str_str, isi_non_int, beq_self_eq_true, Bool.true_beq, Bool.false_beq, r_add, r_sub, r_lt, r_le, r_gt, r_ge, r_not, r_neg, r_abs, fEq_int, fNe_int, fEq_bl, fNe_bl, h1, cpd, hlen, k1, w1]
def enL : Nat → List Str → List D
  | _, [] => []
  | k, a :: as => .tup [xI (k : Int), xT a] :: enL (k + 1) as
theorem enD_eq : ∀ (asks : List Str) (k : Nat), ((List.range asks.length).map fun i => D.tup [.im (.int ((k + i : Nat) : Int)), (asks.map xT).getD i (.im .non)]) = enL k asks
  | [], k => rfl
  | a :: as, k => by
    rw [List.length_cons, List.range_succ_eq_map, List.map_cons, List.map_map]
    have ih := enD_eq as (k + 1)
    show _ :: _ = _ :: _
    rw [← ih]
    congr 1
    apply List.map_congr_left
    intro i _
    show D.tup [.im (.int ((k + (i + 1) : Nat) : Int)), ((a :: as).map xT).getD (i + 1) (.im .non)] = _
    rw [show k + (i + 1) = k + 1 + i by omega]
    rfl
theorem parts_l (x0 : Option Tr.Slot) (p : Int) (hp : 1 ≤ p) (asks : List Str) (hN : asks.length ≤ 400) : ∀ (as : List Str) (k : Nat) (ps : List (Int × Int)) (st : Nat) (s5 s6 : Option Tr.Slot), asks.drop k = as → k ≤ asks.length → st ≤ k → (0 < k → st < k) → ((ddS (slc asks st k)).length : Int) ≤ p → CutS p asks 0 ps st →
    ∃ (ps' : List (Int × Int)) (st' : Nat) (t4 t5 t6 : Option Tr.Slot), loopF (tgT (tsCons (tgN 5) (tsCons (tgN 6) tsNil))) m_parts_of_b0 (enL k as) [x0, some (.ro (xI p)), some (.own (.lst (ps.map pr2))), some (.own (xI (st : Int))), some (.own (dic (sn (ddS (slc asks st k))))), s5, s6] =
      .nx [x0, some (.ro (xI p)), some (.own (.lst (ps'.map pr2))), some (.own (xI (st' : Int))), t4, t5, t6] ∧ st' ≤ asks.length ∧ (0 < asks.length → st' < asks.length) ∧ ((ddS (slc asks st' asks.length)).length : Int) ≤ p ∧ CutS p asks 0 ps' st'
  | [], k, ps, st, s5, s6, hd, hk, h1, h2, h3, h4 => by
    have hk' : k = asks.length := by
      have := congrArg List.length hd
      rw [List.length_drop] at this; simp at this; omega
    subst hk'
    exact ⟨ps, st, _, s5, s6, by simp [enL, loopF]; rfl, h1, h2, h3, h4⟩
  | a :: as, k, ps, st, s5, s6, hd, hk, h1, h2, h3, h4 => by
    have hlt : k < asks.length := by
      have := congrArg List.length hd
      rw [List.length_drop] at this; simp at this; omega
    have ha : asks[k]? = some a := by
      have := congrArg (fun z : List Str => z[0]?) hd
      simp only [List.getElem?_drop, Nat.add_zero] at this
      simpa using this
    have hd' : asks.drop (k + 1) = as := by
      rw [← List.tail_drop, hd]; rfl
    have hsl : (slc asks st k).length ≤ k := by unfold slc; rw [List.length_take]; omega
    have hdl := ddS_le (slc asks st k)
    have hps := h4.le
    have stp := parts_b0 x0 p ps (st : Int) (k : Int) (ddS (slc asks st k)) a (by omega) (by omega)
    have et : tgT (tsCons (tgN 5) (tsCons (tgN 6) tsNil)) (.tup [xI (k : Int), xT a]) [x0, some (.ro (xI p)), some (.own (.lst (ps.map pr2))), some (.own (xI (st : Int))), some (.own (dic (sn (ddS (slc asks st k))))), s5, s6] = some [x0, some (.ro (xI p)), some (.own (.lst (ps.map pr2))), some (.own (xI (st : Int))), some (.own (dic (sn (ddS (slc asks st k))))), some (.own (xI k)), some (.own (xT a))] := rfl
    by_cases hc : (!decide (a ∈ ddS (slc asks st k)) && decide (((ddS (slc asks st k)).length : Int) = p)) = true
    · rw [if_pos hc] at stp
      simp only [Bool.and_eq_true, Bool.not_eq_true', decide_eq_false_iff_not, decide_eq_true_eq] at hc
      have hst : st < k := by
        rcases Nat.lt_or_ge st k with h | h
        · exact h
        · have : st = k := by omega
          subst this
          rw [slc_nil] at hc
          have := hc.2
          simp [ddS] at this
          omega
      have hP : Part p asks st k := ⟨hst, hk, h3, fun _ => ⟨hc.2, fun b hb => by
        rw [ha] at hb
        cases hb
        exact fun h => hc.1 (mem_ddS.mpr h)⟩⟩
      have s1 : ddS (slc asks k (k + 1)) = [a] := by rw [slc_one ha]; rfl
      obtain ⟨ps', st', t4, t5, t6, e, r1, r2, r3, r4⟩ := parts_l x0 p hp asks hN as (k + 1) (ps ++ [((st : Int), (k : Int))]) k (some (.own (xI k))) (some (.own (xT a))) hd' (by omega) (by omega) (fun _ => by omega) (by rw [s1]; simpa using hp) (h4.snoc hP)
      rw [s1] at e
      refine ⟨ps', st', t4, t5, t6, ?_, r1, r2, r3, r4⟩
      simp only [enL, loopF, et, stp, e]
    · rw [if_neg hc] at stp
      have s1 : ddS (slc asks st (k + 1)) = dd1 (ddS (slc asks st k)) a := by rw [slc_snoc h1 ha, ddS_snoc]
      obtain ⟨ps', st', t4, t5, t6, e, r1, r2, r3, r4⟩ := parts_l x0 p hp asks hN as (k + 1) ps st (some (.own (xI k))) (some (.own (xT a))) hd' (by omega) (by omega) (fun _ => by omega) (by
        rw [s1, dd1_eq]
        split
        · exact h3
        · rename_i hm
          simp only [hm, Bool.not_false, Bool.true_and, decide_eq_true_eq] at hc
          rw [List.length_append, List.length_singleton]; omega) h4
      rw [s1] at e
      refine ⟨ps', st', t4, t5, t6, ?_, r1, r2, r3, r4⟩
      simp only [enL, loopF, et, stp, e]
theorem len_asks (asks : List Str) : fLen [xTs asks] = some (xI (asks.length : Int)) := by
  simp only [xTs]; rw [r_len_lst, List.length_map]
theorem parts_e (asks : List Str) (p : Int) (h0 : 1 ≤ p) (h1 : p ≤ 1000000) (hl : asks.length ≤ 400) : ∃ ps : List (Int × Int), m_parts_of [.ro (xTs asks), .ro (xI p)] = .ok (.lst (ps.map pr2)) [some (.ro (xTs asks)), some (.ro (xI p))] ∧ CutS p asks 0 ps asks.length := by
  have np := need_places_e ⟨h0, h1⟩
  have hi : iEn (mVar 0) [some (.ro (xTs asks)), some (.ro (xI p)), some (.own (.lst [])), some (.own (xI 0)), some (.own (.dct [] [])), none, none] = .ok (enL 0 asks) [] := by
    have := enD_eq asks 0
    simp only [Nat.zero_add] at this
    rw [← this]
    simp [itemsOf]
  obtain ⟨ps, st, t4, t5, t6, e, r1, r2, r3, r4⟩ := parts_l (some (.ro (xTs asks))) p h0 asks hl asks 0 [] 0 none none (by simp) (by omega) (by omega) (by omega) (by rw [slc_nil]; simp [ddS]; omega) rfl
  rw [slc_nil] at e
  have f := for_e (pin := pinL [true, true]) (pin' := fun k => pinL [true, true] k || k == 0) hi e
  have hlen := len_asks asks
  have hpl := r4.le
  have cpA : copyD (xTs asks) = false := rfl
  by_cases hst : (st : Int) < (asks.length : Int)
  · have hP : Part p asks st asks.length := ⟨by omega, by omega, r3, fun h => absurd h (Nat.lt_irrefl _)⟩
    refine ⟨ps ++ [((st : Int), (asks.length : Int))], ?_, r4.snoc hP⟩
    have ap := app_e (i := 2) (x := pr2 ((st : Int), (asks.length : Int))) (G := ps.map pr2) (env := [some (.ro (xTs asks)), some (.ro (xI p)), some (.own (.lst (ps.map pr2))), some (.own (xI (st : Int))), t4, t5, t6]) (k := .p (mDsp D.tup [(mVar 3), (mN fLen [(mVar 0)])])) rfl (row_p (by
      generalize (asks.length : Int) = N at *
      generalize (st : Int) = S at *
      generalize ps.map pr2 = P at *
      generalize xTs asks = A at *
      simp only [EV1, EV2, EV3, cp_im, cp_fz, cp_lst, cp_scr, cp_dct, cp_obj, cp_tup, cps_nil, cps_cons, uz_im, uz_lst, uz_tup, uz_scr, uz_dct, uz_obj, uz_fz, d_own, d_ro, d_bor, d_if, d_if2, List.getElem?_cons_zero, List.getElem?_cons_succ, List.set_cons_zero, List.set_cons_succ, List.map_cons, List.map_nil, List.cons_append, List.nil_append, List.length_cons, List.length_nil, List.replicate_succ, List.replicate_zero, Nat.reduceAdd, Nat.reduceSub, Nat.zero_add, Nat.sub_self, Bool.not_true, Bool.not_false, Bool.and_true, Bool.true_and, Bool.and_false, Bool.false_and, Bool.or_true, Bool.true_or, Bool.or_false, Bool.false_or, Zdsp, ownAll, Nat.reduceLeDiff, eMv, eLst, eTup, eRow, aKs, takeAll, sFor, frL, smv, Nat.zero_le, reduceIte, Bool.false_eq_true, Bool.true_eq_false, decide_true, decide_false, reduceCtorEq, ne_eq, not_false_eq_true, not_true_eq_false, implies_true, forall_const, and_self, and_true, true_and, isi_int_int, isi_bl_int, isi_int_bl, isi_bl_bl, isi_lst_lst, isi_tup_tup, isi_lst_tup, isi_tup_lst, isi_str_str, isi_non_int, beq_self_eq_true, Bool.true_beq, Bool.false_beq, r_add, r_sub, r_lt, r_le, r_gt, r_ge, r_not, r_neg, r_abs, fEq_int, fNe_int, fEq_bl, fNe_bl, hlen, cpA])) (by simp; omega)
    rw [show ps.map pr2 ++ [pr2 ((st : Int), (asks.length : Int))] = (ps ++ [((st : Int), (asks.length : Int))]).map pr2 by simp] at ap
    simp only [List.set_cons_succ, List.set_cons_zero] at ap
    have cpR : copyD (.lst ((ps ++ [((st : Int), (asks.length : Int))]).map pr2)) = false := rfl
    simp only [m_parts_of, m_parts_of_t1, m_parts_of_t2, m_parts_of_t3, m_parts_of_t4, m_parts_of_t5, m_parts_of_t6]
    generalize (sFor _ _ _ _ m_parts_of_b0) = LP at *
    generalize (sEx (eMut isLst opAppend (lVar 2) _)) = AP at *
    generalize (ps ++ [((st : Int), (asks.length : Int))]).map pr2 = P2 at *
    generalize ps.map pr2 = P at *
    generalize (asks.length : Int) = N at *
    generalize (st : Int) = S at *
    generalize xTs asks = A at *
    simp only [EV1, EV2, EV3, cp_im, cp_fz, cp_lst, cp_scr, cp_dct, cp_obj, cp_tup, cps_nil, cps_cons, uz_im, uz_lst, uz_tup, uz_scr, uz_dct, uz_obj, uz_fz, d_own, d_ro, d_bor, d_if, d_if2, List.getElem?_cons_zero, List.getElem?_cons_succ, List.set_cons_zero, List.set_cons_succ, List.map_cons, List.map_nil, List.cons_append, List.nil_append, List.length_cons, List.length_nil, List.replicate_succ, List.replicate_zero, Nat.reduceAdd, Nat.reduceSub, Nat.zero_add, Nat.sub_self, Bool.not_true, Bool.not_false, Bool.and_true, Bool.true_and, Bool.and_false, Bool.false_and, Bool.or_true, Bool.true_or, Bool.or_false, Bool.false_or, Zdsp, ownAll, Nat.reduceLeDiff, eMv, eLst, eTup, eRow, aKs, takeAll, sFor, frL, smv, Nat.zero_le, reduceIte, Bool.false_eq_true, Bool.true_eq_false, decide_true, decide_false, reduceCtorEq, ne_eq, not_false_eq_true, not_true_eq_false, implies_true, forall_const, and_self, and_true, true_and, isi_int_int, isi_bl_int, isi_int_bl, isi_bl_bl, isi_lst_lst, isi_tup_tup, isi_lst_tup, isi_tup_lst, isi_str_str, isi_non_int, beq_self_eq_true, Bool.true_beq, Bool.false_beq, r_add, r_sub, r_lt, r_le, r_gt, r_ge, r_not, r_neg, r_abs, fEq_int, fNe_int, fEq_bl, fNe_bl, np, f, hlen, hst, cpA, ap, cpR]
  · have h0' : asks.length = 0 := by
      rcases Nat.eq_zero_or_pos asks.length with h | h
      · exact h
      · have := r2 h; omega
    have hs0 : st = asks.length := by omega
    refine ⟨ps, ?_, hs0 ▸ r4⟩
    have cpR : copyD (.lst (ps.map pr2)) = false := rfl
    simp only [m_parts_of, m_parts_of_t1, m_parts_of_t2, m_parts_of_t3, m_parts_of_t4, m_parts_of_t5, m_parts_of_t6]
    generalize (sFor _ _ _ _ m_parts_of_b0) = LP at *
    generalize (sEx (eMut isLst opAppend (lVar 2) _)) = AP at *
    generalize ps.map pr2 = P at *
    generalize (asks.length : Int) = N at *
    generalize (st : Int) = S at *
    generalize xTs asks = A at *
    simp only [EV1, EV2, EV3, cp_im, cp_fz, cp_lst, cp_scr, cp_dct, cp_obj, cp_tup, cps_nil, cps_cons, uz_im, uz_lst, uz_tup, uz_scr, uz_dct, uz_obj, uz_fz, d_own, d_ro, d_bor, d_if, d_if2, List.getElem?_cons_zero, List.getElem?_cons_succ, List.set_cons_zero, List.set_cons_succ, List.map_cons, List.map_nil, List.cons_append, List.nil_append, List.length_cons, List.length_nil, List.replicate_succ, List.replicate_zero, Nat.reduceAdd, Nat.reduceSub, Nat.zero_add, Nat.sub_self, Bool.not_true, Bool.not_false, Bool.and_true, Bool.true_and, Bool.and_false, Bool.false_and, Bool.or_true, Bool.true_or, Bool.or_false, Bool.false_or, Zdsp, ownAll, Nat.reduceLeDiff, eMv, eLst, eTup, eRow, aKs, takeAll, sFor, frL, smv, Nat.zero_le, reduceIte, Bool.false_eq_true, Bool.true_eq_false, decide_true, decide_false, reduceCtorEq, ne_eq, not_false_eq_true, not_true_eq_false, implies_true, forall_const, and_self, and_true, true_and, isi_int_int, isi_bl_int, isi_int_bl, isi_bl_bl, isi_lst_lst, isi_tup_tup, isi_lst_tup, isi_tup_lst, isi_str_str, isi_non_int, beq_self_eq_true, Bool.true_beq, Bool.false_beq, r_add, r_sub, r_lt, r_le, r_gt, r_ge, r_not, r_neg, r_abs, fEq_int, fNe_int, fEq_bl, fNe_bl, np, f, hlen, hst, cpA, cpR]
theorem parts_bad (A d : D) (hA : copyD A = false) (hb : Bad d) (hc : copyD d = true) : m_parts_of [.ro A, .ro d] = .ex ⟨x_NoNumber, []⟩ [some (.ro A), some (.ro d)] := by
  have hb : m_need_places [.ro d] = .ex ⟨x_NoNumber, []⟩ [some (.ro d)] := hb
  simp only [m_parts_of]
  generalize m_parts_of_t1 = T1 at *
  simp only [EV1, EV2, EV3, cp_im, cp_fz, cp_lst, cp_scr, cp_dct, cp_obj, cp_tup, cps_nil, cps_cons, uz_im, uz_lst, uz_tup, uz_scr, uz_dct, uz_obj, uz_fz, d_own, d_ro, d_bor, d_if, d_if2, List.getElem?_cons_zero, List.getElem?_cons_succ, List.set_cons_zero, List.set_cons_succ, List.map_cons, List.map_nil, List.cons_append, List.nil_append, List.length_cons, List.length_nil, List.replicate_succ, List.replicate_zero, Nat.reduceAdd, Nat.reduceSub, Nat.zero_add, Nat.sub_self, Bool.not_true, Bool.not_false, Bool.and_true, Bool.true_and, Bool.and_false, Bool.false_and, Bool.or_true, Bool.true_or, Bool.or_false, Bool.false_or, Zdsp, ownAll, Nat.reduceLeDiff, eMv, eLst, eTup, eRow, aKs, takeAll, sFor, frL, smv, Nat.zero_le, reduceIte, Bool.false_eq_true, Bool.true_eq_false, decide_true, decide_false, reduceCtorEq, ne_eq, not_false_eq_true, not_true_eq_false, implies_true, forall_const, and_self, and_true, true_and, isi_int_int, isi_bl_int, isi_int_bl, isi_bl_bl, isi_lst_lst, isi_tup_tup, isi_lst_tup, isi_tup_lst, isi_str_str, isi_non_int, beq_self_eq_true, Bool.true_beq, Bool.false_beq, r_add, r_sub, r_lt, r_le, r_gt, r_ge, r_not, r_neg, r_abs, fEq_int, fNe_int, fEq_bl, fNe_bl, hc, hb]

--part check
theorem whole_i (i : Int) : mL_whole [.ro (xI i)] = .ok (.im (.bl true)) [some (.ro (xI i))] := by simp only [EV1, EV2, EV3, cp_im, cp_fz, cp_lst, cp_scr, cp_dct, cp_obj, cp_tup, cps_nil, cps_cons, uz_im, uz_lst, uz_tup, uz_scr, uz_dct, uz_obj, uz_fz, d_own, d_ro, d_bor, d_if, d_if2, List.getElem?_cons_zero, List.getElem?_cons_succ, List.set_cons_zero, List.set_cons_succ, List.map_cons, List.map_nil, List.cons_append, List.nil_append, List.length_cons, List.length_nil, List.replicate_succ, List.replicate_zero, Nat.reduceAdd, Nat.reduceSub, Nat.zero_add, Nat.sub_self, Bool.not_true, Bool.not_false, Bool.and_true, Bool.true_and, Bool.and_false, Bool.false_and, Bool.or_true, Bool.true_or, Bool.or_false, Bool.false_or, Zdsp, ownAll, Nat.reduceLeDiff, eMv, eLst, eTup, eRow, aKs, takeAll, sFor, frL, smv, Nat.zero_le, reduceIte, Bool.false_eq_true, Bool.true_eq_false, decide_true, decide_false, reduceCtorEq, ne_eq, not_false_eq_true, not_true_eq_false, implies_true, forall_const, and_self, and_true, true_and, isi_int_int, isi_bl_int, isi_int_bl, isi_bl_bl, isi_lst_lst, isi_tup_tup, isi_lst_tup, isi_tup_lst, isi_str_str, isi_non_int, beq_self_eq_true, Bool.true_beq, Bool.false_beq, r_add, r_sub, r_lt, r_le, r_gt, r_ge, r_not, r_neg, r_abs, fEq_int, fNe_int, fEq_bl, fNe_bl, mL_whole]
theorem e2e_b0 (x0 : Option Tr.Slot) (p : Int) (asks : List Str) (hN : asks.length ≤ 400) (s e : Nat) (hP : Part p asks s e) (x5 : Option Tr.Slot) : ∃ y5, mL_end_to_end_b0 [x0, some (.ro (xTs asks)), some (.ro (xI p)), some (.own (xI (s : Int))), some (.own (pr2 ((s : Int), (e : Int)))), x5] =
    .nx [x0, some (.ro (xTs asks)), some (.ro (xI p)), some (.own (xI (e : Int))), some (.own (pr2 ((s : Int), (e : Int)))), y5] := by
  have w1 := whole_i (s : Int)
  have w2 := whole_i (e : Int)
  have hlt := hP.lt
  have hle := hP.le
  have hlen := len_asks asks
  have sl := slc_e (zs := asks) (s := s) (e := e) (by omega) hle
  have l0 : (slc asks s e).length ≤ 4000 := by unfold slc; rw [List.length_take, List.length_drop]; omega
  have ls := lenS_e l0
  have n0 : (decide ¬ (s : Int) = (s : Int)) = false := by simp
  have l2 : fLen [pr2 ((s : Int), (e : Int))] = some (xI 2) := rfl
  have n02 : (decide ¬ (2 : Int) = 2) = false := by decide
  have n1 : ¬ ((e : Int) ≤ (s : Int)) := by omega
  have n2 : ¬ ((asks.length : Int) < (e : Int)) := by omega
  have few := hP.few
  have n3 : ¬ (p < ((ddS (slc asks s e)).length : Int)) := by omega
  have cpA : copyD (xTs asks) = false := rfl
  have cpS : copyD (xTs (slc asks s e)) = false := rfl
  refine ⟨some (.own (xTs (slc asks s e))), ?_⟩
  by_cases hE : (e : Int) < (asks.length : Int)
  · have hE' : e < asks.length := by omega
    obtain ⟨f1, f2⟩ := hP.full hE'
    obtain ⟨a, ha⟩ : ∃ a, asks[e]? = some a := ⟨_, List.getElem?_eq_getElem hE'⟩
    have hin := in_lst a (slc asks s e)
    rw [decide_eq_false (f2 a ha)] at hin
    have hx : atI (asks.map xT) (e : Int) = some (xT a) := by rw [Tr.atI_nat, List.getElem?_map, ha]; rfl
    have k1 : (decide ¬ ((ddS (slc asks s e)).length : Int) = p) = false := decide_eq_false (fun h => h f1)
    simp only [mL_end_to_end_b0]
    simp only [xTs] at *
    generalize asks.map xT = A at *
    generalize (slc asks s e).map xT = S at *
    generalize (((ddS (slc asks s e)).length : Nat) : Int) = L at *
    generalize (asks.length : Int) = N at *
    generalize (s : Int) = sI at *
    generalize (e : Int) = eI at *
    simp only [EV1, EV2, EV3, cp_im, cp_fz, cp_lst, cp_scr, cp_dct, cp_obj, cp_tup, cps_nil, cps_cons, uz_im, uz_lst, uz_tup, uz_scr, uz_dct, uz_obj, uz_fz, d_own, d_ro, d_bor, d_if, d_if2, List.getElem?_cons_zero, List.getElem?_cons_succ, List.set_cons_zero, List.set_cons_succ, List.map_cons, List.map_nil, List.cons_append, List.nil_append, List.length_cons, List.length_nil, List.replicate_succ, List.replicate_zero, Nat.reduceAdd, Nat.reduceSub, Nat.zero_add, Nat.sub_self, Bool.not_true, Bool.not_false, Bool.and_true, Bool.true_and, Bool.and_false, Bool.false_and, Bool.or_true, Bool.true_or, Bool.or_false, Bool.false_or, Zdsp, ownAll, Nat.reduceLeDiff, eMv, eLst, eTup, eRow, aKs, takeAll, sFor, frL, smv, Nat.zero_le, reduceIte, Bool.false_eq_true, Bool.true_eq_false, decide_true, decide_false, reduceCtorEq, ne_eq, not_false_eq_true, not_true_eq_false, implies_true, forall_const, and_self, and_true, true_and, isi_int_int, isi_bl_int, isi_int_bl, isi_bl_bl, isi_lst_lst, isi_tup_tup, isi_lst_tup, isi_tup_lst, isi_str_str, isi_non_int, beq_self_eq_true, Bool.true_beq, Bool.false_beq, r_add, r_sub, r_lt, r_le, r_gt, r_ge, r_not, r_neg, r_abs, fEq_int, fNe_int, fEq_bl, fNe_bl, l2, n02, n0, w1, w2, n1, hlen, n2, sl, ls, n3, hE, k1, hx, hin, atI_0, atI_1]
  · simp only [mL_end_to_end_b0]
    simp only [xTs] at *
    generalize asks.map xT = A at *
    generalize (slc asks s e).map xT = S at *
    generalize (((ddS (slc asks s e)).length : Nat) : Int) = L at *
    generalize (asks.length : Int) = N at *
    generalize (s : Int) = sI at *
    generalize (e : Int) = eI at *
    simp only [EV1, EV2, EV3, cp_im, cp_fz, cp_lst, cp_scr, cp_dct, cp_obj, cp_tup, cps_nil, cps_cons, uz_im, uz_lst, uz_tup, uz_scr, uz_dct, uz_obj, uz_fz, d_own, d_ro, d_bor, d_if, d_if2, List.getElem?_cons_zero, List.getElem?_cons_succ, List.set_cons_zero, List.set_cons_succ, List.map_cons, List.map_nil, List.cons_append, List.nil_append, List.length_cons, List.length_nil, List.replicate_succ, List.replicate_zero, Nat.reduceAdd, Nat.reduceSub, Nat.zero_add, Nat.sub_self, Bool.not_true, Bool.not_false, Bool.and_true, Bool.true_and, Bool.and_false, Bool.false_and, Bool.or_true, Bool.true_or, Bool.or_false, Bool.false_or, Zdsp, ownAll, Nat.reduceLeDiff, eMv, eLst, eTup, eRow, aKs, takeAll, sFor, frL, smv, Nat.zero_le, reduceIte, Bool.false_eq_true, Bool.true_eq_false, decide_true, decide_false, reduceCtorEq, ne_eq, not_false_eq_true, not_true_eq_false, implies_true, forall_const, and_self, and_true, true_and, isi_int_int, isi_bl_int, isi_int_bl, isi_bl_bl, isi_lst_lst, isi_tup_tup, isi_lst_tup, isi_tup_lst, isi_str_str, isi_non_int, beq_self_eq_true, Bool.true_beq, Bool.false_beq, r_add, r_sub, r_lt, r_le, r_gt, r_ge, r_not, r_neg, r_abs, fEq_int, fNe_int, fEq_bl, fNe_bl, l2, n02, n0, w1, w2, n1, hlen, n2, sl, ls, n3, hE, atI_0, atI_1]
theorem e2e_l (x0 : Option Tr.Slot) (p : Int) (asks : List Str) (hN : asks.length ≤ 400) : ∀ (ps : List (Int × Int)) (s0 s : Nat) (x4 x5 : Option Tr.Slot), CutS p asks s0 ps s → ∃ y4 y5, loopF (tgN 4) mL_end_to_end_b0 (ps.map pr2) [x0, some (.ro (xTs asks)), some (.ro (xI p)), some (.own (xI (s0 : Int))), x4, x5] =
    .nx [x0, some (.ro (xTs asks)), some (.ro (xI p)), some (.own (xI (s : Int))), y4, y5]
  | [], s0, s, x4, x5, h => by
    have h : s0 = s := h
    subst h
    exact ⟨x4, x5, by simp [loopF]⟩
  | q :: ps, s0, s, x4, x5, ⟨e, h1, h2, h3⟩ => by
    subst h1
    obtain ⟨y5, st⟩ := e2e_b0 x0 p asks hN s0 e h2 x5
    obtain ⟨z4, z5, el⟩ := e2e_l x0 p asks hN ps e s (some (.own (pr2 ((s0 : Int), (e : Int))))) y5 h3
    have tg : tgN 4 (pr2 ((s0 : Int), (e : Int))) [x0, some (.ro (xTs asks)), some (.ro (xI p)), some (.own (xI (s0 : Int))), x4, x5] = some [x0, some (.ro (xTs asks)), some (.ro (xI p)), some (.own (xI (s0 : Int))), some (.own (pr2 ((s0 : Int), (e : Int)))), x5] := rfl
    refine ⟨z4, z5, ?_⟩
    rw [List.map_cons]
    simp only [loopF, tg, st, el]
theorem e2e_e (p : Int) (asks : List Str) (hN : asks.length ≤ 400) (ps : List (Int × Int)) (h : CutS p asks 0 ps asks.length) : mL_end_to_end [.ro (.lst (ps.map pr2)), .ro (xTs asks), .ro (xI p)] = .ok (.im (.bl true)) [some (.ro (.lst (ps.map pr2))), some (.ro (xTs asks)), some (.ro (xI p))] := by
  obtain ⟨y4, y5, el⟩ := e2e_l (some (.ro (.lst (ps.map pr2)))) p asks hN ps 0 asks.length none none h
  have hi : iAny (mVar 0) [some (.ro (.lst (ps.map pr2))), some (.ro (xTs asks)), some (.ro (xI p)), some (.own (xI 0)), none, none] = .ok (ps.map pr2) [] := by simp [itemsOf]
  have f := for_e (pin := pinL [true, true, true]) (pin' := fun k => pinL [true, true, true] k || k == 0) hi el
  have il := isi_lst_lst (ps.map pr2)
  have hlen := len_asks asks
  have cpA : copyD (xTs asks) = false := rfl
  have cpP : copyD (.lst (ps.map pr2)) = false := rfl
  simp only [mL_end_to_end, mL_end_to_end_t1, mL_end_to_end_t2, mL_end_to_end_t3]
  generalize (sFor _ _ _ _ mL_end_to_end_b0) = LP at *
  generalize (.lst (ps.map pr2) : D) = P at *
  generalize (asks.length : Int) = N at *
  generalize xTs asks = A at *
  simp only [EV1, EV2, EV3, cp_im, cp_fz, cp_lst, cp_scr, cp_dct, cp_obj, cp_tup, cps_nil, cps_cons, uz_im, uz_lst, uz_tup, uz_scr, uz_dct, uz_obj, uz_fz, d_own, d_ro, d_bor, d_if, d_if2, List.getElem?_cons_zero, List.getElem?_cons_succ, List.set_cons_zero, List.set_cons_succ, List.map_cons, List.map_nil, List.cons_append, List.nil_append, List.length_cons, List.length_nil, List.replicate_succ, List.replicate_zero, Nat.reduceAdd, Nat.reduceSub, Nat.zero_add, Nat.sub_self, Bool.not_true, Bool.not_false, Bool.and_true, Bool.true_and, Bool.and_false, Bool.false_and, Bool.or_true, Bool.true_or, Bool.or_false, Bool.false_or, Zdsp, ownAll, Nat.reduceLeDiff, eMv, eLst, eTup, eRow, aKs, takeAll, sFor, frL, smv, Nat.zero_le, reduceIte, Bool.false_eq_true, Bool.true_eq_false, decide_true, decide_false, reduceCtorEq, ne_eq, not_false_eq_true, not_true_eq_false, implies_true, forall_const, and_self, and_true, true_and, isi_int_int, isi_bl_int, isi_int_bl, isi_bl_bl, isi_lst_lst, isi_tup_tup, isi_lst_tup, isi_tup_lst, isi_str_str, isi_non_int, beq_self_eq_true, Bool.true_beq, Bool.false_beq, r_add, r_sub, r_lt, r_le, r_gt, r_ge, r_not, r_neg, r_abs, fEq_int, fNe_int, fEq_bl, fNe_bl, il, cpP, f, cpA, hlen]
theorem most_e (c : Int) : ∃ p, mL_most [.ro (xI c)] = .ok (xI p) [some (.ro (xI c))] ∧ 1 ≤ p ∧ p ≤ 1000000 := by
  have d6 := r_divp (a := c) (b := 6) (by decide) (by decide)
  have m7 := r_modp (a := c / 6) (b := 7) (by decide)
  have d42 := r_divp (a := c) (b := 42) (by decide) (by decide)
  have m60 := r_modp (a := c / 42) (b := 60) (by decide)
  have m6 := r_modp (a := c) (b := 6) (by decide)
  have hp : fPow [.im (.int 10), .im (.int 6)] = some (.im (.int 1000000)) := rfl
  by_cases h3 : c / 6 % 7 = 3
  · have k3 : decide (c / 6 % 7 = 3) = true := decide_eq_true h3
    exact ⟨1 + c / 42 % 60, by simp only [EV1, EV2, EV3, cp_im, cp_fz, cp_lst, cp_scr, cp_dct, cp_obj, cp_tup, cps_nil, cps_cons, uz_im, uz_lst, uz_tup, uz_scr, uz_dct, uz_obj, uz_fz, d_own, d_ro, d_bor, d_if, d_if2, List.getElem?_cons_zero, List.getElem?_cons_succ, List.set_cons_zero, List.set_cons_succ, List.map_cons, List.map_nil, List.cons_append, List.nil_append, List.length_cons, List.length_nil, List.replicate_succ, List.replicate_zero, Nat.reduceAdd, Nat.reduceSub, Nat.zero_add, Nat.sub_self, Bool.not_true, Bool.not_false, Bool.and_true, Bool.true_and, Bool.and_false, Bool.false_and, Bool.or_true, Bool.true_or, Bool.or_false, Bool.false_or, Zdsp, ownAll, Nat.reduceLeDiff, eMv, eLst, eTup, eRow, aKs, takeAll, sFor, frL, smv, Nat.zero_le, reduceIte, Bool.false_eq_true, Bool.true_eq_false, decide_true, decide_false, reduceCtorEq, ne_eq, not_false_eq_true, not_true_eq_false, implies_true, forall_const, and_self, and_true, true_and, isi_int_int, isi_bl_int, isi_int_bl, isi_bl_bl, isi_lst_lst, isi_tup_tup, isi_lst_tup, isi_tup_lst, isi_str_str, isi_non_int, beq_self_eq_true, Bool.true_beq, Bool.false_beq, r_add, r_sub, r_lt, r_le, r_gt, r_ge, r_not, r_neg, r_abs, fEq_int, fNe_int, fEq_bl, fNe_bl, mL_most, d6, m7, k3, d42, m60], by omega, by omega⟩
  · have k3 : decide (c / 6 % 7 = 3) = false := decide_eq_false h3
    by_cases h5 : c / 6 % 7 = 5
    · have k5 : decide (c / 6 % 7 = 5) = true := decide_eq_true h5
      exact ⟨1000000, by simp only [EV1, EV2, EV3, cp_im, cp_fz, cp_lst, cp_scr, cp_dct, cp_obj, cp_tup, cps_nil, cps_cons, uz_im, uz_lst, uz_tup, uz_scr, uz_dct, uz_obj, uz_fz, d_own, d_ro, d_bor, d_if, d_if2, List.getElem?_cons_zero, List.getElem?_cons_succ, List.set_cons_zero, List.set_cons_succ, List.map_cons, List.map_nil, List.cons_append, List.nil_append, List.length_cons, List.length_nil, List.replicate_succ, List.replicate_zero, Nat.reduceAdd, Nat.reduceSub, Nat.zero_add, Nat.sub_self, Bool.not_true, Bool.not_false, Bool.and_true, Bool.true_and, Bool.and_false, Bool.false_and, Bool.or_true, Bool.true_or, Bool.or_false, Bool.false_or, Zdsp, ownAll, Nat.reduceLeDiff, eMv, eLst, eTup, eRow, aKs, takeAll, sFor, frL, smv, Nat.zero_le, reduceIte, Bool.false_eq_true, Bool.true_eq_false, decide_true, decide_false, reduceCtorEq, ne_eq, not_false_eq_true, not_true_eq_false, implies_true, forall_const, and_self, and_true, true_and, isi_int_int, isi_bl_int, isi_int_bl, isi_bl_bl, isi_lst_lst, isi_tup_tup, isi_lst_tup, isi_tup_lst, isi_str_str, isi_non_int, beq_self_eq_true, Bool.true_beq, Bool.false_beq, r_add, r_sub, r_lt, r_le, r_gt, r_ge, r_not, r_neg, r_abs, fEq_int, fNe_int, fEq_bl, fNe_bl, mL_most, d6, m7, k3, k5, hp], by decide, by decide⟩
    · have k5 : decide (c / 6 % 7 = 5) = false := decide_eq_false h5
      exact ⟨1 + c % 6, by simp only [EV1, EV2, EV3, cp_im, cp_fz, cp_lst, cp_scr, cp_dct, cp_obj, cp_tup, cps_nil, cps_cons, uz_im, uz_lst, uz_tup, uz_scr, uz_dct, uz_obj, uz_fz, d_own, d_ro, d_bor, d_if, d_if2, List.getElem?_cons_zero, List.getElem?_cons_succ, List.set_cons_zero, List.set_cons_succ, List.map_cons, List.map_nil, List.cons_append, List.nil_append, List.length_cons, List.length_nil, List.replicate_succ, List.replicate_zero, Nat.reduceAdd, Nat.reduceSub, Nat.zero_add, Nat.sub_self, Bool.not_true, Bool.not_false, Bool.and_true, Bool.true_and, Bool.and_false, Bool.false_and, Bool.or_true, Bool.true_or, Bool.or_false, Bool.false_or, Zdsp, ownAll, Nat.reduceLeDiff, eMv, eLst, eTup, eRow, aKs, takeAll, sFor, frL, smv, Nat.zero_le, reduceIte, Bool.false_eq_true, Bool.true_eq_false, decide_true, decide_false, reduceCtorEq, ne_eq, not_false_eq_true, not_true_eq_false, implies_true, forall_const, and_self, and_true, true_and, isi_int_int, isi_bl_int, isi_int_bl, isi_bl_bl, isi_lst_lst, isi_tup_tup, isi_lst_tup, isi_tup_lst, isi_str_str, isi_non_int, beq_self_eq_true, Bool.true_beq, Bool.false_beq, r_add, r_sub, r_lt, r_le, r_gt, r_ge, r_not, r_neg, r_abs, fEq_int, fNe_int, fEq_bl, fNe_bl, mL_most, d6, m7, k3, k5, m6], by omega, by omega⟩
theorem ref_e (A d : D) (hA : copyD A = false) (hb : Bad d) (hc : copyD d = true) : mL_refused [.ro A, .ro d] = .ok (.im (.bl true)) [some (.ro A), some (.ro d)] := by
  have h := parts_bad A d hA hb hc
  simp only [mL_refused, mL_refused_t1, mL_refused_t2, mL_refused_t3, mL_refused_t4]
  simp [mF, sTry, sTryIs, hA, hc, h, sub0, sub1, is_ValueError, x_NoNumber]
--part law
theorem law_t5 (ns : List Int) (asks : List Str) (hz : ∀ z ∈ asks, OkT 20 z) (hN : asks.length ≤ 400) (p : Int) (h0 : 1 ≤ p) (h1 : p ≤ 1000000) (x3 x4 : Option Tr.Slot) (d : D) (hb : Bad d) (hc : copyD d = true) : ∃ en, m_law_t5 [some (.ro (.scr ns)), some (.own (xTs asks)), some (.own (xI p)), x3, x4, some (.own d), none, none] = .rt (.im (.bl true)) (some (.ro (.scr ns)) :: en) := by
  obtain ⟨ps, pe, hcut⟩ := parts_e asks p h0 h1 hN
  have ee := e2e_e p asks hN ps hcut
  have rf := ref_e (xTs asks) d rfl hb hc
  have li := list_e (copy_strs asks)
  have ne := (eq_strs (as := asks) (bs := asks) (fun z h => (hz z h).s) (fun z h => (hz z h).s)).2
  rw [decide_eq_true rfl] at ne
  have cpA : copyD (xTs asks) = false := rfl
  have cpP : copyD (.lst (ps.map pr2)) = false := rfl
  have cl : sEx (eMut isLst opClear (lVar 7) []) [some (.ro (.scr ns)), some (.own (xTs asks)), some (.own (xI p)), x3, x4, some (.own d), some (.own (xTs asks)), some (.own (.lst (ps.map pr2)))] = .nx [some (.ro (.scr ns)), some (.own (xTs asks)), some (.own (xI p)), x3, x4, some (.own d), some (.own (xTs asks)), some (.own (.lst []))] := rfl
  refine ⟨[some (.own (xTs asks)), some (.own (xI p)), x3, x4, some (.own d), some (.own (xTs asks)), some (.own (.lst []))], ?_⟩
  simp only [m_law_t5, m_law_t6, m_law_t7, m_law_t8, m_law_t9]
  generalize (sEx (eMut isLst opClear (lVar 7) [])) = CL at *
  generalize ps.map pr2 = P at *
  simp only [xTs] at *
  generalize asks.map xT = A at *
  simp only [EV1, EV2, EV3, cp_im, cp_fz, cp_lst, cp_scr, cp_dct, cp_obj, cp_tup, cps_nil, cps_cons, uz_im, uz_lst, uz_tup, uz_scr, uz_dct, uz_obj, uz_fz, d_own, d_ro, d_bor, d_if, d_if2, List.getElem?_cons_zero, List.getElem?_cons_succ, List.set_cons_zero, List.set_cons_succ, List.map_cons, List.map_nil, List.cons_append, List.nil_append, List.length_cons, List.length_nil, List.replicate_succ, List.replicate_zero, Nat.reduceAdd, Nat.reduceSub, Nat.zero_add, Nat.sub_self, Bool.not_true, Bool.not_false, Bool.and_true, Bool.true_and, Bool.and_false, Bool.false_and, Bool.or_true, Bool.true_or, Bool.or_false, Bool.false_or, Zdsp, ownAll, Nat.reduceLeDiff, eMv, eLst, eTup, eRow, aKs, takeAll, sFor, frL, smv, Nat.zero_le, reduceIte, Bool.false_eq_true, Bool.true_eq_false, decide_true, decide_false, reduceCtorEq, ne_eq, not_false_eq_true, not_true_eq_false, implies_true, forall_const, and_self, and_true, true_and, isi_int_int, isi_bl_int, isi_int_bl, isi_bl_bl, isi_lst_lst, isi_tup_tup, isi_lst_tup, isi_tup_lst, isi_str_str, isi_non_int, beq_self_eq_true, Bool.true_beq, Bool.false_beq, r_add, r_sub, r_lt, r_le, r_gt, r_ge, r_not, r_neg, r_abs, fEq_int, fNe_int, fEq_bl, fNe_bl, li, cpA, pe, ne, ee, hc, rf, cl]
theorem law_t2 (ns : List Int) (asks : List Str) (hz : ∀ z ∈ asks, OkT 20 z) (hN : asks.length ≤ 400) (p : Int) (h0 : 1 ≤ p) (h1 : p ≤ 1000000) : ∃ en, m_law_t2 [some (.ro (.scr ns)), some (.own (xTs asks)), some (.own (xI p)), none, none, none, none, none] = .rt (.im (.bl true)) (some (.ro (.scr ns)) :: en) := by
  have q3 := cell_i ns 3 (by decide)
  generalize cell ns (3 : Int).toNat = c at *
  have d10 := r_divp (a := c) (b := 10) (by decide) (by decide)
  have m9 := r_modp (a := c / 10) (b := 1000000000) (by decide)
  have m10 := r_modp (a := c) (b := 10) (by decide)
  have hp6 : fPow [.im (.int 10), .im (.int 6)] = some (.im (.int 1000000)) := rfl
  have hp9 : fPow [.im (.int 10), .im (.int 9)] = some (.im (.int 1000000000)) := rfl
  have hf := Int.emod_nonneg (c / 10) (show (1000000000 : Int) ≠ 0 by decide)
  have b1 := Int.emod_nonneg c (show (10 : Int) ≠ 0 by decide)
  have b2 := Int.emod_lt_of_pos c (show (0 : Int) < 10 by decide)
  generalize c / 10 % 1000000000 = far at *
  have hbad := bads far hf
  have key : ∀ d : D, d ∈ ([xI 0, xI 1000001, .im .non, .im (.bl true), .im (.bl false), .im (.str "7"), .fz (.lst [xI 3]), .tup [xI 2], xI (0 - 1 - far), xI (1000001 + far)] : List D) → ∃ env, m_law_t5 [some (.ro (.scr ns)), some (.own (xTs asks)), some (.own (xI p)), some (.own (xI c)), some (.own (xI far)), some (.own d), none, none] = .rt (.im (.bl true)) (some (.ro (.scr ns)) :: env) := fun d hd =>
    law_t5 ns asks hz hN p h0 h1 _ _ d (hbad d hd).1 (hbad d hd).2
  simp only [m_law_t2, m_law_t3, m_law_t4]
  generalize m_law_t5 = T5 at *
  generalize xTs asks = A at *
  obtain ⟨n, hn⟩ : ∃ n : Nat, c % 10 = n := ⟨(c % 10).toNat, by omega⟩
  have hn10 : n < 10 := by omega
  have at_ : ∀ xs : List D, atI xs (c % 10) = xs[n]? := fun xs => by rw [hn]; exact Tr.atI_nat xs n
  generalize c % 10 = k at *
  have hcases : n = 0 ∨ n = 1 ∨ n = 2 ∨ n = 3 ∨ n = 4 ∨ n = 5 ∨ n = 6 ∨ n = 7 ∨ n = 8 ∨ n = 9 := by omega
  simp only [xI] at *
  rcases hcases with rfl | rfl | rfl | rfl | rfl | rfl | rfl | rfl | rfl | rfl
  · obtain ⟨en, e⟩ := key (.im (.int 0)) (by simp); exact ⟨en, by simp only [EV1, EV2, EV3, cp_im, cp_fz, cp_lst, cp_scr, cp_dct, cp_obj, cp_tup, cps_nil, cps_cons, uz_im, uz_lst, uz_tup, uz_scr, uz_dct, uz_obj, uz_fz, d_own, d_ro, d_bor, d_if, d_if2, List.getElem?_cons_zero, List.getElem?_cons_succ, List.set_cons_zero, List.set_cons_succ, List.map_cons, List.map_nil, List.cons_append, List.nil_append, List.length_cons, List.length_nil, List.replicate_succ, List.replicate_zero, Nat.reduceAdd, Nat.reduceSub, Nat.zero_add, Nat.sub_self, Bool.not_true, Bool.not_false, Bool.and_true, Bool.true_and, Bool.and_false, Bool.false_and, Bool.or_true, Bool.true_or, Bool.or_false, Bool.false_or, Zdsp, ownAll, Nat.reduceLeDiff, eMv, eLst, eTup, eRow, aKs, takeAll, sFor, frL, smv, Nat.zero_le, reduceIte, Bool.false_eq_true, Bool.true_eq_false, decide_true, decide_false, reduceCtorEq, ne_eq, not_false_eq_true, not_true_eq_false, implies_true, forall_const, and_self, and_true, true_and, isi_int_int, isi_bl_int, isi_int_bl, isi_bl_bl, isi_lst_lst, isi_tup_tup, isi_lst_tup, isi_tup_lst, isi_str_str, isi_non_int, beq_self_eq_true, Bool.true_beq, Bool.false_beq, r_add, r_sub, r_lt, r_le, r_gt, r_ge, r_not, r_neg, r_abs, fEq_int, fNe_int, fEq_bl, fNe_bl, q3, d10, hp9, m9, hp6, m10, at_, e, Int.reduceAdd, Int.reducePow, Int.reduceSub]⟩
  · obtain ⟨en, e⟩ := key (.im (.int 1000001)) (by simp); exact ⟨en, by simp only [EV1, EV2, EV3, cp_im, cp_fz, cp_lst, cp_scr, cp_dct, cp_obj, cp_tup, cps_nil, cps_cons, uz_im, uz_lst, uz_tup, uz_scr, uz_dct, uz_obj, uz_fz, d_own, d_ro, d_bor, d_if, d_if2, List.getElem?_cons_zero, List.getElem?_cons_succ, List.set_cons_zero, List.set_cons_succ, List.map_cons, List.map_nil, List.cons_append, List.nil_append, List.length_cons, List.length_nil, List.replicate_succ, List.replicate_zero, Nat.reduceAdd, Nat.reduceSub, Nat.zero_add, Nat.sub_self, Bool.not_true, Bool.not_false, Bool.and_true, Bool.true_and, Bool.and_false, Bool.false_and, Bool.or_true, Bool.true_or, Bool.or_false, Bool.false_or, Zdsp, ownAll, Nat.reduceLeDiff, eMv, eLst, eTup, eRow, aKs, takeAll, sFor, frL, smv, Nat.zero_le, reduceIte, Bool.false_eq_true, Bool.true_eq_false, decide_true, decide_false, reduceCtorEq, ne_eq, not_false_eq_true, not_true_eq_false, implies_true, forall_const, and_self, and_true, true_and, isi_int_int, isi_bl_int, isi_int_bl, isi_bl_bl, isi_lst_lst, isi_tup_tup, isi_lst_tup, isi_tup_lst, isi_str_str, isi_non_int, beq_self_eq_true, Bool.true_beq, Bool.false_beq, r_add, r_sub, r_lt, r_le, r_gt, r_ge, r_not, r_neg, r_abs, fEq_int, fNe_int, fEq_bl, fNe_bl, q3, d10, hp9, m9, hp6, m10, at_, e, Int.reduceAdd, Int.reduceSub]⟩
  · obtain ⟨en, e⟩ := key (.im .non) (by simp); exact ⟨en, by simp only [EV1, EV2, EV3, cp_im, cp_fz, cp_lst, cp_scr, cp_dct, cp_obj, cp_tup, cps_nil, cps_cons, uz_im, uz_lst, uz_tup, uz_scr, uz_dct, uz_obj, uz_fz, d_own, d_ro, d_bor, d_if, d_if2, List.getElem?_cons_zero, List.getElem?_cons_succ, List.set_cons_zero, List.set_cons_succ, List.map_cons, List.map_nil, List.cons_append, List.nil_append, List.length_cons, List.length_nil, List.replicate_succ, List.replicate_zero, Nat.reduceAdd, Nat.reduceSub, Nat.zero_add, Nat.sub_self, Bool.not_true, Bool.not_false, Bool.and_true, Bool.true_and, Bool.and_false, Bool.false_and, Bool.or_true, Bool.true_or, Bool.or_false, Bool.false_or, Zdsp, ownAll, Nat.reduceLeDiff, eMv, eLst, eTup, eRow, aKs, takeAll, sFor, frL, smv, Nat.zero_le, reduceIte, Bool.false_eq_true, Bool.true_eq_false, decide_true, decide_false, reduceCtorEq, ne_eq, not_false_eq_true, not_true_eq_false, implies_true, forall_const, and_self, and_true, true_and, isi_int_int, isi_bl_int, isi_int_bl, isi_bl_bl, isi_lst_lst, isi_tup_tup, isi_lst_tup, isi_tup_lst, isi_str_str, isi_non_int, beq_self_eq_true, Bool.true_beq, Bool.false_beq, r_add, r_sub, r_lt, r_le, r_gt, r_ge, r_not, r_neg, r_abs, fEq_int, fNe_int, fEq_bl, fNe_bl, q3, d10, hp9, m9, hp6, m10, at_, e, Int.reduceAdd, Int.reduceSub]⟩
  · obtain ⟨en, e⟩ := key (.im (.bl true)) (by simp); exact ⟨en, by simp only [EV1, EV2, EV3, cp_im, cp_fz, cp_lst, cp_scr, cp_dct, cp_obj, cp_tup, cps_nil, cps_cons, uz_im, uz_lst, uz_tup, uz_scr, uz_dct, uz_obj, uz_fz, d_own, d_ro, d_bor, d_if, d_if2, List.getElem?_cons_zero, List.getElem?_cons_succ, List.set_cons_zero, List.set_cons_succ, List.map_cons, List.map_nil, List.cons_append, List.nil_append, List.length_cons, List.length_nil, List.replicate_succ, List.replicate_zero, Nat.reduceAdd, Nat.reduceSub, Nat.zero_add, Nat.sub_self, Bool.not_true, Bool.not_false, Bool.and_true, Bool.true_and, Bool.and_false, Bool.false_and, Bool.or_true, Bool.true_or, Bool.or_false, Bool.false_or, Zdsp, ownAll, Nat.reduceLeDiff, eMv, eLst, eTup, eRow, aKs, takeAll, sFor, frL, smv, Nat.zero_le, reduceIte, Bool.false_eq_true, Bool.true_eq_false, decide_true, decide_false, reduceCtorEq, ne_eq, not_false_eq_true, not_true_eq_false, implies_true, forall_const, and_self, and_true, true_and, isi_int_int, isi_bl_int, isi_int_bl, isi_bl_bl, isi_lst_lst, isi_tup_tup, isi_lst_tup, isi_tup_lst, isi_str_str, isi_non_int, beq_self_eq_true, Bool.true_beq, Bool.false_beq, r_add, r_sub, r_lt, r_le, r_gt, r_ge, r_not, r_neg, r_abs, fEq_int, fNe_int, fEq_bl, fNe_bl, q3, d10, hp9, m9, hp6, m10, at_, e, Int.reduceAdd, Int.reduceSub]⟩
  · obtain ⟨en, e⟩ := key (.im (.bl false)) (by simp); exact ⟨en, by simp only [EV1, EV2, EV3, cp_im, cp_fz, cp_lst, cp_scr, cp_dct, cp_obj, cp_tup, cps_nil, cps_cons, uz_im, uz_lst, uz_tup, uz_scr, uz_dct, uz_obj, uz_fz, d_own, d_ro, d_bor, d_if, d_if2, List.getElem?_cons_zero, List.getElem?_cons_succ, List.set_cons_zero, List.set_cons_succ, List.map_cons, List.map_nil, List.cons_append, List.nil_append, List.length_cons, List.length_nil, List.replicate_succ, List.replicate_zero, Nat.reduceAdd, Nat.reduceSub, Nat.zero_add, Nat.sub_self, Bool.not_true, Bool.not_false, Bool.and_true, Bool.true_and, Bool.and_false, Bool.false_and, Bool.or_true, Bool.true_or, Bool.or_false, Bool.false_or, Zdsp, ownAll, Nat.reduceLeDiff, eMv, eLst, eTup, eRow, aKs, takeAll, sFor, frL, smv, Nat.zero_le, reduceIte, Bool.false_eq_true, Bool.true_eq_false, decide_true, decide_false, reduceCtorEq, ne_eq, not_false_eq_true, not_true_eq_false, implies_true, forall_const, and_self, and_true, true_and, isi_int_int, isi_bl_int, isi_int_bl, isi_bl_bl, isi_lst_lst, isi_tup_tup, isi_lst_tup, isi_tup_lst, isi_str_str, isi_non_int, beq_self_eq_true, Bool.true_beq, Bool.false_beq, r_add, r_sub, r_lt, r_le, r_gt, r_ge, r_not, r_neg, r_abs, fEq_int, fNe_int, fEq_bl, fNe_bl, q3, d10, hp9, m9, hp6, m10, at_, e, Int.reduceAdd, Int.reduceSub]⟩
  · obtain ⟨en, e⟩ := key (.im (.str "7")) (by simp); exact ⟨en, by simp only [EV1, EV2, EV3, cp_im, cp_fz, cp_lst, cp_scr, cp_dct, cp_obj, cp_tup, cps_nil, cps_cons, uz_im, uz_lst, uz_tup, uz_scr, uz_dct, uz_obj, uz_fz, d_own, d_ro, d_bor, d_if, d_if2, List.getElem?_cons_zero, List.getElem?_cons_succ, List.set_cons_zero, List.set_cons_succ, List.map_cons, List.map_nil, List.cons_append, List.nil_append, List.length_cons, List.length_nil, List.replicate_succ, List.replicate_zero, Nat.reduceAdd, Nat.reduceSub, Nat.zero_add, Nat.sub_self, Bool.not_true, Bool.not_false, Bool.and_true, Bool.true_and, Bool.and_false, Bool.false_and, Bool.or_true, Bool.true_or, Bool.or_false, Bool.false_or, Zdsp, ownAll, Nat.reduceLeDiff, eMv, eLst, eTup, eRow, aKs, takeAll, sFor, frL, smv, Nat.zero_le, reduceIte, Bool.false_eq_true, Bool.true_eq_false, decide_true, decide_false, reduceCtorEq, ne_eq, not_false_eq_true, not_true_eq_false, implies_true, forall_const, and_self, and_true, true_and, isi_int_int, isi_bl_int, isi_int_bl, isi_bl_bl, isi_lst_lst, isi_tup_tup, isi_lst_tup, isi_tup_lst, isi_str_str, isi_non_int, beq_self_eq_true, Bool.true_beq, Bool.false_beq, r_add, r_sub, r_lt, r_le, r_gt, r_ge, r_not, r_neg, r_abs, fEq_int, fNe_int, fEq_bl, fNe_bl, q3, d10, hp9, m9, hp6, m10, at_, e, Int.reduceAdd, Int.reduceSub]⟩
  · obtain ⟨en, e⟩ := key (.fz (.lst [.im (.int 3)])) (by simp); exact ⟨en, by simp only [EV1, EV2, EV3, cp_im, cp_fz, cp_lst, cp_scr, cp_dct, cp_obj, cp_tup, cps_nil, cps_cons, uz_im, uz_lst, uz_tup, uz_scr, uz_dct, uz_obj, uz_fz, d_own, d_ro, d_bor, d_if, d_if2, List.getElem?_cons_zero, List.getElem?_cons_succ, List.set_cons_zero, List.set_cons_succ, List.map_cons, List.map_nil, List.cons_append, List.nil_append, List.length_cons, List.length_nil, List.replicate_succ, List.replicate_zero, Nat.reduceAdd, Nat.reduceSub, Nat.zero_add, Nat.sub_self, Bool.not_true, Bool.not_false, Bool.and_true, Bool.true_and, Bool.and_false, Bool.false_and, Bool.or_true, Bool.true_or, Bool.or_false, Bool.false_or, Zdsp, ownAll, Nat.reduceLeDiff, eMv, eLst, eTup, eRow, aKs, takeAll, sFor, frL, smv, Nat.zero_le, reduceIte, Bool.false_eq_true, Bool.true_eq_false, decide_true, decide_false, reduceCtorEq, ne_eq, not_false_eq_true, not_true_eq_false, implies_true, forall_const, and_self, and_true, true_and, isi_int_int, isi_bl_int, isi_int_bl, isi_bl_bl, isi_lst_lst, isi_tup_tup, isi_lst_tup, isi_tup_lst, isi_str_str, isi_non_int, beq_self_eq_true, Bool.true_beq, Bool.false_beq, r_add, r_sub, r_lt, r_le, r_gt, r_ge, r_not, r_neg, r_abs, fEq_int, fNe_int, fEq_bl, fNe_bl, q3, d10, hp9, m9, hp6, m10, at_, e, Int.reduceAdd, Int.reduceSub]⟩
  · obtain ⟨en, e⟩ := key (.tup [.im (.int 2)]) (by simp); exact ⟨en, by simp only [EV1, EV2, EV3, cp_im, cp_fz, cp_lst, cp_scr, cp_dct, cp_obj, cp_tup, cps_nil, cps_cons, uz_im, uz_lst, uz_tup, uz_scr, uz_dct, uz_obj, uz_fz, d_own, d_ro, d_bor, d_if, d_if2, List.getElem?_cons_zero, List.getElem?_cons_succ, List.set_cons_zero, List.set_cons_succ, List.map_cons, List.map_nil, List.cons_append, List.nil_append, List.length_cons, List.length_nil, List.replicate_succ, List.replicate_zero, Nat.reduceAdd, Nat.reduceSub, Nat.zero_add, Nat.sub_self, Bool.not_true, Bool.not_false, Bool.and_true, Bool.true_and, Bool.and_false, Bool.false_and, Bool.or_true, Bool.true_or, Bool.or_false, Bool.false_or, Zdsp, ownAll, Nat.reduceLeDiff, eMv, eLst, eTup, eRow, aKs, takeAll, sFor, frL, smv, Nat.zero_le, reduceIte, Bool.false_eq_true, Bool.true_eq_false, decide_true, decide_false, reduceCtorEq, ne_eq, not_false_eq_true, not_true_eq_false, implies_true, forall_const, and_self, and_true, true_and, isi_int_int, isi_bl_int, isi_int_bl, isi_bl_bl, isi_lst_lst, isi_tup_tup, isi_lst_tup, isi_tup_lst, isi_str_str, isi_non_int, beq_self_eq_true, Bool.true_beq, Bool.false_beq, r_add, r_sub, r_lt, r_le, r_gt, r_ge, r_not, r_neg, r_abs, fEq_int, fNe_int, fEq_bl, fNe_bl, q3, d10, hp9, m9, hp6, m10, at_, e, Int.reduceAdd, Int.reduceSub]⟩
  · obtain ⟨en, e⟩ := key (.im (.int (0 - 1 - far))) (by simp); exact ⟨en, by simp only [Int.reduceSub] at e; simp only [EV1, EV2, EV3, cp_im, cp_fz, cp_lst, cp_scr, cp_dct, cp_obj, cp_tup, cps_nil, cps_cons, uz_im, uz_lst, uz_tup, uz_scr, uz_dct, uz_obj, uz_fz, d_own, d_ro, d_bor, d_if, d_if2, List.getElem?_cons_zero, List.getElem?_cons_succ, List.set_cons_zero, List.set_cons_succ, List.map_cons, List.map_nil, List.cons_append, List.nil_append, List.length_cons, List.length_nil, List.replicate_succ, List.replicate_zero, Nat.reduceAdd, Nat.reduceSub, Nat.zero_add, Nat.sub_self, Bool.not_true, Bool.not_false, Bool.and_true, Bool.true_and, Bool.and_false, Bool.false_and, Bool.or_true, Bool.true_or, Bool.or_false, Bool.false_or, Zdsp, ownAll, Nat.reduceLeDiff, eMv, eLst, eTup, eRow, aKs, takeAll, sFor, frL, smv, Nat.zero_le, reduceIte, Bool.false_eq_true, Bool.true_eq_false, decide_true, decide_false, reduceCtorEq, ne_eq, not_false_eq_true, not_true_eq_false, implies_true, forall_const, and_self, and_true, true_and, isi_int_int, isi_bl_int, isi_int_bl, isi_bl_bl, isi_lst_lst, isi_tup_tup, isi_lst_tup, isi_tup_lst, isi_str_str, isi_non_int, beq_self_eq_true, Bool.true_beq, Bool.false_beq, r_add, r_sub, r_lt, r_le, r_gt, r_ge, r_not, r_neg, r_abs, fEq_int, fNe_int, fEq_bl, fNe_bl, q3, d10, hp9, m9, hp6, m10, at_, e, Int.reduceAdd, Int.reduceSub]⟩
  · obtain ⟨en, e⟩ := key (.im (.int (1000001 + far))) (by simp); exact ⟨en, by simp only [EV1, EV2, EV3, cp_im, cp_fz, cp_lst, cp_scr, cp_dct, cp_obj, cp_tup, cps_nil, cps_cons, uz_im, uz_lst, uz_tup, uz_scr, uz_dct, uz_obj, uz_fz, d_own, d_ro, d_bor, d_if, d_if2, List.getElem?_cons_zero, List.getElem?_cons_succ, List.set_cons_zero, List.set_cons_succ, List.map_cons, List.map_nil, List.cons_append, List.nil_append, List.length_cons, List.length_nil, List.replicate_succ, List.replicate_zero, Nat.reduceAdd, Nat.reduceSub, Nat.zero_add, Nat.sub_self, Bool.not_true, Bool.not_false, Bool.and_true, Bool.true_and, Bool.and_false, Bool.false_and, Bool.or_true, Bool.true_or, Bool.or_false, Bool.false_or, Zdsp, ownAll, Nat.reduceLeDiff, eMv, eLst, eTup, eRow, aKs, takeAll, sFor, frL, smv, Nat.zero_le, reduceIte, Bool.false_eq_true, Bool.true_eq_false, decide_true, decide_false, reduceCtorEq, ne_eq, not_false_eq_true, not_true_eq_false, implies_true, forall_const, and_self, and_true, true_and, isi_int_int, isi_bl_int, isi_int_bl, isi_bl_bl, isi_lst_lst, isi_tup_tup, isi_lst_tup, isi_tup_lst, isi_str_str, isi_non_int, beq_self_eq_true, Bool.true_beq, Bool.false_beq, r_add, r_sub, r_lt, r_le, r_gt, r_ge, r_not, r_neg, r_abs, fEq_int, fNe_int, fEq_bl, fNe_bl, q3, d10, hp9, m9, hp6, m10, at_, e, Int.reduceAdd, Int.reduceSub]⟩
theorem lawEq (ns : List Int) (hl : ns.length ≤ 63) : ∃ as, m_law [.ro (.scr ns)] = .ok (.im (.bl true)) as := by
  obtain ⟨asks, as1, e, la, ok⟩ := row_k ns hl
  have q2 := cell_i ns 2 (by decide)
  generalize cell ns (2 : Int).toNat = c2 at *
  obtain ⟨p, me, p0, p1⟩ := most_e c2
  obtain ⟨en, t2⟩ := law_t2 ns asks ok (by omega) p p0 p1
  refine ⟨[some (.ro (.scr ns))], ?_⟩
  simp only [m_law, m_law_t1]
  generalize m_law_t2 = T2 at *
  generalize xTs asks = A at *
  simp only [EV1, EV2, EV3, cp_im, cp_fz, cp_lst, cp_scr, cp_dct, cp_obj, cp_tup, cps_nil, cps_cons, uz_im, uz_lst, uz_tup, uz_scr, uz_dct, uz_obj, uz_fz, d_own, d_ro, d_bor, d_if, d_if2, List.getElem?_cons_zero, List.getElem?_cons_succ, List.set_cons_zero, List.set_cons_succ, List.map_cons, List.map_nil, List.cons_append, List.nil_append, List.length_cons, List.length_nil, List.replicate_succ, List.replicate_zero, Nat.reduceAdd, Nat.reduceSub, Nat.zero_add, Nat.sub_self, Bool.not_true, Bool.not_false, Bool.and_true, Bool.true_and, Bool.and_false, Bool.false_and, Bool.or_true, Bool.true_or, Bool.or_false, Bool.false_or, Zdsp, ownAll, Nat.reduceLeDiff, eMv, eLst, eTup, eRow, aKs, takeAll, sFor, frL, smv, Nat.zero_le, reduceIte, Bool.false_eq_true, Bool.true_eq_false, decide_true, decide_false, reduceCtorEq, ne_eq, not_false_eq_true, not_true_eq_false, implies_true, forall_const, and_self, and_true, true_and, isi_int_int, isi_bl_int, isi_int_bl, isi_bl_bl, isi_lst_lst, isi_tup_tup, isi_lst_tup, isi_tup_lst, isi_str_str, isi_non_int, beq_self_eq_true, Bool.true_beq, Bool.false_beq, r_add, r_sub, r_lt, r_le, r_gt, r_ge, r_not, r_neg, r_abs, fEq_int, fNe_int, fEq_bl, fNe_bl, e, q2, me, t2]
end G
open PySem PySem.W PyProof.Rows
set_option maxRecDepth 100000 in
set_option maxHeartbeats 0 in
theorem PySem.Challenge.cw_castoff_k51_parts_end_to_end_holds : PySem.Challenge.rw_castoff_k51_parts_end_to_end.Holds := by
  w_on; o_law; k_head; (case hw => w_witness2)
  k_fill
  refine Tr.walk_law (l := PySem.Challenge.rw_castoff_k51_parts_end_to_end) (k := 5) (x := "_law_script") (mf := G.m_law) rfl rfl ⟨rfl, by decide, by decide⟩ (fun w h Y => PySem.W.kIn_of Y) ?F G.lawEq
  case F =>
    intro w mg fa h KX GG hmg
    refine' Tr.all_tab2 (tab := G.tab) (fun _ _ _ => rfl) (G.all_mk KX GG hmg ?g_CastError ?g_NoNumber ?a3 ?l3 ?c3 ?k3 ?a5 ?l5 ?c5 ?k5 ?a4 ?l4 ?c4 ?k4 ?a6 ?l6 ?c6 ?k6 ?a7 ?l7 ?c7 ?k7 ?a0 ?l0 ?c0 ?k0 ?a1 ?l1 ?c1 ?k1 ?a2 ?l2 ?c2 ?k2 ?a8 ?l8 ?c8 ?k8 ?a9 ?l9 ?c9 ?k9 ?a10 ?l10 ?c10 ?k10 ?a11 ?l11 ?c11 ?k11 ?z_ValueError ?z_bool ?z_enumerate ?z_int ?z_isinstance ?z_len ?z_list ?z_range ?z_set ?z_tuple ?c_MOST_PLACES ?b_0 ?t_0 ?e1 ?k_NoNumber ?b_1 ?t_1 ?hd_0 ?hd_1 ?h_1_0 ?h_1_1 ?xa1 ?xb1 ?xd1 ?xe1 ?xg1 ?xh1 ?xf1 ?ki_1_ValueError)
    (case g_CastError => k_is)
    (case g_NoNumber => k_is)
    (case a3 => k_is)
    (case l3 => k_is)
    (case c3 => k_is)
    (case k3 => k_is)
    (case a5 => k_is)
    (case l5 => k_is)
    (case c5 => k_is)
    (case k5 => k_is)
    (case a4 => k_is)
    (case l4 => k_is)
    (case c4 => k_is)
    (case k4 => k_is)
    (case a6 => k_is)
    (case l6 => k_is)
    (case c6 => k_is)
    (case k6 => k_is)
    (case a7 => k_is)
    (case l7 => k_is)
    (case c7 => k_is)
    (case k7 => k_is)
    (case a0 => k_is)
    (case l0 => k_is)
    (case c0 => k_is)
    (case k0 => k_is)
    (case a1 => k_is)
    (case l1 => k_is)
    (case c1 => k_is)
    (case k1 => k_is)
    (case a2 => k_is)
    (case l2 => k_is)
    (case c2 => k_is)
    (case k2 => k_is)
    (case a8 => k_is)
    (case l8 => k_is)
    (case c8 => k_is)
    (case k8 => k_is)
    (case a9 => k_is)
    (case l9 => k_is)
    (case c9 => k_is)
    (case k9 => k_is)
    (case a10 => k_is)
    (case l10 => k_is)
    (case c10 => k_is)
    (case k10 => k_is)
    (case a11 => k_is)
    (case l11 => k_is)
    (case c11 => k_is)
    (case k11 => k_is)
    (case z_ValueError => k_is)
    (case z_bool => k_is)
    (case z_enumerate => k_is)
    (case z_int => k_is)
    (case z_isinstance => k_is)
    (case z_len => k_is)
    (case z_list => k_is)
    (case z_range => k_is)
    (case z_set => k_is)
    (case z_tuple => k_is)
    (case c_MOST_PLACES => k_is)
    (case b_0 => k_is)
    (case t_0 => k_is)
    (case e1 => k_exc)
    (case k_NoNumber => k_is)
    (case b_1 => k_is)
    (case t_1 => k_is)
    (case hd_0 => k_is)
    (case hd_1 => k_is)
    (case h_1_0 => k_is)
    (case h_1_1 => k_is)
    (case xa1 => k_is)
    (case xb1 => k_is)
    (case xd1 => k_is)
    (case xe1 => k_is)
    (case xg1 => k_is)
    (case xh1 => k_is)
    (case xf1 => first | rfl | k_is)
    (case ki_1_ValueError => k_is)

