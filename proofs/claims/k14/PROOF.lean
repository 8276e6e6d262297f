import PyProof.Rows.All
import Wide.All
import OpenK.AllK
import Wide.FinOn
import HandS.ForMost
import HandS.ForExc
import HandS.Lambda
import HandS.Wide
import HandS.IsInst
import HandS.Style
import HandS.CallSlots
import HandS.ExcOwn
import HandS.TryOnly
import HandS.ExcIs
import HandS.Small
import HandS.TryMany
import HandS.ExcField
import HandS.ExcInit
import PyProof.SeqRoads2
import HandS.More
import HandS.Iter
import HandS.Text
import HandS.Dict
import HandS.RevRange
import HandS.Rev
import HandS.Sort
import HandS.SortInts
import HandS.SetKeys
import HandS.RevTup
import KE.KRevIter
import HandS.ListItems
import KE.KDictList
import HandS.MakeKw
import HandS.Finally
import HandS.DictComp
import PyProof.P3In
import HandS.Conv
import PySem.Challenge.RW_castoff_k14_lawful_books
set_option Elab.async false
set_option linter.all false
set_option maxRecDepth 100000
set_option maxHeartbeats 2000000
namespace Tr
open PySem L2
abbrev Cells := List (Addr × HO)
/-- a tree of data -/
inductive D where
  | im (v : V)
  | lst (ds : List D)
  | tup (ds : List D)
  | dct (ks : List Key) (ds : List D)
  | obj (c : Nat) (ds : List D)
  | fz (d : D)
  | scr (ns : List Int)
  /-- the lambda of this number -/
  | fn (n : Nat)
  deriving Inhabited
/-- a class of the program: where it stands, its instances' fields in the order of their making -/
structure Cd where
  C : Addr
  flds : List Str
/-- a lambda: its def's name, its text -/
structure Lm where
  qual : Str
  params : Arguments
  body : Expr
  scope : Scope
structure Tab where
  K : PySem.W.Frag
  cls : List Cd
  exc : List Cd
  /-- tables of code objects, each with the name that its code objects bear -/
  tbs : List (Addr × Str) := []
  lms : List Lm := []
/-- the function object at f, made of the lambda l -/
def FnO (l : Lm) (f c : Addr) : HO := .ext fun h => ∃ pm ctv, h.get? f = some (PySem.W.kla_obj "<lambda>" l.qual l.params l.body l.scope [] pm c ctv)
def FnAt (T : Tab) (B : Hp) (n : Nat) (f : Addr) : Prop := ∃ l c, T.lms[n]? = some l ∧ B f = some (FnO l f c) ∧ B c = some (LamX.CodeO c l.qual)
def imm : V → Bool := fun _ => true
/-- read: v is d, its lists, dicts, objects stand in S, its tuples in B -/
inductive Ros (T : Tab) (B : Hp) : Hp → List D → List V → Prop
  | nil {S} : Ros T B S [] []
  | im {S v ds vs} (h : imm v = true) (r : Ros T B S ds vs) : Ros T B S (.im v :: ds) (v :: vs)
  | lst {S a ws xs ds vs} (h : S a = some (.lst ws)) (q : Ros T B S xs ws) (r : Ros T B S ds vs) : Ros T B S (.lst xs :: ds) (.ref a :: vs)
  | tup {S a ws xs ds vs} (h : B a = some (.tup ws)) (q : Ros T B S xs ws) (r : Ros T B S ds vs) : Ros T B S (.tup xs :: ds) (.ref a :: vs)
  | dct {S a ks ws xs ds vs} (h : Rd S a (.dK (ks.zip ws))) (hl : ks.length = ws.length) (q : Ros T B S xs ws) (r : Ros T B S ds vs) : Ros T B S (.dct ks xs :: ds) (.ref a :: vs)
  | obj {S a c C dx fl ws xs ds vs} (h : S a = some (.ins C dx (fl.zip ws))) (hc : T.cls[c]? = some ⟨C, fl⟩) (hl : ws.length ≤ fl.length) (q : Ros T B S xs ws) (r : Ros T B S ds vs) : Ros T B S (.obj c xs :: ds) (.ref a :: vs)
  | scr {S a ns ds vs} (h : SqL T.K S a (ns.map V.int)) (r : Ros T B S ds vs) : Ros T B S (.scr ns :: ds) (.ref a :: vs)
  | fz {S d v ds vs} (q : Ros T B B [d] [v]) (r : Ros T B S ds vs) : Ros T B S (.fz d :: ds) (v :: vs)
  | fn {S a n ds vs} (h : FnAt T B n a) (r : Ros T B S ds vs) : Ros T B S (.fn n :: ds) (.ref a :: vs)
/-- owned: v is d, its cells are ms, from the root on -/
inductive Owns (T : Tab) (B : Hp) : List D → List V → Cells → Prop
  | nil : Owns T B [] [] []
  | im {v ds vs ms} (h : imm v = true) (r : Owns T B ds vs ms) : Owns T B (.im v :: ds) (v :: vs) ms
  | lst {a ws xs ds vs m ms} (q : Owns T B xs ws m) (r : Owns T B ds vs ms) : Owns T B (.lst xs :: ds) (.ref a :: vs) ((a, .lst ws) :: (m ++ ms))
  | tup {a ws xs ds vs m ms} (h : B a = some (.tup ws)) (q : Owns T B xs ws m) (r : Owns T B ds vs ms) : Owns T B (.tup xs :: ds) (.ref a :: vs) (m ++ ms)
  | dct {a ks ws xs ds vs m ms} (hl : ks.length = ws.length) (q : Owns T B xs ws m) (r : Owns T B ds vs ms) : Owns T B (.dct ks xs :: ds) (.ref a :: vs) ((a, .dK (ks.zip ws)) :: (m ++ ms))
  | obj {a c C dx fl ws xs ds vs m ms} (hc : T.cls[c]? = some ⟨C, fl⟩) (hl : ws.length ≤ fl.length) (q : Owns T B xs ws m) (r : Owns T B ds vs ms) : Owns T B (.obj c xs :: ds) (.ref a :: vs) ((a, .ins C dx (fl.zip ws)) :: (m ++ ms))
  | fz {d v ds vs ms} (q : Ros T B B [d] [v]) (r : Owns T B ds vs ms) : Owns T B (.fz d :: ds) (v :: vs) ms
  | fn {a n ds vs ms} (h : FnAt T B n a) (r : Owns T B ds vs ms) : Owns T B (.fn n :: ds) (.ref a :: vs) ms
section
variable {T : Tab} {B B' S S' H : Hp} {ds : List D} {vs : List V} {ms : Cells}
theorem rd_mono {a : Addr} {u : HO} (s : Same S S') (h : Rd S a u) : Rd S' a u := by
  rcases h with h | ⟨o, h⟩
  · exact .inl (s _ _ h)
  · exact .inr ⟨o, s _ _ h⟩
theorem sql_mono {K : PySem.W.Frag} {a : Addr} {ws : List V} (s : Same S S') (h : SqL K S a ws) : SqL K S' a ws := s.seq h
theorem FnAt.mono {n : Nat} {a : Addr} (b : Same B B') (h : FnAt T B n a) : FnAt T B' n a := by
  obtain ⟨l, c, h1, h2, h3⟩ := h
  exact ⟨l, c, h1, b _ _ h2, b _ _ h3⟩
theorem Ros.mono (r : Ros T B S ds vs) : ∀ {S' B' : Hp}, Same S S' → Same B B' → Ros T B' S' ds vs := by
  induction r with
  | nil => intro _ _ _ _; exact .nil
  | im h _ ih => intro _ _ s b; exact .im h (ih s b)
  | lst h _ _ iq ir => intro _ _ s b; exact .lst (s _ _ h) (iq s b) (ir s b)
  | scr h _ ir => intro _ _ s b; exact .scr (sql_mono s h) (ir s b)
  | tup h _ _ iq ir => intro _ _ s b; exact .tup (b _ _ h) (iq s b) (ir s b)
  | dct h hl _ _ iq ir => intro _ _ s b; exact .dct (rd_mono s h) hl (iq s b) (ir s b)
  | obj h hc hl _ _ iq ir => intro _ _ s b; exact .obj (s _ _ h) hc hl (iq s b) (ir s b)
  | fz _ _ iq ir => intro _ _ s b; exact .fz (iq b b) (ir s b)
  | fn h _ ir => intro _ _ s b; exact .fn (h.mono b) (ir s b)
theorem Owns.mono (r : Owns T B ds vs ms) (b : Same B B') : Owns T B' ds vs ms := by
  induction r with
  | nil => exact .nil
  | im h _ ih => exact .im h ih
  | lst _ _ iq ir => exact .lst iq ir
  | tup h _ _ iq ir => exact .tup (b _ _ h) iq ir
  | dct hl _ _ iq ir => exact .dct hl iq ir
  | obj hc hl _ _ iq ir => exact .obj hc hl iq ir
  | fz q _ ir => exact .fz (q.mono b b) ir
  | fn h _ ir => exact .fn (h.mono b) ir
theorem Owns.ro (r : Owns T B ds vs ms) (b : Same B H) (h : ∀ c ∈ ms, H c.1 = some c.2) : Ros T B H ds vs := by
  induction r with
  | nil => exact .nil
  | im hi _ ih => exact .im hi (ih h)
  | lst _ _ iq ir =>
    exact .lst (h _ List.mem_cons_self) (iq fun c hc => h c (List.mem_cons_of_mem _ (List.mem_append_left _ hc))) (ir fun c hc => h c (List.mem_cons_of_mem _ (List.mem_append_right _ hc)))
  | tup hb _ _ iq ir => exact .tup hb (iq fun c hc => h c (List.mem_append_left _ hc)) (ir fun c hc => h c (List.mem_append_right _ hc))
  | dct hl _ _ iq ir =>
    exact .dct (.inl (h _ List.mem_cons_self)) hl (iq fun c hc => h c (List.mem_cons_of_mem _ (List.mem_append_left _ hc))) (ir fun c hc => h c (List.mem_cons_of_mem _ (List.mem_append_right _ hc)))
  | obj hc hl _ _ iq ir =>
    exact .obj (h _ List.mem_cons_self) hc hl (iq fun c hc => h c (List.mem_cons_of_mem _ (List.mem_append_left _ hc))) (ir fun c hc => h c (List.mem_cons_of_mem _ (List.mem_append_right _ hc)))
  | fz q _ ir => exact .fz q (ir h)
  | fn hf _ ir => exact .fn hf (ir h)
theorem Ros.len (r : Ros T B S ds vs) : ds.length = vs.length := by induction r <;> simp_all
theorem Owns.len (r : Owns T B ds vs ms) : ds.length = vs.length := by induction r <;> simp_all
end
mutual
/-- may be copied: it has no cells of its own -/
def copyD : D → Bool
  | .im _ => true
  | .fz _ => true
  | .tup ds => copyDs ds
  | .lst _ => false
  | .dct _ _ => false
  | .obj _ _ => false
  | .scr _ => false
  | .fn _ => true
def copyDs : List D → Bool
  | [] => true
  | d :: ds => copyD d && copyDs ds
end
theorem copy_own {T : Tab} {B S : Hp} {ds : List D} {vs : List V} (r : Ros T B S ds vs) : copyDs ds = true → Owns T B ds vs [] := by
  induction r with
  | nil => intro _; exact .nil
  | im h _ ih => intro c; simp [copyDs, copyD] at c; exact .im h (ih c)
  | lst => intro c; simp [copyDs, copyD] at c
  | tup h _ _ iq ir => intro c; simp [copyDs, copyD] at c; exact .tup (m := []) (ms := []) h (iq c.1) (ir c.2)
  | dct => intro c; simp [copyDs, copyD] at c
  | obj => intro c; simp [copyDs, copyD] at c
  | fz q _ _ ir => intro c; simp [copyDs, copyD] at c; exact .fz q (ir c)
  | scr => intro c; simp [copyDs, copyD] at c
  | fn h _ ih => intro c; simp [copyDs, copyD] at c; exact .fn h (ih c)
theorem copy_nil {T : Tab} {B : Hp} {ds : List D} {vs : List V} {ms : Cells} (r : Owns T B ds vs ms) : copyDs ds = true → ms = [] := by
  induction r with
  | nil => intro _; rfl
  | im h _ ih => intro c; simp [copyDs, copyD] at c; exact ih c
  | lst => intro c; simp [copyDs, copyD] at c
  | tup h _ _ iq ir => intro c; simp [copyDs, copyD] at c; rw [iq c.1, ir c.2]; rfl
  | dct => intro c; simp [copyDs, copyD] at c
  | obj => intro c; simp [copyDs, copyD] at c
  | fz q _ ir => intro c; simp [copyDs, copyD] at c; exact ir c
  | fn _ _ ih => intro c; simp [copyDs, copyD] at c; exact ih c
theorem copy1 {d : D} (h : copyD d = true) : copyDs [d] = true := by simp [copyDs, h]
structure Gw (S B S' B' : Hp) : Prop where
  s : Same S S'
  b : Same B B'
  n : ∀ a o, B' a = some o → B a = some o ∨ S a = none
/-- a table -/
def TabW (H : Hp) (P : Addr) : Prop := ∃ ps : Array Value, H P = some (.tbl ps) ∧ True
/-- a table: its code objects stand in B, each bears the name q -/
def TabC (B H : Hp) (P : Addr) (q : Str) : Prop := ∃ ps : Array Value, H P = some (.tbl ps) ∧ TriplesOk ps.toList ∧ ∀ (pos : Pos) (cv : Value), codeAmong pos ps.toList = some cv → ∃ c, cv = .ref c ∧ B c = some (LamX.CodeO c q)
theorem TabC.mono {B B' H H' : Hp} {P : Addr} {q : Str} (t : TabC B H P q) (b : Same B B') (h : ∀ ps, H P = some (.tbl ps) → H' P = some (.tbl ps)) : TabC B' H' P q := by
  obtain ⟨ps, h1, h2, h3⟩ := t
  refine ⟨ps, h _ h1, h2, fun pos cv hc => ?_⟩
  obtain ⟨c, e1, e2⟩ := h3 pos cv hc
  exact ⟨c, e1, b _ _ e2⟩
/-- no table of a code object -/
def NT (o : HO) : Prop := ∀ ps, o ≠ .tbl ps
/-- all but the tables stays -/
structure SameN (L : List (Addr × Str)) (H H' : Hp) : Prop where
  n : ∀ a o, H a = some o → NT o → H' a = some o
  m : ∀ a o, H a = some o → a ∉ L.map (·.1) → H' a = some o
  t : ∀ p ∈ L, TabW H p.1 → TabW H' p.1
  f : ∀ a, H' a = none → H a = none
theorem saN {L : List (Addr × Str)} {H H' : Hp} (s : Same H H') : SameN L H H' := ⟨fun a o h _ => s a o h, fun a o h _ => s a o h, fun _ _ ⟨ps, h, _⟩ => ⟨ps, s _ _ h, trivial⟩, fun _ h => s.free h⟩
theorem SameN.refl {L : List (Addr × Str)} (H : Hp) : SameN L H H := saN (Same.refl H)
theorem SameN.trans {L : List (Addr × Str)} {H H1 H2 : Hp} (a : SameN L H H1) (b : SameN L H1 H2) : SameN L H H2 := ⟨fun x o h k => b.n x o (a.n x o h k) k, fun x o h k => b.m x o (a.m x o h k) k, fun p hp h => b.t p hp (a.t p hp h), fun x h => a.f x (b.f x h)⟩
theorem SameN.free {L : List (Addr × Str)} {H H' : Hp} (s : SameN L H H') {a : Addr} (h : H' a = none) : H a = none := s.f a h
theorem nt_lst {xs : List V} : NT (.lst xs) := fun _ h => by cases h
theorem nt_dK {xs : List (Key × V)} : NT (.dK xs) := fun _ h => by cases h
theorem nt_ins {C d : Addr} {xs : List (Str × V)} : NT (.ins C d xs) := fun _ h => by cases h
theorem nt_frz {o : Obj} {u : HO} : NT (.frz o u) := fun _ h => by cases h
theorem Owns.nt {T : Tab} {B : Hp} {ds : List D} {vs : List V} {ms : Cells} (r : Owns T B ds vs ms) : ∀ c ∈ ms, NT c.2 := by
  induction r with
  | nil => exact fun _ h => nomatch h
  | im _ _ ih => exact ih
  | lst _ _ iq ir => exact fun c hc => (List.mem_cons.mp hc).elim (fun e => by subst e; exact nt_lst) fun hc => (List.mem_append.mp hc).elim (iq c) (ir c)
  | tup _ _ _ iq ir => exact fun c hc => (List.mem_append.mp hc).elim (iq c) (ir c)
  | dct _ _ _ iq ir => exact fun c hc => (List.mem_cons.mp hc).elim (fun e => by subst e; exact nt_dK) fun hc => (List.mem_append.mp hc).elim (iq c) (ir c)
  | obj _ _ _ _ iq ir => exact fun c hc => (List.mem_cons.mp hc).elim (fun e => by subst e; exact nt_ins) fun hc => (List.mem_append.mp hc).elim (iq c) (ir c)
  | fz _ _ ir => exact ir
  | fn _ _ ir => exact ir
abbrev NtS (H H' : Hp) : Prop := ∀ a o, H a = some o → NT o → H' a = some o
/-- cells are lists, dicts, objects -/
theorem Owns.nx {T : Tab} {B : Hp} {ds : List D} {vs : List V} {ms : Cells} (r : Owns T B ds vs ms) : ∀ c ∈ ms, ∀ φ, c.2 ≠ .ext φ := by
  induction r with
  | nil => exact fun _ h => nomatch h
  | im _ _ ih => exact ih
  | lst _ _ iq ir => exact fun c hc => (List.mem_cons.mp hc).elim (fun e => by subst e; exact fun _ h => by cases h) fun hc => (List.mem_append.mp hc).elim (iq c) (ir c)
  | tup _ _ _ iq ir => exact fun c hc => (List.mem_append.mp hc).elim (iq c) (ir c)
  | dct _ _ _ iq ir => exact fun c hc => (List.mem_cons.mp hc).elim (fun e => by subst e; exact fun _ h => by cases h) fun hc => (List.mem_append.mp hc).elim (iq c) (ir c)
  | obj _ _ _ _ iq ir => exact fun c hc => (List.mem_cons.mp hc).elim (fun e => by subst e; exact fun _ h => by cases h) fun hc => (List.mem_append.mp hc).elim (iq c) (ir c)
  | fz _ _ ir => exact ir
  | fn _ _ ir => exact ir
/-- tables behind a write of another object -/
theorem tb_upd {T : Tab} {S H : Hp} {a : Addr} {o o0 : HO} (tb : ∀ p ∈ T.tbs, TabW H p.1 ∧ S p.1 = none) (h : H a = some o0) (n : NT o0) : ∀ p ∈ T.tbs, TabW (upd H a o) p.1 ∧ S p.1 = none := fun p hp => by
  obtain ⟨⟨ps, h1, _⟩, h4⟩ := tb p hp
  exact ⟨⟨ps, by rw [upd_ne (fun z => by rw [z, h] at h1; exact n ps (Option.some.inj h1))]; exact h1, trivial⟩, h4⟩
theorem tc_upd {T : Tab} {B H : Hp} {a : Addr} {o o0 : HO} (tc : ∀ p ∈ T.tbs, TabC B H p.1 p.2) (h : H a = some o0) (n : NT o0) : ∀ p ∈ T.tbs, TabC B (upd H a o) p.1 p.2 := fun p hp =>
  (tc p hp).mono (Same.refl _) fun ps h1 => by rw [upd_ne (fun z => by rw [z, h] at h1; exact n ps (Option.some.inj h1))]; exact h1
theorem rd_N {H H' : Hp} {a : Addr} {u : HO} (s : NtS H H') (n : NT u) (h : Rd H a u) : Rd H' a u := by
  rcases h with h | ⟨o, h⟩
  · exact .inl (s _ _ h n)
  · exact .inr ⟨o, s _ _ h nt_frz⟩
theorem sqlN {K : PySem.W.Frag} {H H' : Hp} {a : Addr} {ws : List V} (s : NtS H H') (h : SqL K H a ws) : SqL K H' a ws := by
  rcases h with h | h
  · exact .inl (rd_N s nt_lst h)
  · exact .inr h
theorem Ros.monoN {T : Tab} {B S : Hp} {ds : List D} {vs : List V} (r : Ros T B S ds vs) : ∀ {S' B' : Hp}, NtS S S' → Same B B' → Ros T B' S' ds vs := by
  induction r with
  | nil => intro _ _ _ _; exact .nil
  | im h _ ih => intro _ _ s b; exact .im h (ih s b)
  | lst h _ _ iq ir => intro _ _ s b; exact .lst (s _ _ h nt_lst) (iq s b) (ir s b)
  | scr h _ ir => intro _ _ s b; exact .scr (sqlN s h) (ir s b)
  | tup h _ _ iq ir => intro _ _ s b; exact .tup (b _ _ h) (iq s b) (ir s b)
  | dct h hl _ _ iq ir => intro _ _ s b; exact .dct (rd_N s nt_dK h) hl (iq s b) (ir s b)
  | obj h hc hl _ _ iq ir => intro _ _ s b; exact .obj (s _ _ h nt_ins) hc hl (iq s b) (ir s b)
  | fz q _ iq ir => intro _ _ s b; exact .fz (q.mono b b) (ir s b)
  | fn h _ ir => intro _ _ s b; exact .fn (h.mono b) (ir s b)
structure Gr (L : List (Addr × Str)) (S B H S' B' H' : Hp) : Prop where
  w : Gw S B S' B'
  h : SameN L H H'
  t : ∀ p ∈ L, TabC B H p.1 p.2 → TabC B' H' p.1 p.2
  f : ∀ a o, S' a = some o → S a = some o ∨ H a = none
  sh : Same S' H'
  bs : Same B' S'
section
variable {L : List (Addr × Str)} {S B H S' B' H' S2 B2 H2 : Hp}
theorem Gw.refl : Gw S B S B := ⟨Same.refl _, Same.refl _, fun _ _ h => .inl h⟩
theorem Gw.trans (a : Gw S B S' B') (b : Gw S' B' S2 B2) : Gw S B S2 B2 := ⟨a.s.trans b.s, a.b.trans b.b, fun x o h => by
  rcases b.n x o h with h | h
  · exact a.n x o h
  · exact .inr (a.s.free h)⟩
theorem Gr.refl (bs : Same B S) (sh : Same S H) : Gr L S B H S B H := ⟨Gw.refl, SameN.refl _, fun _ _ h => h, fun _ _ h => .inl h, sh, bs⟩
theorem Gr.trans (a : Gr L S B H S' B' H') (b : Gr L S' B' H' S2 B2 H2) : Gr L S B H S2 B2 H2 := ⟨a.w.trans b.w, a.h.trans b.h, fun p hp h => b.t p hp (a.t p hp h), fun x o h => by
  rcases b.f x o h with h | h
  · exact a.f x o h
  · exact .inr (a.h.free h), b.sh, b.bs⟩
theorem Gr.own {p : Addr} {o : HO} (bs : Same B S) (sh : Same S H) (hp : H p = none) : Gr L S B H S B (upd H p o) :=
  ⟨Gw.refl, saN fun b u e => by rw [upd_ne (ne_of_none e hp)]; exact e, fun _ _ h => h.mono (Same.refl _) fun ps e => by rw [upd_ne (ne_of_none e hp)]; exact e, fun _ _ h => .inl h, fun b u e => by rw [upd_ne (ne_of_none (sh _ _ e) hp)]; exact sh _ _ e, bs⟩
theorem Gr.tup {p : Addr} {o : HO} (bs : Same B S) (sh : Same S H) (hp : H p = none) : Gr L S B H (upd S p o) (upd B p o) (upd H p o) := by
  have sp : S p = none := sh.free hp
  have bp : B p = none := bs.free sp
  refine ⟨⟨fun b u e => by rw [upd_ne (ne_of_none e sp)]; exact e, fun b u e => by rw [upd_ne (ne_of_none e bp)]; exact e, fun a u e => ?_⟩, saN fun b u e => by rw [upd_ne (ne_of_none e hp)]; exact e, fun _ _ h => h.mono (fun b u e => by rw [upd_ne (ne_of_none e bp)]; exact e) fun ps e => by rw [upd_ne (ne_of_none e hp)]; exact e, fun a u e => ?_, fun a u e => ?_, fun a u e => ?_⟩
  · by_cases h : a = p
    · subst h; exact .inr sp
    · rw [upd_ne h] at e; exact .inl e
  · by_cases h : a = p
    · subst h; exact .inr hp
    · rw [upd_ne h] at e; exact .inl e
  · by_cases h : a = p
    · subst h; rw [upd_same] at e ⊢; exact e
    · rw [upd_ne h] at e ⊢; exact sh _ _ e
  · by_cases h : a = p
    · subst h; rw [upd_same] at e ⊢; exact e
    · rw [upd_ne h] at e ⊢; exact bs _ _ e
end
theorem set_at {α : Type} {xs : List α} {i j : Nat} {x y : α} (h : (xs.set i x)[j]? = some y) : (j = i ∧ y = x) ∨ (j ≠ i ∧ xs[j]? = some y) := by
  rw [List.getElem?_set] at h
  by_cases hj : i = j
  · rw [if_pos hj] at h
    split at h
    · cases h; exact .inl ⟨hj.symm, rfl⟩
    · cases h
  · rw [if_neg hj] at h
    exact .inr ⟨fun z => hj z.symm, h⟩
inductive Slot where
  | own (d : D)
  | ro (d : D)
abbrev En := List (Option Slot)
def SlotR (T : Tab) (S B : Hp) : Option Slot → Option V → Cells → Prop
  | none, _, ms => ms = []
  | some (.own d), some v, ms => Owns T B [d] [v] ms
  | some (.ro d), some v, ms => ms = [] ∧ Ros T B S [d] [v]
  | some _, none, _ => False
def CellsOk (S H : Hp) (m : Cells) : Prop := (m.map (·.1)).Nodup ∧ ∀ c ∈ m, H c.1 = some c.2 ∧ S c.1 = none
def Apart (m m' : Cells) : Prop := ∀ c ∈ m, ∀ e ∈ m', c.1 ≠ e.1
structure SRx (T : Tab) (S B : Hp) (env : En) (mss : List Cells) (σ : St) (H : Hp) : Prop where
  bs : Same B S
  sh : Same S H
  l1 : env.length = σ.length
  l2 : mss.length = σ.length
  at_ : ∀ (i : Nat) (e : Option Slot) (s : Option V) (m : Cells), env[i]? = some e → σ[i]? = some s → mss[i]? = some m → SlotR T S B e s m
  ok : ∀ (i : Nat) (m : Cells), mss[i]? = some m → CellsOk S H m
  ap : ∀ (i j : Nat) (m m' : Cells), i ≠ j → mss[i]? = some m → mss[j]? = some m' → Apart m m'
  tb : ∀ p ∈ T.tbs, TabW H p.1 ∧ S p.1 = none
  tc : ∀ p ∈ T.tbs, TabC B H p.1 p.2
section
variable {T : Tab} {S B H S' B' H' : Hp} {env : En} {mss : List Cells} {σ : St}
theorem SlotR.mono {e : Option Slot} {s : Option V} {m : Cells} (h : SlotR T S B e s m) (s1 : Same S S') (b : Same B B') : SlotR T S' B' e s m := by
  cases e with
  | none => exact h
  | some e =>
    cases s with
    | none => cases e <;> exact h
    | some v =>
      cases e with
      | own d => exact Owns.mono h b
      | ro d => exact ⟨h.1, Ros.mono h.2 s1 b⟩
theorem CellsOk.grow {L : List (Addr × Str)} {m : Cells} (h : CellsOk S H m) (nt : ∀ c ∈ m, NT c.2) (hh : SameN L H H') (f : ∀ a o, S' a = some o → S a = some o ∨ H a = none) : CellsOk S' H' m := by
  refine ⟨h.1, fun c hc => ?_⟩
  obtain ⟨h1, h2⟩ := h.2 c hc
  refine ⟨hh.n _ _ h1 (nt c hc), ?_⟩
  cases e : S' c.1 with
  | none => rfl
  | some o =>
    rcases f _ _ e with q | q
    · rw [h2] at q; cases q
    · rw [h1] at q; cases q
theorem tb_grow {T : Tab} (tb : ∀ p ∈ T.tbs, TabW H p.1 ∧ S p.1 = none) (hh : SameN T.tbs H H') (f : ∀ a o, S' a = some o → S a = some o ∨ H a = none) : ∀ p ∈ T.tbs, TabW H' p.1 ∧ S' p.1 = none := fun p hp => by
  obtain ⟨h1, h2⟩ := tb p hp
  refine ⟨hh.t _ hp h1, ?_⟩
  obtain ⟨ps, h3, _⟩ := h1
  cases e : S' p.1 with
  | none => rfl
  | some o =>
    rcases f _ _ e with q | q
    · rw [h2] at q; cases q
    · rw [h3] at q; cases q
theorem SlotR.nt {e : Option Slot} {s : Option V} {m : Cells} (h : SlotR T S B e s m) : ∀ c ∈ m, NT c.2 := by
  cases e with
  | none => have h : m = [] := h; subst h; exact fun _ h => nomatch h
  | some e =>
    cases s with
    | none => cases e <;> exact h.elim
    | some v =>
      cases e with
      | own d => exact Owns.nt h
      | ro d => have h : m = [] := h.1; subst h; exact fun _ h => nomatch h
theorem SRx.nt (R : SRx T S B env mss σ H) {i : Nat} {m : Cells} (h : mss[i]? = some m) : ∀ c ∈ m, NT c.2 := by
  have hi := (List.getElem?_eq_some_iff.mp h).1
  have h1 : i < σ.length := by rw [← R.l2]; exact hi
  have h2 : i < env.length := by rw [R.l1]; exact h1
  exact (R.at_ i _ _ m (List.getElem?_eq_getElem h2) (List.getElem?_eq_getElem h1) h).nt
theorem SRx.grow (R : SRx T S B env mss σ H) (g : Gr T.tbs S B H S' B' H') : SRx T S' B' env mss σ H' :=
  ⟨g.bs, g.sh, R.l1, R.l2, fun i e s m h1 h2 h3 => (R.at_ i e s m h1 h2 h3).mono g.w.s g.w.b, fun i m h => (R.ok i m h).grow (R.nt h) g.h g.f, R.ap, tb_grow R.tb g.h g.f, fun p hp => g.t p hp (R.tc p hp)⟩
theorem SRx.gr (R : SRx T S B env mss σ H) : Gr T.tbs S B H S B H := Gr.refl R.bs R.sh
theorem SRx.own (R : SRx T S B env mss σ H) {i : Nat} {d : D} (h : env[i]? = some (some (.own d))) : ∃ v m, σ[i]? = some (some v) ∧ mss[i]? = some m ∧ Owns T B [d] [v] m ∧ CellsOk S H m := by
  have hi : i < env.length := (List.getElem?_eq_some_iff.mp h).1
  have h1 : i < σ.length := by rw [← R.l1]; exact hi
  have h2 : i < mss.length := by rw [R.l2]; exact h1
  have q := R.at_ i _ _ _ h (List.getElem?_eq_getElem h1) (List.getElem?_eq_getElem h2)
  cases e : σ[i] with
  | none => rw [e] at q; exact q.elim
  | some v =>
    rw [e] at q
    exact ⟨v, mss[i], by rw [List.getElem?_eq_getElem h1, e], List.getElem?_eq_getElem h2, q, R.ok i _ (List.getElem?_eq_getElem h2)⟩
theorem SRx.ro (R : SRx T S B env mss σ H) {i : Nat} {d : D} (h : env[i]? = some (some (.ro d))) : ∃ v, σ[i]? = some (some v) ∧ Ros T B S [d] [v] := by
  have hi : i < env.length := (List.getElem?_eq_some_iff.mp h).1
  have h1 : i < σ.length := by rw [← R.l1]; exact hi
  have h2 : i < mss.length := by rw [R.l2]; exact h1
  have q := R.at_ i _ _ _ h (List.getElem?_eq_getElem h1) (List.getElem?_eq_getElem h2)
  cases e : σ[i] with
  | none => rw [e] at q; exact q.elim
  | some v =>
    rw [e] at q
    exact ⟨v, by rw [List.getElem?_eq_getElem h1, e], q.2⟩
/-- a slot is set -/
theorem SRx.set (R : SRx T S B env mss σ H) {i : Nat} {e : Option Slot} {s : Option V} {m : Cells} (hs : SlotR T S B e s m) (ho : CellsOk S H m) (ha : ∀ (j : Nat) (m' : Cells), j ≠ i → mss[j]? = some m' → Apart m' m) :
    SRx T S B (env.set i e) (mss.set i m) (σ.set i s) H := by
  refine ⟨R.bs, R.sh, by simp [R.l1], by simp [R.l2], fun j e' s' m' h1 h2 h3 => ?_, fun j m' h => ?_, fun j k m' m2 hjk h1 h2 => ?_, R.tb, R.tc⟩
  · rcases set_at h1 with ⟨rfl, rfl⟩ | ⟨hj, h1⟩
    · rcases set_at h2 with ⟨_, rfl⟩ | ⟨hj, _⟩
      · rcases set_at h3 with ⟨_, rfl⟩ | ⟨hj, _⟩
        · exact hs
        · exact absurd rfl hj
      · exact absurd rfl hj
    · rcases set_at h2 with ⟨z, _⟩ | ⟨_, h2⟩
      · exact absurd z hj
      · rcases set_at h3 with ⟨z, _⟩ | ⟨_, h3⟩
        · exact absurd z hj
        · exact R.at_ j _ _ _ h1 h2 h3
  · rcases set_at h with ⟨_, rfl⟩ | ⟨_, h⟩
    · exact ho
    · exact R.ok j _ h
  · rcases set_at h1 with ⟨rfl, rfl⟩ | ⟨hj, g1⟩
    · rcases set_at h2 with ⟨z, _⟩ | ⟨hk, g2⟩
      · exact absurd z.symm hjk
      · exact fun c hc e he z => ha k m2 hk g2 e he c hc z.symm
    · rcases set_at h2 with ⟨rfl, rfl⟩ | ⟨hk, g2⟩
      · exact ha j m' hj g1
      · exact R.ap j k _ _ hjk g1 g2
end
inductive Rs where
  | own (d : D)
  | ro (d : D)
  | bor (i : Nat) (d : D)
def Rs.d : Rs → D
  | .own d => d
  | .ro d => d
  | .bor _ d => d
/-- what stands in S, and the cells m -/
def Wi (S : Hp) (m : Cells) : Hp := fun a => match S a with
  | some o => some o
  | none => m.lookup a
theorem Wi.same {S : Hp} {m : Cells} : Same S (Wi S m) := fun a o h => by unfold Wi; rw [h]
theorem lookup_of_mem {m : Cells} {c : Addr × HO} (nd : (m.map (·.1)).Nodup) (h : c ∈ m) : m.lookup c.1 = some c.2 := by
  induction m with
  | nil => cases h
  | cons x r ih =>
    obtain ⟨k, v⟩ := x
    rw [List.map_cons, List.nodup_cons] at nd
    rw [List.lookup_cons]
    rcases List.mem_cons.mp h with e | h
    · subst e; simp
    · have : (c.1 == k) = false := by
        simp only [beq_eq_false_iff_ne, ne_eq]
        intro z
        exact nd.1 (z ▸ List.mem_map.mpr ⟨c, h, rfl⟩)
      rw [this]
      exact ih nd.2 h
theorem mem_of_lookup' {m : Cells} {a : Addr} {o : HO} (h : m.lookup a = some o) : (a, o) ∈ m := by
  induction m with
  | nil => cases h
  | cons x r ih =>
    obtain ⟨k, v⟩ := x
    rw [List.lookup_cons] at h
    cases e : a == k with
    | true => rw [e] at h; cases h; rw [eq_of_beq e]; exact List.mem_cons_self
    | false => rw [e] at h; exact List.mem_cons_of_mem _ (ih h)
theorem Wi.at_ {S H : Hp} {m : Cells} (o : CellsOk S H m) : ∀ c ∈ m, Wi S m c.1 = some c.2 := fun c hc => by
  unfold Wi
  rw [(o.2 c hc).2]
  exact lookup_of_mem o.1 hc
theorem Wi.le {S H : Hp} {m : Cells} (sh : Same S H) (o : CellsOk S H m) : Same (Wi S m) H := fun a u h => by
  unfold Wi at h
  cases e : S a with
  | some x => rw [e] at h; cases h; exact sh _ _ e
  | none =>
    rw [e] at h
    exact (o.2 _ (mem_of_lookup' h)).1
theorem tb_wi {T : Tab} {S H : Hp} {m : Cells} (tb : ∀ p ∈ T.tbs, TabW H p.1 ∧ S p.1 = none) (o : CellsOk S H m) (nt : ∀ c ∈ m, NT c.2) : ∀ p ∈ T.tbs, TabW H p.1 ∧ Wi S m p.1 = none := fun p hp => by
  obtain ⟨h1, h2⟩ := tb p hp
  refine ⟨h1, ?_⟩
  unfold Wi
  rw [h2]
  cases e : m.lookup p.1 with
  | none => rfl
  | some u =>
    have hm := mem_of_lookup' e
    have h4 := (o.2 _ hm).1
    obtain ⟨ps, h3, _⟩ := h1
    rw [h3] at h4
    exact absurd (Option.some.inj h4).symm (nt _ hm ps)
theorem Wi.mono {S S' : Hp} {m : Cells} (s : Same S S') (off : ∀ c ∈ m, S' c.1 = none) : Same (Wi S m) (Wi S' m) := fun a u h => by
  unfold Wi at h ⊢
  cases e : S a with
  | some x => rw [e] at h; rw [s _ _ e]; exact h
  | none =>
    rw [e] at h
    rw [off _ (mem_of_lookup' h)]
    exact h
/-- what an expression gave, its own cells new since H0 -/
def RF (T : Tab) (S B H H0 : Hp) (mss : List Cells) : Rs → V → Prop
  | .own d, v => ∃ ms, Owns T B [d] [v] ms ∧ CellsOk S H ms ∧ ∀ c ∈ ms, H0 c.1 = none
  | .ro d, v => Ros T B S [d] [v]
  | .bor i d, v => ∃ m, mss[i]? = some m ∧ Ros T B (Wi S m) [d] [v]
section
variable {T : Tab} {S B H S' B' H' H0 H1 : Hp} {env : En} {mss : List Cells} {σ : St} {r : Rs} {v : V}
theorem RF.grow (R : SRx T S B env mss σ H) (f : RF T S B H H0 mss r v) (g : Gr T.tbs S B H S' B' H') : RF T S' B' H' H0 mss r v := by
  cases r with
  | own d =>
    obtain ⟨ms, h1, h2, h3⟩ := f
    exact ⟨ms, h1.mono g.w.b, h2.grow h1.nt g.h g.f, h3⟩
  | ro d => exact Ros.mono f g.w.s g.w.b
  | bor i d =>
    obtain ⟨m, h1, h2⟩ := f
    exact ⟨m, h1, h2.mono (Wi.mono g.w.s fun c hc => (((R.ok i m h1).grow (R.nt h1) g.h g.f).2 c hc).2) g.w.b⟩
theorem RF.back {L : List (Addr × Str)} (f : RF T S B H H1 mss r v) (h : SameN L H0 H1) : RF T S B H H0 mss r v := by
  cases r with
  | own d =>
    obtain ⟨ms, h1, h2, h3⟩ := f
    exact ⟨ms, h1, h2, fun c hc => h.free (h3 c hc)⟩
  | ro d => exact f
  | bor i d => exact f
theorem RF.read (R : SRx T S B env mss σ H) (f : RF T S B H H0 mss r v) : Ros T B H [r.d] [v] := by
  cases r with
  | own d =>
    obtain ⟨ms, h1, h2, h3⟩ := f
    exact h1.ro (R.bs.trans R.sh) fun c hc => (h2.2 c hc).1
  | ro d => exact Ros.mono f R.sh (Same.refl _)
  | bor i d =>
    obtain ⟨m, h1, h2⟩ := f
    exact h2.mono (Wi.le R.sh (R.ok i m h1)) (Same.refl _)
theorem RF.cpy {d : D} {X : Hp} (h : Ros T B X [d] [v]) (hc : copyD d = true) : RF T S B H H0 mss (.own d) v := ⟨[], copy_own h (copy1 hc), ⟨.nil, fun _ h => nomatch h⟩, fun _ h => nomatch h⟩
theorem RF.imm {v : V} (h : imm v = true) : RF T S B H H0 mss (.own (.im v)) v := RF.cpy (X := S) (.im h .nil) rfl
end
end Tr
namespace Tr
open PySem L2
/-- an exception: its class by number, its fields -/
structure Exn where
  c : Nat
  vs : List V
inductive Rz (α : Type) where
  | ok (a : α)
  | ex (x : Exn)
  | er
@[simp] def Rz.bind {α β : Type} : Rz α → (α → Rz β) → Rz β
  | .ok a, f => f a
  | .ex x, _ => .ex x
  | .er, _ => .er
def ExF (T : Tab) (H : Hp) (x : Exn) (cls : Value) (d : Option Addr) : Prop :=
  ∃ C fl, T.exc[x.c]? = some ⟨C, fl⟩ ∧ cls = .ref C ∧ x.vs.length = fl.length ∧ x.vs.all imm = true ∧ (if fl.isEmpty = true then d = none else ∃ dd, d = some dd ∧ H dd = some (.xd (fl.zip x.vs)))
abbrev ME := En → Rz Rs
/-- what is wanted of a result -/
def PP (T : Tab) (W : WX) (S B : Hp) (mss : List Cells) (σ : St) (H : Hp) (Q : VK) : Rz Rs → Prop
  | .ok r => ∀ S' B' H' v, Gr T.tbs S B H S' B' H' → RF T S' B' H' H mss r v → Q v H'
  | .ex x => ∀ S' B' H' cls d, Gr T.tbs S B H S' B' H' → ExF T H' x cls d → W cls d σ H'
  | .er => False
def tP (T : Tab) (W : WX) (m : ME) : TE := fun σ H Q => ∃ S B env mss, SRx T S B env mss σ H ∧ PP T W S B mss σ H Q (m env)
theorem PP.grow {T : Tab} {W : WX} {S B H S1 B1 H1 : Hp} {mss : List Cells} {σ : St} {Q : VK} {z : Rz Rs} (p : PP T W S B mss σ H Q z) (g : Gr T.tbs S B H S1 B1 H1) : PP T W S1 B1 mss σ H1 Q z := by
  cases z with
  | ok r => exact fun S' B' H' v g' f => p S' B' H' v (g.trans g') (f.back g.h)
  | ex x => exact fun S' B' H' cls d g' f => p S' B' H' cls d (g.trans g') f
  | er => exact p
section
variable {X : Cx} {T : Tab} {W : WX} {e : Expr} {es : List Expr} {m ma mb : ME} {ms : List ME} {t t' : TE}
theorem pe_of (h : PE X e t) (i : ∀ σ H Q, t' σ H Q → t σ H Q) : PE X e t' := ⟨fun pins s σ H Q I q => h.run pins s σ H Q I (i σ H Q q)⟩
theorem pe_orE (h : PE X e t) (h' : PE X e t') : PE X e (fun σ H Q => t σ H Q ∨ t' σ H Q) := ⟨fun pins s σ H Q I q => q.elim (h.run pins s σ H Q I) (h'.run pins s σ H Q I)⟩
def cp (r : Rs) : Rs := if copyD r.d then .own r.d else r
@[simp] def mVar (i : Nat) : ME := fun env => match env[i]? with
  | some (some (.own d)) => .ok (if copyD d then .own d else .bor i d)
  | some (some (.ro d)) => .ok (if copyD d then .own d else .ro d)
  | _ => .er
theorem ep_var {i : Nat} (h : PE X e (tVar i)) : PE X e (tP T W (mVar i)) := by
  refine pe_of h fun σ H Q ⟨S, B, env, mss, R, q⟩ => ?_
  cases hd : env[i]? with
  | none => simp only [mVar, hd] at q; exact q.elim
  | some o =>
  cases o with
  | none => simp only [mVar, hd] at q; exact q.elim
  | some o =>
  cases o with
  | own d =>
    simp only [mVar, hd] at q
    obtain ⟨v, m, h1, h2, h3, h4⟩ := R.own hd
    refine ⟨v, h1, q S B H v R.gr ?_⟩
    split
    · rename_i hc
      exact RF.cpy (X := H) (h3.ro (R.bs.trans R.sh) fun c hc => (h4.2 c hc).1) hc
    · exact ⟨m, h2, h3.ro (R.bs.trans Wi.same) (Wi.at_ h4)⟩
  | ro d =>
    simp only [mVar, hd] at q
    obtain ⟨v, h1, h2⟩ := R.ro hd
    refine ⟨v, h1, q S B H v R.gr ?_⟩
    split
    · rename_i hc
      exact RF.cpy h2 hc
    · exact h2
@[simp] def mC (v : V) : ME := fun _ => .ok (.own (.im v))
theorem ep_c {v : V} (h : PE X e (tC v)) (hi : imm v = true := by rfl) : PE X e (tP T W (mC v)) :=
  pe_of h fun σ H Q ⟨S, B, env, mss, R, q⟩ => q S B H v R.gr (RF.imm hi)
/-- r gives z -/
inductive Gives (T : Tab) (B H : Hp) : D → (VK → Prop) → Prop
  | cpy {z v r} (h : Ros T B H [z] [v]) (hc : copyD z = true) (k : ∀ Q : VK, Q v H → r Q) : Gives T B H z r
  | lst {ds ws r} (h : Owns T B ds ws []) (k : ∀ Q : VK, (∀ p, H p = none → Q (.ref p) (upd H p (.lst ws))) → r Q) : Gives T B H (.lst ds) r
  | tup {ds ws r} (h : Owns T B ds ws []) (k : ∀ Q : VK, (∀ p, H p = none → Q (.ref p) (upd H p (.tup ws))) → r Q) : Gives T B H (.tup ds) r
  | dct {ks ds ws r} (h : Owns T B ds ws []) (hl : ks.length = ws.length) (k : ∀ Q : VK, (∀ p, H p = none → Q (.ref p) (upd H p (.dK (ks.zip ws)))) → r Q) : Gives T B H (.dct ks ds) r
theorem Gives.im {T : Tab} {B H : Hp} {v : V} {r : VK → Prop} (h : imm v = true) (k : ∀ Q : VK, Q v H → r Q) : Gives T B H (.im v) r := .cpy (.im h .nil) rfl k
theorem Gives.imp {T : Tab} {B H : Hp} {z : D} {r r' : VK → Prop} (h : Gives T B H z r) (i : ∀ Q, r Q → r' Q) : Gives T B H z r' := by
  cases h with
  | cpy h hc k => exact .cpy h hc fun Q q => i Q (k Q q)
  | lst h k => exact .lst h fun Q q => i Q (k Q q)
  | tup h k => exact .tup h fun Q q => i Q (k Q q)
  | dct h hl k => exact .dct h hl fun Q q => i Q (k Q q)
theorem cells_new {S B H : Hp} {p : Addr} {o : HO} (sh : Same S H) (hp : H p = none) : CellsOk S (upd H p o) [(p, o)] := ⟨by simp, fun c hc => by
  have e : c = (p, o) := by simpa using hc
  subst e
  exact ⟨upd_same, sh.free hp⟩⟩
theorem Gives.run {T : Tab} {B H S : Hp} {z : D} {r : VK → Prop} {mss : List Cells} {Q : VK} (g : Gives T B H z r) (bs : Same B S) (sh : Same S H)
    (q : ∀ S' B' H' v, Gr T.tbs S B H S' B' H' → RF T S' B' H' H mss (.own z) v → Q v H') : r Q := by
  cases g with
  | cpy h hc k => exact k Q (q S B H _ (Gr.refl bs sh) (RF.cpy h hc))
  | @lst ds ws r h k =>
    exact k Q fun p hp => q S B _ _ (Gr.own bs sh hp) ⟨[(p, .lst ws)], .lst (m := []) (ms := []) h .nil, cells_new (B := B) sh hp, fun c hc => by
      have e : c = (p, .lst ws) := by simpa using hc
      subst e; exact hp⟩
  | @tup ds ws r h k =>
    refine k Q fun p hp => q _ _ _ _ (Gr.tup bs sh hp) ⟨[], .tup (m := []) (ms := []) upd_same (h.mono (Gr.tup (L := T.tbs) (o := .tup ws) bs sh hp).w.b) .nil, ⟨.nil, fun _ h => nomatch h⟩, fun _ h => nomatch h⟩
  | @dct ks ds ws r h hl k =>
    exact k Q fun p hp => q S B _ _ (Gr.own bs sh hp) ⟨[(p, .dK (ks.zip ws))], .dct (m := []) (ms := []) hl h .nil, cells_new (B := B) sh hp, fun c hc => by
      have e : c = (p, .dK (ks.zip ws)) := by simpa using hc
      subst e; exact hp⟩
/-- a reckoning on values -/
def VS (T : Tab) (f : List D → Option D) (r : List V → Hp → VK → Prop) : Prop := ∀ B H ds vs z, Same B H → Ros T B H ds vs → f ds = some z → Gives T B H z (r vs H)
theorem VS.or {f g : List D → Option D} {r r' : List V → Hp → VK → Prop} (a : VS T f r) (b : VS T g r') : VS T (fun ds => match f ds with | some z => some z | none => g ds) (fun vs H Q => r vs H Q ∨ r' vs H Q) :=
  fun B H ds vs z bh hr h => by
    dsimp only at h
    split at h
    · rename_i z' e
      cases h
      exact (a B H ds vs _ bh hr e).imp fun _ => .inl
    · exact (b B H ds vs z bh hr h).imp fun _ => .inr
@[simp] def m1 (f : List D → Option D) (ma : ME) : ME := fun env => match ma env with
  | .ok ra => match f [ra.d] with
    | some z => .ok (.own z)
    | none => .er
  | .ex x => .ex x
  | .er => .er
@[simp] def m2 (f : List D → Option D) (ma mb : ME) : ME := fun env => match ma env with
  | .ok ra => match mb env with
    | .ok rb => match f [ra.d, rb.d] with
      | some z => .ok (.own z)
      | none => .er
    | .ex x => .ex x
    | .er => .er
  | .ex x => .ex x
  | .er => .er
theorem ros2 {B S : Hp} {d d' : D} {v v' : V} (a : Ros T B S [d] [v]) (b : Ros T B S [d'] [v']) : Ros T B S [d, d'] [v, v'] := by
  cases a with
  | im h r => exact .im h b
  | lst h q r => exact .lst h q b
  | tup h q r => exact .tup h q b
  | dct h hl q r => exact .dct h hl q b
  | obj h hc hl q r => exact .obj h hc hl q b
  | fz q r => exact .fz q b
  | scr h r => exact .scr h b
  | fn h r => exact .fn h b
theorem ros_cons {B S : Hp} {d : D} {ds : List D} {v : V} {vs : List V} (a : Ros T B S [d] [v]) (b : Ros T B S ds vs) : Ros T B S (d :: ds) (v :: vs) := by
  cases a with
  | im h r => exact .im h b
  | lst h q r => exact .lst h q b
  | tup h q r => exact .tup h q b
  | dct h hl q r => exact .dct h hl q b
  | obj h hc hl q r => exact .obj h hc hl q b
  | fz q r => exact .fz q b
  | scr h r => exact .scr h b
  | fn h r => exact .fn h b
theorem ep_1 {f : List D → Option D} {r : V → Hp → VK → Prop} (hf : VS T f (fun vs H Q => ∃ x, vs = [x] ∧ r x H Q)) (h : PE X e (tUn r (tP T W ma))) : PE X e (tP T W (m1 f ma)) := by
  refine pe_of h fun σ H Q ⟨S, B, env, mss, R, q⟩ => ⟨S, B, env, mss, R, ?_⟩
  cases ha : ma env with
  | ok ra =>
    intro S1 B1 H1 v g f1
    simp only [m1, ha] at q
    cases hz : f [ra.d] with
    | none => simp only [hz] at q; exact q.elim
    | some z =>
      simp only [hz] at q
      have R1 := R.grow g
      have gv := hf B1 H1 [ra.d] [v] z (R1.bs.trans R1.sh) (f1.read R1) hz
      obtain ⟨x, e, hx⟩ := gv.run (mss := mss) (Q := Q) R1.bs R1.sh (q.grow g)
      cases e
      exact hx
  | ex x => simp only [m1, ha] at q; exact q
  | er => simp only [m1, ha] at q; exact q
theorem i_2 {f : List D → Option D} {r : R2} (hf : VS T f (fun vs H Q => ∃ x y, vs = [x, y] ∧ r x y H Q)) {σ : St} {H : Hp} {Q : VK} (h : tP T W (m2 f ma mb) σ H Q) : tOp r (tP T W ma) (tP T W mb) σ H Q := by
  obtain ⟨S, B, env, mss, R, q⟩ := h
  refine ⟨S, B, env, mss, R, ?_⟩
  cases ha : ma env with
  | ok ra =>
    intro S1 B1 H1 v g f1
    simp only [m2, ha] at q
    have R1 := R.grow g
    refine ⟨S1, B1, env, mss, R1, ?_⟩
    cases hb : mb env with
    | ok rb =>
      intro S2 B2 H2 w g2 f2
      simp only [hb] at q
      cases hz : f [ra.d, rb.d] with
      | none => simp only [hz] at q; exact q.elim
      | some z =>
        simp only [hz] at q
        have R2' := R1.grow g2
        have gv := hf B2 H2 [ra.d, rb.d] [v, w] z (R2'.bs.trans R2'.sh) (ros2 ((f1.grow R1 g2).read R2') (f2.read R2')) hz
        obtain ⟨x, y, e, hx⟩ := gv.run (mss := mss) (Q := Q) R2'.bs R2'.sh ((q.grow g).grow g2)
        cases e
        exact hx
    | ex x => simp only [hb] at q; exact q.grow g
    | er => simp only [hb] at q; exact q
  | ex x => simp only [m2, ha] at q; exact q
  | er => simp only [m2, ha] at q; exact q
theorem ep_2 {f : List D → Option D} {r : R2} (hf : VS T f (fun vs H Q => ∃ x y, vs = [x, y] ∧ r x y H Q)) (h : PE X e (tOp r (tP T W ma) (tP T W mb))) : PE X e (tP T W (m2 f ma mb)) := pe_of h fun _ _ _ => i_2 hf
@[simp] def mAs : List ME → En → Rz (List Rs)
  | [], _ => .ok []
  | m :: ms, env => match m env with
    | .ok r => match mAs ms env with
      | .ok rs => .ok (r :: rs)
      | .ex x => .ex x
      | .er => .er
    | .ex x => .ex x
    | .er => .er
/-- all that they give is there to be read -/
def PR (T : Tab) (W : WX) (S B : Hp) (σ : St) (H : Hp) (Q : List V → Hp → Prop) : Rz (List Rs) → Prop
  | .ok rs => ∀ S' B' H' vs, Gr T.tbs S B H S' B' H' → Ros T B' H' (rs.map Rs.d) vs → Q vs H'
  | .ex x => ∀ S' B' H' cls d, Gr T.tbs S B H S' B' H' → ExF T H' x cls d → W cls d σ H'
  | .er => False
def tPR (T : Tab) (W : WX) (ms : List ME) : TA := fun σ H Q => ∃ S B env mss, SRx T S B env mss σ H ∧ PR T W S B σ H Q (mAs ms env)
theorem pa_of {t t' : TA} (h : PA X es t) (i : ∀ σ H Q, t' σ H Q → t σ H Q) : PA X es t' := ⟨fun pos pins s σ H Q I q => h.run pos pins s σ H Q I (i σ H Q q)⟩
theorem pr_nil : PA X [] (tPR T W []) := pa_of pa_nil fun σ H Q ⟨S, B, env, mss, R, q⟩ => q S B H [] R.gr .nil
theorem pr_cons (h1 : PE X e (tP T W m)) (h2 : PA X es (tPR T W ms)) (hs : starEach (e :: es) X.env = (false, eval e X.env) :: starEach es X.env := by rfl) : PA X (e :: es) (tPR T W (m :: ms)) := by
  refine pa_of (pa_cons h1 h2 hs) fun σ H Q ⟨S, B, env, mss, R, q⟩ => ⟨S, B, env, mss, R, ?_⟩
  cases hr : m env with
  | ok r =>
    simp only [mAs, hr] at q
    intro S1 B1 H1 v g f1
    have R1 := R.grow g
    refine ⟨S1, B1, env, mss, R1, ?_⟩
    cases hs : mAs ms env with
    | ok rs =>
      simp only [hs] at q
      intro S2 B2 H2 vs g2 f2
      exact q S2 B2 H2 (v :: vs) (g.trans g2) (ros_cons ((f1.grow R1 g2).read (R1.grow g2)) f2)
    | ex x => simp only [hs] at q; exact fun S2 B2 H2 cls d g2 x2 => q S2 B2 H2 cls d (g.trans g2) x2
    | er => simp only [hs] at q; exact q
  | ex x => simp only [mAs, hr] at q; exact q
  | er => simp only [mAs, hr] at q; exact q
@[simp] def mN (f : List D → Option D) (ms : List ME) : ME := fun env => match mAs ms env with
  | .ok rs => match f (rs.map Rs.d) with
    | some z => .ok (.own z)
    | none => .er
  | .ex x => .ex x
  | .er => .er
theorem ep_N {f : List D → Option D} {r : List V → Hp → VK → Prop} (hf : VS T f r) (h : PE X e (tCB r (tPR T W ms))) : PE X e (tP T W (mN f ms)) := by
  refine pe_of h fun σ H Q ⟨S, B, env, mss, R, q⟩ => ⟨S, B, env, mss, R, ?_⟩
  cases hr : mAs ms env with
  | ok rs =>
    intro S1 B1 H1 vs g f1
    simp only [mN, hr] at q
    cases hz : f (rs.map Rs.d) with
    | none => simp only [hz] at q; exact q.elim
    | some z =>
      simp only [hz] at q
      have R1 := R.grow g
      exact (hf B1 H1 _ vs z (R1.bs.trans R1.sh) f1 hz).run (mss := mss) (Q := Q) R1.bs R1.sh (q.grow g)
  | ex x => simp only [mN, hr] at q; exact q
  | er => simp only [mN, hr] at q; exact q
end
end Tr
namespace Tr
open PySem L2 PyProof.Rows
section
variable {T : Tab} {B S : Hp} {ds : List D} {vs : List V}
theorem ros_nil {vs : List V} (r : Ros T B S [] vs) : vs = [] := by cases r; rfl
theorem ros_im {v : V} {ds : List D} {vs : List V} (r : Ros T B S (.im v :: ds) vs) : ∃ us, vs = v :: us ∧ Ros T B S ds us ∧ imm v = true := by
  cases r with
  | im h r => exact ⟨_, rfl, r, h⟩
theorem ros_im1 {v : V} {vs : List V} (r : Ros T B S [.im v] vs) : vs = [v] := by
  obtain ⟨us, rfl, r, _⟩ := ros_im r
  rw [ros_nil r]
theorem ros_im2 {v w : V} {vs : List V} (r : Ros T B S [.im v, .im w] vs) : vs = [v, w] := by
  obtain ⟨us, rfl, r, _⟩ := ros_im r
  rw [ros_im1 r]
theorem ros_ims {ws : List V} : ∀ {vs : List V}, Ros T B S (ws.map D.im) vs → vs = ws := by
  induction ws with
  | nil => intro vs r; exact ros_nil r
  | cons w ws ih =>
    intro vs r
    obtain ⟨us, rfl, r, _⟩ := ros_im r
    rw [ih r]
theorem ros_c {d : D} {ds : List D} {vs : List V} (r : Ros T B S (d :: ds) vs) : ∃ v us, vs = v :: us ∧ Ros T B S [d] [v] ∧ Ros T B S ds us := by
  cases r with
  | im h r => exact ⟨_, _, rfl, .im h .nil, r⟩
  | lst h q r => exact ⟨_, _, rfl, .lst h q .nil, r⟩
  | tup h q r => exact ⟨_, _, rfl, .tup h q .nil, r⟩
  | dct h hl q r => exact ⟨_, _, rfl, .dct h hl q .nil, r⟩
  | obj h hc hl q r => exact ⟨_, _, rfl, .obj h hc hl q .nil, r⟩
  | fz q r => exact ⟨_, _, rfl, .fz q .nil, r⟩
  | scr h r => exact ⟨_, _, rfl, .scr h .nil, r⟩
  | fn h r => exact ⟨_, _, rfl, .fn h .nil, r⟩
theorem ros_c2 {d e : D} {vs : List V} (r : Ros T B S [d, e] vs) : ∃ v u, vs = [v, u] ∧ Ros T B S [d] [v] ∧ Ros T B S [e] [u] := by
  obtain ⟨v, us, rfl, h1, r⟩ := ros_c r
  obtain ⟨u, us, rfl, h2, r⟩ := ros_c r
  rw [ros_nil r]
  exact ⟨v, u, rfl, h1, h2⟩
theorem ros_c1 {d : D} {vs : List V} (r : Ros T B S [d] vs) : ∃ v, vs = [v] := by
  obtain ⟨v, us, rfl, h1, r⟩ := ros_c r
  rw [ros_nil r]
  exact ⟨v, rfl⟩
theorem ros_lst {xs : List D} {v : V} (r : Ros T B S [.lst xs] [v]) : ∃ a ws, v = .ref a ∧ S a = some (.lst ws) ∧ Ros T B S xs ws := by
  cases r with
  | lst h q r => exact ⟨_, _, rfl, h, q⟩
theorem ros_tup {xs : List D} {v : V} (r : Ros T B S [.tup xs] [v]) : ∃ a ws, v = .ref a ∧ B a = some (.tup ws) ∧ Ros T B S xs ws := by
  cases r with
  | tup h q r => exact ⟨_, _, rfl, h, q⟩
theorem ros_dct {ks : List Key} {xs : List D} {v : V} (r : Ros T B S [.dct ks xs] [v]) : ∃ a ws, v = .ref a ∧ Rd S a (.dK (ks.zip ws)) ∧ ks.length = ws.length ∧ Ros T B S xs ws := by
  cases r with
  | dct h hl q r => exact ⟨_, _, rfl, h, hl, q⟩
theorem ros_obj {c : Nat} {xs : List D} {v : V} (r : Ros T B S [.obj c xs] [v]) : ∃ a C dx fl ws, v = .ref a ∧ S a = some (.ins C dx (fl.zip ws)) ∧ T.cls[c]? = some ⟨C, fl⟩ ∧ ws.length ≤ fl.length ∧ Ros T B S xs ws := by
  cases r with
  | obj h hc hl q r => exact ⟨_, _, _, _, _, rfl, h, hc, hl, q⟩
end
/-- without its cover -/
def unfz : D → D
  | .fz d => unfz d
  | d => d
theorem ros_unfz {T : Tab} {B : Hp} : ∀ {d : D} {S : Hp} {v : V}, Same B S → Ros T B S [d] [v] → Ros T B S [unfz d] [v] := by
  intro d
  induction d using unfz.induct with
  | case1 d ih =>
    intro S v s r
    cases r with
    | fz q r =>
      show Ros T B S [unfz d] [v]
      exact (ih (Same.refl _) q).mono s (Same.refl _)
  | case2 d h =>
    intro S v s r
    have e : unfz d = d := by cases d <;> first | rfl | exact absurd rfl (h _)
    rw [e]; exact r
def VS2 (T : Tab) (f : List D → Option D) (r : R2) : Prop := VS T f (fun vs H Q => ∃ x y, vs = [x, y] ∧ r x y H Q)
def orF (f g : List D → Option D) : List D → Option D := fun ds => match f ds with
  | some z => some z
  | none => g ds
theorem VS2.or {T : Tab} {f g : List D → Option D} {r r' : R2} (a : VS2 T f r) (b : VS2 T g r') : VS2 T (orF f g) (fun x y H Q => r x y H Q ∨ r' x y H Q) := fun B H ds vs z bh hr h => by
  unfold orF at h
  cases e : f ds with
  | some z' =>
    rw [e] at h; cases h
    exact (a B H ds vs _ bh hr e).imp fun Q ⟨x, y, e, q⟩ => ⟨x, y, e, .inl q⟩
  | none =>
    rw [e] at h
    exact (b B H ds vs z bh hr h).imp fun Q ⟨x, y, e, q⟩ => ⟨x, y, e, .inr q⟩
def fI2 (C : Int → Int → Bool) (g : Int → Int → V) : List D → Option D
  | [.im (.int i), .im (.int j)] => if C i j = true then some (.im (g i j)) else none
  | _ => none
theorem vs_I2 {T : Tab} {C : Int → Int → Bool} {g : Int → Int → V} {r : R2} (hi : ∀ i j, imm (g i j) = true) (hr : ∀ i j H Q, C i j = true → Q (g i j) H → r (.int i) (.int j) H Q) : VS2 T (fI2 C g) r := by
  intro B H ds vs z bh ro h
  unfold fI2 at h
  split at h
  · rename_i i j
    split at h
    · rename_i hc
      cases h
      rw [ros_im2 ro]
      exact .im (hi i j) fun Q q => ⟨_, _, rfl, hr i j H Q hc q⟩
    · cases h
  · cases h
def fS2 (C : Str → Str → Bool) (g : Str → Str → V) : List D → Option D
  | [.im (.str i), .im (.str j)] => if C i j = true then some (.im (g i j)) else none
  | _ => none
theorem vs_S2 {T : Tab} {C : Str → Str → Bool} {g : Str → Str → V} {r : R2} (hi : ∀ i j, imm (g i j) = true) (hr : ∀ i j H Q, C i j = true → Q (g i j) H → r (.str i) (.str j) H Q) : VS2 T (fS2 C g) r := by
  intro B H ds vs z bh ro h
  unfold fS2 at h
  split at h
  · rename_i i j
    split at h
    · rename_i hc
      cases h
      rw [ros_im2 ro]
      exact .im (hi i j) fun Q q => ⟨_, _, rfl, hr i j H Q hc q⟩
    · cases h
  · cases h
abbrev yes2 {α : Type} : α → α → Bool := fun _ _ => true
/-- a bound that is never opened -/
def BIG : Nat := 2 ^ 8000
theorem big_log {n : Nat} (h : n < BIG) : n.log2 < 8000 := PySem.Flt.log2_lt_of (by decide) h
theorem big_of {n : Nat} (h : n < 10 ^ 1000) : n < BIG := Nat.lt_of_lt_of_le h (by unfold BIG; decide +kernel)
def cMul (i j : Int) : Bool := decide ((-(2 ^ 64) < i ∧ i < 2 ^ 64) ∨ (-(2 ^ 64) < j ∧ j < 2 ^ 64) ∨ (i.natAbs < BIG ∧ j.natAbs < BIG))
def cDiv (_ j : Int) : Bool := decide (j ≠ 0 ∧ j.natAbs < BIG)
def fdv (i j : Int) : Int := if 0 < j then i / j else i.fdiv j
def fmd (i j : Int) : Int := if 0 < j then i % j else i.fmod j
section
variable {X : Cx} {T : Tab}
def CMulX (i j : Int) : Prop := cMul i j = true
theorem CMulX.ok {i j : Int} (h : CMulX i j) : IntMulOk i j := by
  rcases of_decide_eq_true h with h | h | ⟨h1, h2⟩
  · exact CMul.ok (.inl h)
  · exact CMul.ok (.inr h)
  · refine CMulW.ok ?_
    have a := big_log h1
    have b := big_log h2
    unfold CMulW
    omega
theorem op_mulX : OpR X (binaryOp .Mult) (rI CMulX fun i j => .int (i * j)) := opI fun _ _ _ _ _ _ _ hc q => mul_int q hc.ok
def CDivX (i j : Int) : Prop := cDiv i j = true
theorem op_fdivX : OpR X (binaryOp .FloorDiv) (rI CDivX fun i j => .int (fdv i j)) := opI fun i j _ _ _ _ _ hc q => by
  obtain ⟨h1, h2⟩ := of_decide_eq_true hc
  refine floordiv_int h1 ?_ (.inl (PyProof.noPylong_of_log2 (by have := big_log h2; omega)))
  unfold fdv at q
  split at q
  · rename_i h; rw [Int.fdiv_eq_ediv_of_nonneg i (by omega)]; exact q
  · exact q
theorem op_modX : OpR X (binaryOp .Mod) (rI (fun _ j => j ≠ 0) fun i j => .int (fmd i j)) := opI fun i j _ _ _ _ _ hc q => by
  refine mod_int' hc ?_
  unfold fmd at q
  split at q
  · rename_i h; rw [Int.fmod_eq_emod_of_nonneg i (by omega)]; exact q
  · exact q
def fAddI := fI2 yes2 fun i j => .int (i + j)
def fAddS := fS2 (fun a b => decide (a.length + b.length ≤ 1000000)) fun a b => .str (a ++ b)
theorem le_line {n : Nat} (h : n ≤ 1000000) : n ≤ sizeLine := by rw [sizeLine_eq]; omega
theorem copyDs_append {xs ys : List D} : copyDs (xs ++ ys) = (copyDs xs && copyDs ys) := by
  induction xs with
  | nil => simp [copyDs]
  | cons d ds ih => simp [copyDs, ih, Bool.and_assoc]
theorem ros_append {B S : Hp} {xs ys : List D} {vs ws : List V} (a : Ros T B S xs vs) (b : Ros T B S ys ws) : Ros T B S (xs ++ ys) (vs ++ ws) := by
  induction a with
  | nil => exact b
  | im h r ih => exact .im h (ih b)
  | lst h q r iq ih => exact .lst h q (ih b)
  | tup h q r iq ih => exact .tup h q (ih b)
  | dct h hl q r iq ih => exact .dct h hl q (ih b)
  | obj h hc hl q r iq ih => exact .obj h hc hl q (ih b)
  | scr h r ih => exact .scr h (ih b)
  | fn h r ih => exact .fn h (ih b)
  | fz q r iq ih => exact .fz q (ih b)
def fAddL : List D → Option D
  | [a, b] => match unfz a, unfz b with
    | .lst xs, .lst ys => if copyDs xs && copyDs ys && decide (xs.length + ys.length ≤ 1000000) then some (.lst (xs ++ ys)) else none
    | _, _ => none
  | _ => none
theorem vs_addL : VS2 T fAddL rCat := by
  intro B H ds vs z bh ro h
  unfold fAddL at h
  split at h
  · rename_i a b
    split at h
    · rename_i xs ys ea eb
      split at h
      · rename_i hc
        cases h
        simp only [Bool.and_eq_true, decide_eq_true_eq] at hc
        obtain ⟨v, u, rfl, r1, r2⟩ := ros_c2 ro
        have q1 := ros_unfz bh r1
        have q2 := ros_unfz bh r2
        rw [ea] at q1; rw [eb] at q2
        obtain ⟨l, ws, rfl, h1, p1⟩ := ros_lst q1
        obtain ⟨m, us, rfl, h2, p2⟩ := ros_lst q2
        have l1 := p1.len
        have l2 := p2.len
        exact .lst (copy_own (ros_append p1 p2) (by rw [copyDs_append, hc.1.1, hc.1.2]; rfl)) fun Q q => ⟨_, _, rfl, l, m, ws, us, rfl, rfl, h1, h2, le_line (by omega), q⟩
      · cases h
    · cases h
  · cases h
abbrev fAdd := orF fAddI (orF fAddS fAddL)
theorem op_addP : OpR X (binaryOp .Add) (fun x y H Q => (∃ i j, x = .int i ∧ y = .int j ∧ Q (.int (i + j)) H) ∨ (∃ i j, x = .str i ∧ y = .str j ∧ i.length + j.length ≤ sizeLine ∧ Q (.str (i ++ j)) H) ∨ rCat x y H Q) :=
  OpR.or op_add (OpR.or op_add_str op_cat)
theorem vs_add : VS2 T fAdd (fun x y H Q => (∃ i j, x = .int i ∧ y = .int j ∧ Q (.int (i + j)) H) ∨ (∃ i j, x = .str i ∧ y = .str j ∧ i.length + j.length ≤ sizeLine ∧ Q (.str (i ++ j)) H) ∨ rCat x y H Q) :=
  VS2.or (r := fun x y H Q => ∃ i j, x = .int i ∧ y = .int j ∧ Q (.int (i + j)) H) (vs_I2 (fun _ _ => rfl) fun i j H Q _ q => ⟨i, j, rfl, rfl, q⟩) (VS2.or (r := fun x y H Q => ∃ i j, x = .str i ∧ y = .str j ∧ i.length + j.length ≤ sizeLine ∧ Q (.str (i ++ j)) H) (vs_S2 (fun _ _ => rfl) fun i j H Q hc q => ⟨i, j, rfl, rfl, le_line (of_decide_eq_true hc), q⟩) vs_addL)
abbrev fSub := fI2 yes2 fun i j => .int (i - j)
theorem vs_sub : VS2 T fSub (rI0 fun i j => .int (i - j)) := vs_I2 (fun _ _ => rfl) fun i j H Q _ q => ⟨i, j, rfl, rfl, q⟩
abbrev fMulI := fI2 cMul fun i j => .int (i * j)
def fRep : List D → Option D
  | [a, .im (.int k)] => match unfz a with
    | .lst xs => if copyDs xs && decide (0 ≤ k) && decide (xs.length * k.toNat ≤ 1000000) && decide (k ≤ 1000000) then some (.lst (List.replicate k.toNat xs).flatten) else none
    | _ => none
  | _ => none
theorem ros_rep {B S : Hp} {xs : List D} {vs : List V} (a : Ros T B S xs vs) : ∀ n : Nat, Ros T B S (List.replicate n xs).flatten (List.replicate n vs).flatten
  | 0 => .nil
  | n + 1 => by rw [List.replicate_succ, List.replicate_succ, List.flatten_cons, List.flatten_cons]; exact ros_append a (ros_rep a n)
theorem copyDs_rep {xs : List D} (h : copyDs xs = true) : ∀ n : Nat, copyDs (List.replicate n xs).flatten = true
  | 0 => rfl
  | n + 1 => by rw [List.replicate_succ, List.flatten_cons, copyDs_append, h, copyDs_rep h n]; rfl
theorem vs_rep : VS2 T fRep rRep := by
  intro B H ds vs z bh ro h
  unfold fRep at h
  split at h
  · rename_i a k
    split at h
    · rename_i xs ea
      split at h
      · rename_i hc
        cases h
        simp only [Bool.and_eq_true, decide_eq_true_eq] at hc
        obtain ⟨v, u, rfl, r1, r2⟩ := ros_c2 ro
        cases ros_im1 r2
        have q1 := ros_unfz bh r1
        rw [ea] at q1
        obtain ⟨l, ws, rfl, h1, p1⟩ := ros_lst q1
        have l1 := p1.len
        exact .lst (copy_own (ros_rep p1 k.toNat) (copyDs_rep hc.1.1.1 _)) fun Q q => ⟨_, _, rfl, l, k, ws, rfl, rfl, h1, by omega, by omega, le_line (by rw [← l1]; exact hc.1.2), q⟩
      · cases h
    · cases h
  · cases h
abbrev fMul := orF fMulI fRep
theorem op_mulP : OpR X (binaryOp .Mult) (fun x y H Q => rI CMulX (fun i j => .int (i * j)) x y H Q ∨ rRep x y H Q) := OpR.or op_mulX op_rep
theorem vs_mul : VS2 T fMul (fun x y H Q => rI CMulX (fun i j => .int (i * j)) x y H Q ∨ rRep x y H Q) :=
  VS2.or (vs_I2 (fun _ _ => rfl) fun i j H Q hc q => ⟨i, j, rfl, rfl, hc, q⟩) vs_rep
abbrev fDiv := fI2 cDiv fun i j => .int (fdv i j)
theorem vs_div : VS2 T fDiv (rI CDivX fun i j => .int (fdv i j)) := vs_I2 (fun _ _ => rfl) fun i j H Q hc q => ⟨i, j, rfl, rfl, hc, q⟩
abbrev fMod := fI2 (fun _ j => decide (j ≠ 0)) fun i j => .int (fmd i j)
theorem vs_mod : VS2 T fMod (rI (fun _ j => j ≠ 0) fun i j => .int (fmd i j)) := vs_I2 (fun _ _ => rfl) fun i j H Q hc q => ⟨i, j, rfl, rfl, of_decide_eq_true hc, q⟩
def cPow (i j : Int) : Bool := decide (0 ≤ j ∧ j ≤ 1000000 ∧ i.natAbs < 2 ^ 64)
theorem cPow_ok {i j : Int} (h : cPow i j = true) : CPow i j := (of_decide_eq_true h : 0 ≤ j ∧ j ≤ 1000000 ∧ i.natAbs < 2 ^ 64)
abbrev fPow := fI2 cPow fun i j => .int (i ^ j.toNat)
theorem vs_pow : VS2 T fPow (rI CPow fun i j => .int (i ^ j.toNat)) := vs_I2 (fun _ _ => rfl) fun i j H Q hc q => ⟨i, j, rfl, rfl, cPow_ok hc, q⟩
abbrev fLt := fI2 yes2 fun i j => .bl (decide (i < j))
theorem vs_lt : VS2 T fLt (rI0 fun i j => .bl (decide (i < j))) := vs_I2 (fun _ _ => rfl) fun i j H Q _ q => ⟨i, j, rfl, rfl, q⟩
abbrev fLe := fI2 yes2 fun i j => .bl (decide (i ≤ j))
abbrev fGt := fI2 yes2 fun i j => .bl (decide (j < i))
theorem vs_gt : VS2 T fGt (rI0 fun i j => .bl (decide (j < i))) := vs_I2 (fun _ _ => rfl) fun i j H Q _ q => ⟨i, j, rfl, rfl, q⟩
abbrev fGe := fI2 yes2 fun i j => .bl (decide (j ≤ i))
theorem vs_ge : VS2 T fGe (rI0 fun i j => .bl (decide (j ≤ i))) := vs_I2 (fun _ _ => rfl) fun i j H Q _ q => ⟨i, j, rfl, rfl, q⟩
mutual
def toPy : D → Option PyData
  | .im .non => some .none
  | .im (.bl b) => some (.bool b)
  | .im (.int i) => some (.int i)
  | .im (.str x) => some (.str x)
  | .im _ => none
  | .lst ds => (toPys ds).map PyData.list
  | .tup ds => (toPys ds).map PyData.tuple
  | .fz d => toPy d
  | .dct _ _ => none
  | .obj _ _ => none
  | .scr _ => none
  | .fn _ => none
def toPys : List D → Option (List PyData)
  | [] => some []
  | d :: ds => match toPy d, toPys ds with
    | some p, some ps => some (p :: ps)
    | _, _ => none
end
theorem dp_of {B : Hp} : ∀ {S : Hp} {ds : List D} {vs : List V}, Ros T B S ds vs → ∀ {H : Hp}, Same S H → Same B H → ∀ ps, toPys ds = some ps → DpAll T.K H vs ps := by
  intro S ds vs r
  induction r with
  | nil => intro H _ _ ps h; simp [toPys] at h; subst h; exact .nil
  | @im S v ds vs hi r ih =>
    intro H s b ps h
    simp only [toPys] at h
    split at h
    · rename_i p ps' h1 h2
      cases h
      refine .cons ?_ (ih s b _ h2)
      cases v <;> simp [toPy] at h1 <;> subst h1
      · exact .non
      · exact .bl _
      · exact .int _
      · exact .str _
    · cases h
  | lst h q r iq ir =>
    intro H s b ps h'
    simp only [toPys] at h'
    split at h'
    · rename_i p ps' h1 h2
      cases h'
      simp only [toPy, Option.map_eq_some_iff] at h1
      obtain ⟨qs, h1, rfl⟩ := h1
      exact .cons (.lst (SqL.of (s _ _ h)) (iq s b _ h1)) (ir s b _ h2)
    · cases h'
  | tup h q r iq ir =>
    intro H s b ps h'
    simp only [toPys] at h'
    split at h'
    · rename_i p ps' h1 h2
      cases h'
      simp only [toPy, Option.map_eq_some_iff] at h1
      obtain ⟨qs, h1, rfl⟩ := h1
      exact .cons (.tup (SqT.of (b _ _ h)) (iq s b _ h1)) (ir s b _ h2)
    · cases h'
  | dct h hl q r iq ir => intro H s b ps h'; simp [toPys, toPy] at h'
  | obj h hc hl q r iq ir => intro H s b ps h'; simp [toPys, toPy] at h'
  | scr h r ir => intro H s b ps h'; simp [toPys, toPy] at h'
  | fn h r ir => intro H s b ps h'; simp [toPys, toPy] at h'
  | @fz S d v ds vs q r iq ir =>
    intro H s b ps h'
    simp only [toPys] at h'
    split at h'
    · rename_i p ps' h1 h2
      cases h'
      have h1 : toPy d = some p := by simpa [toPy] using h1
      have z := iq b b [p] (by simp [toPys, h1])
      cases z with
      | cons a _ => exact .cons a (ir s b _ h2)
    · cases h'
theorem dp1 {B S H : Hp} {d : D} {v : V} {p : PyData} (r : Ros T B S [d] [v]) (s : Same S H) (b : Same B H) (h : toPy d = some p) : Dp T.K H v p := by
  have z := dp_of r s b [p] (by simp [toPys, h])
  cases z with
  | cons a _ => exact a
def fEq : List D → Option D
  | [a, b] => match toPy a, toPy b with
    | some p, some q => if PySem.SeqAt.shaped p && PySem.SeqAt.shaped q then some (.im (.bl (PyData.eqv p q))) else none
    | _, _ => none
  | _ => none
def fNe : List D → Option D
  | [a, b] => match toPy a, toPy b with
    | some p, some q => if PySem.SeqAt.shaped p && PySem.SeqAt.shaped q then some (.im (.bl (!PyData.eqv p q))) else none
    | _, _ => none
  | _ => none
theorem vs_eq : VS2 T fEq (rEqD T.K) := by
  intro B H ds vs z bh ro h
  unfold fEq at h
  split at h
  · rename_i a b
    split at h
    · rename_i p q h1 h2
      split at h
      · rename_i hc
        cases h
        simp only [Bool.and_eq_true] at hc
        obtain ⟨v, u, rfl, r1, r2⟩ := ros_c2 ro
        exact .im rfl fun Q k => ⟨_, _, rfl, p, q, dp1 r1 (Same.refl _) bh h1, dp1 r2 (Same.refl _) bh h2, hc.1, hc.2, k⟩
      · cases h
    · cases h
  · cases h
theorem vs_ne : VS2 T fNe (rNeD T.K) := by
  intro B H ds vs z bh ro h
  unfold fNe at h
  split at h
  · rename_i a b
    split at h
    · rename_i p q h1 h2
      split at h
      · rename_i hc
        cases h
        simp only [Bool.and_eq_true] at hc
        obtain ⟨v, u, rfl, r1, r2⟩ := ros_c2 ro
        exact .im rfl fun Q k => ⟨_, _, rfl, p, q, dp1 r1 (Same.refl _) bh h1, dp1 r2 (Same.refl _) bh h2, hc.1, hc.2, k⟩
      · cases h
    · cases h
  · cases h
end
end Tr
namespace Tr
open PySem L2 PyProof.Rows
section
variable {X : Cx} {T : Tab}
/-- the immediates of a row -/
def ims : List D → Option (List V)
  | [] => some []
  | .im v :: ds => (ims ds).map (v :: ·)
  | _ => none
theorem ims_eq {ds : List D} : ∀ {ws : List V}, ims ds = some ws → ds = ws.map D.im := by
  induction ds with
  | nil => intro ws h; simp [ims] at h; subst h; rfl
  | cons d ds ih =>
    intro ws h
    cases d <;> simp [ims] at h
    obtain ⟨us, h1, rfl⟩ := h
    rw [ih h1]; rfl
def rowOf : D → Option (List D)
  | .lst xs => some xs
  | .tup xs => some xs
  | _ => none
theorem ros_row {B S H : Hp} {d : D} {xs : List D} {v : V} (s : Same S H) (b : Same B H) (r : Ros T B S [d] [v]) (h : rowOf d = some xs) : ∃ a ws, v = .ref a ∧ (SqL T.K H a ws ∨ SqT T.K H a ws) ∧ Ros T B S xs ws := by
  cases d <;> simp [rowOf] at h
  · subst h
    obtain ⟨a, ws, rfl, h1, q⟩ := ros_lst r
    exact ⟨a, ws, rfl, .inl (SqL.of (s _ _ h1)), q⟩
  · subst h
    obtain ⟨a, ws, rfl, h1, q⟩ := ros_tup r
    exact ⟨a, ws, rfl, .inr (SqT.of (b _ _ h1)), q⟩
/-- x in a row of flat things -/
def fInR (neg : Bool) : List D → Option D
  | [.im x, b] => match rowOf (unfz b) with
    | some ds => match ims ds with
      | some xs => if flatV x && xs.all flatV then some (.im (.bl (if neg then !inV x xs else inV x xs))) else none
      | none => none
    | none => none
  | _ => none
theorem vs_inR {neg : Bool} : VS2 T (fInR neg) (rIn T.K neg) := by
  intro B H ds vs z bh ro h
  unfold fInR at h
  split at h
  · rename_i x b
    split at h
    · rename_i es he
      split at h
      · rename_i xs hx
        split at h
        · rename_i hc
          cases h
          simp only [Bool.and_eq_true] at hc
          obtain ⟨v, u, rfl, r1, r2⟩ := ros_c2 ro
          cases ros_im1 r1
          obtain ⟨a, ws, rfl, hs, q⟩ := ros_row (Same.refl _) bh (ros_unfz bh r2) he
          rw [ims_eq hx] at q
          rw [ros_ims q] at hs
          exact .im rfl fun Q k => ⟨_, _, rfl, a, xs, rfl, hs, hc.1, hc.2, k⟩
        · cases h
      · cases h
    · cases h
  · cases h
/-- one sign in a text -/
def rInS' : R2 := fun x y H Q => ∃ (c : Nat) (z : Str), x = .str ⟨#[c]⟩ ∧ y = .str z ∧ Q (.bl (decide (c ∈ z.cps.toList))) H
def rNiS' : R2 := fun x y H Q => ∃ (c : Nat) (z : Str), x = .str ⟨#[c]⟩ ∧ y = .str z ∧ Q (.bl (!decide (c ∈ z.cps.toList))) H
def oneSign (a : Str) : Option Nat := match a.cps.toList with
  | [c] => some c
  | _ => none
theorem oneSign_eq {a : Str} {c : Nat} (h : oneSign a = some c) : a = ⟨#[c]⟩ := by
  unfold oneSign at h
  split at h
  · rename_i d e
    cases h
    obtain ⟨cs⟩ := a
    have : cs = #[c] := by
      apply Array.toList_inj.mp
      exact e
    rw [this]
  · cases h
def fInS (neg : Bool) : List D → Option D
  | [.im (.str a), .im (.str z)] => match oneSign a with
    | some c => some (.im (.bl (if neg then !decide (c ∈ z.cps.toList) else decide (c ∈ z.cps.toList))))
    | none => none
  | _ => none
theorem vs_inS : VS2 T (fInS false) rInS' := by
  intro B H ds vs z bh ro h
  unfold fInS at h
  split at h
  · rename_i a y
    split at h
    · rename_i c hc
      cases h
      rw [ros_im2 ro, oneSign_eq hc]
      exact .im rfl fun Q k => ⟨_, _, rfl, c, y, rfl, rfl, k⟩
    · cases h
  · cases h
theorem vs_niS : VS2 T (fInS true) rNiS' := by
  intro B H ds vs z bh ro h
  unfold fInS at h
  split at h
  · rename_i a y
    split at h
    · rename_i c hc
      cases h
      rw [ros_im2 ro, oneSign_eq hc]
      exact .im rfl fun Q k => ⟨_, _, rfl, c, y, rfl, rfl, k⟩
    · cases h
  · cases h
abbrev fIn := orF (fInR false) (fInS false)
abbrev fNi := orF (fInR true) (fInS true)
theorem op_inP : OpR X (compareOp .In) (fun x y H Q => rIn X.K false x y H Q ∨ rInS' x y H Q) := OpR.or op_in_seq op_in_sign
theorem op_niP : OpR X (compareOp .NotIn) (fun x y H Q => rIn X.K true x y H Q ∨ rNiS' x y H Q) := OpR.or op_notIn_seq op_notIn_sign
theorem vs_in : VS2 T fIn (fun x y H Q => rIn T.K false x y H Q ∨ rInS' x y H Q) := VS2.or vs_inR vs_inS
theorem vs_ni : VS2 T fNi (fun x y H Q => rIn T.K true x y H Q ∨ rNiS' x y H Q) := VS2.or vs_inR vs_niS
def fNeg : List D → Option D
  | [.im (.int i)] => some (.im (.int (-i)))
  | _ => none
theorem vs_neg : VS T fNeg (fun vs H Q => ∃ x, vs = [x] ∧ rU (fun i => .int (-i)) x H Q) := by
  intro B H ds vs z bh ro h
  unfold fNeg at h
  split at h
  · cases h; rw [ros_im1 ro]; exact .im rfl fun Q k => ⟨_, rfl, _, rfl, k⟩
  · cases h
theorem VS.orF {f g : List D → Option D} {r r' : List V → Hp → VK → Prop} (a : VS T f r) (b : VS T g r') : VS T (orF f g) (fun vs H Q => r vs H Q ∨ r' vs H Q) := fun B H ds vs z bh hr h => by
  unfold Tr.orF at h
  cases e : f ds with
  | some z' => rw [e] at h; cases h; exact (a B H ds vs _ bh hr e).imp fun Q => .inl
  | none => rw [e] at h; exact (b B H ds vs z bh hr h).imp fun Q => .inr
def fLenS : List D → Option D
  | [.im (.str s)] => if s.length ≤ 1000000 then some (.im (.int s.length)) else none
  | [d] => match unfz d with
    | .lst xs => some (.im (.int xs.length))
    | .tup xs => some (.im (.int xs.length))
    | .scr ns => some (.im (.int ns.length))
    | _ => none
  | _ => none
theorem vs_lenS : VS T fLenS (fun xs H Q => ∃ x n, xs = [x] ∧ LenV T.K x H n ∧ Q (.int n) H) := by
  intro B H ds vs z bh ro h
  unfold fLenS at h
  split at h
  · rename_i s
    split at h
    · rename_i hs
      cases h; rw [ros_im1 ro]; exact .im rfl fun Q k => ⟨_, s.length, rfl, ⟨le_line hs, rfl⟩, k⟩
    · cases h
  · rename_i d hd
    obtain ⟨v, rfl⟩ := ros_c1 ro
    have q := ros_unfz bh ro
    split at h
    · rename_i xs e
      cases h
      rw [e] at q
      obtain ⟨a, ws, rfl, h1, q⟩ := ros_lst q
      exact .im rfl fun Q k => ⟨_, xs.length, rfl, .inl ⟨ws, SqL.of h1, q.len⟩, k⟩
    · rename_i xs e
      cases h
      rw [e] at q
      obtain ⟨a, ws, rfl, h1, q⟩ := ros_tup q
      exact .im rfl fun Q k => ⟨_, xs.length, rfl, .inr ⟨ws, SqT.of (bh _ _ h1), q.len⟩, k⟩
    · rename_i ns e
      cases h
      rw [e] at q
      cases q with
      | scr h1 _ => exact .im rfl fun Q k => ⟨_, ns.length, rfl, .inl ⟨_, h1, by simp⟩, k⟩
    · cases h
  · cases h
def fLenD : List D → Option D
  | [.dct ks xs] => some (.im (.int ks.length))
  | _ => none
theorem call_lenDR : CallR X (.builtin "len") (fun xs H Q => ∃ a kvs, xs = [V.ref a] ∧ Rd H a (.dK kvs) ∧ Q (.int kvs.length) H) := by
  intro pins s σ H xs us Q I r h
  obtain ⟨a, kvs, rfl, ha, q⟩ := h
  obtain ⟨u, rfl, ru⟩ := vals1 r
  cases ru
  exact d_len I ha fun t s' I' => ⟨.int kvs.length, H, I', ⟨t, rfl⟩, q⟩
theorem vs_lenD : VS T fLenD (fun xs H Q => ∃ a kvs, xs = [V.ref a] ∧ Rd H a (.dK kvs) ∧ Q (.int kvs.length) H) := by
  intro B H ds vs z bh ro h
  unfold fLenD at h
  split at h
  · rename_i ks xs
    cases h
    obtain ⟨v, rfl⟩ := ros_c1 ro
    obtain ⟨a, ws, rfl, h1, hl, q⟩ := ros_dct ro
    exact .im rfl fun Q k => ⟨a, _, rfl, h1, by rw [List.length_zip, ← hl, Nat.min_self]; exact k⟩
  · cases h
abbrev fLen := orF fLenS fLenD
theorem call_lenP : CallR X (.builtin "len") (fun xs H Q => (∃ x n, xs = [x] ∧ LenV X.K x H n ∧ Q (.int n) H) ∨ (∃ a kvs, xs = [V.ref a] ∧ Rd H a (.dK kvs) ∧ Q (.int kvs.length) H)) := CallR.or call_len call_lenDR
theorem vs_len : VS T fLen (fun xs H Q => (∃ x n, xs = [x] ∧ LenV T.K x H n ∧ Q (.int n) H) ∨ (∃ a kvs, xs = [V.ref a] ∧ Rd H a (.dK kvs) ∧ Q (.int kvs.length) H)) := VS.orF vs_lenS vs_lenD
/-- a built-in type's name -/
def tyN : D → Option String
  | .im .non => some "NoneType"
  | .im (.bl _) => some "bool"
  | .im (.int _) => some "int"
  | .im (.str _) => some "str"
  | .lst _ => some "list"
  | .tup _ => some "tuple"
  | .dct _ _ => some "dict"
  | .fz d => tyN d
  | _ => none
def fIsi : List D → Option D
  | [d, .im (.ty u)] => match tyN d with
    | some t => match kitB t u with
      | some b => some (.im (.bl b))
      | none => none
    | none => none
  | _ => none
theorem tyx_of {B : Hp} : ∀ {d : D} {S H : Hp} {v : V} {t : String}, Same S H → Same B H → Ros T B S [d] [v] → tyN d = some t → TyX T.K H v (.type t) := by
  intro d
  induction d using tyN.induct with
  | case8 d ih =>
    intro S H v t s b r h
    cases r with
    | fz q _ => exact ih b b q h
  | _ =>
    intro S H v t s b r h
    simp [tyN] at h
    try subst h
    first
      | (cases ros_im1 r; exact .base .non)
      | (cases ros_im1 r; exact .base (.bl _))
      | (cases ros_im1 r; exact .base (.int _))
      | (cases ros_im1 r; exact .base (.str _))
      | (obtain ⟨a, ws, rfl, h1, q⟩ := ros_lst r; exact .base (.lst (s _ _ h1)))
      | (obtain ⟨a, ws, rfl, h1, q⟩ := ros_tup r; exact .base (.tup (b _ _ h1)))
      | (obtain ⟨a, ws, rfl, h1, hl, q⟩ := ros_dct r
         rcases h1 with h1 | ⟨o, h1⟩
         · exact .base (.dK (s _ _ h1))
         · exact .fDict (s _ _ h1))
      | (cases h)
      | skip
theorem vs_isi : VS T fIsi (rIsi T.K) := by
  intro B H ds vs z bh ro h
  unfold fIsi at h
  split at h
  · rename_i d u
    split at h
    · rename_i t ht
      split at h
      · rename_i b hb
        cases h
        obtain ⟨v, w, rfl, r1, r2⟩ := ros_c2 ro
        cases ros_im1 r2
        exact .im rfl fun Q k => ⟨v, .ty u, .type t, .type u, b, rfl, .ty u, tyx_of (Same.refl _) bh r1 ht, kit_ty hb, k⟩
      · cases h
    · cases h
  · cases h
def fAbs : List D → Option D
  | [.im (.int i)] => some (.im (.int (if i < 0 then -i else i)))
  | _ => none
def fMx : List D → Option D
  | [.im (.int i), .im (.int j)] => some (.im (.int (if j > i then j else i)))
  | _ => none
theorem vs_max2 : VS T fMx (fun xs H Q => ∃ i j, xs = [.int i, .int j] ∧ Q (.int (if j > i then j else i)) H) := by
  intro B H ds vs z bh ro h
  unfold fMx at h
  split at h
  · cases h; rw [ros_im2 ro]; exact .im rfl fun Q k => ⟨_, _, rfl, k⟩
  · cases h
/-- the numbers of a row -/
def intsD : List D → Option (List Int)
  | [] => some []
  | .im (.int i) :: ds => (intsD ds).map (i :: ·)
  | _ => none
theorem ints_eq {ds : List D} : ∀ {ns : List Int}, intsD ds = some ns → ds = (ns.map V.int).map D.im := by
  induction ds with
  | nil => intro ws h; simp [intsD] at h; subst h; rfl
  | cons d ds ih =>
    intro ws h
    cases d with
    | im v =>
      cases v <;> simp [intsD] at h
      obtain ⟨us, h1, rfl⟩ := h
      rw [ih h1]; rfl
    | _ => simp [intsD] at h
def fIntsL (g : List Int → Option Int) : List D → Option D
  | [d] => match unfz d with
    | .lst xs => match intsD xs with
      | some ns => match g ns with
        | some z => some (.im (.int z))
        | none => none
      | none => none
    | _ => none
  | _ => none
theorem vs_intsL {g : List Int → Option Int} {r : List V → Hp → VK → Prop} (hr : ∀ a ns z H Q, SqL T.K H a (ns.map V.int) → g ns = some z → Q (.int z) H → r [.ref a] H Q) : VS T (fIntsL g) r := by
  intro B H ds vs z bh ro h
  unfold fIntsL at h
  split at h
  · rename_i d
    obtain ⟨v, rfl⟩ := ros_c1 ro
    have q := ros_unfz bh ro
    split at h
    · rename_i xs e
      rw [e] at q
      obtain ⟨a, ws, rfl, h1, q⟩ := ros_lst q
      split at h
      · rename_i ns hn
        split at h
        · rename_i m hm
          cases h
          rw [ints_eq hn] at q
          rw [ros_ims q] at h1
          exact .im rfl fun Q k => hr a ns m H Q (SqL.of h1) hm k
        · cases h
      · cases h
    · cases h
  · cases h
theorem int_max {ns : List Int} {z : Int} (h : ns.max? = some z) : z ∈ ns ∧ ∀ y ∈ ns, y ≤ z := by
  refine ⟨List.max?_mem h, fun y hy => ?_⟩
  have := (List.max?_le_iff h).mp (Int.le_refl _) y hy
  exact this
abbrev fMaxL := fIntsL List.max?
theorem vs_maxL : VS T fMaxL (rMax T.K) := vs_intsL fun a ns z H Q h e q => ⟨a, ns, rfl, h, by cases ns with | nil => simp at e | cons => simp, fun m hm hy => by
  obtain ⟨h1, h2⟩ := int_max e
  have e1 := h2 m hm
  have e2 := hy z h1
  rw [show m = z by omega]; exact q⟩
abbrev fMax := orF fMx fMaxL
theorem call_maxP (hc : X.calm = true) : CallR X (.builtin "max") (fun xs H Q => (∃ i j, xs = [.int i, .int j] ∧ Q (.int (if j > i then j else i)) H) ∨ rMax X.K xs H Q) := CallR.or (call_max2 hc) (cr_max hc)
theorem vs_max : VS T fMax (fun xs H Q => (∃ i j, xs = [.int i, .int j] ∧ Q (.int (if j > i then j else i)) H) ∨ rMax T.K xs H Q) := VS.orF vs_max2 vs_maxL
def fInt : List D → Option D
  | [.im (.int i)] => some (.im (.int i))
  | [.im (.bl b)] => some (.im (.int (if b then 1 else 0)))
  | [.im (.str s)] => if s.length ≤ 640 then match PySem.intText? s with
    | some n => some (.im (.int n))
    | none => none else none
  | _ => none
theorem call_intP : CallR X (.type "int") (fun xs H Q => ((∃ i, xs = [.int i] ∧ Q (.int i) H) ∨ ∃ k, xs = [.bl k] ∧ Q (.int (if k then 1 else 0)) H) ∨ (∃ a n, xs = [.str a] ∧ PySem.intText? a = some n ∧ a.length ≤ 640 ∧ Q (.int n) H)) := CallR.or call_int1 call_int_str
theorem vs_int : VS T fInt (fun xs H Q => ((∃ i, xs = [.int i] ∧ Q (.int i) H) ∨ ∃ k, xs = [.bl k] ∧ Q (.int (if k then 1 else 0)) H) ∨ (∃ a n, xs = [.str a] ∧ PySem.intText? a = some n ∧ a.length ≤ 640 ∧ Q (.int n) H)) := by
  intro B H ds vs z bh ro h
  unfold fInt at h
  split at h
  · cases h; rw [ros_im1 ro]; exact .im rfl fun Q k => .inl (.inl ⟨_, rfl, k⟩)
  · cases h; rw [ros_im1 ro]; exact .im rfl fun Q k => .inl (.inr ⟨_, rfl, k⟩)
  · split at h
    · rename_i hs
      split at h
      · rename_i n hn
        cases h; rw [ros_im1 ro]; exact .im rfl fun Q k => .inr ⟨_, n, rfl, hn, hs, k⟩
      · cases h
    · cases h
  · cases h
def fListS : List D → Option D
  | [d] => match unfz d with
    | .lst xs => if copyDs xs then some (.lst xs) else none
    | .tup xs => if copyDs xs then some (.lst xs) else none
    | .scr ns => some (.lst ((ns.map V.int).map D.im))
    | _ => none
  | _ => none
theorem owns_ims {B : Hp} {ws : List V} (h : ws.all imm = true) : Owns T B (ws.map D.im) ws [] := by
  induction ws with
  | nil => exact .nil
  | cons w ws ih => simp at h; exact .im h.1 (ih (by simpa using h.2))
theorem imm_ints (ns : List Int) : (ns.map V.int).all imm = true := by simp [imm]
theorem vs_listS : VS T fListS (fun xs H Q => ∃ p ys, xs = [.ref p] ∧ (SqL T.K H p ys ∨ SqT T.K H p ys) ∧ ∀ l, H l = none → Q (.ref l) (upd H l (.lst ys))) := by
  intro B H ds vs z bh ro h
  unfold fListS at h
  split at h
  · rename_i d
    obtain ⟨v, rfl⟩ := ros_c1 ro
    have q := ros_unfz bh ro
    split at h
    · rename_i xs e
      rw [e] at q
      split at h
      · rename_i hc
        cases h
        obtain ⟨a, ws, rfl, h1, q⟩ := ros_lst q
        exact .lst (copy_own q hc) fun Q k => ⟨a, ws, rfl, .inl (SqL.of h1), k⟩
      · cases h
    · rename_i xs e
      rw [e] at q
      split at h
      · rename_i hc
        cases h
        obtain ⟨a, ws, rfl, h1, q⟩ := ros_tup q
        exact .lst (copy_own q hc) fun Q k => ⟨a, ws, rfl, .inr (SqT.of (bh _ _ h1)), k⟩
      · cases h
    · rename_i ns e
      rw [e] at q
      cases h
      cases q with
      | scr h1 _ => exact .lst (owns_ims (imm_ints ns)) fun Q k => ⟨_, _, rfl, .inl h1, k⟩
    · cases h
  · cases h
def cutD (xs : List D) (lo hi : Option Int) : List D := (xs.drop (HT.sIx xs.length 0 lo)).take (HT.sIx xs.length xs.length hi - HT.sIx xs.length 0 lo)
/-- g finds a part; K: how the part stands in the heap -/
def Acc (T : Tab) (g : D → Option D) (P : Hp → V → V → Prop) : Prop := ∀ B S H d v x, Same S H → Same B H → Ros T B S [d] [v] → g d = some x → ∃ u, Ros T B S [x] [u] ∧ P H v u
@[simp] def subR (r : Rs) (g : D → Option D) : Rz Rs := match r.d with
  | .fz d => match g d with
    | some x => .ok (.own (if copyD x then x else .fz x))
    | none => .er
  | d => match g d with
    | some x => if copyD x then .ok (.own x) else match r with
      | .own _ => .er
      | .ro _ => .ok (.ro x)
      | .bor i _ => .ok (.bor i x)
    | none => .er
theorem subR_ok {S B H H0 : Hp} {env : En} {mss : List Cells} {σ : L2.St} {r r' : Rs} {v : V} {g : D → Option D} {P : Hp → V → V → Prop} (A : Acc T g P) (R : SRx T S B env mss σ H) (f : RF T S B H H0 mss r v) (h : subR r g = .ok r') :
    ∃ u, RF T S B H H0 mss r' u ∧ P H v u := by
  have bh := R.bs.trans R.sh
  have rd := f.read R
  unfold subR at h
  split at h
  · rename_i d e
    rw [e] at rd
    cases rd with
    | fz q _ =>
      split at h
      · rename_i x hx
        cases h
        obtain ⟨u, hu, p⟩ := A B B H d v x bh bh q hx
        refine ⟨u, ?_, p⟩
        split
        · rename_i hc; exact RF.cpy hu hc
        · exact RF.cpy (X := S) (.fz hu .nil) rfl
      · cases h
  · rename_i d hd
    split at h
    · rename_i x hx
      split at h
      · rename_i hc
        cases h
        obtain ⟨u, hu, p⟩ := A B H H _ v x (Same.refl _) bh rd hx
        exact ⟨u, RF.cpy hu hc, p⟩
      · rename_i hc
        split at h
        · cases h
        · cases h
          exact A B S H _ v x R.sh bh f hx
        · cases h
          obtain ⟨m, h1, h2⟩ := f
          obtain ⟨u, hu, p⟩ := A B _ H _ v x (Wi.le R.sh (R.ok _ m h1)) bh h2 hx
          exact ⟨u, ⟨m, h1, hu⟩, p⟩
    · cases h
end
end Tr
namespace Tr
open PySem L2
section
variable {X : Cx} {T : Tab} {W : WX} {e a b : Expr} {es : List Expr} {m ma mb m' : ME} {ms : List ME} {t t' : TE} {pos : Pos}
theorem ep_or (h1 : PE X e (tP T W ma)) (h2 : PE X e (tP T W mb)) (h : ∀ env, m env = ma env ∨ m env = mb env) : PE X e (tP T W m) :=
  pe_of (pe_orE h1 h2) fun σ H Q ⟨S, B, env, mss, R, q⟩ => by
    rcases h env with z | z
    · rw [z] at q; exact .inl ⟨S, B, env, mss, R, q⟩
    · rw [z] at q; exact .inr ⟨S, B, env, mss, R, q⟩
/-- two operands, two rules -/
theorem m2_or {f g : List D → Option D} (ma mb : ME) (env : En) : m2 (orF f g) ma mb env = m2 f ma mb env ∨ m2 (orF f g) ma mb env = m2 g ma mb env := by
  simp only [m2]
  cases ma env with
  | ok ra =>
    cases mb env with
    | ok rb =>
      simp only [orF]
      cases f [ra.d, rb.d] with
      | some z => exact .inl rfl
      | none => exact .inr rfl
    | ex x => exact .inl rfl
    | er => exact .inl rfl
  | ex x => exact .inl rfl
  | er => exact .inl rfl
theorem ros_at {B S : Hp} {ds : List D} {vs : List V} (r : Ros T B S ds vs) : ∀ {j : Nat} {d : D}, ds[j]? = some d → ∃ v, vs[j]? = some v ∧ Ros T B S [d] [v] := by
  induction ds generalizing vs with
  | nil => intro j d h; simp at h
  | cons x xs ih =>
    intro j d h
    obtain ⟨v, us, rfl, h1, r'⟩ := ros_c r
    cases j with
    | zero => simp at h; subst h; exact ⟨v, rfl, h1⟩
    | succ j =>
      obtain ⟨u, h2, h3⟩ := ih r' (j := j) (d := d) (by simpa using h)
      exact ⟨u, by simpa using h2, h3⟩
theorem ros_atI {B S : Hp} {ds : List D} {vs : List V} (r : Ros T B S ds vs) {i : Int} {d : D} (h : atI ds i = some d) : ∃ v, atI vs i = some v ∧ Ros T B S [d] [v] := by
  unfold atI at h ⊢
  rw [← r.len]
  cases hj : ixN ds.length i with
  | none => rw [hj] at h; cases h
  | some j =>
    rw [hj] at h
    exact ros_at r h
def dlook : List Key → List D → Key → Option D
  | k' :: ks, x :: xs, k => if k' = k then some x else dlook ks xs k
  | _, _, _ => none
theorem ros_look {B S : Hp} {ds : List D} {vs : List V} (r : Ros T B S ds vs) : ∀ {ks : List Key} {k : Key}, ks.length = vs.length → (∀ d, dlook ks ds k = some d → ∃ v, valV (ks.zip vs) k = some v ∧ Ros T B S [d] [v]) ∧ (dlook ks ds k = none → valV (ks.zip vs) k = none) := by
  induction ds generalizing vs with
  | nil =>
    intro ks k hl
    rw [ros_nil r] at hl ⊢
    cases ks with
    | nil => exact ⟨fun d h => by simp [dlook] at h, fun _ => rfl⟩
    | cons => simp at hl
  | cons x xs ih =>
    intro ks k hl
    obtain ⟨v, us, rfl, h1, r'⟩ := ros_c r
    cases ks with
    | nil => simp at hl
    | cons k' ks =>
      have ih' := ih r' (ks := ks) (k := k) (by simpa using hl)
      rw [List.zip_cons_cons]
      by_cases hk : k' = k
      · rw [valV_pos (p := (k', v)) hk]
        refine ⟨fun d h => ?_, fun h => ?_⟩
        · simp [dlook, hk] at h; subst h; exact ⟨v, rfl, h1⟩
        · simp [dlook, hk] at h
      · rw [valV_neg (p := (k', v)) hk]
        refine ⟨fun d h => ih'.1 d (by simpa [dlook, hk] using h), fun h => ih'.2 (by simpa [dlook, hk] using h)⟩
def keyOf : D → Option Key
  | .im (.int i) => some (.inl i)
  | .im (.str s) => some (.inr s)
  | _ => none
theorem ros_key {B S : Hp} {d : D} {v : V} {k : Key} (r : Ros T B S [d] [v]) (h : keyOf d = some k) : v = kV k := by
  unfold keyOf at h
  split at h
  · cases h; cases ros_im1 r; rfl
  · cases h; cases ros_im1 r; rfl
  · cases h
def ixG (i : Int) : D → Option D
  | .lst xs => atI xs i
  | .tup xs => atI xs i
  | .scr ns => (atI ns i).map fun n => .im (.int n)
  | _ => none
theorem acc_ix (i : Int) : Acc T (ixG i) (fun H v u => ∃ p xs, v = .ref p ∧ (SqL T.K H p xs ∨ SqT T.K H p xs) ∧ atI xs i = some u) := by
  intro B S H d v x s b r h
  cases d <;> simp [ixG] at h
  · obtain ⟨a, ws, rfl, h1, q⟩ := ros_lst r
    obtain ⟨u, h2, h3⟩ := ros_atI q h
    exact ⟨u, h3, a, ws, rfl, .inl (SqL.of (s _ _ h1)), h2⟩
  · obtain ⟨a, ws, rfl, h1, q⟩ := ros_tup r
    obtain ⟨u, h2, h3⟩ := ros_atI q h
    exact ⟨u, h3, a, ws, rfl, .inr (SqT.of (b _ _ h1)), h2⟩
  · rename_i ns
    obtain ⟨n, hn, rfl⟩ := h
    cases r with
    | scr h1 _ =>
      refine ⟨.int n, .im rfl .nil, _, _, rfl, .inl (sql_mono s h1), ?_⟩
      unfold atI at hn ⊢
      rw [List.length_map]
      cases hj : ixN ns.length i with
      | none => rw [hj] at hn; cases hn
      | some j => rw [hj] at hn; simpa using hn
def dkG (k : Key) : D → Option D
  | .dct ks xs => dlook ks xs k
  | _ => none
theorem acc_dk (k : Key) : Acc T (dkG k) (fun H v u => ∃ p, v = .ref p ∧ DGet H p (kV k) (some u)) := by
  intro B S H d v x s b r h
  cases d <;> simp [dkG] at h
  obtain ⟨a, ws, rfl, h1, hl, q⟩ := ros_dct r
  obtain ⟨u, h2, h3⟩ := (ros_look q hl).1 _ h
  exact ⟨u, h3, a, rfl, .inl ⟨_, k, rd_mono s h1, rfl, h2.symm⟩⟩
def fIxS : List D → Option D
  | [.im (.str z), .im (.int i)] => if z.length ≤ 1000000 then (atI z.cps.toList i).map fun c => .im (.str ⟨#[c]⟩) else none
  | _ => none
theorem vs_ixS : VS2 T fIxS rIxS := by
  intro B H ds vs z bh ro h
  unfold fIxS at h
  split at h
  · split at h
    · rename_i hz
      simp only [Option.map_eq_some_iff] at h
      obtain ⟨c, hc, rfl⟩ := h
      rw [ros_im2 ro]
      exact .im rfl fun Q k => ⟨_, _, rfl, _, _, c, rfl, rfl, le_line hz, hc, k⟩
    · cases h
  · cases h
/-- a part by a place that is reckoned -/
@[simp] def mSub (g : D → Option (D → Option D)) (ma mb : ME) : ME := fun env => match ma env with
  | .ok ra => match mb env with
    | .ok rb => match g rb.d with
      | some f => subR ra f
      | none => .er
    | .ex x => .ex x
    | .er => .er
  | .ex x => .ex x
  | .er => .er
def gIx : D → Option (D → Option D)
  | .im (.int i) => some (ixG i)
  | _ => none
def gDk (d : D) : Option (D → Option D) := (keyOf d).map dkG
theorem ep_sub {g : D → Option (D → Option D)} {r : R2} {P : D → Hp → V → V → Prop} (hg : ∀ d f, g d = some f → Acc T f (P d)) (hr : ∀ B S H d y x u Q, Same B H → Ros T B S [d] [y] → (g d).isSome = true → P d H x u → Q u H → r x y H Q)
    (h : PE X e (tOp r (tP T W ma) (tP T W mb))) : PE X e (tP T W (mSub g ma mb)) := by
  refine pe_of h fun σ H Q ⟨S, B, env, mss, R, q⟩ => ⟨S, B, env, mss, R, ?_⟩
  cases ha : ma env with
  | ok ra =>
    intro S1 B1 H1 v g1 f1
    simp only [mSub, ha] at q
    have R1 := R.grow g1
    refine ⟨S1, B1, env, mss, R1, ?_⟩
    cases hb : mb env with
    | ok rb =>
      intro S2 B2 H2 w g2 f2
      simp only [hb] at q
      cases hf : g rb.d with
      | none => simp only [hf] at q; exact q.elim
      | some f =>
        simp only [hf] at q
        have R2' := R1.grow g2
        cases hs : subR ra f with
        | ok r' =>
          rw [hs] at q
          obtain ⟨u, hu, p⟩ := subR_ok (hg _ _ hf) R2' (f1.grow R1 g2) hs
          exact hr B2 H2 H2 _ w v u Q (R2'.bs.trans R2'.sh) (f2.read R2') (by rw [hf]; rfl) p (q S2 B2 H2 u (g1.trans g2) hu)
        | ex x => unfold subR at hs; split at hs <;> split at hs <;> first | cases hs | (split at hs <;> first | cases hs | (split at hs <;> cases hs))
        | er => rw [hs] at q; exact q.elim
    | ex x => simp only [hb] at q; exact q.grow g1
    | er => simp only [hb] at q; exact q
  | ex x => simp only [mSub, ha] at q; exact q
  | er => simp only [mSub, ha] at q; exact q
/-- xs[i], t[i], s[i], d[k] -/
@[simp] def ixKind : D → Nat
  | .im _ => 2
  | .dct _ _ => 1
  | .fz (.dct _ _) => 1
  | _ => 0
@[simp] def mIx (ma mb : ME) : ME := fun env => match ma env with
  | .ok ra => if ixKind ra.d = 2 then m2 fIxS ma mb env else if ixKind ra.d = 1 then mSub gDk ma mb env else mSub gIx ma mb env
  | _ => mSub gIx ma mb env
theorem ep_ix (hK : X.K = T.K) (hu : X.A.units + 1 < cLine) (ha : PE X a (tP T W ma)) (hb : PE X b (tP T W mb)) (hs : PlainIx b) (hs2 : NoSl b) : PE X (.Subscript a b pos) (tP T W (mIx ma mb)) := by
  have p1 : PE X (.Subscript a b pos) (tP T W (mSub gIx ma mb)) := by
    refine ep_sub (r := rIx X.K) (P := fun d H v u => ∃ i, d = .im (.int i) ∧ ∃ p xs, v = .ref p ∧ (SqL T.K H p xs ∨ SqT T.K H p xs) ∧ atI xs i = some u) (fun d f h => ?_) (fun B S H d y x u Q bh ry hg p q => ?_) (pe_ix ix_seq ha hb hs)
    · unfold gIx at h
      split at h
      · rename_i i
        cases h
        intro B S H d v x s b r h
        obtain ⟨u, h1, h2⟩ := acc_ix i B S H d v x s b r h
        exact ⟨u, h1, i, rfl, h2⟩
      · cases h
    · obtain ⟨i, rfl, p, xs, rfl, hsq, hat⟩ := p
      cases ros_im1 ry
      rcases hsq with hsq | hsq
      · exact .inl ⟨p, xs, i, u, rfl, rfl, hK ▸ hsq, hat, q⟩
      · exact .inr (.inl ⟨p, xs, i, u, rfl, rfl, hK ▸ hsq, hat, q⟩)
  have p2 : PE X (.Subscript a b pos) (tP T W (mSub gDk ma mb)) := by
    refine ep_sub (r := fun x y H Q => ∃ a v, x = .ref a ∧ DGet H a y (some v) ∧ Q v H) (P := fun d H v u => ∃ k, keyOf d = some k ∧ ∃ p, v = .ref p ∧ DGet H p (kV k) (some u)) (fun d f h => ?_) (fun B S H d y x u Q bh ry hg p q => ?_) (pe_dget hu ha hb hs2)
    · unfold gDk at h
      simp only [Option.map_eq_some_iff] at h
      obtain ⟨k, hk, rfl⟩ := h
      intro B S H d v x s b r h
      obtain ⟨u, h1, h2⟩ := acc_dk k B S H d v x s b r h
      exact ⟨u, h1, k, hk, h2⟩
    · obtain ⟨k, hk, p, rfl, hd⟩ := p
      rw [ros_key ry hk]
      exact ⟨p, u, rfl, hd, q⟩
  have p3 : PE X (.Subscript a b pos) (tP T W (m2 fIxS ma mb)) := ep_2 vs_ixS (pe_of (pe_ix ix_seq ha hb hs) fun σ H Q q => by
    show tOp (rIx X.K) _ _ σ H Q
    obtain ⟨S, B, env, mss, R, q⟩ := q
    refine ⟨S, B, env, mss, R, ?_⟩
    revert q
    cases ma env with
    | ok ra =>
      intro q S1 B1 H1 v g f
      obtain ⟨S, B, env, mss, R, q⟩ := q S1 B1 H1 v g f
      refine ⟨S, B, env, mss, R, ?_⟩
      revert q
      cases mb env with
      | ok rb => exact fun q S1 B1 H1 v g f => .inr (.inr (q S1 B1 H1 v g f))
      | ex x => exact fun q => q
      | er => exact fun q => q
    | ex x => exact fun q => q
    | er => exact fun q => q)
  refine ep_or p1 (ep_or (m := fun env => match ma env with | .ok ra => (if ixKind ra.d = 2 then m2 fIxS ma mb env else mSub gDk ma mb env) | _ => mSub gDk ma mb env) p2 p3 fun env => ?_) fun env => ?_
  · cases h : ma env with
    | ok ra =>
      show (if ixKind ra.d = 2 then m2 fIxS ma mb env else mSub gDk ma mb env) = _ ∨ (if ixKind ra.d = 2 then m2 fIxS ma mb env else mSub gDk ma mb env) = _
      by_cases hk : ixKind ra.d = 2
      · rw [if_pos hk]; exact .inr rfl
      · rw [if_neg hk]; exact .inl rfl
    | ex x => exact .inl rfl
    | er => exact .inl rfl
  · cases h : ma env with
    | ok ra =>
      by_cases hk : ixKind ra.d = 2
      · exact .inr (by simp only [mIx, h, hk, if_true])
      · by_cases hk1 : ixKind ra.d = 1
        · exact .inr (by simp only [mIx, h, hk, hk1, if_true, if_false, reduceIte, Nat.reduceEqDiff])
        · exact .inl (by simp only [mIx, h, hk, hk1, if_false])
    | ex x => exact .inl (by simp only [mIx, h])
    | er => exact .inl (by simp only [mIx, h])
end
end Tr
namespace Tr
open PySem L2
theorem lookup_zip {fl : List Str} {ws : List V} {k : Nat} {f : Str} {u : V} (nd : fl.Nodup) (hf : fl[k]? = some f) (hu : ws[k]? = some u) : (fl.zip ws).lookup f = some u := by
  induction fl generalizing ws k with
  | nil => simp at hf
  | cons g fl ih =>
    cases ws with
    | nil => simp at hu
    | cons w ws =>
      rw [List.zip_cons_cons, List.lookup_cons]
      cases k with
      | zero => simp at hf hu; subst hf hu; simp
      | succ k =>
        have hf : fl[k]? = some f := by simpa using hf
        have : (f == g) = false := by
          simp only [beq_eq_false_iff_ne, ne_eq]
          intro z
          subst z
          exact (List.nodup_cons.mp nd).1 (List.mem_of_getElem? hf)
        rw [this]
        exact ih (List.nodup_cons.mp nd).2 hf (by simpa using hu)
/-- field k of class c is f -/
structure FldOk (T : Tab) (c k : Nat) (f : Str) : Prop where
  ex : ∃ C fl, T.cls[c]? = some ⟨C, fl⟩ ∧ fl[k]? = some f ∧ fl.Nodup ∧ Cls T.K C ∧ NoAttr T.K C f ∧ fl.length < 1000
def fldG (c k : Nat) : D → Option D
  | .obj c' ds => if c' = c then ds[k]? else none
  | _ => none
section
variable {X : Cx} {T : Tab} {W : WX} {e a b o : Expr} {es : List Expr} {m ma mb m' : ME} {ms : List ME} {t t' : TE} {pos apos : Pos}
theorem acc_fld {c k : Nat} {f : Str} (F : FldOk T c k f) : Acc T (fldG c k) (fun H v u => ∃ a C dx fs, v = .ref a ∧ H a = some (.ins C dx fs) ∧ Cls T.K C ∧ NoAttr T.K C f ∧ fs.lookup f = some u) := by
  intro B S H d v x s b r h
  cases d <;> simp [fldG] at h
  obtain ⟨rfl, h⟩ := h
  obtain ⟨a, C, dx, fl, ws, rfl, h1, hc, hl, q⟩ := ros_obj r
  obtain ⟨C', fl', hc', hk, nd, cl, na, _⟩ := F.ex
  rw [hc] at hc'
  cases hc'
  obtain ⟨u, h2, h3⟩ := ros_at q h
  exact ⟨u, h3, a, C, dx, _, rfl, s _ _ h1, cl, na, lookup_zip nd hk h2⟩
@[simp] def mFld (c k : Nat) (ma : ME) : ME := fun env => match ma env with
  | .ok ra => subR ra (fldG c k)
  | .ex x => .ex x
  | .er => .er
theorem subR_ex {r : Rs} {g : D → Option D} {x : Exn} : subR r g ≠ .ex x := by
  intro h
  unfold subR at h
  split at h
  · split at h <;> cases h
  · split at h
    · split at h
      · cases h
      · split at h <;> cases h
    · cases h
/-- k in d -/
def fInD (neg : Bool) : List D → Option D
  | [a, b] => match keyOf a, unfz b with
    | some k, .dct ks xs => some (.im (.bl (if neg then !(dlook ks xs k).isSome else (dlook ks xs k).isSome)))
    | _, _ => none
  | _ => none
def rInD (neg : Bool) : R2 := fun y x H Q => ∃ a o, x = .ref a ∧ DGet H a y o ∧ Q (.bl (if neg then !o.isSome else o.isSome)) H
theorem vs_inD {neg : Bool} : VS2 T (fInD neg) (rInD neg) := by
  intro B H ds vs z bh ro h
  unfold fInD at h
  split at h
  · rename_i a b
    split at h
    · rename_i k ks xs hk e
      cases h
      obtain ⟨v, u, rfl, r1, r2⟩ := ros_c2 ro
      have q := ros_unfz bh r2
      rw [e] at q
      obtain ⟨p, ws, rfl, h1, hl, q⟩ := ros_dct q
      rw [ros_key r1 hk]
      have L := ros_look q (k := k) hl
      refine .im rfl fun Q kk => ⟨_, _, rfl, p, valV (ks.zip ws) k, rfl, .inl ⟨_, k, h1, rfl, rfl⟩, ?_⟩
      have es : (valV (ks.zip ws) k).isSome = (dlook ks xs k).isSome := by
        cases e2 : dlook ks xs k with
        | none => rw [L.2 e2]; rfl
        | some d => obtain ⟨u, h, _⟩ := L.1 d e2; rw [h]; rfl
      rw [es]
      exact kk
    · cases h
  · cases h
theorem ep_in (hK : X.K = T.K) (hu : X.A.units + 1 < cLine) (ha : PE X a (tP T W ma)) (hb : PE X b (tP T W mb)) (h1 : behindInMarks .In b = false) : PE X (.Compare a [.In] [b] pos) (tP T W (m2 (orF (fInD false) fIn) ma mb)) :=
  ep_or (ep_2 (vs_inD (neg := false)) (show PE X _ (tOp (rInD false) _ _) from pe_cmp (t := tDIn (tP T W ma) (tP T W mb)) (pc_din hu ha hb) h1)) (ep_2 (hK ▸ vs_in) (pe_cmpR op_inP ha hb h1)) (m2_or ma mb)
end
inductive FR where
  | ok (d : D) (as : En)
  | ex (x : Exn) (as : En)
  | er
def FP (T : Tab) (S B : Hp) (vs : List V) (Q : VK) (E : XK) : FR → Prop
  | .ok d as => ∀ S' B' H' v ms mss, Gw S B S' B' → SRx T S' B' as mss (vs.map some) H' → Owns T B' [d] [v] ms → CellsOk S' H' ms → (∀ (i : Nat) (m : Cells), mss[i]? = some m → Apart m ms) → Q v H'
  | .ex x as => ∀ S' B' H' mss cls dd, Gw S B S' B' → SRx T S' B' as mss (vs.map some) H' → ExF T H' x cls dd → E cls dd H'
  | .er => False
def spF (T : Tab) (n : Nat) (mf : List Slot → FR) : Sp := fun vs H Q E => vs.length = n ∧ ∃ S B as mss, SRx T S B (as.map some) mss (vs.map some) H ∧ FP T S B vs Q E (mf as)
section
variable {X : Cx} {T : Tab} {W : WX} {e o : Expr} {es : List Expr} {ms : List ME} {pos apos p : Pos} {k n : Nat} {f : Addr} {fd : FuncData} {ps : List Str} {mf : List Slot → FR} {x : Str}
/-- f(..) whose arguments are only read -/
@[simp] def mCall (mf : List Slot → FR) (ms : List ME) : ME := fun env => match mAs ms env with
  | .ok rs => match mf (rs.map fun r => .ro r.d) with
    | .ok d _ => .ok (.own d)
    | .ex x _ => .ex x
    | .er => .er
  | .ex x => .ex x
  | .er => .er
/-- what is known, but the tables -/
def nT (T : Tab) (H : Hp) : Hp := fun a => if a ∈ T.tbs.map (·.1) then none else H a
theorem nT_at {T : Tab} {H : Hp} {a : Addr} {o : HO} (h : nT T H a = some o) : H a = some o ∧ a ∉ T.tbs.map (·.1) := by
  unfold nT at h
  split at h
  · cases h
  · rename_i n; exact ⟨h, n⟩
theorem nT_le {T : Tab} {H : Hp} : Same (nT T H) H := fun _ _ h => (nT_at h).1
theorem nT_off {T : Tab} {H : Hp} {p : Addr × Str} (hp : p ∈ T.tbs) : nT T H p.1 = none := if_pos (List.mem_map.mpr ⟨p, hp, rfl⟩)
abbrev TbOk (T : Tab) (S H : Hp) : Prop := ∀ p ∈ T.tbs, TabW H p.1 ∧ S p.1 = none
abbrev TcOk (T : Tab) (B H : Hp) : Prop := ∀ p ∈ T.tbs, TabC B H p.1 p.2
theorem nT_of {T : Tab} {S H : Hp} (tb : TbOk T S H) {a : Addr} {o : HO} (h : H a = some o) (n : NT o) : nT T H a = some o := by
  unfold nT
  rw [if_neg fun hm => ?_]
  · exact h
  · obtain ⟨p, hp, e⟩ := List.mem_map.mp hm
    obtain ⟨⟨ps, h3, _⟩, _⟩ := tb p hp
    rw [← e, h3] at h
    cases h
    exact n ps rfl
theorem nT_in {T : Tab} {S H : Hp} (tb : TbOk T S H) (sh : Same S H) : Same S (nT T H) := fun a o h => by
  unfold nT
  rw [if_neg fun hm => ?_]
  · exact sh _ _ h
  · obtain ⟨p, hp, e⟩ := List.mem_map.mp hm
    rw [← e, (tb p hp).2] at h
    cases h
theorem nT_tb {T : Tab} {S H : Hp} (tb : TbOk T S H) : TbOk T (nT T H) H := fun p hp => ⟨(tb p hp).1, nT_off hp⟩
/-- all but the tables is kept, the tables are tables -/
theorem nT_N {T : Tab} {S S' H H' : Hp} (tb : TbOk T S H) (s : Same (nT T H) H') (tb' : TbOk T S' H') : SameN T.tbs H H' := ⟨fun a o h n => s _ _ (nT_of tb h n), fun a o h n => s _ _ (by unfold nT; rw [if_neg n]; exact h), fun p hp _ => (tb' p hp).1, fun a h => by
  cases e : nT T H a with
  | some o => rw [s _ _ e] at h; cases h
  | none =>
    unfold nT at e
    split at e
    · rename_i hm
      obtain ⟨p, hp, e2⟩ := List.mem_map.mp hm
      obtain ⟨⟨ps, h3, _⟩, _⟩ := tb' p hp
      rw [← e2, h3] at h; cases h
    · exact e⟩
theorem ros_nT {T : Tab} {S B H : Hp} {ds : List D} {vs : List V} (tb : TbOk T S H) (r : Ros T B H ds vs) : Ros T B (nT T H) ds vs := r.monoN (fun _ _ h n => nT_of tb h n) (Same.refl _)
theorem srx_ros {T : Tab} {S B H : Hp} {ds : List D} {vs : List V} (bs : Same B S) (sh : Same S H) (tb : TbOk T S H) (tc : TcOk T B H) (r : Ros T B H ds vs) : SRx T (nT T H) B ((ds.map Slot.ro).map some) (vs.map fun _ => ([] : Cells)) (vs.map some) H := by
  have l := r.len
  refine ⟨bs.trans (nT_in tb sh), nT_le, by simp [l], by simp, fun i e s m h1 h2 h3 => ?_, fun i m h => ?_, fun i j m m' _ h1 h2 => ?_, nT_tb tb, tc⟩
  · simp only [List.getElem?_map, Option.map_eq_some_iff] at h1 h2 h3
    obtain ⟨_, ⟨d, hd, rfl⟩, rfl⟩ := h1
    obtain ⟨v, hv, rfl⟩ := h2
    obtain ⟨_, _, rfl⟩ := h3
    obtain ⟨v', hv', q⟩ := ros_at r hd
    rw [hv] at hv'; cases hv'
    exact ⟨rfl, ros_nT tb q⟩
  · simp only [List.getElem?_map, Option.map_eq_some_iff] at h
    obtain ⟨_, _, rfl⟩ := h
    exact ⟨.nil, fun _ h => nomatch h⟩
  · simp only [List.getElem?_map, Option.map_eq_some_iff] at h1
    obtain ⟨_, _, rfl⟩ := h1
    exact fun c hc => nomatch hc
theorem nT_up {T : Tab} {H H' : Hp} (s : SameN T.tbs H H') : Same (nT T H) (nT T H') := fun a o h => by
  obtain ⟨h1, h2⟩ := nT_at h
  unfold nT
  rw [if_neg h2]
  exact s.m _ _ h1 h2
theorem nT_free {T : Tab} {B H S' B' H' : Hp} (b2 : Same B' S') (tb' : TbOk T S' H') (n : ∀ a o, B' a = some o → B a = some o ∨ nT T H a = none) : ∀ a o, B' a = some o → B a = some o ∨ H a = none := fun a u h => by
  rcases n a u h with q | q
  · exact .inl q
  · unfold nT at q
    split at q
    · rename_i hm
      obtain ⟨p, hp, e2⟩ := List.mem_map.mp hm
      have z := (tb' p hp).2
      rw [e2, b2 _ _ h] at z; cases z
    · exact .inr q
/-- D was free, holds a list or a dict now, is written -/
theorem same_new {L : List (Addr × Str)} {H1 H4 : Hp} {D : Addr} {o : HO} (hD : H1 D = none) (s : SameN L H1 H4) : SameN L H1 (upd H4 D o) := by
  have ne : ∀ {a u}, H1 a = some u → a ≠ D := fun h z => by rw [z, hD] at h; cases h
  refine ⟨fun a u h n => by rw [upd_ne (ne h)]; exact s.n _ _ h n, fun a u h n => by rw [upd_ne (ne h)]; exact s.m _ _ h n, fun p hp h => ?_, fun a h => ?_⟩
  · obtain ⟨ps0, h0, _⟩ := id h
    obtain ⟨ps, h1, _⟩ := s.t p hp h
    exact ⟨ps, by rw [upd_ne (ne h0)]; exact h1, trivial⟩
  · by_cases z : a = D
    · rw [z]; exact hD
    · rw [upd_ne z] at h; exact s.f _ h
theorem nT_ne {T : Tab} {S H : Hp} (tb : TbOk T S H) {a : Addr} {o : HO} (h : H a = some o) (n : NT o) : a ∉ T.tbs.map (·.1) := fun hm => by
  obtain ⟨p, hp, e⟩ := List.mem_map.mp hm
  obtain ⟨⟨ps, h3, _⟩, _⟩ := tb p hp
  rw [← e, h3] at h
  exact n ps (Option.some.inj h).symm
theorem nT_upd {T : Tab} {H : Hp} {a : Addr} {o : HO} (h : a ∉ T.tbs.map (·.1)) : nT T (upd H a o) = upd (nT T H) a o := by
  funext b
  by_cases e : b = a
  · subst e; unfold nT; rw [if_neg h, upd_same, upd_same]
  · unfold nT; rw [upd_ne e, upd_ne e]
/-- behind steps by which all but the tables stays: B2, which has grown -/
theorem tb_far {T : Tab} {S1 B1 H1 B2 Hx : Hp} (tb : TbOk T S1 H1) (bs : Same B1 S1) (k : SameN T.tbs H1 Hx) (k6 : ∀ a o, B2 a = some o → B1 a = some o ∨ H1 a = none) : TbOk T B2 Hx := fun p hp => ⟨k.t p hp (tb p hp).1, by
  cases e : B2 p.1 with
  | none => rfl
  | some o =>
    obtain ⟨⟨ps, h3, _⟩, h4⟩ := tb p hp
    rcases k6 _ _ e with z | z
    · rw [bs _ _ z] at h4; cases h4
    · rw [h3] at z; cases z⟩
/-- a dict was locked at a for a while -/
theorem same_back {L : List (Addr × Str)} {H Hx : Hp} {a : Addr} {o u : HO} (ha : H a = some o) (n : NT o) (nu : NT u) (k : SameN L (upd H a u) Hx) : SameN L H (upd Hx a o) := by
  have hx : Hx a = some u := k.n _ _ upd_same nu
  refine ⟨fun b w h nw => ?_, fun b w h nw => ?_, fun p hp h => ?_, fun b h => ?_⟩
  · by_cases e : b = a
    · subst e; rw [upd_same, ← ha]; exact h
    · rw [upd_ne e]; exact k.n _ _ (by rw [upd_ne e]; exact h) nw
  · by_cases e : b = a
    · subst e; rw [upd_same, ← ha]; exact h
    · rw [upd_ne e]; exact k.m _ _ (by rw [upd_ne e]; exact h) nw
  · obtain ⟨ps, h1, _⟩ := h
    obtain ⟨ps, h1, _⟩ := k.t p hp ⟨ps, by rw [upd_ne (fun z => by rw [z, ha] at h1; exact n ps (Option.some.inj h1))]; exact h1, trivial⟩
    exact ⟨ps, by rw [upd_ne (fun z => by rw [z, hx] at h1; exact nu ps (Option.some.inj h1))]; exact h1, trivial⟩
  · by_cases e : b = a
    · subst e; rw [upd_same] at h; cases h
    · rw [upd_ne e] at h
      have := k.f _ h
      rwa [upd_ne e] at this
theorem nT_none {T : Tab} {H : Hp} {a : Addr} (h : H a = none) : nT T H a = none := by unfold nT; split <;> first | rfl | exact h
theorem tb_sub {T : Tab} {B S H : Hp} (b : Same B S) (tb : TbOk T S H) : TbOk T B H := fun p hp => ⟨(tb p hp).1, b.free (tb p hp).2⟩
/-- S and B together -/
def Jn (S B : Hp) : Hp := fun a => match S a with
  | some o => some o
  | none => B a
theorem gr_pure {T : Tab} {S B H S' B' H' : Hp} (bs : Same B S) (sh : Same S H) (tb : TbOk T S H) (g : Gw (nT T H) B S' B') (b2 : Same B' S') (s2 : Same S' H') (tb' : TbOk T S' H') (tc' : TcOk T B' H') : Gr T.tbs S B H (Jn S B') B' H' := by
  have hh : SameN T.tbs H H' := nT_N tb (g.s.trans s2) tb'
  have sn := nT_in tb sh
  have key : ∀ a u, B' a = some u → B a = some u ∨ H a = none := fun a u h => by
    rcases g.n a u h with q | q
    · exact .inl q
    · unfold nT at q
      split at q
      · rename_i hm
        obtain ⟨p, hp, e2⟩ := List.mem_map.mp hm
        have z := (tb' p hp).2
        rw [e2, b2 _ _ h] at z; cases z
      · exact .inr q
  refine ⟨⟨fun a u h => by unfold Jn; rw [h], g.b, fun a u h => ?_⟩, hh, fun p hp _ => tc' p hp, fun a u h => ?_, fun a u h => ?_, fun a u h => ?_⟩
  · rcases key a u h with q | q
    · exact .inl q
    · exact .inr (sh.free q)
  · unfold Jn at h
    cases e : S a with
    | some w => rw [e] at h; exact .inl h
    | none =>
      rw [e] at h
      rcases key a u h with q | q
      · exact .inl (by rw [← e]; exact bs _ _ q)
      · exact .inr q
  · unfold Jn at h
    cases e : S a with
    | some w => rw [e] at h; cases h; exact s2 _ _ (g.s _ _ (sn _ _ e))
    | none => rw [e] at h; exact s2 _ _ (b2 _ _ h)
  · unfold Jn
    cases e : S a with
    | some w =>
      rcases key a u h with q | q
      · rw [bs _ _ q] at e; cases e; rfl
      · rw [sh _ _ e] at q; cases q
    | none => exact h
theorem own_pure {S H S' B' H' : Hp} {T : Tab} {mss : List Cells} {d : D} {v : V} {ms : Cells} (sh : Same S H) (tb : TbOk T S H) (tb' : TbOk T S' H') (w : Same (nT T H) S') (o : Owns T B' [d] [v] ms) (c : CellsOk S' H' ms) (b2 : Same B' S') : RF T (Jn S B') B' H' H mss (.own d) v := by
  refine ⟨ms, o, ⟨c.1, fun x hx => ⟨(c.2 x hx).1, ?_⟩⟩, fun x hx => ?_⟩
  · have n2 := (c.2 x hx).2
    unfold Jn
    rw [((nT_in tb sh).trans w).free n2]
    exact b2.free n2
  · have z := w.free (c.2 x hx).2
    unfold nT at z
    split at z
    · rename_i hm
      obtain ⟨p, hp, e2⟩ := List.mem_map.mp hm
      obtain ⟨⟨ps, h3, _⟩, _⟩ := tb' p hp
      have h4 := (c.2 x hx).1
      rw [← e2, h3] at h4
      exact absurd (Option.some.inj h4).symm (o.nt x hx ps)
    · exact z
theorem mAs_len {ms : List ME} {env : En} : ∀ {rs : List Rs}, mAs ms env = .ok rs → rs.length = ms.length := by
  induction ms with
  | nil => intro rs h; simp [mAs] at h; subst h; rfl
  | cons m ms ih =>
    intro rs h
    simp only [mAs] at h
    split at h
    · split at h
      · rename_i h'; cases h; simp [ih h']
      · cases h
      · cases h
    · cases h
    · cases h
theorem ep_call (F : FnOk X.prog X.w X.K X.mg X.base (L2.CX X.prog X.w) k f fd ps (spF T n mf)) (hr : Room k X.A) (hg : Gl X x) (hm : X.mg x = some (.ref f)) (hk : PySem.W.keepIn X.K (.ref f) = true) (hb : Binds X.K fd ps []) (tk : Takes X W)
    (ha : PA X (e :: es) (tPR T W ms)) (hn : ms.length = n := by rfl) (hdb : (x == ("__debug__" : Str)) = false := by decide) (he : starEach (e :: es) X.env = (false, eval e X.env) :: starEach es X.env := by rfl) (hpl : (backTo pos (starEach es X.env)).any (·.1) = false := by rfl) :
    PE X (.Call (.Name x p) (e :: es) [] pos) (tP T W (mCall mf ms)) := by
  refine pe_of (pe_callS F hr hg hm hk hb (fun σ => passAt tk σ) ha hdb he hpl) fun σ H Q ⟨S, B, env, mss, R, q⟩ => ⟨S, B, env, mss, R, ?_⟩
  cases hrs : mAs ms env with
  | ok rs =>
    intro S1 B1 H1 vs g r
    have R1 := R.grow g
    have bh := R1.bs.trans R1.sh
    have hl : vs.length = n := by
      have l1 := r.len
      have l2 : rs.length = ms.length := mAs_len hrs
      rw [← l1, List.length_map, l2, hn]
    have e1 : rs.map (fun r => Slot.ro r.d) = (rs.map Rs.d).map Slot.ro := by simp
    refine ⟨hl, nT T H1, B1, (rs.map Rs.d).map Slot.ro, vs.map fun _ => [], srx_ros R1.bs R1.sh R1.tb R1.tc r, ?_⟩
    simp only [mCall, hrs, e1] at q
    cases hz : mf ((rs.map Rs.d).map Slot.ro) with
    | ok d as =>
      rw [hz] at q
      intro S' B' H' v m' mss' gw R' o c _
      have g' := gr_pure R1.bs R1.sh R1.tb gw R'.bs R'.sh R'.tb R'.tc
      exact q _ _ _ _ (g.trans g') ((own_pure R1.sh R1.tb R'.tb gw.s o c R'.bs).back g.h)
    | ex x as =>
      rw [hz] at q
      intro S' B' H' mss' cls dd gw R' ef
      have g' := gr_pure R1.bs R1.sh R1.tb gw R'.bs R'.sh R'.tb R'.tc
      exact q _ _ _ _ _ (g.trans g') ef
    | er => rw [hz] at q; exact q.elim
  | ex x => simp only [mCall, hrs] at q; exact q
  | er => simp only [mCall, hrs] at q; exact q
end
end Tr
namespace Tr
open PySem L2
inductive EO where
  | ok (r : Rs) (env : En)
  | ex (x : Exn) (env : En)
  | er
abbrev EE := En → EO
def RFe (T : Tab) (S B H : Hp) (mss : List Cells) : Rs → V → Prop
  | .own d, v => ∃ ms, Owns T B [d] [v] ms ∧ CellsOk S H ms ∧ ∀ (i : Nat) (m : Cells), mss[i]? = some m → Apart m ms
  | .ro d, v => Ros T B S [d] [v]
  | .bor i d, v => ∃ m, mss[i]? = some m ∧ Ros T B (Wi S m) [d] [v]
def PO (T : Tab) (W : WX) (S B : Hp) (σ : L2.St) (Q : VK) : EO → Prop
  | .ok r env => ∀ S' B' H' mss v, Gw S B S' B' → SRx T S' B' env mss σ H' → RFe T S' B' H' mss r v → Q v H'
  | .ex x env => ∀ S' B' H' mss cls d, Gw S B S' B' → SRx T S' B' env mss σ H' → ExF T H' x cls d → W cls d σ H'
  | .er => False
def tE (T : Tab) (W : WX) (m : EE) : TE := fun σ H Q => ∃ S B env mss, SRx T S B env mss σ H ∧ PO T W S B σ Q (m env)
@[simp] def liftE (m : ME) : EE := fun env => match m env with
  | .ok r => .ok r env
  | .ex x => .ex x env
  | .er => .er
section
variable {X : Cx} {T : Tab} {W : WX} {e a b : Expr} {es : List Expr} {m : ME} {S B H S' B' H' : Hp} {env : En} {mss : List Cells} {σ : L2.St} {r : Rs} {v : V} {pos : Pos}
theorem RF.toE (R : SRx T S B env mss σ H) (f : RF T S' B' H' H mss r v) : RFe T S' B' H' mss r v := by
  cases r with
  | own d =>
    obtain ⟨ms, h1, h2, h3⟩ := f
    refine ⟨ms, h1, h2, fun i m hm c hc x hx z => ?_⟩
    have := ((R.ok i m hm).2 c hc).1
    rw [z, h3 x hx] at this
    cases this
  | ro d => exact f
  | bor i d => exact f
theorem i_p {σ : L2.St} {H : Hp} {Q : VK} (h : tE T W (liftE m) σ H Q) : tP T W m σ H Q := by
  obtain ⟨S, B, env, mss, R, q⟩ := h
  refine ⟨S, B, env, mss, R, ?_⟩
  cases hm : m env with
  | ok r =>
    simp only [liftE, hm] at q
    exact fun S' B' H' v g f => q S' B' H' mss v g.w (R.grow g) (RF.toE R f)
  | ex x =>
    simp only [liftE, hm] at q
    exact fun S' B' H' cls d g f => q S' B' H' mss cls d g.w (R.grow g) f
  | er => simp only [liftE, hm] at q; exact q
theorem ee_p (h : PE X e (tP T W m)) : PE X e (tE T W (liftE m)) := pe_of h fun _ _ _ => i_p
/-- a name's data: a copy where it may be copied, else its own is given away -/
@[simp] def eMv (i : Nat) : EE := fun env => match env[i]? with
  | some (some (.own d)) => if copyD d then .ok (.own d) env else .ok (.own d) (env.set i none)
  | some (some (.ro d)) => .ok (if copyD d then .own d else .ro d) env
  | _ => .er
theorem SRx.drop (R : SRx T S B env mss σ H) (i : Nat) : ∃ mss', SRx T S B (env.set i none) mss' σ H ∧ (∀ j m, mss'[j]? = some m → m = [] ∨ (j ≠ i ∧ mss[j]? = some m)) := by
  by_cases hi : i < σ.length
  · refine ⟨mss.set i [], ?_, fun j m h => ?_⟩
    · have q := R.set (i := i) (e := none) (s := σ[i]) (m := []) rfl ⟨.nil, fun _ h => nomatch h⟩ (fun _ _ _ _ _ _ _ h => nomatch h)
      rwa [List.set_getElem_self] at q
    · rcases set_at h with ⟨_, rfl⟩ | h
      · exact .inl rfl
      · exact .inr h
  · have e1 : env.set i none = env := List.set_eq_of_length_le (by rw [R.l1]; omega)
    rw [e1]
    refine ⟨mss, R, fun j m h => .inr ⟨fun z => ?_, h⟩⟩
    have := (List.getElem?_eq_some_iff.mp h).1
    rw [R.l2] at this
    omega
theorem RFe.cpy {d : D} {X : Hp} (h : Ros T B X [d] [v]) (hc : copyD d = true) : RFe T S B H mss (.own d) v := ⟨[], copy_own h (copy1 hc), ⟨.nil, fun _ h => nomatch h⟩, fun _ _ _ _ _ _ h => nomatch h⟩
theorem ee_mv {i : Nat} (h : PE X e (tVar i)) : PE X e (tE T W (eMv i)) := by
  refine pe_of h fun σ H Q ⟨S, B, env, mss, R, q⟩ => ?_
  cases hd : env[i]? with
  | none => simp only [eMv, hd] at q; exact q.elim
  | some o =>
  cases o with
  | none => simp only [eMv, hd] at q; exact q.elim
  | some o =>
  cases o with
  | ro d =>
    simp only [eMv, hd] at q
    obtain ⟨v, h1, h2⟩ := R.ro hd
    refine ⟨v, h1, q S B H mss v Gw.refl R ?_⟩
    split
    · rename_i hc; exact RFe.cpy h2 hc
    · exact h2
  | own d =>
    simp only [eMv, hd] at q
    obtain ⟨v, m, h1, h2, h3, h4⟩ := R.own hd
    split at q
    · rename_i hc
      exact ⟨v, h1, q S B H mss v Gw.refl R (RFe.cpy (h3.ro (R.bs.trans R.sh) fun c hc => (h4.2 c hc).1) hc)⟩
    · obtain ⟨mss', R', hm⟩ := R.drop i
      refine ⟨v, h1, q S B H mss' v Gw.refl R' ⟨m, h3, h4, fun j m' hj => ?_⟩⟩
      rcases hm j m' hj with rfl | ⟨hne, hj⟩
      · exact fun c hc => nomatch hc
      · exact R.ap j i _ _ hne hj h2
inductive TO' where
  | ok (b : Bool) (env : En)
  | ex (x : Exn) (env : En)
  | er
abbrev MT := En → TO'
def PTo (T : Tab) (W : WX) (S B : Hp) (σ : L2.St) (Q : Bool → Hp → Prop) : TO' → Prop
  | .ok b env => ∀ S' B' H' mss, Gw S B S' B' → SRx T S' B' env mss σ H' → Q b H'
  | .ex x env => ∀ S' B' H' mss cls d, Gw S B S' B' → SRx T S' B' env mss σ H' → ExF T H' x cls d → W cls d σ H'
  | .er => False
def tT (T : Tab) (W : WX) (m : MT) : TT := fun σ H Q => ∃ S B env mss, SRx T S B env mss σ H ∧ PTo T W S B σ Q (m env)
theorem PTo.gw {Q : Bool → Hp → Prop} {z : TO'} (p : PTo T W S B σ Q z) (g : Gw S B S' B') : PTo T W S' B' σ Q z := by
  cases z with
  | ok b env => exact fun S2 B2 H2 mss g2 R => p S2 B2 H2 mss (g.trans g2) R
  | ex x env => exact fun S2 B2 H2 mss cls d g2 R f => p S2 B2 H2 mss cls d (g.trans g2) R f
  | er => exact p
theorem pt_of {t t' : TT} (h : PT X e t) (i : ∀ σ H Q, t' σ H Q → t σ H Q) : PT X e t' := ⟨fun pins s σ H Q I q => h.run pins s σ H Q I (i σ H Q q)⟩
/-- an expression's truth value, as a test -/
@[simp] def tBl (m : EE) : MT := fun env => match m env with
  | .ok (.own (.im (.bl b))) env => .ok b env
  | .ex x env => .ex x env
  | _ => .er
theorem own_im {ms : Cells} (h : Owns T B [.im v] [v'] ms) : v' = v := by cases h; rfl
theorem te_bl {m : EE} (h : PT X e (tB (tE T W m))) : PT X e (tT T W (tBl m)) := by
  refine pt_of h fun σ H Q ⟨S, B, env, mss, R, q⟩ => ⟨S, B, env, mss, R, ?_⟩
  cases hm : m env with
  | ok r env' =>
    intro S' B' H' mss' v g R' f
    simp only [tBl, hm] at q
    split at q
    · rename_i b env2 e
      cases e
      obtain ⟨ms, h1, _⟩ := f
      exact ⟨b, own_im h1, q S' B' H' mss' g R'⟩
    · rename_i x env2 e; cases e
    · exact q.elim
  | ex x env' => simp only [tBl, hm] at q; exact q
  | er => simp only [tBl, hm] at q; exact q
theorem ptB_of {t t' : TE} (h : PT X e (tB t)) (i : ∀ σ H Q, t' σ H Q → t σ H Q) : PT X e (tB t') := pt_of h fun σ H Q q => i σ H _ q
theorem te_cmp {f : List D → Option D} {r : R2} {ma mb : ME} (hf : VS2 T f r) (h : PT X e (tB (tOp r (tP T W ma) (tP T W mb)))) : PT X e (tT T W (tBl (liftE (m2 f ma mb)))) := te_bl (ptB_of (ptB_of h fun _ _ _ => i_2 hf) fun _ _ _ => i_p)
theorem ptB_or {ma mb m : ME} (h1 : PT X e (tB (tP T W ma))) (h2 : PT X e (tB (tP T W mb))) (h : ∀ env, m env = ma env ∨ m env = mb env) : PT X e (tB (tP T W m)) := by
  refine ⟨fun pins s σ H Q I q => ?_⟩
  obtain ⟨S, B, env, mss, R, q⟩ := q
  rcases h env with z | z
  · rw [z] at q; exact h1.run pins s σ H Q I ⟨S, B, env, mss, R, q⟩
  · rw [z] at q; exact h2.run pins s σ H Q I ⟨S, B, env, mss, R, q⟩
theorem te_in {ma mb : ME} (hK : X.K = T.K) (hu : X.A.units + 1 < cLine) (ha : PE X a (tP T W ma)) (hb : PE X b (tP T W mb)) (h1 : behindInMarks .In b = false) : PT X (.Compare a [.In] [b] pos) (tT T W (tBl (liftE (m2 (orF (fInD false) fIn) ma mb)))) :=
  te_bl (ptB_of (ptB_or (ptB_of (show PT X _ (tB (tOp (rInD false) _ _)) from pt_cmp (t := tDIn (tP T W ma) (tP T W mb)) (pc_din hu ha hb) h1) fun _ _ _ => i_2 (vs_inD (neg := false))) (ptB_of (show PT X _ (tB (tOp _ _ _)) from pt_cmpR op_inP ha hb h1) fun _ _ _ => i_2 (hK ▸ vs_in)) (m2_or ma mb)) fun _ _ _ => i_p)
theorem te_ni {ma mb : ME} (hK : X.K = T.K) (hu : X.A.units + 1 < cLine) (ha : PE X a (tP T W ma)) (hb : PE X b (tP T W mb)) (h1 : behindInMarks .NotIn b = false) : PT X (.Compare a [.NotIn] [b] pos) (tT T W (tBl (liftE (m2 (orF (fInD true) fNi) ma mb)))) :=
  te_bl (ptB_of (ptB_or (ptB_of (show PT X _ (tB (tOp (rInD true) _ _)) from pt_cmp (t := tDNotIn (tP T W ma) (tP T W mb)) (pc_dnotin hu ha hb) h1) fun _ _ _ => i_2 (vs_inD (neg := true))) (ptB_of (show PT X _ (tB (tOp _ _ _)) from pt_cmpR op_niP ha hb h1) fun _ _ _ => i_2 (hK ▸ vs_ni)) (m2_or ma mb)) fun _ _ _ => i_p)
@[simp] def tNo (m : MT) : MT := fun env => match m env with
  | .ok b env => .ok (!b) env
  | .ex x env => .ex x env
  | .er => .er
theorem te_not {m : MT} (h : PT X a (tT T W m)) : PT X (.UnaryOp .Not a pos) (tT T W (tNo m)) := by
  refine pt_of (pt_not h) fun σ H Q ⟨S, B, env, mss, R, q⟩ => ⟨S, B, env, mss, R, ?_⟩
  cases hm : m env with
  | ok b env' => simp only [tNo, hm] at q; exact q
  | ex x env' => simp only [tNo, hm] at q; exact q
  | er => simp only [tNo, hm] at q; exact q
@[simp] def tAn (m n : MT) : MT := fun env => match m env with
  | .ok true env => n env
  | .ok false env => .ok false env
  | .ex x env => .ex x env
  | .er => .er
@[simp] def tO (m n : MT) : MT := fun env => match m env with
  | .ok true env => .ok true env
  | .ok false env => n env
  | .ex x env => .ex x env
  | .er => .er
theorem tAn_ok {m n : MT} {σ : L2.St} {H : Hp} {Q : Bool → Hp → Prop} (h : tT T W (tAn m n) σ H Q) : tAnd (tT T W m) (tT T W n) σ H Q := by
  obtain ⟨S, B, env, mss, R, q⟩ := h
  refine ⟨S, B, env, mss, R, ?_⟩
  cases hm : m env with
  | ok b env' =>
    intro S' B' H' mss' g R'
    simp only [tAn, hm] at q
    cases b with
    | true =>
      show (if true = true then tT T W n σ H' Q else Q false H')
      rw [if_pos rfl]
      exact ⟨S', B', env', mss', R', q.gw g⟩
    | false =>
      show (if false = true then tT T W n σ H' Q else Q false H')
      rw [if_neg Bool.false_ne_true]
      exact q S' B' H' mss' g R'
  | ex x env' => simp only [tAn, hm] at q; exact q
  | er => simp only [tAn, hm] at q; exact q
theorem tO_ok {m n : MT} {σ : L2.St} {H : Hp} {Q : Bool → Hp → Prop} (h : tT T W (tO m n) σ H Q) : tOr (tT T W m) (tT T W n) σ H Q := by
  obtain ⟨S, B, env, mss, R, q⟩ := h
  refine ⟨S, B, env, mss, R, ?_⟩
  cases hm : m env with
  | ok b env' =>
    intro S' B' H' mss' g R'
    simp only [tO, hm] at q
    cases b with
    | true =>
      show (if true = true then Q true H' else tT T W n σ H' Q)
      rw [if_pos rfl]
      exact q S' B' H' mss' g R'
    | false =>
      show (if false = true then Q true H' else tT T W n σ H' Q)
      rw [if_neg Bool.false_ne_true]
      exact ⟨S', B', env', mss', R', q.gw g⟩
  | ex x env' => simp only [tO, hm] at q; exact q
  | er => simp only [tO, hm] at q; exact q
theorem pw_of {t t' : TT} (h : PW X e t) (i : ∀ σ H Q, t' σ H Q → t σ H Q) : PW X e t' := ⟨fun w pins s σ H Q I q => h.run w pins s σ H Q I (i σ H Q q)⟩
theorem tw_and {m n : MT} {rest : List Expr} (ha : PT X a (tT T W m)) (hb : PW X (.BoolOp .And (b :: rest) pos) (tT T W n)) : PW X (.BoolOp .And (a :: b :: rest) pos) (tT T W (tAn m n)) := pw_of (pw_and ha hb) fun _ _ _ => tAn_ok
theorem tw_or {m n : MT} {rest : List Expr} (ha : PT X a (tT T W m)) (hb : PW X (.BoolOp .Or (b :: rest) pos) (tT T W n)) : PW X (.BoolOp .Or (a :: b :: rest) pos) (tT T W (tO m n)) := pw_of (pw_or ha hb) fun _ _ _ => tO_ok
end
inductive SS where
  | nx (env : En)
  | rt (d : D) (env : En)
  | bk (env : En)
  | ct (env : En)
  | ex (x : Exn) (env : En)
  | er
abbrev MS := En → SS
abbrev Pins := Nat → Bool
def Pin (pin : Pins) (σ0 σ : L2.St) : Prop := σ.length = σ0.length ∧ ∀ i : Nat, pin i = true → σ[i]? = σ0[i]?
def PS' (T : Tab) (W : WX) (pin : Pins) (σ0 : L2.St) (S B : Hp) (D : Ends) : SS → Prop
  | .nx env => ∀ S' B' mss σ H, Gw S B S' B' → SRx T S' B' env mss σ H → Pin pin σ0 σ → D.nx σ H
  | .rt d env => ∀ S' B' mss σ H v ms, Gw S B S' B' → SRx T S' B' env mss σ H → Pin pin σ0 σ → Owns T B' [d] [v] ms → CellsOk S' H ms → (∀ (i : Nat) (m : Cells), mss[i]? = some m → Apart m ms) → D.rt v H
  | .bk env => ∀ S' B' mss σ H, Gw S B S' B' → SRx T S' B' env mss σ H → Pin pin σ0 σ → D.bk σ H
  | .ct env => ∀ S' B' mss σ H, Gw S B S' B' → SRx T S' B' env mss σ H → Pin pin σ0 σ → D.ct σ H
  | .ex x env => ∀ S' B' mss σ H cls d, Gw S B S' B' → SRx T S' B' env mss σ H → Pin pin σ0 σ → ExF T H x cls d → W cls d σ H
  | .er => False
def tS (T : Tab) (W : WX) (pin : Pins) (σ0 : L2.St) (m : MS) : TS := fun D σ H => ∃ S B env mss, SRx T S B env mss σ H ∧ Pin pin σ0 σ ∧ PS' T W pin σ0 S B D (m env)
section
variable {X : Cx} {T : Tab} {W : WX} {pin : Pins} {σ0 : L2.St} {e a b c : Expr} {st : Stmt} {sts rest : List Stmt} {S B H S' B' H' : Hp} {env : En} {mss : List Cells} {σ : L2.St} {D : Ends} {pos : Pos} {m n : MS}
theorem PS'.gw {z : SS} (p : PS' T W pin σ0 S B D z) (g : Gw S B S' B') : PS' T W pin σ0 S' B' D z := by
  cases z with
  | nx env => exact fun S2 B2 mss σ H g2 => p S2 B2 mss σ H (g.trans g2)
  | rt d env => exact fun S2 B2 mss σ H v ms g2 => p S2 B2 mss σ H v ms (g.trans g2)
  | bk env => exact fun S2 B2 mss σ H g2 => p S2 B2 mss σ H (g.trans g2)
  | ct env => exact fun S2 B2 mss σ H g2 => p S2 B2 mss σ H (g.trans g2)
  | ex x env => exact fun S2 B2 mss σ H cls d g2 => p S2 B2 mss σ H cls d (g.trans g2)
  | er => exact p
theorem ps_of {t t' : TS} (h : PS X st t) (i : ∀ D σ H, t' D σ H → t D σ H) : PS X st t' := ⟨fun pins s σ H D I q => h.run pins s σ H D I (i D σ H q)⟩
theorem pss_of {t t' : TS} (h : PSs X sts t) (i : ∀ D σ H, t' D σ H → t D σ H) : PSs X sts t' := ⟨fun pins s σ H D I q => h.run pins s σ H D I (i D σ H q)⟩
@[simp] def sSkip : MS := fun env => .nx env
theorem ss_nil : PSs X [] (tS T W pin σ0 sSkip) := pss_of pss_nil fun D σ H ⟨S, B, env, mss, R, hp, q⟩ => q S B mss σ H Gw.refl R hp
@[simp] def sSeq (m n : MS) : MS := fun env => match m env with
  | .nx env => n env
  | z => z
theorem ss_cons (h1 : PS X st (tS T W pin σ0 m)) (h2 : PSs X rest (tS T W pin σ0 n)) : PSs X (st :: rest) (tS T W pin σ0 (sSeq m n)) := by
  refine pss_of (pss_cons h1 h2) fun D σ H ⟨S, B, env, mss, R, hp, q⟩ => ⟨S, B, env, mss, R, hp, ?_⟩
  cases hm : m env with
  | nx env' =>
    simp only [sSeq, hm] at q
    exact fun S' B' mss' σ' H' g R' hp' => ⟨S', B', env', mss', R', hp', q.gw g⟩
  | rt d env' => simp only [sSeq, hm] at q; exact q
  | bk env' => simp only [sSeq, hm] at q; exact q
  | ct env' => simp only [sSeq, hm] at q; exact q
  | ex x env' => simp only [sSeq, hm] at q; exact q
  | er => simp only [sSeq, hm] at q; exact q
theorem ss_one (h1 : PS X st (tS T W pin σ0 m)) : PSs X [st] (tS T W pin σ0 m) := pss_of (pss_one h1) fun D σ H q => q
@[simp] def sIf (c : MT) (m n : MS) : MS := fun env => match c env with
  | .ok true env => m env
  | .ok false env => n env
  | .ex x env => .ex x env
  | .er => .er
theorem ss_if {c : Expr} {mc : MT} {x y : List Stmt} (hc : PT X c (tT T W mc)) (ha : PSs X x (tS T W pin σ0 m)) (hb : PSs X y (tS T W pin σ0 n)) : PS X (.If c x y pos) (tS T W pin σ0 (sIf mc m n)) := by
  refine ps_of (ps_if hc ha hb) fun D σ H ⟨S, B, env, mss, R, hp, q⟩ => ⟨S, B, env, mss, R, ?_⟩
  cases hm : mc env with
  | ok b env' =>
    intro S' B' H' mss' g R'
    simp only [sIf, hm] at q
    cases b with
    | true =>
      show (if true = true then tS T W pin σ0 m D σ H' else tS T W pin σ0 n D σ H')
      rw [if_pos rfl]
      exact ⟨S', B', env', mss', R', hp, q.gw g⟩
    | false =>
      show (if false = true then tS T W pin σ0 m D σ H' else tS T W pin σ0 n D σ H')
      rw [if_neg Bool.false_ne_true]
      exact ⟨S', B', env', mss', R', hp, q.gw g⟩
  | ex x env' => simp only [sIf, hm] at q; exact fun S' B' H' mss' cls d g R' f => q S' B' mss' σ H' cls d g R' hp f
  | er => simp only [sIf, hm] at q; exact q
/-- return e -/
@[simp] def sRet (m : EE) : MS := fun env => match m env with
  | .ok (.own d) env => .rt d env
  | .ex x env => .ex x env
  | _ => .er
theorem ss_ret {m : EE} (h : PE X e (tE T W m)) : PS X (.Return (some e) pos) (tS T W pin σ0 (sRet m)) := by
  refine ps_of (ps_ret h) fun D σ H ⟨S, B, env, mss, R, hp, q⟩ => ⟨S, B, env, mss, R, ?_⟩
  cases hm : m env with
  | ok r env' =>
    intro S' B' H' mss' v g R' f
    simp only [sRet, hm] at q
    split at q
    · rename_i d env2 z
      cases z
      obtain ⟨ms, h1, h2, h3⟩ := f
      exact q S' B' mss' σ H' v ms g R' hp h1 h2 h3
    · rename_i z; cases z
    · exact q.elim
  | ex x env' => simp only [sRet, hm] at q; exact fun S' B' H' mss' cls d g R' f => q S' B' mss' σ H' cls d g R' hp f
  | er => simp only [sRet, hm] at q; exact q
@[simp] def sRetN : MS := fun env => .rt (.im .non) env
theorem ss_retN : PS X (.Return none pos) (tS T W pin σ0 sRetN) := ps_of ps_retN fun D σ H ⟨S, B, env, mss, R, hp, q⟩ => q S B mss σ H .non [] Gw.refl R hp (.im rfl .nil) ⟨.nil, fun _ h => nomatch h⟩ fun _ _ _ _ _ _ h => nomatch h
@[simp] def sBk : MS := fun env => .bk env
@[simp] def sCt : MS := fun env => .ct env
/-- e as a statement -/
@[simp] def sEx (m : EE) : MS := fun env => match m env with
  | .ok _ env => .nx env
  | .ex x env => .ex x env
  | .er => .er
theorem ss_expr {m : EE} (h : PE X e (tE T W m)) (hs : swapsWith e none pos.line X.env = pure false := by rfl) : PS X (.Expr e pos) (tS T W pin σ0 (sEx m)) := by
  refine ps_of (ps_expr h hs) fun D σ H ⟨S, B, env, mss, R, hp, q⟩ => ⟨S, B, env, mss, R, ?_⟩
  cases hm : m env with
  | ok r env' => simp only [sEx, hm] at q; exact fun S' B' H' mss' v g R' f => q S' B' mss' σ H' g R' hp
  | ex x env' => simp only [sEx, hm] at q; exact fun S' B' H' mss' cls d g R' f => q S' B' mss' σ H' cls d g R' hp f
  | er => simp only [sEx, hm] at q; exact q
/-- x = e -/
@[simp] def setS (i : Nat) (r : Rs) (env : En) : SS := match r with
  | .own d => .nx (env.set i (some (.own d)))
  | .ro d => .nx (env.set i (some (.ro d)))
  | .bor _ _ => .er
@[simp] def sSet (i : Nat) (m : EE) : MS := fun env => match m env with
  | .ok r env => setS i r env
  | .ex x env => .ex x env
  | .er => .er
theorem pin_set {i : Nat} {x : Option V} (hp : Pin pin σ0 σ) (hi : pin i = false) : Pin pin σ0 (σ.set i x) := ⟨by rw [List.length_set]; exact hp.1, fun j hj => by
  have : i ≠ j := fun z => by rw [z, hj] at hi; cases hi
  rw [List.getElem?_set_ne this]
  exact hp.2 j hj⟩
theorem setS_ok {i : Nat} {r : Rs} {v : V} (hi : pin i = false) (R : SRx T S B env mss σ H) (hp : Pin pin σ0 σ) (f : RFe T S B H mss r v) (q : PS' T W pin σ0 S B D (setS i r env)) : D.nx (σ.set i (some v)) H := by
  cases r with
  | own d =>
    obtain ⟨ms, h1, h2, h3⟩ := f
    exact q S B (mss.set i ms) _ H Gw.refl (R.set h1 h2 fun j m' _ hj => h3 j m' hj) (pin_set hp hi)
  | ro d => exact q S B (mss.set i []) _ H Gw.refl (R.set (m := []) ⟨rfl, f⟩ ⟨.nil, fun _ h => nomatch h⟩ fun _ _ _ _ _ _ _ h => nomatch h) (pin_set hp hi)
  | bor _ _ => exact q.elim
theorem ss_set {i : Nat} {x : Str} {m : EE} {pos' : Pos} (hN : X.N.Nodup) (hi : X.N[i]? = some x) (hx : Loc X.env.scope x) (hpin : pin i = false) (h : PE X e (tE T W m)) (hs : swapsWith e (some (.Name x pos')) pos.line X.env = pure false := by rfl)
    (hf : X.fn x = true ∨ X.env.scope.names.lookup x = some .local := by first | exact .inl rfl | exact .inr rfl | assumption) : PS X (.Assign [.Name x pos'] e pos) (tS T W pin σ0 (sSet i m)) := by
  refine ps_of (ps_set hN hi hx h hs hf) fun D σ H ⟨S, B, env, mss, R, hp, q⟩ => ⟨S, B, env, mss, R, ?_⟩
  cases hm : m env with
  | ok r env' => simp only [sSet, hm] at q; exact fun S' B' H' mss' v g R' f => setS_ok hpin R' hp f (q.gw g)
  | ex x env' => simp only [sSet, hm] at q; exact fun S' B' H' mss' cls d g R' f => q S' B' mss' σ H' cls d g R' hp f
  | er => simp only [sSet, hm] at q; exact q
end
end Tr
namespace Tr
open PySem L2
inductive AK where
  | p (m : ME)
  | mv (i : Nat)
inductive AV where
  | r (r : Rs)
  | mv (i : Nat)
/-- a name's data: a copy where it may be copied, else its own is given away -/
@[simp] def smv (i : Nat) (env : En) : Option AV := match env[i]? with
  | some (some (.own d)) => some (if copyD d then .r (.own d) else .mv i)
  | some (some (.ro d)) => some (.r (if copyD d then .own d else .ro d))
  | _ => none
@[simp] def aKs : List AK → En → Rz (List AV)
  | [], _ => .ok []
  | .p m :: ks, env => match m env with
    | .ok r => match aKs ks env with
      | .ok rs => .ok (.r r :: rs)
      | .ex x => .ex x
      | .er => .er
    | .ex x => .ex x
    | .er => .er
  | .mv i :: ks, env => match smv i env with
    | some a => match aKs ks env with
      | .ok rs => .ok (a :: rs)
      | .ex x => .ex x
      | .er => .er
    | none => .er
/-- what an item gave, its own cells m -/
def RFc (T : Tab) (S B H H0 : Hp) (mss : List Cells) : Rs → V → Cells → Prop
  | .own d, v, m => Owns T B [d] [v] m ∧ CellsOk S H m ∧ ∀ c ∈ m, H0 c.1 = none
  | .ro d, v, m => m = [] ∧ Ros T B S [d] [v]
  | .bor i d, v, m => m = [] ∧ ∃ m', mss[i]? = some m' ∧ Ros T B (Wi S m') [d] [v]
inductive AFL (T : Tab) (S B H H0 : Hp) (mss : List Cells) (σ : L2.St) : List AV → List V → List Cells → Prop
  | nil : AFL T S B H H0 mss σ [] [] []
  | r {r v m avs vs css} (h : RFc T S B H H0 mss r v m) (t : AFL T S B H H0 mss σ avs vs css) (a : ∀ m' ∈ css, Apart m m') : AFL T S B H H0 mss σ (.r r :: avs) (v :: vs) (m :: css)
  | mv {i v avs vs css} (h : σ[i]? = some (some v)) (t : AFL T S B H H0 mss σ avs vs css) : AFL T S B H H0 mss σ (.mv i :: avs) (v :: vs) ([] :: css)
section
variable {X : Cx} {T : Tab} {W : WX} {e a b : Expr} {es : List Expr} {m : ME} {S B H S' B' H' H0 H1 : Hp} {env : En} {mss : List Cells} {σ : L2.St} {r : Rs} {v : V} {pos : Pos} {ks : List AK} {avs : List AV} {vs : List V} {css : List Cells}
theorem RF.toC (f : RF T S B H H0 mss r v) : ∃ m, RFc T S B H H0 mss r v m := by
  cases r with
  | own d => obtain ⟨ms, h⟩ := f; exact ⟨ms, h⟩
  | ro d => exact ⟨[], rfl, f⟩
  | bor i d => exact ⟨[], rfl, f⟩
theorem RFc.back {L : List (Addr × Str)} {m : Cells} (f : RFc T S B H H1 mss r v m) (h : SameN L H0 H1) : RFc T S B H H0 mss r v m := by
  cases r with
  | own d => exact ⟨f.1, f.2.1, fun c hc => h.free (f.2.2 c hc)⟩
  | ro d => exact f
  | bor i d => exact f
theorem RFc.grow (R : SRx T S B env mss σ H) {m : Cells} (f : RFc T S B H H0 mss r v m) (g : Gr T.tbs S B H S' B' H') : RFc T S' B' H' H0 mss r v m := by
  cases r with
  | own d => exact ⟨f.1.mono g.w.b, f.2.1.grow f.1.nt g.h g.f, f.2.2⟩
  | ro d => exact ⟨f.1, f.2.mono g.w.s g.w.b⟩
  | bor i d =>
    obtain ⟨h0, m, h1, h2⟩ := f
    exact ⟨h0, m, h1, h2.mono (Wi.mono g.w.s fun c hc => (((R.ok i m h1).grow (R.nt h1) g.h g.f).2 c hc).2) g.w.b⟩
theorem AFL.back {L : List (Addr × Str)} (f : AFL T S B H H1 mss σ avs vs css) (h : SameN L H0 H1) : AFL T S B H H0 mss σ avs vs css := by
  induction f with
  | nil => exact .nil
  | r h1 _ a ih => exact .r (h1.back h) ih a
  | mv h1 _ ih => exact .mv h1 ih
/-- cells of the row are new -/
theorem AFL.new (f : AFL T S B H H0 mss σ avs vs css) : ∀ m ∈ css, CellsOk S H m ∧ ∀ c ∈ m, H0 c.1 = none := by
  induction f with
  | nil => intro m h; cases h
  | @r r v m avs vs css h1 _ a ih =>
    intro m' h
    rcases List.mem_cons.mp h with rfl | h
    · cases r with
      | own d => exact ⟨h1.2.1, h1.2.2⟩
      | ro d => rw [h1.1]; exact ⟨⟨.nil, fun _ h => nomatch h⟩, fun _ h => nomatch h⟩
      | bor i d => rw [h1.1]; exact ⟨⟨.nil, fun _ h => nomatch h⟩, fun _ h => nomatch h⟩
    · exact ih m' h
  | mv h1 _ ih =>
    intro m' h
    rcases List.mem_cons.mp h with rfl | h
    · exact ⟨⟨.nil, fun _ h => nomatch h⟩, fun _ h => nomatch h⟩
    · exact ih m' h
def PK' (T : Tab) (W : WX) (S B : Hp) (mss : List Cells) (σ : L2.St) (H : Hp) (Q : List V → Hp → Prop) : Rz (List AV) → Prop
  | .ok avs => ∀ S' B' H' vs css, Gr T.tbs S B H S' B' H' → AFL T S' B' H' H mss σ avs vs css → Q vs H'
  | .ex x => ∀ S' B' H' cls d, Gr T.tbs S B H S' B' H' → ExF T H' x cls d → W cls d σ H'
  | .er => False
def tPK (T : Tab) (W : WX) (ks : List AK) : TA := fun σ H Q => ∃ S B env mss, SRx T S B env mss σ H ∧ PK' T W S B mss σ H Q (aKs ks env)
theorem pk_nil' : PA X [] (tPK T W []) := pa_of pa_nil fun σ H Q ⟨S, B, env, mss, R, q⟩ => q S B H [] [] R.gr .nil
theorem pk_p (h1 : PE X e (tP T W m)) (h2 : PA X es (tPK T W ks)) (hs : starEach (e :: es) X.env = (false, eval e X.env) :: starEach es X.env := by rfl) : PA X (e :: es) (tPK T W (.p m :: ks)) := by
  refine pa_of (pa_cons h1 h2 hs) fun σ H Q ⟨S, B, env, mss, R, q⟩ => ⟨S, B, env, mss, R, ?_⟩
  cases hr : m env with
  | ok r =>
    simp only [aKs, hr] at q
    intro S1 B1 H1 v g f1
    have R1 := R.grow g
    refine ⟨S1, B1, env, mss, R1, ?_⟩
    cases hs : aKs ks env with
    | ok rs =>
      simp only [hs] at q
      intro S2 B2 H2 vs css g2 f2
      obtain ⟨m1, c1⟩ := f1.toC
      have c2 := c1.grow R1 g2
      refine q S2 B2 H2 (v :: vs) (m1 :: css) (g.trans g2) (.r c2 (f2.back g.h) fun m' hm' => ?_)
      have n := (f2.new m' hm').2
      intro c hc x hx z
      cases r with
      | own d =>
        have a1 := (c1.2.1.2 c hc).1
        rw [z, n x hx] at a1; cases a1
      | ro d => rw [c1.1] at hc; cases hc
      | bor i d => rw [c1.1] at hc; cases hc
    | ex x => simp only [hs] at q; exact fun S2 B2 H2 cls d g2 x2 => q S2 B2 H2 cls d (g.trans g2) x2
    | er => simp only [hs] at q; exact q
  | ex x => simp only [aKs, hr] at q; exact q
  | er => simp only [aKs, hr] at q; exact q
theorem rfc_cpy {d : D} {X : Hp} (h : Ros T B X [d] [v]) (hc : copyD d = true) : RFc T S B H H0 mss (.own d) v [] := ⟨copy_own h (copy1 hc), ⟨.nil, fun _ h => nomatch h⟩, fun _ h => nomatch h⟩
theorem smv_ok {i : Nat} {a : AV} (R : SRx T S B env mss σ H) (h : smv i env = some a) : ∃ v, σ[i]? = some (some v) ∧ ∀ {S' B' H' H0 : Hp} {avs vs css}, Gr T.tbs S B H S' B' H' → AFL T S' B' H' H0 mss σ avs vs css → AFL T S' B' H' H0 mss σ (a :: avs) (v :: vs) ([] :: css) := by
  have nl : ∀ {css : List Cells}, ∀ m' ∈ css, Apart [] m' := fun _ _ _ h => nomatch h
  cases hd : env[i]? with
  | none => simp [smv, hd] at h
  | some o =>
  cases o with
  | none => simp [smv, hd] at h
  | some o =>
  cases o with
  | own d =>
    simp only [smv, hd, Option.some.injEq] at h
    obtain ⟨v, m, h1, h2, h3, h4⟩ := R.own hd
    refine ⟨v, h1, fun {S' B' H' H0 avs vs css} g f => ?_⟩
    split at h
    · rename_i hc
      subst h
      exact .r (rfc_cpy ((h3.ro (R.bs.trans R.sh) fun c hc => (h4.2 c hc).1).monoN g.h.n g.w.b) hc) f nl
    · subst h
      exact .mv h1 f
  | ro d =>
    simp only [smv, hd, Option.some.injEq] at h
    obtain ⟨v, h1, h2⟩ := R.ro hd
    refine ⟨v, h1, fun {S' B' H' H0 avs vs css} g f => ?_⟩
    subst h
    split
    · rename_i hc
      exact .r (rfc_cpy (h2.mono g.w.s g.w.b) hc) f nl
    · exact .r ⟨rfl, h2.mono g.w.s g.w.b⟩ f nl
theorem pk_mv {i : Nat} (h1 : PE X e (tVar i)) (h2 : PA X es (tPK T W ks)) (hs : starEach (e :: es) X.env = (false, eval e X.env) :: starEach es X.env := by rfl) : PA X (e :: es) (tPK T W (.mv i :: ks)) := by
  refine pa_of (pa_cons h1 h2 hs) fun σ H Q ⟨S, B, env, mss, R, q⟩ => ?_
  cases hd : smv i env with
  | none => simp only [aKs, hd] at q; exact q.elim
  | some a =>
    obtain ⟨v, e1, k⟩ := smv_ok R hd
    refine ⟨v, e1, S, B, env, mss, R, ?_⟩
    simp only [aKs, hd] at q
    cases hs : aKs ks env with
    | ok rs => simp only [hs] at q; exact fun S2 B2 H2 vs css g2 f2 => q S2 B2 H2 (v :: vs) ([] :: css) g2 (k g2 f2)
    | ex x => simp only [hs] at q; exact q
    | er => simp only [hs] at q; exact q
@[simp] def takeAll : List AV → En → Option (List D × En)
  | [], env => some ([], env)
  | .r (.own d) :: r, env => match takeAll r env with
    | some (ds, env) => some (d :: ds, env)
    | none => none
  | .mv i :: r, env => match env[i]? with
    | some (some (.own d)) => match takeAll r (env.set i none) with
      | some (ds, env) => some (d :: ds, env)
      | none => none
    | _ => none
  | _ :: _, _ => none
theorem owns_cons {d : D} {ds : List D} {v : V} {vs : List V} {m ms : Cells} (a : Owns T B [d] [v] m) (b : Owns T B ds vs ms) : Owns T B (d :: ds) (v :: vs) (m ++ ms) := by
  cases a with
  | im h r => cases r; exact .im h b
  | lst q r => cases r; rw [List.append_nil]; exact .lst q b
  | tup h q r => cases r; rw [List.append_nil]; exact .tup h q b
  | dct hl q r => cases r; rw [List.append_nil]; exact .dct hl q b
  | obj hc hl q r => cases r; rw [List.append_nil]; exact .obj hc hl q b
  | fz q r => cases r; exact .fz q b
  | fn h r => cases r; exact .fn h b
theorem apart_symm {m m' : Cells} (h : Apart m m') : Apart m' m := fun c hc e he z => h e he c hc z.symm
theorem cells_append {m ms : Cells} (a : CellsOk S H m) (b : CellsOk S H ms) (h : Apart m ms) : CellsOk S H (m ++ ms) := by
  refine ⟨?_, fun c hc => ?_⟩
  · rw [List.map_append, List.nodup_append]
    refine ⟨a.1, b.1, fun x hx y hy => ?_⟩
    obtain ⟨c, hc, rfl⟩ := List.mem_map.mp hx
    obtain ⟨e, he, rfl⟩ := List.mem_map.mp hy
    exact h c hc e he
  · rcases List.mem_append.mp hc with hc | hc
    · exact a.2 c hc
    · exact b.2 c hc
theorem apart_app {m m' z : Cells} (a : Apart m z) (b : Apart m' z) : Apart (m ++ m') z := fun c hc e he => by
  rcases List.mem_append.mp hc with hc | hc
  · exact a c hc e he
  · exact b c hc e he
theorem take_ok : ∀ {avs : List AV} {vs : List V} {css : List Cells} {env env' : En} {mss : List Cells} {ds : List D}, SRx T S B env mss σ H → AFL T S B H H0 mss0 σ avs vs css → (∀ m ∈ css, ∀ (i : Nat) (m' : Cells), mss[i]? = some m' → Apart m' m) →
    takeAll avs env = some (ds, env') → ∃ mss' ms, SRx T S B env' mss' σ H ∧ Owns T B ds vs ms ∧ CellsOk S H ms ∧ (∀ (i : Nat) (m : Cells), mss'[i]? = some m → Apart m ms) ∧
      (∀ (i : Nat) (m : Cells), mss'[i]? = some m → m = [] ∨ mss[i]? = some m) ∧ (∀ z : Cells, (∀ (i : Nat) (m : Cells), mss[i]? = some m → Apart m z) → (∀ m ∈ css, Apart m z) → Apart ms z) := by
  intro avs
  induction avs with
  | nil =>
    intro vs css env env' mss ds R f ha h
    cases f
    simp [takeAll] at h
    obtain ⟨rfl, rfl⟩ := h
    exact ⟨mss, [], R, .nil, ⟨.nil, fun _ h => nomatch h⟩, (fun _ _ _ _ _ _ h => nomatch h), (fun i m h => Or.inr h), (fun _ _ _ _ h => nomatch h)⟩
  | cons av avs ih =>
    intro vs css env env' mss ds R f ha h
    cases f with
    | @r r v m _ vs css h1 t a =>
      cases r with
      | own d =>
        simp only [takeAll] at h
        cases hh : takeAll avs env with
        | none => simp [hh] at h
        | some p =>
          obtain ⟨ds1, env1⟩ := p
          simp only [hh, Option.some.injEq, Prod.mk.injEq] at h
          obtain ⟨rfl, rfl⟩ := h
          obtain ⟨mss', ms, R', o, c, p1, p2, p3⟩ := ih R t (fun m' hm => ha m' (List.mem_cons_of_mem _ hm)) hh
          have am : Apart ms m := p3 m (fun i m' hm => ha m List.mem_cons_self i m' hm) fun m' hm' => apart_symm (a m' hm')
          refine ⟨mss', m ++ ms, R', owns_cons h1.1 o, cells_append h1.2.1 c (apart_symm am), fun i m' hm => ?_, p2, fun z z1 z2 => apart_app (z2 m List.mem_cons_self) (p3 z z1 fun m' hm' => z2 m' (List.mem_cons_of_mem _ hm'))⟩
          refine apart_symm (apart_app (apart_symm ?_) (apart_symm (p1 i m' hm)))
          rcases p2 i m' hm with rfl | hm
          · exact fun _ h => nomatch h
          · exact ha m List.mem_cons_self i m' hm
      | ro d => simp [takeAll] at h
      | bor i d => simp [takeAll] at h
    | @mv i v _ vs css h1 t =>
      simp only [takeAll] at h
      cases hd : env[i]? with
      | none => simp [hd] at h
      | some o =>
      cases o with
      | none => simp [hd] at h
      | some o =>
      cases o with
      | ro d => simp [hd] at h
      | own d =>
        simp only [hd] at h
        cases hh : takeAll avs (env.set i none) with
        | none => simp [hh] at h
        | some p =>
          obtain ⟨ds1, env1⟩ := p
          simp only [hh, Option.some.injEq, Prod.mk.injEq] at h
          obtain ⟨rfl, rfl⟩ := h
          obtain ⟨v', m, e1, e2, e3, e4⟩ := R.own hd
          rw [h1] at e1; cases e1
          obtain ⟨mss1, R1, hm1⟩ := R.drop i
          obtain ⟨mss', ms, R', o, c, p1, p2, p3⟩ := ih R1 t (fun m' hm j m2 hj => by
            rcases hm1 j m2 hj with rfl | ⟨_, hj⟩
            · exact fun _ h => nomatch h
            · exact ha m' (List.mem_cons_of_mem _ hm) j m2 hj) hh
          have am : Apart ms m := p3 m (fun j m2 hj => by
            rcases hm1 j m2 hj with rfl | ⟨hne, hj⟩
            · exact fun _ h => nomatch h
            · exact R.ap j i _ _ hne hj e2) fun m' hm' => apart_symm (ha m' (List.mem_cons_of_mem _ hm') i m e2)
          refine ⟨mss', m ++ ms, R', owns_cons e3 o, cells_append e4 c (apart_symm am), fun j m2 hj => ?_, fun j m2 hj => ?_, fun z z1 z2 => apart_app (z1 i m e2) (p3 z (fun j m2 hj => ?_) fun m' hm' => z2 m' (List.mem_cons_of_mem _ hm'))⟩
          · refine apart_symm (apart_app (apart_symm ?_) (apart_symm (p1 j m2 hj)))
            rcases p2 j m2 hj with rfl | hj
            · exact fun _ h => nomatch h
            · rcases hm1 j m2 hj with rfl | ⟨hne, hj⟩
              · exact fun _ h => nomatch h
              · exact R.ap j i _ _ hne hj e2
          · rcases p2 j m2 hj with rfl | hj
            · exact .inl rfl
            · rcases hm1 j m2 hj with rfl | ⟨hne, hj⟩
              · exact .inl rfl
              · exact .inr hj
          · rcases hm1 j m2 hj with rfl | ⟨hne, hj⟩
            · exact fun _ h => nomatch h
            · exact z1 j m2 hj
/-- the row, taken -/
inductive DO where
  | ok (ds : List D) (env : En)
  | ex (x : Exn) (env : En)
  | er
@[simp] def eRow (ks : List AK) (env : En) : DO := match aKs ks env with
  | .ok avs => match takeAll avs env with
    | some (ds, env) => .ok ds env
    | none => .er
  | .ex x => .ex x env
  | .er => .er
def PD (T : Tab) (W : WX) (S B : Hp) (σ : L2.St) (Q : List V → Hp → Prop) : DO → Prop
  | .ok ds env => ∀ S' B' H' mss vs ms, Gw S B S' B' → SRx T S' B' env mss σ H' → Owns T B' ds vs ms → CellsOk S' H' ms → (∀ (i : Nat) (m : Cells), mss[i]? = some m → Apart m ms) → Q vs H'
  | .ex x env => ∀ S' B' H' mss cls d, Gw S B S' B' → SRx T S' B' env mss σ H' → ExF T H' x cls d → W cls d σ H'
  | .er => False
def tD (T : Tab) (W : WX) (m : En → DO) : TA := fun σ H Q => ∃ S B env mss, SRx T S B env mss σ H ∧ PD T W S B σ Q (m env)
theorem pd_row (h : PA X es (tPK T W ks)) : PA X es (tD T W (eRow ks)) := by
  refine pa_of h fun σ H Q ⟨S, B, env, mss, R, q⟩ => ⟨S, B, env, mss, R, ?_⟩
  cases hk : aKs ks env with
  | ok avs =>
    simp only [eRow, hk] at q
    intro S' B' H' vs css g f
    cases ht : takeAll avs env with
    | none => simp only [ht] at q; exact q.elim
    | some p =>
      obtain ⟨ds, env'⟩ := p
      simp only [ht] at q
      obtain ⟨mss', ms, R', o, c, p1, _, _⟩ := take_ok (R.grow g) f (fun m hm i m' hi c hc x hx z => by
        have a1 := ((R.ok i m' hi).2 c hc).1
        have a2 := (f.new m hm).2 x hx
        rw [z, a2] at a1; cases a1) ht
      exact q S' B' H' mss' vs ms g.w R' o c p1
  | ex x =>
    simp only [eRow, hk] at q
    exact fun S' B' H' cls d g f => q S' B' H' mss cls d g.w (R.grow g) f
  | er => simp only [eRow, hk] at q; exact q
/-- [a, b, ..] -/
@[simp] def eLst (m : En → DO) : EE := fun env => match m env with
  | .ok ds env => if ds.length ≤ 1000000 then .ok (.own (.lst ds)) env else .er
  | .ex x env => .ex x env
  | .er => .er
@[simp] def eTup (m : En → DO) : EE := fun env => match m env with
  | .ok ds env => if ds.length ≤ 1000000 then .ok (.own (.tup ds)) env else .er
  | .ex x env => .ex x env
  | .er => .er
theorem srx_new {p : Addr} {o : HO} (R : SRx T S B env mss σ H) (hp : H p = none) : SRx T S B env mss σ (upd H p o) := R.grow (Gr.own R.bs R.sh hp)
theorem apart_new {p : Addr} {o : HO} {m : Cells} (c : CellsOk S H m) (hp : H p = none) : Apart m [(p, o)] := fun x hx e he z => by
  have e1 : e = (p, o) := by simpa using he
  subst e1
  have a1 := (c.2 x hx).1
  rw [z, hp] at a1; cases a1
theorem ee_lst {m : En → DO} (h : PA X es (tD T W m)) : PE X (.List es pos) (tE T W (eLst m)) := by
  refine pe_of (pe_lst h) fun σ H Q ⟨S, B, env, mss, R, q⟩ => ⟨S, B, env, mss, R, ?_⟩
  cases hm : m env with
  | ok ds env' =>
    intro S' B' H' mss' vs ms g R' o c ap
    simp only [eLst, hm] at q
    split at q
    · rename_i hl
      refine ⟨by rw [← o.len]; exact le_line hl, fun p hp => ?_⟩
      have c2 : CellsOk S' (upd H' p (.lst vs)) ms := c.grow o.nt (Gr.own (L := T.tbs) (o := .lst vs) R'.bs R'.sh hp).h fun a o h => .inl h
      refine q S' B' _ mss' _ g (srx_new R' hp) ⟨(p, .lst vs) :: (ms ++ []), .lst o .nil, ?_, fun i m hi => ?_⟩
      · rw [List.append_nil]
        exact cells_append (cells_new (B := B') R'.sh hp) c2 (apart_symm (apart_new c hp))
      · rw [List.append_nil]
        exact apart_symm (apart_app (apart_symm (apart_new (R'.ok i m hi) hp)) (apart_symm (ap i m hi)))
    · exact q.elim
  | ex x env' => simp only [eLst, hm] at q; exact q
  | er => simp only [eLst, hm] at q; exact q
theorem ee_tup {m : En → DO} {x1} (h : PA X es (tD T W m)) : PE X (.Tuple es x1 pos) (tE T W (eTup m)) := by
  refine pe_of (pe_tup h) fun σ H Q ⟨S, B, env, mss, R, q⟩ => ⟨S, B, env, mss, R, ?_⟩
  cases hm : m env with
  | ok ds env' =>
    intro S' B' H' mss' vs ms g R' o c ap
    simp only [eTup, hm] at q
    split at q
    · rename_i hl
      refine ⟨by rw [← o.len]; exact le_line hl, fun p hp => ?_⟩
      have gr := Gr.tup (L := T.tbs) (o := .tup vs) R'.bs R'.sh hp
      refine q _ _ _ mss' _ (g.trans gr.w) (R'.grow gr) ⟨ms ++ [], .tup upd_same (o.mono gr.w.b) .nil, ?_, fun i m hi => ?_⟩
      · rw [List.append_nil]; exact c.grow o.nt gr.h gr.f
      · rw [List.append_nil]; exact ap i m hi
    · exact q.elim
  | ex x env' => simp only [eTup, hm] at q; exact q
  | er => simp only [eTup, hm] at q; exact q
end
end Tr
namespace Tr
open PySem L2 PySem.Spec PyProof.Rows
@[simp] def trunc : List Bool → En → En
  | true :: ps, e :: es => e :: trunc ps es
  | false :: ps, _ :: es => none :: trunc ps es
  | _, _ => []
def truncM : List Bool → List Cells → List Cells
  | true :: ps, e :: es => e :: truncM ps es
  | false :: ps, _ :: es => [] :: truncM ps es
  | _, _ => []
@[simp] def fin (pins : List Bool) : SS → FR
  | .nx env => .ok (.im .non) (trunc pins env)
  | .rt d env => .ok d (trunc pins env)
  | .ex x env => .ex x (trunc pins env)
  | _ => .er
def mF (n : Nat) (pins : List Bool) (body : MS) (as : List Slot) : FR := fin pins (body (as.map some ++ List.replicate (n - as.length) none))
def pinL (pins : List Bool) : Pins := fun i => pins.getD i false
section
variable {T : Tab} {S B H : Hp} {env : En} {mss : List Cells} {σ : L2.St}
theorem trunc_len : ∀ {ps : List Bool} {env : En}, ps.length ≤ env.length → (trunc ps env).length = ps.length
  | [], _, _ => rfl
  | true :: ps, e :: es, h => by simp [trunc, trunc_len (ps := ps) (env := es) (by simpa using h)]
  | false :: ps, e :: es, h => by simp [trunc, trunc_len (ps := ps) (env := es) (by simpa using h)]
  | _ :: _, [], h => by simp at h
theorem truncM_len : ∀ {ps : List Bool} {env : List Cells}, ps.length ≤ env.length → (truncM ps env).length = ps.length
  | [], _, _ => rfl
  | true :: ps, e :: es, h => by simp [truncM, truncM_len (ps := ps) (env := es) (by simpa using h)]
  | false :: ps, e :: es, h => by simp [truncM, truncM_len (ps := ps) (env := es) (by simpa using h)]
  | _ :: _, [], h => by simp at h
theorem trunc_at : ∀ {ps : List Bool} {env : En} {i : Nat} {e : Option Slot}, (trunc ps env)[i]? = some e → (ps[i]? = some true ∧ env[i]? = some e) ∨ (ps[i]? = some false ∧ e = none)
  | true :: ps, x :: es, 0, e, h => .inl ⟨rfl, by simpa [trunc] using h⟩
  | false :: ps, x :: es, 0, e, h => .inr ⟨rfl, by simp [trunc] at h; exact h.symm⟩
  | true :: ps, x :: es, i + 1, e, h => by simpa using trunc_at (ps := ps) (env := es) (i := i) (e := e) (by simpa [trunc] using h)
  | false :: ps, x :: es, i + 1, e, h => by simpa using trunc_at (ps := ps) (env := es) (i := i) (e := e) (by simpa [trunc] using h)
  | [], _, _, _, h => by simp [trunc] at h
  | true :: _, [], _, _, h => by simp [trunc] at h
  | false :: _, [], _, _, h => by simp [trunc] at h
theorem truncM_at : ∀ {ps : List Bool} {env : List Cells} {i : Nat} {e : Cells}, (truncM ps env)[i]? = some e → (ps[i]? = some true ∧ env[i]? = some e) ∨ (ps[i]? = some false ∧ e = [])
  | true :: ps, x :: es, 0, e, h => .inl ⟨rfl, by simpa [truncM] using h⟩
  | false :: ps, x :: es, 0, e, h => .inr ⟨rfl, by simp [truncM] at h; exact h⟩
  | true :: ps, x :: es, i + 1, e, h => by simpa using truncM_at (ps := ps) (env := es) (i := i) (e := e) (by simpa [truncM] using h)
  | false :: ps, x :: es, i + 1, e, h => by simpa using truncM_at (ps := ps) (env := es) (i := i) (e := e) (by simpa [truncM] using h)
  | [], _, _, _, h => by simp [truncM] at h
  | true :: _, [], _, _, h => by simp [truncM] at h
  | false :: _, [], _, _, h => by simp [truncM] at h
theorem SRx.trunc (R : SRx T S B env mss σ H) {ps : List Bool} {vs : List V} (hl : ps.length = vs.length) (hs : vs.length ≤ σ.length) (hp : ∀ i : Nat, ps[i]? = some true → σ[i]? = some (vs[i]?)) :
    SRx T S B (trunc ps env) (truncM ps mss) (vs.map some) H := by
  have h1 : ps.length ≤ env.length := by rw [hl, R.l1]; exact hs
  have h2 : ps.length ≤ mss.length := by rw [hl, R.l2]; exact hs
  refine ⟨R.bs, R.sh, by rw [trunc_len h1, List.length_map, hl], by rw [truncM_len h2, List.length_map, hl], fun i e s m g1 g2 g3 => ?_, fun i m g => ?_, fun i j m m' hij g1 g2 => ?_, R.tb, R.tc⟩
  · rcases trunc_at g1 with ⟨k1, g1⟩ | ⟨k1, rfl⟩
    · rcases truncM_at g3 with ⟨_, g3⟩ | ⟨k2, _⟩
      · have q := hp i k1
        refine R.at_ i e s m g1 ?_ g3
        rw [q]
        rw [List.getElem?_map] at g2
        cases hv : vs[i]? with
        | none => rw [hv] at g2; cases g2
        | some v => rw [hv] at g2; exact g2
      · rw [k1] at k2; cases k2
    · rcases truncM_at g3 with ⟨k2, _⟩ | ⟨_, rfl⟩
      · rw [k1] at k2; cases k2
      · rfl
  · rcases truncM_at g with ⟨_, g⟩ | ⟨_, rfl⟩
    · exact R.ok i m g
    · exact ⟨.nil, fun _ h => nomatch h⟩
  · rcases truncM_at g1 with ⟨_, g1⟩ | ⟨_, rfl⟩
    · rcases truncM_at g2 with ⟨_, g2⟩ | ⟨_, rfl⟩
      · exact R.ap i j m m' hij g1 g2
      · exact fun _ _ _ h => nomatch h
    · exact fun _ h => nomatch h
theorem getElem?_app {α : Type} {xs ys : List α} {i : Nat} {x : α} (h : (xs ++ ys)[i]? = some x) : xs[i]? = some x ∨ (xs.length ≤ i ∧ ys[i - xs.length]? = some x) := by
  by_cases hi : i < xs.length
  · rw [List.getElem?_append_left hi] at h; exact .inl h
  · rw [List.getElem?_append_right (by omega)] at h; exact .inr ⟨by omega, h⟩
theorem SRx.start (R : SRx T S B env mss σ H) (n : Nat) : SRx T S B (env ++ List.replicate n none) (mss ++ List.replicate n []) (σ ++ List.replicate n none) H := by
  refine ⟨R.bs, R.sh, by simp [R.l1], by simp [R.l2], fun i e s m g1 g2 g3 => ?_, fun i m g => ?_, fun i j m m' hij g1 g2 => ?_, R.tb, R.tc⟩
  · rcases getElem?_app g1 with g1 | ⟨k1, g1⟩
    · have hi := (List.getElem?_eq_some_iff.mp g1).1
      rw [List.getElem?_append_left (by rw [← R.l1]; exact hi)] at g2
      rw [List.getElem?_append_left (by rw [R.l2, ← R.l1]; exact hi)] at g3
      exact R.at_ i e s m g1 g2 g3
    · rw [List.getElem?_append_right (by rw [R.l2, ← R.l1]; exact k1)] at g3
      have e1 : e = none := (List.mem_replicate.mp (List.mem_of_getElem? g1)).2
      have e3 : m = [] := (List.mem_replicate.mp (List.mem_of_getElem? g3)).2
      subst e1 e3
      rfl
  · rcases getElem?_app g with g | ⟨_, g⟩
    · exact R.ok i m g
    · rw [(List.mem_replicate.mp (List.mem_of_getElem? g)).2]; exact ⟨.nil, fun _ h => nomatch h⟩
  · rcases getElem?_app g1 with g1 | ⟨_, g1⟩
    · rcases getElem?_app g2 with g2 | ⟨_, g2⟩
      · exact R.ap i j m m' hij g1 g2
      · rw [(List.mem_replicate.mp (List.mem_of_getElem? g2)).2]; exact fun _ _ _ h => nomatch h
    · rw [(List.mem_replicate.mp (List.mem_of_getElem? g1)).2]; exact fun _ h => nomatch h
end
section
variable {P : Program} {w : World} {K : PySem.W.Frag} {mg : Str → Option Value} {base : Heap}
/-- THE RULE for a def -/
theorem fn_ok {x qual : Str} {st : Stmt} {f : Addr} {fd : FuncData} {N ps : List Str} {k : Nat} {T : Tab} {body : MS} (F : Fun K x qual st f fd) (Sc : FnScope N ps (defScope st)) (pins : List Bool) (hp : pins.length = ps.length)
    (hb : ∀ (cdv : Value) (A : Around) (outer : List Env) (s : Shared) (H : Hp) (E : XK) (σ0 : L2.St), Room k (A.deeper (envOfC qual (defScope st) s.heap.objs.size f cdv)) →
      PSs (cxOf (L2.CX P w) P w K mg base N qual (defScope st) f cdv A outer s H E) (defBody st) (tS T (fun cls d _ H => E cls d H) (pinL pins) σ0 body)) :
    FnOk P w K mg base (L2.CX P w) (k + 1) f fd ps (spF T ps.length (mF N.length pins body)) := by
  refine F.okX Sc (fun vs H Q E h => h.1) fun cdv A outer s H vs Q E hr h => ⟨_, hb cdv A outer s H E (L2.start N vs) hr, ?_⟩
  obtain ⟨hl, S, B, as, mss, R, q⟩ := h
  have l1 : as.length = vs.length := by have := R.l1; simpa using this
  have lN : ps.length ≤ N.length := by have := congrArg List.length Sc.pre; rw [List.length_take] at this; omega
  have R0 := R.start (N.length - as.length)
  rw [l1] at R0
  refine ⟨S, B, as.map some ++ List.replicate (N.length - vs.length) none, mss ++ List.replicate (N.length - vs.length) [], R0, ⟨rfl, fun _ _ => rfl⟩, ?_⟩
  unfold mF at q
  rw [l1] at q
  have tr : ∀ {S' B' H' env' mss' σ'}, SRx T S' B' env' mss' σ' H' → Pin (pinL pins) (L2.start N vs) σ' → SRx T S' B' (trunc pins env') (truncM pins mss') (vs.map some) H' := fun {S' B' H' env' mss' σ'} R' hpn => by
    have hz : vs.length ≤ σ'.length := by
      rw [hpn.1]
      unfold L2.start
      rw [List.length_append, List.length_map]
      omega
    refine R'.trunc (by rw [hp, hl]) hz fun i hi => ?_
    have e1 := hpn.2 i (by unfold pinL; rw [List.getD_eq_getElem?_getD, hi]; rfl)
    have hi' : i < vs.length := by rw [hl, ← hp]; exact (List.getElem?_eq_some_iff.mp hi).1
    rw [e1]
    unfold L2.start
    rw [List.getElem?_append_left (by rw [List.length_map]; exact hi'), List.getElem?_map, List.getElem?_eq_getElem hi']
    rfl
  cases hz : body (as.map some ++ List.replicate (N.length - vs.length) none) with
  | nx env' =>
    rw [hz] at q
    exact fun S' B' mss' σ' H' g R' hpn => q S' B' H' .non [] _ g (tr R' hpn) (.im rfl .nil) ⟨.nil, fun _ h => nomatch h⟩ fun _ _ _ _ _ _ h => nomatch h
  | rt d env' =>
    rw [hz] at q
    refine fun S' B' mss' σ' H' v ms g R' hpn o c ap => q S' B' H' v ms _ g (tr R' hpn) o c fun i m hm => ?_
    rcases truncM_at hm with ⟨_, hm⟩ | ⟨_, rfl⟩
    · exact ap i m hm
    · exact fun _ h => nomatch h
  | ex x env' =>
    rw [hz] at q
    exact fun S' B' mss' σ' H' cls d g R' hpn ef => q S' B' H' _ cls d g (tr R' hpn) ef
  | bk env' => rw [hz] at q; exact q.elim
  | ct env' => rw [hz] at q; exact q.elim
  | er => rw [hz] at q; exact q.elim
end
end Tr
namespace Tr
open PySem L2
section
variable {X : Cx} {T : Tab} {W : WX} {pin pin' : Pins} {σ0 : L2.St} {e a b c : Expr} {S B H S' B' H' S0 B0 : Hp} {env : En} {mss : List Cells} {σ : L2.St} {De : Ends} {pos : Pos}
def wh (c : MT) (b : MS) : Nat → MS
  | 0, _ => .er
  | n + 1, env => match c env with
    | .ok true env => match b env with
      | .nx env => wh c b n env
      | .ct env => wh c b n env
      | .bk env => .nx env
      | z => z
    | .ok false env => .nx env
    | .ex x env => .ex x env
    | .er => .er
def FUEL : Nat := 10 ^ 60
def sWhile (c : MT) (b : MS) : MS := fun env => wh c b FUEL env
theorem ss_while {c : Expr} {body : List Stmt} {mc : MT} {m : MS} (hp : PassesOwn (model X.prog X.w) X.A X.env X.xe) (hc : PT X c (tT T W mc)) (hb : PSs X body (tS T W pin σ0 m)) : PS X (.While c body [] pos) (tS T W pin σ0 (sWhile mc m)) := by
  refine ps_of (ps_while hp hc hb) fun D σ H h => ?_
  refine ⟨fun n σ H => tS T W pin σ0 (wh mc m n) D σ H, ⟨FUEL, h⟩, fun n σ H h => ?_⟩
  obtain ⟨S, B, env, mss, R, hpn, q⟩ := h
  cases n with
  | zero => exact q.elim
  | succ n =>
    refine ⟨S, B, env, mss, R, ?_⟩
    cases hm : mc env with
    | ok t env' =>
      intro S' B' H' mss' g R'
      cases t with
      | true =>
        simp only [wh, hm] at q
        show (if true = true then _ else _)
        rw [if_pos rfl]
        refine ⟨fun σ H => tS T W pin σ0 (wh mc m n) D σ H, fun σ' H' h => ⟨n, Nat.lt_succ_self n, h⟩, S', B', env', mss', R', hpn, ?_⟩
        have q := PS'.gw q g
        cases hz : m env' with
        | nx env2 => simp only [hz] at q; exact fun S2 B2 mss2 σ2 H2 g2 R2 hp2 => ⟨S2, B2, env2, mss2, R2, hp2, PS'.gw q g2⟩
        | ct env2 => simp only [hz] at q; exact fun S2 B2 mss2 σ2 H2 g2 R2 hp2 => ⟨S2, B2, env2, mss2, R2, hp2, PS'.gw q g2⟩
        | bk env2 => simp only [hz] at q; exact q
        | rt d env2 => simp only [hz] at q; exact q
        | ex x env2 => simp only [hz] at q; exact q
        | er => simp only [hz] at q; exact q
      | false =>
        simp only [wh, hm] at q
        show (if false = true then _ else _)
        rw [if_neg Bool.false_ne_true]
        exact q S' B' mss' σ H' g R' hpn
    | ex x env' => simp only [wh, hm] at q; exact fun S' B' H' mss' cls d g R' f => q S' B' mss' σ H' cls d g R' hpn f
    | er => simp only [wh, hm] at q; exact q
/-- J walks the items -/
def ItS (T : Tab) (S0 B0 : Hp) (J : It) (items : List D) : Prop := ∀ S B H, Same S0 S → Same B0 B → Same B S → Same S H → ∀ i : Nat,
  (∀ d, items[i]? = some d → J.go i H ∧ ∀ x H', J.yld i H x H' → ∃ S' B', Gr T.tbs S B H S' B' H' ∧ Ros T B' S' [d] [x]) ∧ (items[i]? = none → J.stop i H)
abbrev TgF := D → En → Option En
/-- a target takes what was walked -/
def TgR (T : Tab) (pin : Pins) (g : TG) (f : TgF) : Prop := ∀ S B env mss σ0 σ H d v env', SRx T S B env mss σ H → Pin pin σ0 σ → Ros T B S [d] [v] → f d env = some env' →
  ∀ Q : L2.St → Hp → Prop, (∀ σ' mss', SRx T S B env' mss' σ' H → Pin pin σ0 σ' → Q σ' H) → g v σ H Q
@[simp] def loopF (f : TgF) (b : MS) : List D → MS
  | [], env => .nx env
  | d :: ds, env => match f d env with
    | some env => match b env with
      | .nx env => loopF f b ds env
      | .ct env => loopF f b ds env
      | .bk env => .nx env
      | z => z
    | none => .er
theorem for_ok {J : It} {items : List D} {g : TG} {f : TgF} {tb : TS} {m : MS} (I : ItS T S0 B0 J items) (hg : TgR T pin g f) (htb : ∀ D σ H, tS T W pin σ0 m D σ H → tb D σ H)
    (R : SRx T S B env mss σ H) (s0 : Same S0 S) (b0 : Same B0 B) (hp : Pin pin σ0 σ) (q : PS' T W pin σ0 S B De (loopF f m items env)) :
    ∃ W : Nat → Nat → L2.St → Hp → Prop, (∃ m, W 0 m σ H) ∧ ∀ i m σ H, W i m σ H →
      (J.stop i H ∧ De.nx σ H) ∨ (J.go i H ∧ ∃ N : L2.St → Hp → Prop, (∀ σ' H', N σ' H' → ∃ m', m' < m ∧ W (i + 1) m' σ' H') ∧ ∀ x H', J.yld i H x H' → g x σ H' fun σ2 H2 => tb { De with nx := N, ct := N, bk := De.nx } σ2 H2) := by
  refine ⟨fun i k σ H => k = items.length - i ∧ ∃ S B env mss, Same S0 S ∧ Same B0 B ∧ SRx T S B env mss σ H ∧ Pin pin σ0 σ ∧ PS' T W pin σ0 S B De (loopF f m (items.drop i) env), ⟨items.length, rfl, S, B, env, mss, s0, b0, R, hp, q⟩, ?_⟩
  rintro i k σ H ⟨rfl, S, B, env, mss, s0, b0, R, hp, q⟩
  obtain ⟨yes, no⟩ := I S B H s0 b0 R.bs R.sh i
  cases hi : items[i]? with
  | none =>
    have hl : items.length ≤ i := List.getElem?_eq_none_iff.mp hi
    rw [List.drop_eq_nil_of_le hl] at q
    exact .inl ⟨no hi, q S B mss σ H Gw.refl R hp⟩
  | some d =>
    have hl : i < items.length := (List.getElem?_eq_some_iff.mp hi).1
    have ed : items.drop i = d :: items.drop (i + 1) := by
      rw [List.drop_eq_getElem_cons hl]
      congr 1
      exact (List.getElem?_eq_some_iff.mp hi).2
    rw [ed] at q
    obtain ⟨go, yl⟩ := yes d hi
    refine .inr ⟨go, fun σ H => ∃ S B env mss, Same S0 S ∧ Same B0 B ∧ SRx T S B env mss σ H ∧ Pin pin σ0 σ ∧ PS' T W pin σ0 S B De (loopF f m (items.drop (i + 1)) env), fun σ' H' h => ⟨items.length - (i + 1), by omega, rfl, h⟩, fun x H' y => ?_⟩
    obtain ⟨S', B', gr, ro⟩ := yl x H' y
    have R' := R.grow gr
    simp only [loopF] at q
    cases hf : f d env with
    | none => simp only [hf] at q; exact q.elim
    | some env2 =>
      simp only [hf] at q
      refine hg S' B' env mss σ0 σ H' d x env2 R' hp ro hf _ fun σ' mss' R2 hp2 => htb _ _ _ ⟨S', B', env2, mss', R2, hp2, ?_⟩
      have q := PS'.gw q gr.w
      have s1 := s0.trans gr.w.s
      have b1 := b0.trans gr.w.b
      cases hz : m env2 with
      | nx env3 => simp only [hz] at q; exact fun S3 B3 mss3 σ3 H3 g3 R3 hp3 => ⟨S3, B3, env3, mss3, s1.trans g3.s, b1.trans g3.b, R3, hp3, PS'.gw q g3⟩
      | ct env3 => simp only [hz] at q; exact fun S3 B3 mss3 σ3 H3 g3 R3 hp3 => ⟨S3, B3, env3, mss3, s1.trans g3.s, b1.trans g3.b, R3, hp3, PS'.gw q g3⟩
      | bk env3 => simp only [hz] at q; exact q
      | rt d env3 => simp only [hz] at q; exact q
      | ex x env3 => simp only [hz] at q; exact q
      | er => simp only [hz] at q; exact q
@[simp] def slotD (d : D) : Slot := if copyD d then .own d else .ro d
@[simp] def tgN (j : Nat) : TgF := fun d env => some (env.set j (some (slotD d)))
theorem tg_name {j : Nat} (hj : pin j = false) : TgR T pin (gName j) (tgN j) := by
  intro S B env mss σ0 σ H d v env' R hp ro h Q q
  simp only [tgN, Option.some.injEq] at h
  subst h
  refine q _ (mss.set j []) (R.set ?_ ⟨.nil, fun _ h => nomatch h⟩ fun _ _ _ _ _ _ _ h => nomatch h) (pin_set hp hj)
  unfold slotD
  split
  · rename_i hc; exact copy_own ro (copy1 hc)
  · exact ⟨rfl, ro⟩
abbrev TgsF := List D → En → Option En
def TgsR (T : Tab) (pin : Pins) (g : TGs) (f : TgsF) : Prop := ∀ S B env mss σ0 σ H ds vs env', SRx T S B env mss σ H → Pin pin σ0 σ → Ros T B S ds vs → f ds env = some env' →
  ∀ Q : L2.St → Hp → Prop, (∀ σ' mss', SRx T S B env' mss' σ' H → Pin pin σ0 σ' → Q σ' H) → g vs σ H Q
@[simp] def tsNil : TgsF := fun ds env => match ds with
  | [] => some env
  | _ => none
@[simp] def tsCons (f : TgF) (fs : TgsF) : TgsF := fun ds env => match ds with
  | d :: ds => match f d env with
    | some env => fs ds env
    | none => none
  | [] => none
theorem tgs_nil : TgsR T pin gNil tsNil := by
  intro S B env mss σ0 σ H ds vs env' R hp ro h Q q
  cases ds with
  | nil => simp [tsNil] at h; subst h; exact ⟨ros_nil ro, q σ mss R hp⟩
  | cons => simp [tsNil] at h
theorem tgs_cons {g : TG} {gs : TGs} {f : TgF} {fs : TgsF} (h1 : TgR T pin g f) (h2 : TgsR T pin gs fs) : TgsR T pin (gCons g gs) (tsCons f fs) := by
  intro S B env mss σ0 σ H ds vs env' R hp ro h Q q
  cases ds with
  | nil => simp [tsCons] at h
  | cons d ds =>
    obtain ⟨v, us, rfl, r1, r2⟩ := ros_c ro
    simp only [tsCons] at h
    cases hf : f d env with
    | none => simp [hf] at h
    | some env2 =>
      simp only [hf] at h
      exact ⟨v, us, rfl, h1 S B env mss σ0 σ H d v env2 R hp r1 hf _ fun σ' mss' R' hp' => h2 S B env2 mss' σ0 σ' H ds us env' R' hp' r2 h Q q⟩
def cover (d : D) : D := if copyD d then d else .fz d
@[simp] def tgT (fs : TgsF) : TgF := fun d env => match d with
  | .tup xs => fs xs env
  | .fz (.tup xs) => fs (xs.map cover) env
  | _ => none
theorem ros_cover {ds : List D} {vs : List V} (r : Ros T B B ds vs) : Ros T B S (ds.map cover) vs := by
  induction ds generalizing vs with
  | nil => rw [ros_nil r]; exact .nil
  | cons d ds ih =>
    obtain ⟨v, us, rfl, h1, r⟩ := ros_c r
    rw [List.map_cons]
    refine ros_cons ?_ (ih r)
    unfold cover
    split
    · rename_i hc
      have o := copy_own h1 (copy1 hc)
      have : ∀ {ds vs}, Owns T B ds vs [] → copyDs ds = true → Ros T B S ds vs := by
        intro ds vs o
        generalize hm : ([] : Cells) = ms at o
        induction o with
        | nil => intro _; exact .nil
        | im h _ ih => intro c; simp [copyDs, copyD] at c; exact .im h (ih hm c)
        | lst => intro c; simp [copyDs, copyD] at c
        | tup h _ _ iq ir =>
          intro c; simp [copyDs, copyD] at c
          have e := List.append_eq_nil_iff.mp hm.symm
          exact .tup h (iq e.1.symm c.1) (ir e.2.symm c.2)
        | dct => intro c; simp [copyDs, copyD] at c
        | obj => intro c; simp [copyDs, copyD] at c
        | fz q _ ir => intro c; simp [copyDs, copyD] at c; exact .fz q (ir hm c)
        | fn h _ ir => intro c; simp [copyDs, copyD] at c; exact .fn h (ir hm c)
      exact this o (copy1 hc)
    · exact .fz h1 .nil
theorem tg_tup {gs : TGs} {fs : TgsF} {n : Nat} (h : TgsR T pin gs fs) (hn : ∀ ds env env', fs ds env = some env' → ds.length = n) : TgR T pin (gTup T.K n gs) (tgT fs) := by
  intro S B env mss σ0 σ H d v env' R hp ro hf Q q
  unfold tgT at hf
  split at hf
  · rename_i xs
    obtain ⟨a, ws, rfl, h1, r1⟩ := ros_tup ro
    exact ⟨a, ws, rfl, SqT.of (R.bs.trans R.sh _ _ h1), by rw [← r1.len]; exact hn _ _ _ hf, h S B env mss σ0 σ H xs ws env' R hp r1 hf Q q⟩
  · rename_i xs
    cases ro with
    | fz r0 _ =>
      obtain ⟨a, ws, rfl, h1, r1⟩ := ros_tup r0
      have r2 := ros_cover (S := S) r1
      exact ⟨a, ws, rfl, SqT.of (R.bs.trans R.sh _ _ h1), by rw [← r1.len, ← hn _ _ _ hf, List.length_map], h S B env mss σ0 σ H _ ws env' R hp r2 hf Q q⟩
  · cases hf
end
end Tr
namespace Tr
open PySem L2
inductive IR where
  | ok (items : List D) (fz : List Nat)
  | ex (x : Exn)
  | er
abbrev MI := En → IR
/-- the slots fz stand still: Sf -/
inductive FzOk : Hp → List Cells → List Nat → Hp → Prop
  | nil {S mss} : FzOk S mss [] S
  | cons {S mss i m is Sf} (h : mss[i]? = some m) (r : FzOk (Wi S m) (mss.set i []) is Sf) : FzOk S mss (i :: is) Sf
def PI0 (T : Tab) (W : WX) (S B : Hp) (mss : List Cells) (σ : L2.St) (H : Hp) (R : It → Hp → Prop) : IR → Prop
  | .ok items fz => ∀ S' B' H' J, Gr T.tbs S B H S' B' H' → (∀ Sf, FzOk S' mss fz Sf → Same Sf H' → ItS T Sf B' J items) → R J H'
  | .ex x => ∀ S' B' H' cls d, Gr T.tbs S B H S' B' H' → ExF T H' x cls d → W cls d σ H'
  | .er => False
def tI (T : Tab) (W : WX) (m : MI) : TI := fun σ H R => ∃ S B env mss, SRx T S B env mss σ H ∧ PI0 T W S B mss σ H R (m env)
/-- one slot behind a loop over slot i -/
@[simp] def th1 (pin : Pins) (i k : Nat) (e f : Option Slot) : Option Slot := if k = i then e else match f with
  | some (.own d) => some (.own d)
  | some (.ro _) => if pin k then (match e with | some (.ro d) => some (.ro d) | _ => none) else none
  | none => none
@[simp] def thGo (pin : Pins) (i : Nat) : Nat → En → En → En
  | k, e :: es, f :: fs => th1 pin i k e f :: thGo pin i (k + 1) es fs
  | _, _, _ => []
@[simp] def thS (pin : Pins) (i : Nat) (env : En) : SS → SS
  | .nx f => .nx (thGo pin i 0 env f)
  | .rt d f => .rt d (thGo pin i 0 env f)
  | .bk f => .bk (thGo pin i 0 env f)
  | .ct f => .ct (thGo pin i 0 env f)
  | .ex x f => .ex x (thGo pin i 0 env f)
  | .er => .er
@[simp] def frL (pin pin' : Pins) (k : MS) : List Nat → MS
  | [], env => k env
  | i :: is, env => match env[i]? with
    | some (some (.own d)) => if pin' i = true then thS pin i env (frL pin pin' k is (env.set i (some (.ro d)))) else .er
    | _ => .er
@[simp] def sFor (pin pin' : Pins) (mi : MI) (f : TgF) (m : MS) : MS := fun env => match mi env with
  | .ok items fz => frL pin pin' (loopF f m items) fz env
  | .ex x => .ex x env
  | .er => .er
section
variable {X : Cx} {T : Tab} {W : WX} {pin pin' : Pins} {σ0 : L2.St} {e a b c : Expr} {S B H S' B' H' S0 B0 S2 B2 H2 : Hp} {env env2 : En} {mss mss2 : List Cells} {σ σ2 : L2.St} {De : Ends} {pos : Pos}
theorem thGo_at {i : Nat} : ∀ {k : Nat} {es fs : En} {j : Nat} {x : Option Slot}, (thGo pin i k es fs)[j]? = some x → ∃ e f, es[j]? = some e ∧ fs[j]? = some f ∧ x = th1 pin i (k + j) e f
  | k, e :: es, f :: fs, 0, x, h => ⟨e, f, rfl, rfl, by simpa [thGo] using h.symm⟩
  | k, e :: es, f :: fs, j + 1, x, h => by
    obtain ⟨e', f', h1, h2, h3⟩ := thGo_at (k := k + 1) (es := es) (fs := fs) (j := j) (x := x) (by simpa [thGo] using h)
    exact ⟨e', f', by simpa using h1, by simpa using h2, by rw [h3]; congr 1; omega⟩
  | _, [], _, _, _, h => by simp [thGo] at h
  | _, _ :: _, [], _, _, h => by simp [thGo] at h
theorem thGo_len {i : Nat} : ∀ {k : Nat} {es fs : En}, es.length = fs.length → (thGo pin i k es fs).length = fs.length
  | k, e :: es, f :: fs, h => by simp [thGo, thGo_len (i := i) (k := k + 1) (es := es) (fs := fs) (by simpa using h)]
  | _, [], [], _ => rfl
  | _, [], _ :: _, h => by simp at h
  | _, _ :: _, [], h => by simp at h
/-- without the cells m -/
def Mi (S : Hp) (m : Cells) : Hp := fun a => if (m.map (·.1)).contains a = true then none else S a
theorem Mi.out {S : Hp} {m : Cells} {a : Addr} (h : ∀ c ∈ m, c.1 ≠ a) : Mi S m a = S a := by
  unfold Mi
  rw [if_neg]
  intro hc
  rw [List.contains_iff_mem] at hc
  obtain ⟨c', hc', e'⟩ := List.mem_map.mp hc
  exact h c' hc' e'
theorem Mi.in_ {S : Hp} {m : Cells} {c : Addr × HO} (h : c ∈ m) : Mi S m c.1 = none := by
  unfold Mi
  rw [if_pos]
  rw [List.contains_iff_mem]
  exact List.mem_map.mpr ⟨c, h, rfl⟩
theorem Mi.le {S : Hp} {m : Cells} : Same (Mi S m) S := fun a o h => by
  unfold Mi at h
  split at h
  · cases h
  · exact h
theorem Mi.none {S : Hp} {m : Cells} {a : Addr} (h : S a = none) : Mi S m a = Option.none := by
  unfold Mi
  split
  · rfl
  · exact h
theorem thaw {i : Nat} {d : D} {v : V} {m : Cells} (R : SRx T S B env mss σ H) (he : env[i]? = some (some (.own d))) (hv : σ[i]? = some (some v)) (hm : mss[i]? = some m) (hp : Pin pin' σ0 σ) (hi : pin' i = true) (hpp : ∀ k, pin k = true → pin' k = true)
    (g : Gw (Wi S m) B S2 B2) (R2 : SRx T S2 B2 env2 mss2 σ2 H2) (hp2 : Pin pin' σ0 σ2) :
    Gw S B (Mi S2 m) B2 ∧ SRx T (Mi S2 m) B2 (thGo pin i 0 env env2) (mss2.set i m) σ2 H2 := by
  obtain ⟨v', m', e1, e2, own, okm⟩ := R.own he
  rw [hv] at e1; cases e1
  rw [hm] at e2; cases e2
  have inS2 : ∀ c ∈ m, S2 c.1 = some c.2 := fun c hc => g.s _ _ (Wi.at_ okm c hc)
  have notm : ∀ a o, S a = some o → ∀ c ∈ m, c.1 ≠ a := fun a o h c hc z => by rw [← z, (okm.2 c hc).2] at h; cases h
  have bm : ∀ a o, B2 a = some o → ∀ c ∈ m, c.1 ≠ a := fun a o h c hc z => by
    rcases g.n a o h with q | q
    · exact notm a o (R.bs _ _ q) c hc z
    · rw [← z, Wi.at_ okm c hc] at q; cases q
  have bs3 : Same B2 (Mi S2 m) := fun a o h => by rw [Mi.out (bm a o h)]; exact R2.bs _ _ h
  refine ⟨⟨fun a o h => ?_, g.b, fun a o h => ?_⟩, ⟨bs3, Mi.le.trans R2.sh, ?_, ?_, fun k x s mk h1 h2 h3 => ?_, fun k mk h => ?_, fun j k mj mk hjk h1 h2 => ?_, fun p hp => ⟨(R2.tb p hp).1, Mi.none (R2.tb p hp).2⟩, R2.tc⟩⟩
  · rw [Mi.out (notm a o h)]; exact g.s _ _ (Wi.same _ _ h)
  · rcases g.n a o h with q | q
    · exact .inl q
    · exact .inr (Wi.same.free q)
  · rw [thGo_len (by rw [R.l1, R2.l1, hp.1, hp2.1]), R2.l1]
  · rw [List.length_set, R2.l2]
  · obtain ⟨x0, f, g1, g2, rfl⟩ := thGo_at h1
    rw [Nat.zero_add] at *
    rcases set_at h3 with ⟨rfl, rfl⟩ | ⟨hne, h3⟩
    · rw [he] at g1; cases g1
      simp only [th1, if_pos]
      have : s = some v := by
        have q1 := hp2.2 k hi
        have q2 := hp.2 k hi
        rw [h2, ← q2, hv] at q1
        cases q1; rfl
      subst this
      exact own.mono g.b
    · simp only [th1, if_neg hne]
      have q := R2.at_ k f s mk g2 h2 h3
      cases f with
      | none => exact q
      | some f =>
        cases s with
        | none => cases f <;> exact q.elim
        | some u =>
          cases f with
          | own d => exact q
          | ro d =>
            obtain ⟨rfl, _⟩ := q
            by_cases hk : pin k = true
            · simp only [hk, if_true]
              cases x0 with
              | none => rfl
              | some x0 =>
                cases x0 with
                | own d0 => rfl
                | ro d0 =>
                  obtain ⟨v0, w1, w2⟩ := R.ro g1
                  have q1 := hp2.2 k (hpp k hk)
                  have q2 := hp.2 k (hpp k hk)
                  rw [h2, ← q2, w1] at q1
                  cases q1
                  exact ⟨rfl, w2.mono (fun a o h => by rw [Mi.out (notm a o h)]; exact g.s _ _ (Wi.same _ _ h)) g.b⟩
            · simp only [hk, if_false]
              rfl
  · rcases set_at h with ⟨rfl, rfl⟩ | ⟨_, h⟩
    · exact ⟨okm.1, fun c hc => ⟨R2.sh _ _ (inS2 c hc), Mi.in_ hc⟩⟩
    · have := R2.ok k mk h
      exact ⟨this.1, fun c hc => ⟨(this.2 c hc).1, Mi.none (this.2 c hc).2⟩⟩
  · have key : ∀ k mk, mss2[k]? = some mk → Apart m mk := fun k mk h c hc x hx z => by
      have a1 := inS2 c hc
      rw [z, ((R2.ok k mk h).2 x hx).2] at a1; cases a1
    rcases set_at h1 with ⟨rfl, rfl⟩ | ⟨hj, g1⟩
    · rcases set_at h2 with ⟨z, _⟩ | ⟨_, g2⟩
      · exact absurd z.symm hjk
      · exact key k mk g2
    · rcases set_at h2 with ⟨rfl, rfl⟩ | ⟨_, g2⟩
      · exact apart_symm (key j mj g1)
      · exact R2.ap j k mj mk hjk g1 g2
theorem thaw_ps {p0 : Pins} {i : Nat} {d : D} {v : V} {m : Cells} {z : SS} (R : SRx T S B env mss σ H) (he : env[i]? = some (some (.own d))) (hv : σ[i]? = some (some v)) (hm : mss[i]? = some m) (hp : Pin pin' σ0 σ) (hi : pin' i = true) (hpp : ∀ k, pin k = true → pin' k = true)
    (h0 : ∀ k, p0 k = true → pin' k = true) (q : PS' T W p0 σ0 S B De (thS pin i env z)) : PS' T W pin' σ0 (Wi S m) B De z := by
  have pp : ∀ {σ2}, Pin pin' σ0 σ2 → Pin p0 σ0 σ2 := fun h => ⟨h.1, fun k hk => h.2 k (h0 k hk)⟩
  cases z with
  | nx f => exact fun S2 B2 mss2 σ2 H2 g R2 hp2 => let ⟨a, b⟩ := thaw R he hv hm hp hi hpp g R2 hp2; q _ _ _ _ _ a b (pp hp2)
  | bk f => exact fun S2 B2 mss2 σ2 H2 g R2 hp2 => let ⟨a, b⟩ := thaw R he hv hm hp hi hpp g R2 hp2; q _ _ _ _ _ a b (pp hp2)
  | ct f => exact fun S2 B2 mss2 σ2 H2 g R2 hp2 => let ⟨a, b⟩ := thaw R he hv hm hp hi hpp g R2 hp2; q _ _ _ _ _ a b (pp hp2)
  | ex x f => exact fun S2 B2 mss2 σ2 H2 cls d g R2 hp2 ef => let ⟨a, b⟩ := thaw R he hv hm hp hi hpp g R2 hp2; q _ _ _ _ _ _ _ a b (pp hp2) ef
  | rt d f =>
    intro S2 B2 mss2 σ2 H2 v2 ms g R2 hp2 o c ap
    obtain ⟨x, y⟩ := thaw R he hv hm hp hi hpp g R2 hp2
    refine q _ _ _ _ _ _ _ x y (pp hp2) o ⟨c.1, fun z hz => ⟨(c.2 z hz).1, Mi.none (c.2 z hz).2⟩⟩ fun j mj hj => ?_
    rcases set_at hj with ⟨rfl, rfl⟩ | ⟨_, hj⟩
    · intro c' hc' e' he' z
      obtain ⟨_, m', _, e2, _, okm⟩ := R.own he
      rw [hm] at e2; cases e2
      have a1 := g.s _ _ (Wi.at_ okm c' hc')
      rw [z, (c.2 e' he').2] at a1; cases a1
    · exact ap j mj hj
  | er => exact q
theorem freeze {i : Nat} {d : D} {m : Cells} (R : SRx T S B env mss σ H) (he : env[i]? = some (some (.own d))) (hm : mss[i]? = some m) : SRx T (Wi S m) B (env.set i (some (.ro d))) (mss.set i []) σ H := by
  obtain ⟨v, m', e1, e2, own, okm⟩ := R.own he
  rw [hm] at e2; cases e2
  have R1 : ∀ k mk, k ≠ i → mss[k]? = some mk → ∀ c ∈ mk, Wi S m c.1 = none := fun k mk hk h c hc => by
    unfold Wi
    rw [((R.ok k mk h).2 c hc).2]
    cases hl : m.lookup c.1 with
    | none => rfl
    | some o => exact absurd rfl (R.ap k i mk m hk h hm c hc (c.1, o) (mem_of_lookup' hl))
  refine ⟨R.bs.trans Wi.same, Wi.le R.sh okm, by rw [List.length_set, R.l1], by rw [List.length_set, R.l2], fun k x s mk h1 h2 h3 => ?_, fun k mk h => ?_, fun j k mj mk hjk h1 h2 => ?_, tb_wi R.tb okm own.nt, R.tc⟩
  · rcases set_at h1 with ⟨rfl, rfl⟩ | ⟨hk, g1⟩
    · rcases set_at h3 with ⟨_, rfl⟩ | ⟨hk, _⟩
      · rw [e1] at h2; cases h2
        exact ⟨rfl, own.ro (R.bs.trans Wi.same) (Wi.at_ okm)⟩
      · exact absurd rfl hk
    · rcases set_at h3 with ⟨z, _⟩ | ⟨_, g3⟩
      · exact absurd z hk
      · exact (R.at_ k x s mk g1 h2 g3).mono Wi.same (Same.refl _)
  · rcases set_at h with ⟨_, rfl⟩ | ⟨hk, h⟩
    · exact ⟨.nil, fun _ h => nomatch h⟩
    · exact ⟨(R.ok k mk h).1, fun c hc => ⟨((R.ok k mk h).2 c hc).1, R1 k mk hk h c hc⟩⟩
  · rcases set_at h1 with ⟨_, rfl⟩ | ⟨_, g1⟩
    · exact fun _ h => nomatch h
    · rcases set_at h2 with ⟨_, rfl⟩ | ⟨_, g2⟩
      · exact fun _ _ _ h => nomatch h
      · exact R.ap j k mj mk hjk g1 g2
theorem PS'.pins {z : SS} (hpp : ∀ k, pin k = true → pin' k = true) (q : PS' T W pin σ0 S B De z) : PS' T W pin' σ0 S B De z := by
  have pp : ∀ {σ2}, Pin pin' σ0 σ2 → Pin pin σ0 σ2 := fun h => ⟨h.1, fun k hk => h.2 k (hpp k hk)⟩
  cases z with
  | nx f => exact fun S2 B2 mss2 σ2 H2 g R2 hp2 => q _ _ _ _ _ g R2 (pp hp2)
  | bk f => exact fun S2 B2 mss2 σ2 H2 g R2 hp2 => q _ _ _ _ _ g R2 (pp hp2)
  | ct f => exact fun S2 B2 mss2 σ2 H2 g R2 hp2 => q _ _ _ _ _ g R2 (pp hp2)
  | ex x f => exact fun S2 B2 mss2 σ2 H2 cls d g R2 hp2 => q _ _ _ _ _ _ _ g R2 (pp hp2)
  | rt d f => exact fun S2 B2 mss2 σ2 H2 v ms g R2 hp2 => q _ _ _ _ _ _ _ g R2 (pp hp2)
  | er => exact q
theorem frL_ok {k : MS} {fz : List Nat} : ∀ {p0 : Pins} {S Sf : Hp} {env : En} {mss : List Cells}, SRx T S B env mss σ H → Pin pin' σ0 σ → (∀ k, pin k = true → pin' k = true) → (∀ k, p0 k = true → pin' k = true) → FzOk S mss fz Sf →
    PS' T W p0 σ0 S B De (frL pin pin' k fz env) → ∃ env' mss', SRx T Sf B env' mss' σ H ∧ PS' T W pin' σ0 Sf B De (k env') := by
  induction fz with
  | nil =>
    intro p0 S Sf env mss R hp hpp h0 fz q
    cases fz
    exact ⟨env, mss, R, PS'.pins h0 q⟩
  | cons i is ih =>
    intro p0 S Sf env mss R hp hpp h0 fz q
    cases fz with
    | @cons _ _ _ m _ _ hm r =>
      simp only [frL] at q
      cases hd : env[i]? with
      | none => simp only [hd] at q; exact q.elim
      | some o =>
      cases o with
      | none => simp only [hd] at q; exact q.elim
      | some o =>
      cases o with
      | ro d => simp only [hd] at q; exact q.elim
      | own d =>
        simp only [hd] at q
        split at q
        · rename_i hpi
          obtain ⟨v, m', e1, e2, _, _⟩ := R.own hd
          rw [hm] at e2; cases e2
          exact ih (freeze R hd hm) hp hpp (fun _ h => h) r (thaw_ps R hd e1 hm hp hpi hpp h0 q)
        · exact q.elim
theorem frz_of {k : MS} {fz : List Nat} : ∀ {p0 : Pins} {S : Hp} {env : En} {mss : List Cells}, SRx T S B env mss σ H → PS' T W p0 σ0 S B De (frL pin pin' k fz env) → ∃ Sf, FzOk S mss fz Sf := by
  induction fz with
  | nil => intro p0 S env mss R q; exact ⟨S, .nil⟩
  | cons i is ih =>
    intro p0 S env mss R q
    simp only [frL] at q
    cases hd : env[i]? with
    | none => simp only [hd] at q; exact q.elim
    | some o =>
    cases o with
    | none => simp only [hd] at q; exact q.elim
    | some o =>
    cases o with
    | ro d => simp only [hd] at q; exact q.elim
    | own d =>
      simp only [hd] at q
      split at q
      · rename_i hpi
        obtain ⟨v, m', e1, e2, _, _⟩ := R.own hd
        cases hz : frL pin pin' k is (env.set i (some (.ro d))) with
        | er => rw [hz] at q; exact q.elim
        | _ =>
          have hne : frL pin pin' k is (env.set i (some (.ro d))) ≠ .er := by rw [hz]; intro h; cases h
          have : ∀ {fz : List Nat} {S : Hp} {env : En} {mss : List Cells}, SRx T S B env mss σ H → frL pin pin' k fz env ≠ .er → ∃ Sf, FzOk S mss fz Sf := by
            intro fz
            induction fz with
            | nil => intro S env mss _ _; exact ⟨S, .nil⟩
            | cons i is ih =>
              intro S env mss R h
              simp only [frL] at h
              split at h
              · rename_i d hd
                split at h
                · obtain ⟨v, m', e1, e2, _, _⟩ := R.own hd
                  obtain ⟨Sf, hs⟩ := ih (freeze R hd e2) (fun z => h (by rw [z]; rfl))
                  exact ⟨Sf, .cons e2 hs⟩
                · exact absurd rfl h
              · exact absurd rfl h
          obtain ⟨Sf, hs⟩ := this (freeze R hd e2) hne
          exact ⟨Sf, .cons e2 hs⟩
      · exact q.elim
/-- the names that are pinned in the loop hold at its start what they hold: σ1 is the start's slots -/
theorem ss_for {tgt iter : Expr} {body : List Stmt} {mi : MI} {g : TG} {f : TgF} {m : MS} (hp : PassesOwn (model X.prog X.w) X.A X.env X.xe) (hc : X.calm = true) (hi : PI X tgt iter (tI T W mi)) (hg : PG X tgt g) (htg : TgR T pin' g f)
    (hpp : ∀ k, pin k = true → pin' k = true) (hb : ∀ σ1, PSs X body (tS T W pin' σ1 m)) (hs : ∀ v, foldedSetIterable iter X.env v = pure v := by intro _; rfl) : PS X (.For tgt iter body [] pos) (tS T W pin σ0 (sFor pin pin' mi f m)) := by
  refine ⟨fun pins s σ H De I h => ?_⟩
  obtain ⟨S, B, env, mss, R, hpn, q⟩ := h
  have pσ : Pin pin' σ σ := ⟨rfl, fun _ _ => rfl⟩
  have back : ∀ {σ2}, Pin pin' σ σ2 → Pin pin σ0 σ2 := fun h => ⟨h.1.trans hpn.1, fun k hk => (h.2 k (hpp k hk)).trans (hpn.2 k hk)⟩
  have conv : ∀ {S B z}, PS' T W pin σ0 S B De z → PS' T W pin σ S B De z := fun {S B z} q => by
    have back1 : ∀ {σ2}, Pin pin σ σ2 → Pin pin σ0 σ2 := fun h => ⟨h.1.trans hpn.1, fun k hk => (h.2 k hk).trans (hpn.2 k hk)⟩
    cases z with
    | nx f => exact fun S2 B2 mss2 σ2 H2 g R2 hp2 => q _ _ _ _ _ g R2 (back1 hp2)
    | bk f => exact fun S2 B2 mss2 σ2 H2 g R2 hp2 => q _ _ _ _ _ g R2 (back1 hp2)
    | ct f => exact fun S2 B2 mss2 σ2 H2 g R2 hp2 => q _ _ _ _ _ g R2 (back1 hp2)
    | ex x f => exact fun S2 B2 mss2 σ2 H2 cls d g R2 hp2 => q _ _ _ _ _ _ _ g R2 (back1 hp2)
    | rt d f => exact fun S2 B2 mss2 σ2 H2 v ms g R2 hp2 => q _ _ _ _ _ _ _ g R2 (back1 hp2)
    | er => exact q
  refine (ps_for hp hc hi hg (hb σ) (hs := hs)).run pins s σ H De I ?_
  show tI T W mi σ H _
  refine ⟨S, B, env, mss, R, ?_⟩
  cases hm : mi env with
  | ok items fz =>
    simp only [sFor, hm] at q
    intro S' B' H' J gr its
    have R' := R.grow gr
    have q2 := conv (PS'.gw q gr.w)
    obtain ⟨Sf, hz⟩ := frz_of R' q2
    obtain ⟨env', mss', R2, q3⟩ := frL_ok R' pσ hpp hpp hz q2
    exact for_ok (its Sf hz R2.sh) htg (fun _ _ _ h => h) R2 (Same.refl _) (Same.refl _) pσ q3
  | ex x => simp only [sFor, hm] at q; exact fun S' B' H' cls d gr ef => q S' B' mss σ H' cls d gr.w (R.grow gr) hpn ef
  | er => simp only [sFor, hm] at q; exact q
end
end Tr
namespace Tr
open PySem L2
section
variable {X : Cx} {T : Tab} {W : WX} {e a b : Expr} {tg : Expr} {m ma mb : ME} {S B H S' B' H' S0 B0 : Hp} {env : En} {mss : List Cells} {σ : L2.St}
theorem pi_of' {w w' : TI} (h : PI X tg e w) (i : ∀ σ H R, w' σ H R → w σ H R) : PI X tg e w' := ⟨fun pins s σ H R I q => h.run pins s σ H R I (i σ H R q)⟩
@[simp] def rgD (lo : Int) (n : Nat) : List D := (List.range n).map fun i => .im (.int (lo + (i : Nat)))
theorem its_rng {lo : Int} {n : Nat} : ItS T S0 B0 (Itr lo n) (rgD lo n) := by
  intro S B H _ _ bs sh i
  refine ⟨fun d h => ?_, fun h => ?_⟩
  · simp only [rgD, List.getElem?_map, Option.map_eq_some_iff] at h
    obtain ⟨j, hj, rfl⟩ := h
    obtain ⟨hl, ej⟩ := List.getElem?_eq_some_iff.mp hj
    rw [List.getElem_range] at ej
    subst ej
    rw [List.length_range] at hl
    refine ⟨hl, fun x H' y => ?_⟩
    obtain ⟨rfl, rfl⟩ := (show H' = H ∧ x = .int (lo + (i : Nat)) from y)
    exact ⟨S, B, Gr.refl bs sh, .im rfl .nil⟩
  · show n ≤ i
    have := List.getElem?_eq_none_iff.mp h
    simpa [rgD] using this
def rgOk (i : Int) : Bool := decide (-(2 ^ 62) ≤ i ∧ i < 2 ^ 62)
@[simp] def iRg1 (ma : ME) : MI := fun env => match mAs [ma] env with
  | .ok [r] => match r.d with
    | .im (.int n) => if rgOk n then .ok (rgD 0 n.toNat) [] else .er
    | _ => .er
  | .ex x => .ex x
  | _ => .er
theorem ip_rg1 (h : PI X tg e (iRng1 (tPR T W [ma]))) : PI X tg e (tI T W (iRg1 ma)) := by
  refine pi_of' h fun σ H R ⟨S, B, env, mss, Rx, q⟩ => ⟨S, B, env, mss, Rx, ?_⟩
  simp only [iRg1] at q
  cases hr : mAs [ma] env with
  | ok rs =>
    simp only [hr] at q
    intro S' B' H' vs g ro
    split at q
    · rename_i r z
      cases z
      split at q
      · rename_i n hd
        split at q
        · rename_i hb
          simp only [List.map_cons, List.map_nil, hd] at ro
          rw [ros_im1 ro]
          have hb := of_decide_eq_true hb
          exact ⟨n, rfl, hb.1, hb.2, q S' B' H' _ g fun Sf hz hsf => its_rng⟩
        · exact q.elim
      · exact q.elim
    · rename_i z; cases z
    · exact q.elim
  | ex x => simp only [hr] at q; exact q
  | er => simp only [hr] at q; exact q
@[simp] def iRg2 (ma mb : ME) : MI := fun env => match mAs [ma, mb] env with
  | .ok [r, s] => match r.d, s.d with
    | .im (.int i), .im (.int j) => if rgOk i && rgOk j then .ok (rgD i (j - i).toNat) [] else .er
    | _, _ => .er
  | .ex x => .ex x
  | _ => .er
def itemsOf : D → Option (List D)
  | .lst xs => some xs
  | .scr ns => some (ns.map fun n => .im (.int n))
  | .fz (.lst xs) => some (xs.map cover)
  | _ => none
/-- a list that is known at S0 -/
def LsAt (T : Tab) (S0 B0 : Hp) (a : Addr) (items : List D) : Prop := ∃ ws, SqL T.K S0 a ws ∧ Ros T B0 S0 items ws
theorem ls_of {d : D} {v : V} {items : List D} (r : Ros T B S [d] [v]) (bs : Same B S) (h : itemsOf d = some items) : ∃ a, v = .ref a ∧ LsAt T S B a items := by
  unfold itemsOf at h
  split at h
  · cases h
    obtain ⟨a, ws, rfl, h1, q⟩ := ros_lst r
    exact ⟨a, rfl, ws, SqL.of h1, q⟩
  · rename_i ns
    cases h
    cases r with
    | scr h1 _ =>
      refine ⟨_, rfl, _, h1, ?_⟩
      have : (ns.map fun n => D.im (.int n)) = (ns.map V.int).map D.im := by simp
      rw [this]
      have o : Owns T B ((ns.map V.int).map D.im) (ns.map V.int) [] := owns_ims (imm_ints ns)
      exact o.ro bs fun _ h => nomatch h
  · cases h
    cases r with
    | fz r0 _ =>
      obtain ⟨a, ws, rfl, h1, q⟩ := ros_lst r0
      exact ⟨a, rfl, ws, SqL.of (bs _ _ h1), ros_cover q⟩
  · cases h
theorem its_list {a : Addr} {items : List D} (h : LsAt T S0 B0 a items) : ItS T S0 B0 (Itl T.K a) items := by
  obtain ⟨ws, hs, ro⟩ := h
  intro S B H s0 b0 bs sh i
  have hH : SqL T.K H a ws := sql_mono (s0.trans sh) hs
  refine ⟨fun d h => ?_, fun h => ?_⟩
  · obtain ⟨v, hv, r⟩ := ros_at ro h
    refine ⟨⟨ws, v, hH, hv⟩, fun x H' y => ?_⟩
    obtain ⟨rfl, y⟩ := (show H' = H ∧ ∀ xs, SqL T.K H a xs → xs[i]? = some x from y)
    have := y ws hH
    rw [hv] at this; cases this
    exact ⟨S, B, Gr.refl bs sh, r.mono s0 b0⟩
  · exact ⟨ws, hH, by rw [← ro.len]; exact List.getElem?_eq_none_iff.mp h⟩
/-- where a result stands still -/
@[simp] def rootOf : Rs → List Nat
  | .bor i _ => [i]
  | _ => []
/-- a result's list, made to stand still -/
theorem still {r : Rs} {v : V} {items : List D} {mc : Cells} (R : SRx T S B env mss σ H) (f : RFc T S' B' H' H mss r v mc) (g : Gr T.tbs S B H S' B' H') (h : itemsOf r.d = some items) :
    ∃ S2, Gr T.tbs S B H S2 B' H' ∧ Same S' S2 ∧ (∀ c, S2 c = S' c ∨ ∃ x ∈ mc, x.1 = c) ∧ ∃ a, v = .ref a ∧ ∀ Sf, FzOk S2 mss (rootOf r) Sf → LsAt T Sf B' a items := by
  have R' := R.grow g
  cases r with
  | own d =>
    obtain ⟨o, c, n⟩ := f
    have sh2 : Same (Wi S' mc) H' := Wi.le g.sh c
    have gr2 : Gr T.tbs S B H (Wi S' mc) B' H' := ⟨⟨g.w.s.trans Wi.same, g.w.b, g.w.n⟩, g.h, g.t, fun a u hh => by
      unfold Wi at hh
      cases e : S' a with
      | some w => rw [e] at hh; exact g.f a w e |>.imp (fun z => by cases hh; exact z) id
      | none =>
        rw [e] at hh
        exact .inr (n _ (mem_of_lookup' hh)), sh2, g.bs.trans Wi.same⟩
    obtain ⟨a, rfl, l⟩ := ls_of (o.ro (g.bs.trans Wi.same) (Wi.at_ c)) (g.bs.trans Wi.same) h
    refine ⟨_, gr2, Wi.same, fun x => ?_, a, rfl, fun Sf hz => by cases hz; exact l⟩
    unfold Wi
    cases e : S' x with
    | some w => exact .inl rfl
    | none =>
      cases e2 : mc.lookup x with
      | none => exact .inl (by simp [e2])
      | some o => exact .inr ⟨_, mem_of_lookup' e2, rfl⟩
  | ro d =>
    obtain ⟨a, rfl, l⟩ := ls_of f.2 g.bs h
    exact ⟨S', g, Same.refl _, fun _ => .inl rfl, a, rfl, fun Sf hz => by cases hz; exact l⟩
  | bor i d =>
    obtain ⟨_, m, h1, h2⟩ := f
    obtain ⟨a, rfl, l⟩ := ls_of h2 (g.bs.trans Wi.same) h
    refine ⟨S', g, Same.refl _, fun _ => .inl rfl, a, rfl, fun Sf hz => ?_⟩
    cases hz with
    | cons hm r =>
      rw [h1] at hm; cases hm
      cases r; exact l
@[simp] def iLs (m : ME) : MI := fun env => match m env with
  | .ok r => match itemsOf r.d with
    | some items => .ok items (rootOf r)
    | none => .er
  | .ex x => .ex x
  | .er => .er
theorem ip_list (hK : X.K = T.K) (h : PE X e (tP T W m)) : PI X tg e (tI T W (iLs m)) := by
  refine pi_of' (pi_list h) fun σ H R ⟨S, B, env, mss, Rx, q⟩ => ⟨S, B, env, mss, Rx, ?_⟩
  simp only [iLs] at q
  cases hm : m env with
  | ok r =>
    simp only [hm] at q
    intro S' B' H' v g f
    cases hi : itemsOf r.d with
    | none => simp only [hi] at q; exact q.elim
    | some items =>
      simp only [hi] at q
      obtain ⟨mc, fc⟩ := f.toC
      obtain ⟨S2, g2, _, _, a, rfl, l⟩ := still Rx fc g hi
      have rd := f.read (Rx.grow g)
      obtain ⟨a', ea, ws, hs, _⟩ := ls_of rd (g.bs.trans g.sh) hi
      cases ea
      refine ⟨a, rfl, ⟨ws, hK ▸ hs⟩, ?_⟩
      rw [hK]
      exact q S2 B' H' _ g2 fun Sf hz _ => its_list (l Sf hz)
  | ex x => simp only [hm] at q; exact q
  | er => simp only [hm] at q; exact q
@[simp] def enD (items : List D) : List D := (List.range items.length).map fun i => .tup [.im (.int (i : Nat)), items.getD i (.im .non)]
theorem its_enum {a : Addr} {items : List D} (h : LsAt T S0 B0 a items) : ItS T S0 B0 (Ite T.K a) (enD items) := by
  obtain ⟨ws, hs, ro⟩ := h
  intro S B H s0 b0 bs sh i
  have hH : SqL T.K H a ws := sql_mono (s0.trans sh) hs
  refine ⟨fun d h => ?_, fun h => ?_⟩
  · simp only [enD, List.getElem?_map, Option.map_eq_some_iff] at h
    obtain ⟨j, hj, rfl⟩ := h
    obtain ⟨hl, ej⟩ := List.getElem?_eq_some_iff.mp hj
    rw [List.getElem_range] at ej
    subst ej
    rw [List.length_range] at hl
    obtain ⟨v, hv, r⟩ := ros_at ro (List.getElem?_eq_getElem hl)
    refine ⟨⟨ws, v, hH, hv⟩, fun x H' y => ?_⟩
    obtain ⟨p, u, rfl, hp, rfl, y1⟩ := (show ∃ T' x', x = V.ref T' ∧ H T' = none ∧ H' = upd H T' (.tup [.int (i : Nat), x']) ∧ ∀ xs, SqL T.K H a xs → xs[i]? = some x' from y)
    have := y1 ws hH
    rw [hv] at this; cases this
    have gr := Gr.tup (L := T.tbs) (o := .tup [.int (i : Nat), v]) bs sh hp
    refine ⟨_, _, gr, .tup upd_same (.im rfl ?_) .nil⟩
    rw [List.getD_eq_getElem?_getD, List.getElem?_eq_getElem hl]
    exact (r.mono s0 b0).mono gr.w.s gr.w.b
  · refine ⟨ws, hH, ?_⟩
    have := List.getElem?_eq_none_iff.mp h
    simp only [enD, List.length_map, List.length_range] at this
    rw [← ro.len]; exact this
@[simp] def iEn (m : ME) : MI := fun env => match m env with
  | .ok r => match itemsOf r.d with
    | some items => .ok (enD items) (rootOf r)
    | none => .er
  | .ex x => .ex x
  | .er => .er
theorem ip_enum (hK : X.K = T.K) (h : PI X tg e (iEnum X.K (tPK T W [.p m]))) : PI X tg e (tI T W (iEn m)) := by
  refine pi_of' h fun σ H R ⟨S, B, env, mss, Rx, q⟩ => ⟨S, B, env, mss, Rx, ?_⟩
  simp only [iEn] at q
  cases hm : m env with
  | ok r =>
    simp only [hm] at q
    simp only [aKs, hm]
    intro S' B' H' vs css g f
    cases f with
    | @r _ v mc _ vs css fc t ap =>
      cases t
      cases hi : itemsOf r.d with
      | none => simp only [hi] at q; exact q.elim
      | some items =>
        simp only [hi] at q
        obtain ⟨S2, g2, _, _, a, rfl, l⟩ := still Rx fc g hi
        have hsz : ∃ ws, SqL T.K H' a ws := by
          have Rz := Rx.grow g2
          have rd : Ros T B' H' [r.d] [V.ref a] := by
            cases r with
            | own d => exact fc.1.ro (g.bs.trans g.sh) fun c hc => (fc.2.1.2 c hc).1
            | ro d => exact Ros.mono fc.2 g.sh (Same.refl _)
            | bor i d => obtain ⟨_, m', h1, h2⟩ := fc; exact h2.mono (Wi.le g.sh ((Rx.grow g).ok i m' h1)) (Same.refl _)
          obtain ⟨a', ea, ws, hs, _⟩ := ls_of rd (g.bs.trans g.sh) hi
          cases ea
          exact ⟨ws, hs⟩
        obtain ⟨ws, hs⟩ := hsz
        refine ⟨a, ws, rfl, hK ▸ hs, ?_⟩
        rw [hK]
        exact q S2 B' H' _ g2 fun Sf hz _ => its_enum (l Sf hz)
  | ex x => simp only [hm] at q; simp only [aKs, hm]; exact q
  | er => simp only [hm] at q; exact q.elim
@[simp] def stD (z : Str) : List D := z.cps.toList.map fun c => .im (.str ⟨#[c]⟩)
theorem its_str {z : Str} : ItS T S0 B0 (Its z) (stD z) := by
  intro S B H s0 b0 bs sh i
  refine ⟨fun d h => ?_, fun h => ?_⟩
  · simp only [stD, List.getElem?_map, Option.map_eq_some_iff] at h
    obtain ⟨c, hc, rfl⟩ := h
    have hc' : z.cps[i]? = some c := by rw [← Array.getElem?_toList]; exact hc
    refine ⟨(Array.getElem?_eq_some_iff.mp hc').1, fun x H' y => ?_⟩
    obtain ⟨rfl, c', h1, rfl⟩ := (show H' = H ∧ ∃ c, z.cps[i]? = some c ∧ x = .str ⟨#[c]⟩ from y)
    rw [hc'] at h1; cases h1
    exact ⟨S, B, Gr.refl bs sh, .im rfl .nil⟩
  · show z.cps.size ≤ i
    have := List.getElem?_eq_none_iff.mp h
    simpa [stD] using this
@[simp] def iSt (m : ME) : MI := fun env => match m env with
  | .ok r => match r.d with
    | .im (.str z) => .ok (stD z) []
    | _ => .er
  | .ex x => .ex x
  | .er => .er
theorem ip_str (h : PE X e (tP T W m)) : PI X tg e (tI T W (iSt m)) := by
  refine pi_of' (pi_str h) fun σ H R ⟨S, B, env, mss, Rx, q⟩ => ⟨S, B, env, mss, Rx, ?_⟩
  simp only [iSt] at q
  cases hm : m env with
  | ok r =>
    simp only [hm] at q
    intro S' B' H' v g f
    split at q
    · rename_i z hz
      have rd := f.read (Rx.grow g)
      rw [hz] at rd
      cases ros_im1 rd
      exact ⟨z, rfl, q S' B' H' _ g fun Sf hz _ => its_str⟩
    · exact q.elim
  | ex x => simp only [hm] at q; exact q
  | er => simp only [hm] at q; exact q
/-- a list or a text -/
@[simp] def iAny (m : ME) : MI := fun env => match m env with
  | .ok r => match r.d with
    | .im (.str z) => .ok (stD z) []
    | _ => iLs m env
  | _ => iLs m env
theorem ip_any (hK : X.K = T.K) (h : PE X e (tP T W m)) : PI X tg e (tI T W (iAny m)) := by
  refine ⟨fun pins s σ H R I ⟨S, B, env, mss, Rx, q⟩ => ?_⟩
  have hh : iAny m env = iLs m env ∨ iAny m env = iSt m env := by
    simp only [iAny, iSt]
    cases hm : m env with
    | ok r =>
      cases hd : r.d with
      | im v =>
        cases v with
        | str z => exact .inr (by simp only [hd])
        | _ => exact .inl (by simp only [hd])
      | _ => exact .inl (by simp only [hd])
    | ex x => exact .inl rfl
    | er => exact .inl rfl
  rcases hh with hh | hh
  · rw [hh] at q; exact (ip_list hK h).run pins s σ H R I ⟨S, B, env, mss, Rx, q⟩
  · rw [hh] at q; exact (ip_str h).run pins s σ H R I ⟨S, B, env, mss, Rx, q⟩
end
end Tr
namespace Tr
open PySem L2
section
variable {X : Cx} {T : Tab} {W : WX} {pin : Pins} {σ0 : L2.St} {e a b : Expr} {es : List Expr} {S B H S' B' H' : Hp} {env : En} {mss : List Cells} {σ : L2.St} {pos : Pos}
/-- raise C('..') -/
@[simp] def sRaise (c : Nat) : MS := fun env => .ex ⟨c, []⟩ env
theorem ss_raise {C : Addr} {c : Nat} {pos : Pos} (hc : X.calm = true) (tk : Takes X W) (he : PMk X e (fun _ H Q => Q (.ref C) none H)) (hC : T.exc[c]? = some ⟨C, []⟩) : PS X (.Raise (some e) none pos) (tS T W pin σ0 (sRaise c)) :=
  ps_of (ps_raise hc tk he) fun D σ H ⟨S, B, env, mss, R, hp, q⟩ => q S B mss σ H (.ref C) none Gw.refl R hp ⟨C, [], hC, rfl, rfl, rfl, rfl⟩
/-- try: .. except X: .. -/
@[simp] def sTry (sub : Nat → Option Bool) (m ms : MS) : MS := fun env => match m env with
  | .ex x env => match sub x.c with
    | some true => match ms env with
      | .ex _ _ => .er
      | z => z
    | some false => .ex x env
    | none => .er
  | z => z
abbrev WF : WX := fun _ _ _ _ => False
@[simp] def setsO : List Nat → List D → En → Option En
  | [], [], env => some env
  | j :: js, d :: ds, env => setsO js ds (env.set j (some (.own d)))
  | _, _, _ => none
theorem owns_uncons {d : D} {ds : List D} {vs : List V} {ms : Cells} (o : Owns T B (d :: ds) vs ms) : ∃ v us m1 m2, vs = v :: us ∧ ms = m1 ++ m2 ∧ Owns T B [d] [v] m1 ∧ Owns T B ds us m2 := by
  cases o with
  | im h r => exact ⟨_, _, [], _, rfl, rfl, .im h .nil, r⟩
  | lst q r => exact ⟨_, _, _ :: (_ ++ []), _, rfl, by simp, .lst q .nil, r⟩
  | tup h q r => exact ⟨_, _, _ ++ [], _, rfl, by simp, .tup h q .nil, r⟩
  | dct hl q r => exact ⟨_, _, _ :: (_ ++ []), _, rfl, by simp, .dct hl q .nil, r⟩
  | @obj a c C dx fl ws xs ds vs m ms hc hl q r => exact ⟨_, _, (a, .ins C dx (fl.zip ws)) :: (m ++ []), _, rfl, by simp, .obj hc hl q .nil, r⟩
  | fz q r => exact ⟨_, _, [], _, rfl, rfl, .fz q .nil, r⟩
  | fn h r => exact ⟨_, _, [], _, rfl, rfl, .fn h .nil, r⟩
theorem cells_split {m1 m2 : Cells} (c : CellsOk S H (m1 ++ m2)) : CellsOk S H m1 ∧ CellsOk S H m2 ∧ Apart m1 m2 := by
  have nd := c.1
  rw [List.map_append, List.nodup_append] at nd
  exact ⟨⟨nd.1, fun x h => c.2 x (List.mem_append_left _ h)⟩, ⟨nd.2.1, fun x h => c.2 x (List.mem_append_right _ h)⟩,
    fun x hx y hy => nd.2.2 x.1 (List.mem_map.mpr ⟨x, hx, rfl⟩) y.1 (List.mem_map.mpr ⟨y, hy, rfl⟩)⟩
theorem apart_left {m m1 m2 : Cells} (h : Apart m (m1 ++ m2)) : Apart m m1 := fun c hc e he => h c hc e (List.mem_append_left _ he)
theorem apart_right {m m1 m2 : Cells} (h : Apart m (m1 ++ m2)) : Apart m m2 := fun c hc e he => h c hc e (List.mem_append_right _ he)
/-- a, b = e1, e2 -/
@[simp] def sPar (js : List Nat) (m : En → DO) : MS := fun env => match m env with
  | .ok ds env => match setsO js ds env with
    | some env => .nx env
    | none => .er
  | .ex x env => .ex x env
  | .er => .er
end
end Tr
namespace Tr
open PySem L2
section
variable {X : Cx} {T : Tab} {W : WX} {pin : Pins} {σ0 : L2.St} {e a b : Expr} {es rest : List Expr} {S B H S' B' H' H0 : Hp} {env : En} {mss : List Cells} {σ : L2.St} {pos : Pos} {ma mb : ME}
def fNot : List D → Option D
  | [.im (.bl c)] => some (.im (.bl (!c)))
  | _ => none
theorem vs_not : VS T fNot (fun vs H Q => ∃ x, vs = [x] ∧ (fun (x : V) (H : Hp) (Q : VK) => ∃ c, x = .bl c ∧ Q (.bl (!c)) H) x H Q) := by
  intro B H ds vs z bh ro h
  unfold fNot at h
  split at h
  · cases h; rw [ros_im1 ro]; exact .im rfl fun Q k => ⟨_, rfl, _, rfl, k⟩
  · cases h
theorem ep_not (h : PE X a (tP T W ma)) : PE X (.UnaryOp .Not a pos) (tP T W (m1 fNot ma)) := ep_1 vs_not (show PE X _ (tUn _ _) from pe_not h)
@[simp] def mAnd (ma mb : ME) : ME := fun env => match ma env with
  | .ok r => match r.d with
    | .im (.bl true) => mb env
    | .im (.bl false) => .ok (.own (.im (.bl false)))
    | _ => .er
  | .ex x => .ex x
  | .er => .er
@[simp] def mOr (ma mb : ME) : ME := fun env => match ma env with
  | .ok r => match r.d with
    | .im (.bl true) => .ok (.own (.im (.bl true)))
    | .im (.bl false) => mb env
    | _ => .er
  | .ex x => .ex x
  | .er => .er
theorem ep_and (ha : PE X a (tP T W ma)) (hb : PE X (.BoolOp .And (b :: rest) pos) (tP T W mb)) : PE X (.BoolOp .And (a :: b :: rest) pos) (tP T W (mAnd ma mb)) := by
  refine pe_of (pe_and ha hb) fun σ H Q ⟨S, B, env, mss, R, q⟩ => ⟨S, B, env, mss, R, ?_⟩
  cases hm : ma env with
  | ok r =>
    intro S' B' H' v g f
    simp only [mAnd, hm] at q
    have rd := f.read (R.grow g)
    split at q
    · rename_i hd
      rw [hd] at rd
      cases ros_im1 rd
      refine ⟨true, rfl, ?_⟩
      rw [if_pos rfl]
      exact ⟨S', B', env, mss, R.grow g, q.grow g⟩
    · rename_i hd
      rw [hd] at rd
      cases ros_im1 rd
      refine ⟨false, rfl, ?_⟩
      rw [if_neg Bool.false_ne_true]
      exact q S' B' H' _ g (RF.imm rfl)
    · exact q.elim
  | ex x => simp only [mAnd, hm] at q; exact q
  | er => simp only [mAnd, hm] at q; exact q
@[simp] def eAnd (ma mb : EE) : EE := fun env => match ma env with
  | .ok (.own (.im (.bl true))) env => mb env
  | .ok (.own (.im (.bl false))) env => .ok (.own (.im (.bl false))) env
  | .ex x env => .ex x env
  | _ => .er
@[simp] def eOr (ma mb : EE) : EE := fun env => match ma env with
  | .ok (.own (.im (.bl true))) env => .ok (.own (.im (.bl true))) env
  | .ok (.own (.im (.bl false))) env => mb env
  | .ex x env => .ex x env
  | _ => .er
theorem PO.gw {z : EO} {Q : VK} (p : PO T W S B σ Q z) (g : Gw S B S' B') : PO T W S' B' σ Q z := by
  cases z with
  | ok r env => exact fun S2 B2 H2 mss v g2 R f => p S2 B2 H2 mss v (g.trans g2) R f
  | ex x env => exact fun S2 B2 H2 mss cls d g2 R f => p S2 B2 H2 mss cls d (g.trans g2) R f
  | er => exact p
@[simp] def ownAll : List Rs → Option (List D)
  | [] => some []
  | .own d :: r => match ownAll r with
    | some ds => some (d :: ds)
    | none => none
  | _ :: _ => none
@[simp] def mDsp (k : List D → D) (ms : List ME) : ME := fun env => match mAs ms env with
  | .ok rs => match ownAll rs with
    | some ds => if ds.length ≤ 1000000 then .ok (.own (k ds)) else .er
    | none => .er
  | .ex x => .ex x
  | .er => .er
theorem aKs_p {ms : List ME} {env : En} : aKs (ms.map AK.p) env = match mAs ms env with
  | .ok rs => .ok (rs.map AV.r)
  | .ex x => .ex x
  | .er => .er := by
  induction ms with
  | nil => rfl
  | cons m ms ih =>
    simp only [List.map_cons, aKs, mAs]
    cases m env with
    | ok r =>
      simp only [ih]
      cases mAs ms env <;> rfl
    | ex x => rfl
    | er => rfl
theorem own_all : ∀ {rs : List Rs} {vs : List V} {css : List Cells} {ds : List D}, AFL T S B H H0 mss σ (rs.map AV.r) vs css → ownAll rs = some ds → ∃ ms, Owns T B ds vs ms ∧ CellsOk S H ms ∧ (∀ c ∈ ms, H0 c.1 = none) ∧ (∀ z : Cells, (∀ m ∈ css, Apart m z) → Apart ms z) := by
  intro rs
  induction rs with
  | nil =>
    intro vs css ds f h
    cases f
    simp [ownAll] at h; subst h
    exact ⟨[], .nil, ⟨.nil, fun _ h => nomatch h⟩, (fun _ h => nomatch h), (fun _ _ _ h => nomatch h)⟩
  | cons r rs ih =>
    intro vs css ds f h
    cases f with
    | @r _ v m _ vs css h1 t a =>
      cases r with
      | own d =>
        simp only [ownAll] at h
        cases ho : ownAll rs with
        | none => simp [ho] at h
        | some ds' =>
          simp only [ho, Option.some.injEq] at h
          subst h
          obtain ⟨ms, o, c, n, z1⟩ := ih t ho
          have am : Apart ms m := z1 m fun m' hm' => apart_symm (a m' hm')
          refine ⟨m ++ ms, owns_cons h1.1 o, cells_append h1.2.1 c (apart_symm am), fun x hx => ?_, fun z hz => apart_app (hz m List.mem_cons_self) (z1 z fun m' hm' => hz m' (List.mem_cons_of_mem _ hm'))⟩
          rcases List.mem_append.mp hx with hx | hx
          · exact h1.2.2 x hx
          · exact n x hx
      | ro d => simp [ownAll] at h
      | bor i d => simp [ownAll] at h
theorem ep_lst {ms : List ME} (h : PA X es (tPK T W (ms.map AK.p))) : PE X (.List es pos) (tP T W (mDsp D.lst ms)) := by
  refine pe_of (pe_lst h) fun σ H Q ⟨S, B, env, mss, R, q⟩ => ⟨S, B, env, mss, R, ?_⟩
  rw [aKs_p]
  cases hr : mAs ms env with
  | ok rs =>
    simp only [mDsp, hr] at q
    intro S' B' H' vs css g f
    cases ho : ownAll rs with
    | none => simp only [ho] at q; exact q.elim
    | some ds =>
      simp only [ho] at q
      split at q
      · rename_i hl
        obtain ⟨ms', o, c, n, _⟩ := own_all f ho
        refine ⟨by rw [← o.len]; exact le_line hl, fun p hp => ?_⟩
        have gr := Gr.own (L := T.tbs) (o := .lst vs) g.bs g.sh hp
        refine q S' B' _ _ (g.trans gr) ⟨(p, .lst vs) :: (ms' ++ []), .lst o .nil, ?_, fun x hx => ?_⟩
        · rw [List.append_nil]
          exact cells_append (cells_new (B := B') g.sh hp) (c.grow o.nt gr.h gr.f) (apart_symm (apart_new c hp))
        · rw [List.append_nil] at hx
          rcases List.mem_cons.mp hx with rfl | hx
          · exact g.h.free hp
          · exact n x hx
      · exact q.elim
  | ex x => simp only [mDsp, hr] at q; exact q
  | er => simp only [mDsp, hr] at q; exact q
theorem ep_tup {ms : List ME} {x1} (h : PA X es (tPK T W (ms.map AK.p))) : PE X (.Tuple es x1 pos) (tP T W (mDsp D.tup ms)) := by
  refine pe_of (pe_tup h) fun σ H Q ⟨S, B, env, mss, R, q⟩ => ⟨S, B, env, mss, R, ?_⟩
  rw [aKs_p]
  cases hr : mAs ms env with
  | ok rs =>
    simp only [mDsp, hr] at q
    intro S' B' H' vs css g f
    cases ho : ownAll rs with
    | none => simp only [ho] at q; exact q.elim
    | some ds =>
      simp only [ho] at q
      split at q
      · rename_i hl
        obtain ⟨ms', o, c, n, _⟩ := own_all f ho
        refine ⟨by rw [← o.len]; exact le_line hl, fun p hp => ?_⟩
        have gr := Gr.tup (L := T.tbs) (o := .tup vs) g.bs g.sh hp
        refine q _ _ _ _ (g.trans gr) ⟨ms' ++ [], .tup upd_same (o.mono gr.w.b) .nil, ?_, fun x hx => ?_⟩
        · rw [List.append_nil]; exact c.grow o.nt gr.h gr.f
        · rw [List.append_nil] at hx; exact n x hx
      · exact q.elim
  | ex x => simp only [mDsp, hr] at q; exact q
  | er => simp only [mDsp, hr] at q; exact q
end
end Tr
namespace Tr
open PySem L2
@[simp] def kids : D → Option (List D)
  | .lst xs => some xs
  | .tup xs => some xs
  | .dct _ xs => some xs
  | .obj _ xs => some xs
  | _ => none
@[simp] def setKids : D → List D → D
  | .lst _, xs => .lst xs
  | .tup _, xs => .tup xs
  | .dct ks _, xs => .dct ks xs
  | .obj c _, xs => .obj c xs
  | d, _ => d
@[simp] def getP : List Nat → D → Option D
  | [], d => some d
  | k :: p, d => match kids d with
    | some xs => match xs[k]? with
      | some y => getP p y
      | none => none
    | none => none
@[simp] def setP : List Nat → D → D → D
  | [], _, x => x
  | k :: p, d, x => match kids d with
    | some xs => match xs[k]? with
      | some y => setKids d (xs.set k (setP p y x))
      | none => d
    | none => d
def childV (H : Hp) (v : V) (k : Nat) : Option V := match v with
  | .ref a => match H a with
    | some (.lst ws) => ws[k]?
    | some (.tup ws) => ws[k]?
    | some (.dK kvs) => (kvs[k]?).map (·.2)
    | some (.ins _ _ fs) => (fs[k]?).map (·.2)
    | _ => none
  | _ => none
def valP (H : Hp) : List Nat → V → Option V
  | [], v => some v
  | k :: p, v => match childV H v k with
    | some u => valP H p u
    | none => none
section
variable {X : Cx} {T : Tab} {W : WX} {pin : Pins} {σ0 : L2.St} {e a b o : Expr} {es : List Expr} {S B H S' B' H' H0 : Hp} {env : En} {mss : List Cells} {σ : L2.St} {pos apos : Pos}
theorem childV_monoN {v u : V} {k : Nat} (s : NtS H H') (h : childV H v k = some u) : childV H' v k = some u := by
  cases v with
  | ref a =>
    simp only [childV] at h ⊢
    cases e : H a with
    | none => rw [e] at h; cases h
    | some o =>
      rw [e] at h
      have n : NT o := fun ps z => by subst z; cases h
      rw [s _ _ e n]; exact h
  | _ => simp [childV] at h
theorem valP_monoN {p : List Nat} : ∀ {v u : V}, NtS H H' → valP H p v = some u → valP H' p v = some u := by
  induction p with
  | nil => intro v u _ h; exact h
  | cons k p ih =>
    intro v u s h
    simp only [valP] at h ⊢
    cases e : childV H v k with
    | none => rw [e] at h; cases h
    | some w => rw [e] at h; rw [childV_monoN s e]; exact ih s h
theorem valP_app {p q : List Nat} : ∀ {v u w : V}, valP H p v = some u → valP H q u = some w → valP H (p ++ q) v = some w := by
  induction p with
  | nil => intro v u w h1 h2; cases h1; exact h2
  | cons k p ih =>
    intro v u w h1 h2
    simp only [valP, List.cons_append] at h1 ⊢
    cases e : childV H v k with
    | none => rw [e] at h1; cases h1
    | some x => rw [e] at h1; exact ih h1 h2
theorem owns_child : ∀ {ds : List D} {vs : List V} {ms : Cells} {k : Nat} {x : D}, Owns T B ds vs ms → ds[k]? = some x → ∃ u mx m1 m2, vs[k]? = some u ∧ Owns T B [x] [u] mx ∧ ms = m1 ++ (mx ++ m2) ∧ ∀ x' mx', Owns T B [x'] [u] mx' → Owns T B (ds.set k x') vs (m1 ++ (mx' ++ m2)) := by
  intro ds
  induction ds with
  | nil => intro vs ms k x o h; simp at h
  | cons d ds ih =>
    intro vs ms k x o h
    obtain ⟨v, us, m1, m2, rfl, rfl, o1, o2⟩ := owns_uncons o
    cases k with
    | zero =>
      simp at h; subst h
      exact ⟨v, m1, [], m2, rfl, o1, rfl, fun x' mx' o' => by simpa using owns_cons o' o2⟩
    | succ k =>
      obtain ⟨u, mx, n1, n2, h1, h2, rfl, h4⟩ := ih o2 (k := k) (x := x) (by simpa using h)
      refine ⟨u, mx, m1 ++ n1, n2, by simpa using h1, h2, by simp, fun x' mx' o' => ?_⟩
      have := owns_cons o1 (h4 x' mx' o')
      simpa using this
theorem zip_snd {α β : Type} {ks : List α} {ws : List β} {k : Nat} {u : β} (hl : ws.length ≤ ks.length) (h : ws[k]? = some u) : ((ks.zip ws)[k]?).map (·.2) = some u := by
  obtain ⟨hk, e⟩ := List.getElem?_eq_some_iff.mp h
  have h2 : k < (ks.zip ws).length := by rw [List.length_zip]; omega
  rw [List.getElem?_eq_getElem h2, List.getElem_zip]
  simp [e]
theorem owns_kids {d : D} {v : V} {ms : Cells} {xs : List D} (o : Owns T B [d] [v] ms) (h : kids d = some xs) : ∃ ws pre m, ms = pre ++ m ∧ Owns T B xs ws m ∧ (∀ xs' m', Owns T B xs' ws m' → Owns T B [setKids d xs'] [v] (pre ++ m')) ∧
    (∀ H, Same B H → (∀ c ∈ ms, H c.1 = some c.2) → ∀ (k : Nat) u, ws[k]? = some u → childV H v k = some u) := by
  cases o with
  | im => simp [kids] at h
  | fz => simp [kids] at h
  | fn => simp [kids] at h
  | @lst a ws xs _ _ m _ q r =>
    cases r; simp [kids] at h; subst h
    refine ⟨ws, [(a, .lst ws)], m, by simp, q, fun xs' m' o' => ?_, fun H b hc k u hu => ?_⟩
    · have := Owns.lst (a := a) o' (Owns.nil (T := T) (B := B)); simpa using this
    · simp only [childV]; rw [hc (a, .lst ws) List.mem_cons_self]; exact hu
  | @tup a ws xs _ _ m _ hb q r =>
    cases r; simp [kids] at h; subst h
    refine ⟨ws, [], m, by simp, q, fun xs' m' o' => ?_, fun H b hc k u hu => ?_⟩
    · have := Owns.tup hb o' (Owns.nil (T := T) (B := B)); simpa using this
    · simp only [childV]; rw [b _ _ hb]; exact hu
  | @dct a ks ws xs _ _ m _ hl q r =>
    cases r; simp [kids] at h; subst h
    refine ⟨ws, [(a, .dK (ks.zip ws))], m, by simp, q, fun xs' m' o' => ?_, fun H b hc k u hu => ?_⟩
    · have := Owns.dct (a := a) hl o' (Owns.nil (T := T) (B := B)); simpa using this
    · simp only [childV]; rw [hc (a, .dK (ks.zip ws)) List.mem_cons_self]; exact zip_snd (Nat.le_of_eq hl.symm) hu
  | @obj a c C dx fl ws xs _ _ m _ hcl hl q r =>
    cases r; simp [kids] at h; subst h
    refine ⟨ws, [(a, .ins C dx (fl.zip ws))], m, by simp, q, fun xs' m' o' => ?_, fun H b hc k u hu => ?_⟩
    · have := Owns.obj (a := a) (dx := dx) hcl hl o' (Owns.nil (T := T) (B := B)); simpa using this
    · simp only [childV]; rw [hc (a, .ins C dx (fl.zip ws)) List.mem_cons_self]; exact zip_snd hl hu
theorem owns_path {p : List Nat} : ∀ {d x : D} {v : V} {ms : Cells}, Owns T B [d] [v] ms → getP p d = some x → ∃ u mx m1 m2, (∀ H, Same B H → (∀ c ∈ ms, H c.1 = some c.2) → valP H p v = some u) ∧ Owns T B [x] [u] mx ∧ ms = m1 ++ (mx ++ m2) ∧
    ∀ x' mx', Owns T B [x'] [u] mx' → Owns T B [setP p d x'] [v] (m1 ++ (mx' ++ m2)) := by
  induction p with
  | nil =>
    intro d x v ms o h
    cases h
    exact ⟨v, ms, [], [], fun _ _ _ => rfl, o, by simp, fun x' mx' o' => by simpa [setP] using o'⟩
  | cons k p ih =>
    intro d x v ms o h
    simp only [getP] at h
    cases e : kids d with
    | none => rw [e] at h; cases h
    | some xs =>
      rw [e] at h
      cases e2 : xs[k]? with
      | none => simp only [e2] at h; cases h
      | some y =>
        simp only [e2] at h
        obtain ⟨ws, pre, m, rfl, q, back, ch⟩ := owns_kids o e
        obtain ⟨u1, my, n1, n2, w1, w2, rfl, w4⟩ := owns_child q e2
        obtain ⟨u, mx, l1, l2, z1, z2, rfl, z4⟩ := ih w2 h
        refine ⟨u, mx, pre ++ (n1 ++ l1), l2 ++ n2, fun H b hc => ?_, z2, by simp, fun x' mx' o' => ?_⟩
        · simp only [valP]
          rw [ch H b hc k u1 w1]
          exact z1 H b fun c h' => hc c (by simp; simp at h'; rcases h' with h' | h' | h' <;> simp [h'])
        · simp only [setP, e, e2]
          have := back _ _ (w4 _ _ (z4 x' mx' o'))
          simpa using this
/-- what stands at a place is changed; a: the object changed, mx: its cells, me: new cells that come in, mr: what comes out -/
theorem SRx.mut (R : SRx T S B env mss σ H) {i : Nat} {d x : D} {p : List Nat} (he : env[i]? = some (some (.own d))) (hp : getP p d = some x) :
    ∃ v u mx, σ[i]? = some (some v) ∧ valP H p v = some u ∧ Owns T B [x] [u] mx ∧ CellsOk S H mx ∧ (∃ m, mss[i]? = some m ∧ ∀ c ∈ mx, c ∈ m) ∧
      ∀ (a : Addr) (o : HO) (x' : D) (mx' me mr : Cells), (∃ o0, (a, o0) ∈ mx) → CellsOk S H me → (∀ (j : Nat) (m : Cells), mss[j]? = some m → Apart m me) → Owns T B [x'] [u] mx' → ((mx' ++ mr).map (·.1)).Nodup →
        (∀ c ∈ mx', c = (a, o) ∨ (c.1 ≠ a ∧ (c ∈ mx ∨ c ∈ me))) → (∀ c ∈ mr, c.1 ≠ a ∧ (c ∈ mx ∨ c ∈ me)) →
        ∃ mss', SRx T S B (env.set i (some (.own (setP p d x')))) mss' σ (upd H a o) ∧ CellsOk S (upd H a o) mr ∧ ∀ (j : Nat) (m : Cells), mss'[j]? = some m → Apart m mr := by
  obtain ⟨v, m, e1, e2, own, ok⟩ := R.own he
  obtain ⟨u, mx, m1, m2, q1, q2, rfl, q4⟩ := owns_path own hp
  have bh := R.bs.trans R.sh
  have cm : ∀ c ∈ m1 ++ (mx ++ m2), H c.1 = some c.2 := fun c hc => (ok.2 c hc).1
  obtain ⟨okm1, ok12, ap1⟩ := cells_split ok
  obtain ⟨okx, okm2, ap2⟩ := cells_split ok12
  have inm : ∀ c ∈ mx, c ∈ m1 ++ (mx ++ m2) := fun c hc => List.mem_append_right _ (List.mem_append_left _ hc)
  refine ⟨v, u, mx, e1, q1 H bh cm, q2, okx, ⟨_, e2, inm⟩, fun a o x' mx' me mr ha hme hap ho hnd h1 h2 => ?_⟩
  obtain ⟨o0, ha⟩ := ha
  have Sa : S a = none := (okx.2 _ ha).2
  have nd1 : (mx'.map (·.1)).Nodup := by rw [List.map_append] at hnd; exact (List.nodup_append.mp hnd).1
  have nd2 : (mr.map (·.1)).Nodup := by rw [List.map_append] at hnd; exact (List.nodup_append.mp hnd).2.1
  have ndx : Apart mx' mr := fun c hc e' he' => by rw [List.map_append] at hnd; exact (List.nodup_append.mp hnd).2.2 c.1 (List.mem_map.mpr ⟨c, hc, rfl⟩) e'.1 (List.mem_map.mpr ⟨e', he', rfl⟩)
  -- m1, m2, others are apart from mx ∪ me
  have far : ∀ z : Cells, Apart z mx → Apart z me → (∀ c ∈ z, c.1 ≠ a) ∧ Apart z mx' ∧ Apart z mr := fun z zx ze => by
    have za : ∀ c ∈ z, c.1 ≠ a := fun c hc w => zx c hc _ ha w
    refine ⟨za, fun c hc e' he' => ?_, fun c hc e' he' => ?_⟩
    · rcases h1 e' he' with rfl | ⟨_, w | w⟩
      · exact za c hc
      · exact zx c hc e' w
      · exact ze c hc e' w
    · rcases (h2 e' he').2 with w | w
      · exact zx c hc e' w
      · exact ze c hc e' w
  have apm : Apart (m1 ++ (mx ++ m2)) me := hap i _ e2
  have f1 := far m1 (apart_left ap1) fun c hc => apm c (List.mem_append_left _ hc)
  have f2 := far m2 (apart_symm ap2) fun c hc => apm c (List.mem_append_right _ (List.mem_append_right _ hc))
  have up : ∀ z : Cells, (∀ c ∈ z, c.1 ≠ a) → CellsOk S H z → CellsOk S (upd H a o) z := fun z za zo => ⟨zo.1, fun c hc => ⟨by rw [upd_ne (za c hc)]; exact (zo.2 c hc).1, (zo.2 c hc).2⟩⟩
  have okx' : CellsOk S (upd H a o) mx' := ⟨nd1, fun c hc => by
    rcases h1 c hc with rfl | ⟨na, w | w⟩
    · exact ⟨upd_same, Sa⟩
    · exact ⟨by rw [upd_ne na]; exact (okx.2 c w).1, (okx.2 c w).2⟩
    · exact ⟨by rw [upd_ne na]; exact (hme.2 c w).1, (hme.2 c w).2⟩⟩
  have okr : CellsOk S (upd H a o) mr := ⟨nd2, fun c hc => by
    obtain ⟨na, w | w⟩ := h2 c hc
    · exact ⟨by rw [upd_ne na]; exact (okx.2 c w).1, (okx.2 c w).2⟩
    · exact ⟨by rw [upd_ne na]; exact (hme.2 c w).1, (hme.2 c w).2⟩⟩
  have oknew : CellsOk S (upd H a o) (m1 ++ (mx' ++ m2)) := by
    refine cells_append (up m1 f1.1 okm1) (cells_append okx' (up m2 f2.1 okm2) (apart_symm f2.2.1)) ?_
    exact apart_symm (apart_app (apart_symm f1.2.1) (apart_symm (apart_right ap1)))
  -- the old state at the new heap, slot i emptied
  have oth : ∀ j mj, j ≠ i → mss[j]? = some mj → (∀ c ∈ mj, c.1 ≠ a) ∧ Apart mj mx' ∧ Apart mj mr ∧ Apart mj m1 ∧ Apart mj m2 := fun j mj hj hmj => by
    have z := R.ap j i mj _ hj hmj e2
    have w := far mj (fun c hc e' he' => z c hc e' (inm e' he')) (hap j mj hmj)
    exact ⟨w.1, w.2.1, w.2.2, apart_left z, apart_right (apart_right z)⟩
  refine ⟨mss.set i (m1 ++ (mx' ++ m2)), ⟨R.bs, fun b w hb => ?_, by rw [List.length_set]; exact R.l1, by rw [List.length_set]; exact R.l2, fun j e' s' m' g1 g2 g3 => ?_, fun j m' g => ?_, fun j k mj mk hjk g1 g2 => ?_, tb_upd R.tb (okx.2 _ ha).1 (q2.nt _ ha), tc_upd R.tc (okx.2 _ ha).1 (q2.nt _ ha)⟩, okr, fun j m' g => ?_⟩
  · rw [upd_ne (fun z => by rw [z, Sa] at hb; cases hb)]; exact R.sh _ _ hb
  · rcases set_at g1 with ⟨rfl, rfl⟩ | ⟨hj, g1⟩
    · rcases set_at g3 with ⟨_, rfl⟩ | ⟨hj, _⟩
      · rw [e1] at g2; cases g2
        exact q4 x' mx' ho
      · exact absurd rfl hj
    · rcases set_at g3 with ⟨z, _⟩ | ⟨_, g3⟩
      · exact absurd z hj
      · exact R.at_ j e' s' m' g1 g2 g3
  · rcases set_at g with ⟨_, rfl⟩ | ⟨hj, g⟩
    · exact oknew
    · exact up m' (oth j m' hj g).1 (R.ok j m' g)
  · rcases set_at g1 with ⟨rfl, rfl⟩ | ⟨hj, k1⟩
    · rcases set_at g2 with ⟨z, _⟩ | ⟨hk, k2⟩
      · exact absurd z.symm hjk
      · obtain ⟨_, w1, _, w2, w3⟩ := oth k mk hk k2
        exact apart_symm (apart_symm (apart_app (apart_symm w2) (apart_app (apart_symm w1) (apart_symm w3))))
    · rcases set_at g2 with ⟨rfl, rfl⟩ | ⟨_, k2⟩
      · obtain ⟨_, w1, _, w2, w3⟩ := oth j mj hj k1
        exact apart_symm (apart_app (apart_symm w2) (apart_app (apart_symm w1) (apart_symm w3)))
      · exact R.ap j k mj mk hjk k1 k2
  · rcases set_at g with ⟨rfl, rfl⟩ | ⟨hj, g⟩
    · exact apart_app f1.2.2 (apart_app ndx f2.2.2)
    · exact (oth j m' hj g).2.2.1
end
end Tr
namespace Tr
open PySem L2
inductive LO where
  | ok (i : Nat) (p : List Nat)
  | ex (x : Exn)
  | er
abbrev ML := En → LO
def PL (T : Tab) (W : WX) (S B : Hp) (σ : L2.St) (H : Hp) (Q : VK) : LO → Prop
  | .ok i p => ∀ S' B' H' v u, Gr T.tbs S B H S' B' H' → σ[i]? = some (some v) → valP H' p v = some u → Q u H'
  | .ex x => ∀ S' B' H' cls d, Gr T.tbs S B H S' B' H' → ExF T H' x cls d → W cls d σ H'
  | .er => False
def tL (T : Tab) (W : WX) (m : ML) : TE := fun σ H Q => ∃ S B env mss, SRx T S B env mss σ H ∧ PL T W S B σ H Q (m env)
/-- what stands at a place -/
@[simp] def atP (i : Nat) (p : List Nat) (env : En) : Option D := match env[i]? with
  | some (some (.own d)) => getP p d
  | _ => none
section
variable {X : Cx} {T : Tab} {W : WX} {pin : Pins} {σ0 : L2.St} {e a b o : Expr} {es : List Expr} {S B H S' B' H' H0 : Hp} {env : En} {mss : List Cells} {σ : L2.St} {pos apos : Pos} {ml : ML} {mi : ME}
theorem atP_own {i : Nat} {p : List Nat} {x : D} (h : atP i p env = some x) : ∃ d, env[i]? = some (some (.own d)) ∧ getP p d = some x := by
  unfold atP at h
  split at h
  · rename_i d hd; exact ⟨d, hd, h⟩
  · cases h
/-- a place's value and cells -/
theorem SRx.place (R : SRx T S B env mss σ H) {i : Nat} {p : List Nat} {x : D} (h : atP i p env = some x) : ∃ v u mx, σ[i]? = some (some v) ∧ valP H p v = some u ∧ Owns T B [x] [u] mx ∧ CellsOk S H mx := by
  obtain ⟨d, hd, hp⟩ := atP_own h
  obtain ⟨v, u, mx, h1, h2, h3, h4, _⟩ := R.mut hd hp
  exact ⟨v, u, mx, h1, h2, h3, h4⟩
@[simp] def lVar (i : Nat) : ML := fun env => match env[i]? with
  | some (some (.own _)) => .ok i []
  | _ => .er
theorem el_var {i : Nat} (h : PE X e (tVar i)) : PE X e (tL T W (lVar i)) := by
  refine pe_of h fun σ H Q ⟨S, B, env, mss, R, q⟩ => ?_
  unfold lVar at q
  split at q
  · rename_i d hd
    obtain ⟨v, m, h1, _⟩ := R.own hd
    exact ⟨v, h1, q S B H v v R.gr h1 rfl⟩
  · exact q.elim
@[simp] def lFld (c k : Nat) (ml : ML) : ML := fun env => match ml env with
  | .ok i p => match atP i p env with
    | some (.obj c' ds) => if c' = c ∧ k < ds.length then .ok i (p ++ [k]) else .er
    | _ => .er
  | .ex x => .ex x
  | .er => .er
@[simp] def eMut (ky : D → Bool) (op : D → List D → Option (D × D)) (ml : ML) (ks : List AK) : EE := fun env => match ml env with
  | .ok i p => match atP i p env with
    | some x0 => if ky x0 = true then (match eRow ks env with
      | .ok ds env => match env[i]? with
        | some (some (.own d)) => match getP p d with
          | some x => match op x ds with
            | some (x', r) => .ok (.own r) (env.set i (some (.own (setP p d x'))))
            | none => .er
          | none => .er
        | _ => .er
      | .ex x env => .ex x env
      | .er => .er) else .er
    | none => .er
  | .ex x => .ex x env
  | .er => .er
/-- what an operation on a place asks and leaves -/
def MutS (T : Tab) (op : D → List D → Option (D × D)) (r : V → List V → Hp → VK → Prop) : Prop := ∀ B S H x u mx ds vs me x' res, Owns T B [x] [u] mx → CellsOk S H mx → Owns T B ds vs me → CellsOk S H me → Apart mx me → Same B H → op x ds = some (x', res) →
  ∃ a o mx' w mr, (∃ o0, (a, o0) ∈ mx) ∧ Owns T B [x'] [u] mx' ∧ Owns T B [res] [w] mr ∧ ((mx' ++ mr).map (·.1)).Nodup ∧ (∀ c ∈ mx', c = (a, o) ∨ (c.1 ≠ a ∧ (c ∈ mx ∨ c ∈ me))) ∧ (∀ c ∈ mr, c.1 ≠ a ∧ (c ∈ mx ∨ c ∈ me)) ∧ ∀ Q : VK, Q w (upd H a o) → r u vs H Q
/-- one change -/
theorem mut_do {op : D → List D → Option (D × D)} {r : V → List V → Hp → VK → Prop} {Q : VK} {i : Nat} {p : List Nat} {d x x' res : D} {ds : List D} {vs : List V} {me : Cells} {v u : V} (M : MutS T op r) (R : SRx T S B env mss σ H)
    (hd : env[i]? = some (some (.own d))) (hp : getP p d = some x) (ho : op x ds = some (x', res)) (od : Owns T B ds vs me) (oc : CellsOk S H me) (ap : ∀ (j : Nat) (m : Cells), mss[j]? = some m → Apart m me) (hv : σ[i]? = some (some v)) (hu : valP H p v = some u)
    (q : ∀ mss' H' w mr, SRx T S B (env.set i (some (.own (setP p d x')))) mss' σ H' → Owns T B [res] [w] mr → CellsOk S H' mr → (∀ (j : Nat) (m : Cells), mss'[j]? = some m → Apart m mr) → Q w H') : r u vs H Q := by
  obtain ⟨v', u', mx, e1, e2, own, okx, ⟨m, hm, sub⟩, k⟩ := R.mut hd hp
  rw [hv] at e1; cases e1
  rw [hu] at e2; cases e2
  obtain ⟨a, o, mx', w, mr, h1, h2, h3, h4, h5, h6, h7⟩ := M B S H x u mx ds vs me x' res own okx od oc (fun c hc => ap i m hm c (sub c hc)) (R.bs.trans R.sh) ho
  obtain ⟨mss', R', c', ap'⟩ := k a o x' mx' me mr h1 oc ap h2 h4 h5 h6
  exact h7 Q (q mss' _ w mr R' h3 c' ap')
theorem ee_mut {Ty : String} {ky : D → Bool} {op : D → List D → Option (D × D)} {r : V → List V → Hp → VK → Prop} {ks : List AK} (M : MutS T op r) (hty : ∀ B H x u mx, Owns T B [x] [u] mx → (∀ c ∈ mx, H c.1 = some c.2) → ky x = true → tyV X.K Ty u H)
    (h : PE X e (tBM X.K Ty r (tL T W ml) (tPK T W ks))) : PE X e (tE T W (eMut ky op ml ks)) := by
  refine pe_of h fun σ H Q ⟨S, B, env, mss, R, q⟩ => ⟨S, B, env, mss, R, ?_⟩
  unfold eMut at q
  cases hm : ml env with
  | ok i p =>
    simp only [hm] at q
    cases hx : atP i p env with
    | none => simp only [hx] at q; exact q.elim
    | some x0 =>
      simp only [hx] at q
      split at q
      · rename_i hk
        intro S1 B1 H1 v u g1 hv hu
        have R1 := R.grow g1
        obtain ⟨v', u', mx, e1, e2, own, okx⟩ := R1.place hx
        rw [hv] at e1; cases e1
        rw [hu] at e2; cases e2
        refine ⟨hty B1 H1 x0 u mx own (fun c hc => (okx.2 c hc).1) hk, S1, B1, env, mss, R1, ?_⟩
        cases hks : aKs ks env with
        | ok avs =>
          simp only [eRow, hks] at q
          intro S2 B2 H2 vs css g2 f
          have R2 := R1.grow g2
          cases ht : takeAll avs env with
          | none => simp only [ht] at q; exact q.elim
          | some pr =>
            obtain ⟨ds, env'⟩ := pr
            simp only [ht] at q
            obtain ⟨mss', ms, R3, od, oc, ap, _, _⟩ := take_ok R2 f (fun m hm' i' m' hi c hc x hx' z => by
              have a1 := ((R1.ok i' m' hi).2 c hc).1
              have a2 := (f.new m hm').2 x hx'
              rw [z, a2] at a1; cases a1) ht
            cases hd : env'[i]? with
            | none => simp only [hd] at q; exact q.elim
            | some o =>
            cases o with
            | none => simp only [hd] at q; exact q.elim
            | some o =>
            cases o with
            | ro d => simp only [hd] at q; exact q.elim
            | own d =>
              simp only [hd] at q
              cases hg : getP p d with
              | none => simp only [hg] at q; exact q.elim
              | some x =>
                simp only [hg] at q
                cases hop : op x ds with
                | none => simp only [hop] at q; exact q.elim
                | some xr =>
                  obtain ⟨x', res⟩ := xr
                  simp only [hop] at q
                  exact mut_do M R3 hd hg hop od oc ap hv (valP_monoN g2.h.n hu) fun mss4 H4 w mr R4 o4 c4 a4 => q S2 B2 H4 mss4 w (g1.w.trans g2.w) R4 ⟨mr, o4, c4, a4⟩
        | ex x => simp only [eRow, hks] at q; exact fun S2 B2 H2 cls d g2 ef => q S2 B2 H2 mss cls d (g1.w.trans g2.w) (R1.grow g2) ef
        | er => simp only [eRow, hks] at q; exact q
      · exact q.elim
  | ex x => simp only [hm] at q; exact fun S' B' H' cls d g ef => q S' B' H' mss cls d g.w (R.grow g) ef
  | er => simp only [hm] at q; exact q
theorem ee_mut0 {Ty : String} {ky : D → Bool} {op : D → List D → Option (D × D)} {r : V → List V → Hp → VK → Prop} (M : MutS T op r) (hty : ∀ B H x u mx, Owns T B [x] [u] mx → (∀ c ∈ mx, H c.1 = some c.2) → ky x = true → tyV X.K Ty u H)
    (h : PE X e (tBM0 X.K Ty r (tL T W ml))) : PE X e (tE T W (eMut ky op ml [])) := by
  refine pe_of h fun σ H Q ⟨S, B, env, mss, R, q⟩ => ⟨S, B, env, mss, R, ?_⟩
  unfold eMut at q
  cases hm : ml env with
  | ok i p =>
    simp only [hm] at q
    cases hx : atP i p env with
    | none => simp only [hx] at q; exact q.elim
    | some x0 =>
      simp only [hx] at q
      split at q
      · rename_i hk
        intro S1 B1 H1 v u g1 hv hu
        have R1 := R.grow g1
        obtain ⟨v', u', mx, e1, e2, own, okx⟩ := R1.place hx
        rw [hv] at e1; cases e1
        rw [hu] at e2; cases e2
        refine ⟨hty B1 H1 x0 u mx own (fun c hc => (okx.2 c hc).1) hk, ?_⟩
        simp only [eRow, aKs, takeAll] at q
        obtain ⟨d, hd, hg⟩ := atP_own hx
        simp only [hd, hg] at q
        cases hop : op x0 [] with
        | none => simp only [hop] at q; exact q.elim
        | some xr =>
          obtain ⟨x', res⟩ := xr
          simp only [hop] at q
          exact mut_do M R1 hd hg hop .nil ⟨.nil, fun _ h => nomatch h⟩ (fun _ _ _ _ _ _ h => nomatch h) hv hu fun mss4 H4 w mr R4 o4 c4 a4 => q S1 B1 H4 mss4 w g1.w R4 ⟨mr, o4, c4, a4⟩
      · exact q.elim
  | ex x => simp only [hm] at q; exact fun S' B' H' cls d g ef => q S' B' H' mss cls d g.w (R.grow g) ef
  | er => simp only [hm] at q; exact q
@[simp] def isLst : D → Bool
  | .lst _ => true
  | _ => false
theorem ty_lst {K : PySem.W.Frag} : ∀ B H x u mx, Owns T B [x] [u] mx → (∀ c ∈ mx, H c.1 = some c.2) → isLst x = true → tyV K "list" u H := by
  intro B H x u mx o hc hk
  cases o with
  | @lst a ws xs _ _ m _ q r => exact .inl ⟨rfl, ws, SqL.of (hc _ List.mem_cons_self)⟩
  | _ => cases hk
theorem owns_app {xs ys : List D} {vs ws : List V} {m n : Cells} (a : Owns T B xs vs m) (b : Owns T B ys ws n) : Owns T B (xs ++ ys) (vs ++ ws) (m ++ n) := by
  induction xs generalizing vs m with
  | nil => cases a; exact b
  | cons d ds ih =>
    obtain ⟨v, us, m1, m2, rfl, rfl, o1, o2⟩ := owns_uncons a
    have := owns_cons o1 (ih o2)
    simpa using this
/-- the common shape: the list at a becomes ws', its cells m' drawn from the old ones and the new ones -/
theorem mut_list {a : Addr} {ws ws' : List V} {xs' : List D} {m me m' mr : Cells} {res : D} {w : V} (ok : CellsOk S H ((a, .lst ws) :: m)) (oke : CellsOk S H me) (ap : Apart ((a, .lst ws) :: m) me) (o : Owns T B xs' ws' m') (or : Owns T B [res] [w] mr)
    (nd : ((m' ++ mr).map (·.1)).Nodup) (s1 : ∀ c ∈ m', c ∈ m ∨ c ∈ me) (s2 : ∀ c ∈ mr, c ∈ m ∨ c ∈ me) :
    (∃ o0, (a, o0) ∈ (a, HO.lst ws) :: m) ∧ Owns T B [.lst xs'] [.ref a] ((a, .lst ws') :: m') ∧ Owns T B [res] [w] mr ∧ ((((a, HO.lst ws') :: m') ++ mr).map (·.1)).Nodup ∧
      (∀ c ∈ (a, HO.lst ws') :: m', c = (a, .lst ws') ∨ (c.1 ≠ a ∧ (c ∈ (a, HO.lst ws) :: m ∨ c ∈ me))) ∧ (∀ c ∈ mr, c.1 ≠ a ∧ (c ∈ (a, HO.lst ws) :: m ∨ c ∈ me)) := by
  have na : ∀ c, (c ∈ m ∨ c ∈ me) → c.1 ≠ a := fun c hc z => by
    rcases hc with hc | hc
    · have := ok.1
      rw [List.map_cons, List.nodup_cons] at this
      exact this.1 (List.mem_map.mpr ⟨c, hc, z⟩)
    · exact ap _ List.mem_cons_self c hc z.symm
  refine ⟨⟨_, List.mem_cons_self⟩, ?_, or, ?_, fun c hc => ?_, fun c hc => ⟨na c (s2 c hc), (s2 c hc).imp (List.mem_cons_of_mem _) id⟩⟩
  · have := Owns.lst (a := a) o (Owns.nil (T := T) (B := B)); simpa using this
  · rw [List.cons_append, List.map_cons, List.nodup_cons]
    refine ⟨fun h => ?_, nd⟩
    obtain ⟨c, hc, e⟩ := List.mem_map.mp h
    rcases List.mem_append.mp hc with hc | hc
    · exact na c (s1 c hc) e
    · exact na c (s2 c hc) e
  · rcases List.mem_cons.mp hc with rfl | hc
    · exact .inl rfl
    · exact .inr ⟨na c (s1 c hc), (s1 c hc).imp (List.mem_cons_of_mem _) id⟩
theorem own_non : Owns T B [.im .non] [.non] [] := .im rfl .nil
def opAppend : D → List D → Option (D × D)
  | .lst xs, [d] => if xs.length < 1000000 then some (.lst (xs ++ [d]), .im .non) else none
  | _, _ => none
theorem mu_append : MutS T opAppend rAppend := by
  intro B S H x u mx ds vs me x' res ox okx od oke ap bh h
  unfold opAppend at h
  split at h
  · rename_i xs d
    split at h
    · rename_i hl
      simp only [Option.some.injEq, Prod.mk.injEq] at h
      obtain ⟨rfl, rfl⟩ := h
      cases ox with
      | @lst a ws _ _ _ m _ q r =>
        cases r
        rw [List.append_nil] at *
        obtain ⟨v, us, n1, n2, rfl, rfl, o1, o2⟩ := owns_uncons od
        cases o2
        rw [List.append_nil] at *
        have oo := owns_app q o1
        have okm : CellsOk S H m := ⟨(List.nodup_cons.mp (by simpa using okx.1)).2, fun c hc => okx.2 c (List.mem_cons_of_mem _ hc)⟩
        have nd := (cells_append okm oke fun c hc => ap c (List.mem_cons_of_mem _ hc)).1
        obtain ⟨z1, z2, z3, z4, z5, z6⟩ := mut_list okx oke ap oo own_non (by simpa using nd) (fun c hc => List.mem_append.mp hc) (fun _ h => nomatch h)
        have lw : ws.length < 1000000 := by rw [← q.len]; exact hl
        exact ⟨a, _, _, _, _, z1, z2, z3, z4, z5, z6, fun Q k => ⟨a, ws, v, rfl, rfl, (okx.2 _ List.mem_cons_self).1, Nat.lt_of_lt_of_le lw (le_line (Nat.le_refl _)), k⟩⟩
    · cases h
  · cases h
def opClear : D → List D → Option (D × D)
  | .lst _, [] => some (.lst [], .im .non)
  | _, _ => none
theorem mu_clear : MutS T opClear rClear := by
  intro B S H x u mx ds vs me x' res ox okx od oke ap bh h
  unfold opClear at h
  split at h
  · rename_i xs
    simp only [Option.some.injEq, Prod.mk.injEq] at h
    obtain ⟨rfl, rfl⟩ := h
    cases ox with
    | @lst a ws _ _ _ m _ q r =>
      cases r
      cases od
      rw [List.append_nil] at *
      obtain ⟨z1, z2, z3, z4, z5, z6⟩ := mut_list (ws' := []) okx oke ap (Owns.nil (T := T) (B := B)) own_non (by simp) (fun _ h => nomatch h) (fun _ h => nomatch h)
      exact ⟨a, _, _, _, _, z1, z2, z3, z4, z5, z6, fun Q k => ⟨a, ws, rfl, rfl, (okx.2 _ List.mem_cons_self).1, k⟩⟩
  · cases h
def opSetI : D → List D → Option (D × D)
  | .lst xs, [.im (.int i), d] => match ixN xs.length i with
    | some j => some (.lst (xs.set j d), .im .non)
    | none => none
  | _, _ => none
def rSetI : V → List V → Hp → VK → Prop := fun u vs H Q => ∃ i v, vs = [i, v] ∧ rSetL u i v H fun H' => Q .non H'
theorem mu_setI : MutS T opSetI rSetI := by
  intro B S H x u mx ds vs me x' res ox okx od oke ap bh h
  unfold opSetI at h
  split at h
  · rename_i xs i d
    split at h
    · rename_i j hj
      simp only [Option.some.injEq, Prod.mk.injEq] at h
      obtain ⟨rfl, rfl⟩ := h
      cases ox with
      | @lst a ws _ _ _ m _ q r =>
        cases r
        rw [List.append_nil] at *
        obtain ⟨v0, us, n0, n1, rfl, rfl, o0, o1⟩ := owns_uncons od
        cases o0 with
        | im hi r0 =>
        cases r0
        obtain ⟨v, us, n1, n2, rfl, rfl, o1, o2⟩ := owns_uncons o1
        cases o2
        rw [List.append_nil, List.nil_append] at *
        obtain ⟨hlt, e2⟩ : j < xs.length ∧ True := ⟨(ixN_seq hj).2.1, trivial⟩
        have okm : CellsOk S H m := ⟨(List.nodup_cons.mp (by simpa using okx.1)).2, fun c hc => okx.2 c (List.mem_cons_of_mem _ hc)⟩
        -- split the row at j
        have spl : ∀ {ds : List D} {vs : List V} {ms : Cells} {j : Nat}, Owns T B ds vs ms → j < ds.length → CellsOk S H ms → (∀ c ∈ ms, c ∈ m) → ∃ m', Owns T B (ds.set j d) (vs.set j v) m' ∧ (m'.map (·.1)).Nodup ∧ (∀ c ∈ m', c ∈ ms ∨ c ∈ n1) := by
          intro ds
          induction ds with
          | nil => intro vs ms j o h; simp at h
          | cons y ys ih =>
            intro vs ms j o hl ok sub
            obtain ⟨v', us', p1, p2, rfl, rfl, w1, w2⟩ := owns_uncons o
            obtain ⟨c1, c2, c12⟩ := cells_split ok
            cases j with
            | zero =>
              refine ⟨n1 ++ p2, by simpa using owns_cons o1 w2, (cells_append oke c2 (apart_symm fun c hc => ap c (List.mem_cons_of_mem _ (sub c (List.mem_append_right _ hc))))).1, fun c hc => ?_⟩
              rcases List.mem_append.mp hc with hc | hc
              · exact .inr hc
              · exact .inl (List.mem_append_right _ hc)
            | succ j =>
              obtain ⟨m', w3, w4, w5⟩ := ih w2 (j := j) (by simpa using hl) c2 fun c hc => sub c (List.mem_append_right _ hc)
              refine ⟨p1 ++ m', by simpa using owns_cons w1 w3, ?_, fun c hc => ?_⟩
              · rw [List.map_append, List.nodup_append]
                refine ⟨c1.1, w4, fun x hx y hy => ?_⟩
                obtain ⟨c, hc, rfl⟩ := List.mem_map.mp hx
                obtain ⟨e, he, rfl⟩ := List.mem_map.mp hy
                rcases w5 e he with he | he
                · exact c12 c hc e he
                · exact ap c (List.mem_cons_of_mem _ (sub c (List.mem_append_left _ hc))) e he
              · rcases List.mem_append.mp hc with hc | hc
                · exact .inl (List.mem_append_left _ hc)
                · exact (w5 c hc).imp (List.mem_append_right _) id
        obtain ⟨m', w1, w2, w3⟩ := spl q hlt okm fun _ h => h
        obtain ⟨z1, z2, z3, z4, z5, z6⟩ := mut_list okx oke ap w1 own_non (by simpa using w2) w3 (fun _ h => nomatch h)
        refine ⟨a, _, _, _, _, z1, z2, z3, z4, z5, z6, fun Q k => ⟨.int i, v, rfl, a, ws, i, j, rfl, rfl, (okx.2 _ List.mem_cons_self).1, by rw [← q.len]; exact hj, k⟩⟩
    · cases h
  · cases h
/-- o[i] = e -/
@[simp] def sSub (op : D → List D → Option (D × D)) (me : EE) (ml : ML) (mi : ME) : MS := fun env => match me env with
  | .ok (.own dv) env => match ml env with
    | .ok i p => match mi env with
      | .ok r => match r.d with
        | .im k => match env[i]? with
          | some (some (.own d)) => match getP p d with
            | some x => match op x [.im k, dv] with
              | some (x', _) => .nx (env.set i (some (.own (setP p d x'))))
              | none => .er
            | none => .er
          | _ => .er
        | _ => .er
      | .ex x => .ex x env
      | .er => .er
    | .ex x => .ex x env
    | .er => .er
  | .ex x env => .ex x env
  | _ => .er
def tSub (r : V → List V → Hp → VK → Prop) (te to ti : TE) : TS := fun D σ H => te σ H fun y H1 => to σ H1 fun x H2 => ti σ H2 fun i H3 => r x [i, y] H3 fun _ H4 => D.nx σ H4
theorem ss_sub {st : Stmt} {op : D → List D → Option (D × D)} {r : V → List V → Hp → VK → Prop} {me : EE} (M : MutS T op r) (h : PS X st (tSub r (tE T W me) (tL T W ml) (tP T W mi))) : PS X st (tS T W pin σ0 (sSub op me ml mi)) := by
  refine ps_of h fun De σ H ⟨S, B, env, mss, R, hp, q⟩ => ⟨S, B, env, mss, R, ?_⟩
  cases hm : me env with
  | ok rv env1 =>
    intro S1 B1 H1 mss1 y g1 R1 f1
    simp only [sSub, hm] at q
    cases rv with
    | ro d => exact q.elim
    | bor i d => exact q.elim
    | own dv =>
      simp only at q
      obtain ⟨my, oy, oky, apy⟩ := f1
      refine ⟨S1, B1, env1, mss1, R1, ?_⟩
      cases hl : ml env1 with
      | ok i p =>
        simp only [hl] at q
        intro S2 B2 H2 v u g2 hv hu
        have R2 := R1.grow g2
        refine ⟨S2, B2, env1, mss1, R2, ?_⟩
        cases hi : mi env1 with
        | ok ri =>
          simp only [hi] at q
          intro S3 B3 H3 w g3 f3
          have R3 := R2.grow g3
          have rd := f3.read R3
          cases hk : ri.d with
          | im k =>
            simp only [hk] at q
            rw [hk] at rd
            obtain ⟨us, e, _, hik⟩ := ros_im rd
            cases e
            cases hd : env1[i]? with
            | none => simp only [hd] at q; exact q.elim
            | some o =>
            cases o with
            | none => simp only [hd] at q; exact q.elim
            | some o =>
            cases o with
            | ro d => simp only [hd] at q; exact q.elim
            | own d =>
              simp only [hd] at q
              cases hg : getP p d with
              | none => simp only [hg] at q; exact q.elim
              | some x =>
                simp only [hg] at q
                cases hop : op x [.im w, dv] with
                | none => simp only [hop] at q; exact q.elim
                | some xr =>
                  obtain ⟨x', res⟩ := xr
                  simp only [hop] at q
                  have gg := g2.trans g3
                  have od : Owns T B3 [.im w, dv] [w, y] ([] ++ my) := owns_cons (.im hik .nil) (oy.mono gg.w.b)
                  exact mut_do M R3 hd hg hop od (oky.grow oy.nt gg.h gg.f) apy hv (valP_monoN g3.h.n hu) fun mss4 H4 w4 mr R4 _ _ _ => q S3 B3 mss4 σ H4 ((g1.trans g2.w).trans g3.w) R4 hp
          | _ => simp only [hk] at q; exact q.elim
        | ex x => simp only [hi] at q; exact fun S3 B3 H3 cls d g3 ef => q S3 B3 mss1 σ H3 cls d ((g1.trans g2.w).trans g3.w) (R2.grow g3) hp ef
        | er => simp only [hi] at q; exact q
      | ex x => simp only [hl] at q; exact fun S3 B3 H3 cls d g3 ef => q S3 B3 mss1 σ H3 cls d (g1.trans g3.w) (R1.grow g3) hp ef
      | er => simp only [hl] at q; exact q
  | ex x env1 => simp only [sSub, hm] at q; exact fun S' B' H' mss' cls d g R' ef => q S' B' mss' σ H' cls d g R' hp ef
  | er => simp only [sSub, hm] at q; exact q
end
end Tr
namespace Tr
open PySem L2
section
variable {X : Cx} {T : Tab}
theorem tl_nil : ∀ ds env env', tsNil ds env = some env' → ds.length = 0 := by
  intro ds env env' h
  cases ds with
  | nil => rfl
  | cons d ds => simp [tsNil] at h
theorem tl_cons {f : TgF} {fs : TgsF} {n : Nat} (h : ∀ ds env env', fs ds env = some env' → ds.length = n) : ∀ ds env env', tsCons f fs ds env = some env' → ds.length = n + 1 := by
  intro ds env env' q
  cases ds with
  | nil => simp [tsCons] at q
  | cons d ds =>
    simp only [tsCons] at q
    cases h1 : f d env with
    | none => rw [h1] at q; simp at q
    | some e2 => rw [h1] at q; simp at q; simp [h _ _ _ q]
end
open PySem.Spec PyProof.Rows
/-- the end of a law row: the law's mirror is true of every script -/
theorem walk_law {l : PySem.W.OpenLaw} {k : Nat} {q : Program} {loose : List Str} {XP : (Str → Option Value) → Heap → Prop} {YP : World → Heap → Prop} {d : DefRec} {K : Params → PySem.W.Frag} {x : Str} {mf : List Slot → FR}
    (hn : l.most = some 63) (hdf : d.params.defaults = []) (hr : Room k callerA)
    (hY : ∀ (w : World) (h : Heap), YP w h → (K w.params).In h)
    (F : ∀ (w : World) (mg : Str → Option Value) (fa : Addr) (h : Heap), (K w.params).In h → h.Ns mainGlobals mg → mg d.name = some (.ref fa) →
      ∃ (tb : Tab), (tb.K = K w.params ∧ tb.tbs = []) ∧ ∃ fd : FuncData, (∀ (s : Shared) (u : Value), BindsTo s fd ⟨[u], []⟩ [(x, u)]) ∧ ∀ base : Heap, (K w.params).In base → base.Ns mainGlobals mg → FnOk l.prog w (K w.params) mg base (L2.CX l.prog w) k fa fd [x] (spF tb 1 mf))
    (law : ∀ ns : List Int, ns.length ≤ 63 → ∃ as, mf [.ro (.scr ns)] = .ok (.im (.bl true)) as) :
    PySem.W.WalkO q loose XP YP l.row.toRowW d [] (fun f vs => PySem.call f vs) := by
  refine L2.walk_of (n := 63) (k := k) (x := x) (K := K) (CX := fun w => L2.CX l.prog w) (sp := fun w vs H Q E => ∀ tb : Tab, tb.K = K w.params ∧ tb.tbs = [] → spF tb 1 mf vs H Q E) hn (by decide) hdf hr hY (fun w mg fa h k1 k2 k3 => ?_) (fun w H a ns hl _ hS tb ⟨htb, htbs⟩ => ?_) ?_
  · obtain ⟨tb, htb, fd, h1, h2⟩ := F w mg fa h k1 k2 k3
    exact ⟨fd, h1, fun base b1 b2 => (h2 base b1 b2).imp fun vs H Q E q => q tb htb⟩
  · obtain ⟨as, e⟩ := law ns hl
    refine ⟨rfl, nT tb H, fun _ => none, [.ro (.scr ns)], [[]], srx_ros (T := tb) (S := fun _ => none) (B := fun _ => none) (ds := [.scr ns]) (fun a u h => by cases h) (fun a u h => by cases h) (fun p hp => by rw [htbs] at hp; cases hp) (fun p hp => by rw [htbs] at hp; cases hp) (.scr (by rw [htb]; exact hS) .nil), ?_⟩
    rw [e]
    intro S' B' H' v ms mss g R o c ap
    exact own_im o
  · rintro w H s e s' ⟨_, _, _, _, _, _, _, _, _, _, _, _, h⟩
    exact h
end Tr
namespace Tr
open PySem L2
@[simp] theorem cp_im (v : V) : copyD (.im v) = true := rfl
@[simp] theorem cp_fz (d : D) : copyD (.fz d) = true := rfl
@[simp] theorem cp_lst (d : List D) : copyD (.lst d) = false := rfl
@[simp] theorem cp_scr (d : List Int) : copyD (.scr d) = false := rfl
@[simp] theorem cp_dct (k) (d : List D) : copyD (.dct k d) = false := rfl
@[simp] theorem cp_obj (k) (d : List D) : copyD (.obj k d) = false := rfl
@[simp] theorem cp_tup (d : List D) : copyD (.tup d) = copyDs d := by rw [copyD]
@[simp] theorem cps_nil : copyDs [] = true := by rw [copyDs]
@[simp] theorem cps_cons (d : D) (ds : List D) : copyDs (d :: ds) = (copyD d && copyDs ds) := by rw [copyDs]
@[simp] theorem uz_im (v : V) : unfz (.im v) = .im v := rfl
@[simp] theorem uz_lst (v : List D) : unfz (.lst v) = .lst v := rfl
@[simp] theorem uz_tup (v : List D) : unfz (.tup v) = .tup v := rfl
@[simp] theorem uz_scr (v : List Int) : unfz (.scr v) = .scr v := rfl
@[simp] theorem uz_dct (k) (v : List D) : unfz (.dct k v) = .dct k v := rfl
@[simp] theorem uz_obj (k) (v : List D) : unfz (.obj k v) = .obj k v := rfl
@[simp] theorem uz_fz (v : D) : unfz (.fz v) = unfz v := rfl
theorem eqv_int (a b : Int) : PyData.eqv (.int a) (.int b) = decide (a = b) := by
  by_cases h : a = b <;> simp [PyData.eqv, h]
@[simp] theorem fEq_int (a b : Int) : fEq [.im (.int a), .im (.int b)] = some (.im (.bl (decide (a = b)))) := by
  have h : PySem.SeqAt.shaped (.int a) = true := rfl
  have h' : PySem.SeqAt.shaped (.int b) = true := rfl
  simp [fEq, toPy, h, h', eqv_int]
@[simp] theorem fNe_int (a b : Int) : fNe [.im (.int a), .im (.int b)] = some (.im (.bl (decide (a ≠ b)))) := by
  have h : PySem.SeqAt.shaped (.int a) = true := rfl
  have h' : PySem.SeqAt.shaped (.int b) = true := rfl
  simp [fNe, toPy, h, h', eqv_int]
theorem eqv_bool (a b : Bool) : PyData.eqv (.bool a) (.bool b) = (a == b) := by
  cases a <;> cases b <;> rfl
@[simp] theorem fEq_bl (a b : Bool) : fEq [.im (.bl a), .im (.bl b)] = some (.im (.bl (a == b))) := by
  have h : PySem.SeqAt.shaped (.bool a) = true := rfl
  have h' : PySem.SeqAt.shaped (.bool b) = true := rfl
  simp [fEq, toPy, h, h', eqv_bool]
@[simp] theorem fNe_bl (a b : Bool) : fNe [.im (.bl a), .im (.bl b)] = some (.im (.bl (!(a == b)))) := by
  have h : PySem.SeqAt.shaped (.bool a) = true := rfl
  have h' : PySem.SeqAt.shaped (.bool b) = true := rfl
  simp [fNe, toPy, h, h', eqv_bool]
theorem eqv_str (a b : Str) : PyData.eqv (.str a) (.str b) = (a == b) := by
  simp [PyData.eqv]
@[simp] theorem r_lt (a b : Int) : fLt [.im (.int a), .im (.int b)] = some (.im (.bl (decide (a < b)))) := rfl
@[simp] theorem r_le (a b : Int) : fLe [.im (.int a), .im (.int b)] = some (.im (.bl (decide (a ≤ b)))) := rfl
@[simp] theorem r_gt (a b : Int) : fGt [.im (.int a), .im (.int b)] = some (.im (.bl (decide (b < a)))) := rfl
@[simp] theorem r_ge (a b : Int) : fGe [.im (.int a), .im (.int b)] = some (.im (.bl (decide (b ≤ a)))) := rfl
@[simp] theorem r_add (a b : Int) : fAdd [.im (.int a), .im (.int b)] = some (.im (.int (a + b))) := rfl
@[simp] theorem r_sub (a b : Int) : fSub [.im (.int a), .im (.int b)] = some (.im (.int (a - b))) := rfl
theorem r_mul {a b : Int} (h : cMul a b = true) : fMul [.im (.int a), .im (.int b)] = some (.im (.int (a * b))) := by
  show orF (fI2 cMul fun i j => .int (i * j)) _ _ = _
  simp [orF, fI2, h]
theorem big_60 {a : Int} (h : a.natAbs < 10 ^ 900) : a.natAbs < BIG := big_of (Nat.lt_of_lt_of_le h (Nat.pow_le_pow_right (by decide) (by decide)))
theorem mul_ok {a b : Int} (ha : a.natAbs < 10 ^ 900) (hb : b.natAbs < 10 ^ 900) : cMul a b = true := decide_eq_true (.inr (.inr ⟨big_60 ha, big_60 hb⟩))
theorem div_ok {a b : Int} (h0 : b ≠ 0) (hb : b.natAbs < 10 ^ 900) : cDiv a b = true := decide_eq_true ⟨h0, big_60 hb⟩
theorem r_div {a b : Int} (h : cDiv a b = true) : fDiv [.im (.int a), .im (.int b)] = some (.im (.int (fdv a b))) := by
  show fI2 cDiv (fun i j => .int (fdv i j)) _ = _
  simp [fI2, h]
theorem r_mod {a b : Int} (h : b ≠ 0) : fMod [.im (.int a), .im (.int b)] = some (.im (.int (fmd a b))) := by
  show fI2 (fun _ j => decide (j ≠ 0)) (fun i j => .int (fmd i j)) _ = _
  simp [fI2, h]
theorem r_modp {a b : Int} (h : 0 < b) : fMod [.im (.int a), .im (.int b)] = some (.im (.int (a % b))) := by
  rw [r_mod (by omega)]; simp [fmd, h]
theorem r_divp {a b : Int} (h : 0 < b) (h2 : b < 10 ^ 200) : fDiv [.im (.int a), .im (.int b)] = some (.im (.int (a / b))) := by
  rw [r_div (div_ok (by omega) (by omega))]; simp [fdv, h]
@[simp] theorem fdv_pos {a b : Int} (h : 0 < b) : fdv a b = a / b := if_pos h
@[simp] theorem fmd_pos {a b : Int} (h : 0 < b) : fmd a b = a % b := if_pos h
@[simp] theorem r_abs (i : Int) : fAbs [.im (.int i)] = some (.im (.int (if i < 0 then -i else i))) := rfl
@[simp] theorem r_neg (i : Int) : fNeg [.im (.int i)] = some (.im (.int (-i))) := rfl
@[simp] theorem r_not (b : Bool) : fNot [.im (.bl b)] = some (.im (.bl (!b))) := rfl
@[simp] theorem r_len_lst (xs : List D) : fLen [.lst xs] = some (.im (.int xs.length)) := rfl
@[simp] theorem r_len_tup (xs : List D) : fLen [.tup xs] = some (.im (.int xs.length)) := rfl
@[simp] theorem r_len_scr (xs : List Int) : fLen [.scr xs] = some (.im (.int xs.length)) := rfl
theorem r_len_str {s : Str} (h : s.length ≤ 1000000) : fLen [.im (.str s)] = some (.im (.int s.length)) := by
  show orF fLenS fLenD _ = _
  simp [orF, fLenS, h]
theorem fIsi_mk {d : D} {t u : String} {b : Bool} (h1 : tyN d = some t) (h2 : kitB t u = some b) : fIsi [d, .im (.ty u)] = some (.im (.bl b)) := by
  simp only [fIsi, h1, h2]
@[simp] theorem isi_int_int (i : Int) : fIsi [.im (.int i), .im (.ty "int")] = some (.im (.bl true)) := fIsi_mk rfl rfl
@[simp] theorem isi_bl_int (i : Bool) : fIsi [.im (.bl i), .im (.ty "int")] = some (.im (.bl true)) := fIsi_mk rfl (by decide +kernel)
@[simp] theorem isi_non_int : fIsi [.im .non, .im (.ty "int")] = some (.im (.bl false)) := fIsi_mk rfl (by decide +kernel)
@[simp] theorem isi_str_int (s : Str) : fIsi [.im (.str s), .im (.ty "int")] = some (.im (.bl false)) := fIsi_mk rfl (by decide +kernel)
@[simp] theorem isi_tup_int (s : List D) : fIsi [.tup s, .im (.ty "int")] = some (.im (.bl false)) := fIsi_mk rfl (by decide +kernel)
@[simp] theorem isi_lst_int (s : List D) : fIsi [.lst s, .im (.ty "int")] = some (.im (.bl false)) := fIsi_mk rfl (by decide +kernel)
@[simp] theorem isi_int_bl (i : Int) : fIsi [.im (.int i), .im (.ty "bool")] = some (.im (.bl false)) := fIsi_mk rfl (by decide +kernel)
@[simp] theorem isi_bl_bl (i : Bool) : fIsi [.im (.bl i), .im (.ty "bool")] = some (.im (.bl true)) := fIsi_mk rfl (by decide +kernel)
@[simp] theorem isi_non_bl : fIsi [.im .non, .im (.ty "bool")] = some (.im (.bl false)) := fIsi_mk rfl (by decide +kernel)
@[simp] theorem isi_str_bl (i : Str) : fIsi [.im (.str i), .im (.ty "bool")] = some (.im (.bl false)) := fIsi_mk rfl (by decide +kernel)
@[simp] theorem isi_tup_tup (i : List D) : fIsi [.tup i, .im (.ty "tuple")] = some (.im (.bl true)) := fIsi_mk rfl (by decide +kernel)
@[simp] theorem isi_lst_tup (i : List D) : fIsi [.lst i, .im (.ty "tuple")] = some (.im (.bl false)) := fIsi_mk rfl (by decide +kernel)
@[simp] theorem isi_lst_lst (i : List D) : fIsi [.lst i, .im (.ty "list")] = some (.im (.bl true)) := fIsi_mk rfl (by decide +kernel)
@[simp] theorem isi_tup_lst (i : List D) : fIsi [.tup i, .im (.ty "list")] = some (.im (.bl false)) := fIsi_mk rfl (by decide +kernel)
@[simp] theorem isi_str_str (i : Str) : fIsi [.im (.str i), .im (.ty "str")] = some (.im (.bl true)) := fIsi_mk rfl (by decide +kernel)
@[simp] theorem isi_int_str (i : Int) : fIsi [.im (.int i), .im (.ty "str")] = some (.im (.bl false)) := fIsi_mk rfl (by decide +kernel)
@[simp] theorem isi_non_str : fIsi [.im .non, .im (.ty "str")] = some (.im (.bl false)) := fIsi_mk rfl (by decide +kernel)
theorem atI_nat {α : Type} (xs : List α) (n : Nat) : atI xs (n : Int) = xs[n]? := by
  unfold atI ixN
  by_cases h : n < xs.length
  · simp [h]
  · simp [h]
@[simp] theorem atI_0 {α : Type} (xs : List α) : atI xs 0 = xs[0]? := atI_nat xs 0
@[simp] theorem atI_1 {α : Type} (xs : List α) : atI xs 1 = xs[1]? := atI_nat xs 1
@[simp] theorem atI_2 {α : Type} (xs : List α) : atI xs 2 = xs[2]? := atI_nat xs 2
@[simp] theorem atI_3 {α : Type} (xs : List α) : atI xs 3 = xs[3]? := atI_nat xs 3
@[simp] theorem gIx_int (i : Int) : gIx (.im (.int i)) = some (ixG i) := rfl
@[simp] theorem ixG_lst (i : Int) (xs : List D) : ixG i (.lst xs) = atI xs i := rfl
@[simp] theorem ixG_tup (i : Int) (xs : List D) : ixG i (.tup xs) = atI xs i := rfl
@[simp] theorem ixG_scr (i : Int) (xs : List Int) : ixG i (.scr xs) = (atI xs i).map fun n => .im (.int n) := rfl
@[simp] theorem d_own (d : D) : Rs.d (.own d) = d := rfl
@[simp] theorem d_ro (d : D) : Rs.d (.ro d) = d := rfl
@[simp] theorem d_if (c : Prop) [Decidable c] (d : D) : Rs.d (if c then .own d else .ro d) = d := by split <;> rfl
@[simp] theorem d_if2 (c : Prop) [Decidable c] (i) (d : D) : Rs.d (if c then .own d else .bor i d) = d := by split <;> rfl
@[simp] theorem d_bor (i) (d : D) : Rs.d (.bor i d) = d := rfl
end Tr
namespace Tr
open PySem L2
section
variable {X : Cx} {T : Tab} {W : WX} {pin : Pins} {σ0 : L2.St} {e a b : Expr} {es : List Expr} {S B H S' B' H' : Hp} {env : En} {mss : List Cells} {σ : L2.St} {pos : Pos}
@[simp] def sTryIs (sub isb : Nat → Option Bool) (ie iv : Nat) (m : MS) : MS := fun env => match m env with
  | .ex x env => match sub x.c with
    | some true => match isb x.c with
      | some b => if x.vs.isEmpty then .nx ((env.set iv (some (.own (.im (.bl b))))).set ie none) else .er
      | none => .er
    | some false => .ex x env
    | none => .er
  | z => z
end
end Tr
namespace Tr
open PySem L2
section
variable {X : Cx} {T : Tab} {W : WX} {e a b o : Expr} {es : List Expr} {ma mb : ME} {ms : List ME} {t t' : TE} {pos p2 apos : Pos} {S B H : Hp}
theorem ros_drop : ∀ {n : Nat} {ds : List D} {vs : List V}, Ros T B S ds vs → Ros T B S (ds.drop n) (vs.drop n)
  | 0, _, _, r => r
  | n + 1, [], _, r => by cases r; exact .nil
  | n + 1, d :: ds, vs, r => by
    cases vs with
    | nil => cases r
    | cons v vs =>
      have : Ros T B S ds vs := by cases r <;> assumption
      exact ros_drop (n := n) this
theorem ros_take : ∀ {n : Nat} {ds : List D} {vs : List V}, Ros T B S ds vs → Ros T B S (ds.take n) (vs.take n)
  | 0, _, _, r => .nil
  | n + 1, [], _, r => by cases r; exact .nil
  | n + 1, d :: ds, vs, r => by
    cases vs with
    | nil => cases r
    | cons v vs =>
      have h1 : Ros T B S ds vs := by cases r <;> assumption
      have h2 : Ros T B S [d] [v] := by
        cases r with
        | im h r => exact .im h .nil
        | lst h q r => exact .lst h q .nil
        | tup h q r => exact .tup h q .nil
        | dct h hl q r => exact .dct h hl q .nil
        | obj h hc hl q r => exact .obj h hc hl q .nil
        | fz q r => exact .fz q .nil
        | scr h r => exact .scr h .nil
        | fn h r => exact .fn h .nil
      exact ros_cons h2 (ros_take (n := n) h1)
def fSl (d : D) (lo hi : Option Int) : Option D := match unfz d with
  | .lst xs => if copyDs (cutD xs lo hi) then some (.lst (cutD xs lo hi)) else none
  | .scr ns => some (.lst (((ns.drop (HT.sIx ns.length 0 lo)).take (HT.sIx ns.length ns.length hi - HT.sIx ns.length 0 lo)).map fun n => .im (.int n)))
  | .im (.str z) => if z.length ≤ 1000000 then some (.im (.str (cutS z lo hi))) else none
  | _ => none
def rSl (K : PySem.W.Frag) : V → Option Int → Option Int → Hp → VK → Prop := fun x lo hi H Q => rSlL K x lo hi H Q ∨ rSlS x lo hi H Q
theorem sl_any : SlR X (rSl X.K) := sl_list.or sl_str
theorem vs_sl {d z : D} {v : V} {lo hi : Option Int} (bh : Same B H) (r : Ros T B H [d] [v]) (h : fSl d lo hi = some z) : Gives T B H z (fun Q => rSl T.K v lo hi H Q) := by
  unfold fSl at h
  have q := ros_unfz bh r
  split at h
  · rename_i xs e
    rw [e] at q
    split at h
    · rename_i hc
      cases h
      obtain ⟨a, ws, rfl, h1, q⟩ := ros_lst q
      have l := q.len
      have eq : Ros T B H (cutD xs lo hi) (cutV ws lo hi) := by
        unfold cutD cutV
        rw [l]
        exact ros_take (ros_drop q)
      exact .lst (copy_own eq hc) fun Q k => .inl ⟨a, ws, rfl, SqL.of h1, k⟩
    · cases h
  · rename_i ns e
    rw [e] at q
    cases h
    cases q with
    | @scr _ a _ _ _ h1 _ =>
      refine .lst (ws := cutV (ns.map V.int) lo hi) ?_ fun Q k => .inl ⟨a, _, rfl, h1, k⟩
      have e2 : cutV (ns.map V.int) lo hi = ((ns.drop (HT.sIx ns.length 0 lo)).take (HT.sIx ns.length ns.length hi - HT.sIx ns.length 0 lo)).map V.int := by
        unfold cutV
        simp [List.map_drop, List.map_take]
      rw [e2]
      have := owns_ims (T := T) (B := B) (imm_ints ((ns.drop (HT.sIx ns.length 0 lo)).take (HT.sIx ns.length ns.length hi - HT.sIx ns.length 0 lo)))
      rw [List.map_map] at this
      exact this
  · rename_i z' e
    rw [e] at q
    split at h
    · rename_i hz
      cases h
      cases ros_im1 q
      exact .im rfl fun Q k => .inr ⟨z', rfl, le_line hz, k⟩
    · cases h
  · cases h
def tPo (T : Tab) (W : WX) : Option ME → TO
  | none => tNoPart
  | some m => tPart (tP T W m)
@[simp] def mPo (m : Option ME) (env : En) : Rz (Option Int) := match m with
  | none => .ok none
  | some m => match m env with
    | .ok r => match r.d with
      | .im (.int i) => .ok (some i)
      | _ => .er
    | .ex x => .ex x
    | .er => .er
@[simp] def mSl (ma : ME) (ml mh : Option ME) : ME := fun env => match ma env with
  | .ok ra => match mPo ml env with
    | .ok l => match mPo mh env with
      | .ok h => match fSl ra.d l h with
        | some z => .ok (.own z)
        | none => .er
      | .ex x => .ex x
      | .er => .er
    | .ex x => .ex x
    | .er => .er
  | .ex x => .ex x
  | .er => .er
theorem po_run {m : Option ME} {σ : L2.St} {env : En} {mss : List Cells} {Q : Option Int → Hp → Prop} (R : SRx T S B env mss σ H)
    (ok : ∀ i, mPo m env = .ok i → ∀ S' B' H', Gr T.tbs S B H S' B' H' → Q i H') (ex : ∀ x, mPo m env = .ex x → ∀ S' B' H' cls d, Gr T.tbs S B H S' B' H' → ExF T H' x cls d → W cls d σ H') (er : mPo m env ≠ .er) : tPo T W m σ H Q := by
  cases m with
  | none => exact ok none rfl S B H (Gr.refl R.bs R.sh)
  | some m =>
    refine ⟨S, B, env, mss, R, ?_⟩
    cases hm : m env with
    | ok r =>
      intro S' B' H' v g f
      simp only [mPo, hm] at ok er
      split at er
      · rename_i i e
        have rd := f.read (R.grow g)
        rw [e] at rd
        cases ros_im1 rd
        refine ⟨i, rfl, ok (some i) ?_ S' B' H' g⟩
        rw [e]
      · exact absurd rfl er
    | ex x =>
      simp only [mPo, hm] at ex
      exact fun S' B' H' cls d g f => ex x rfl S' B' H' cls d g f
    | er => simp only [mPo, hm] at er; exact absurd rfl er
theorem ep_sl {ml mh : Option ME} {lo hi : Option Expr} (hK : X.K = T.K) (ha : PE X e (tP T W ma)) (hl : L2.PO X lo (tPo T W ml)) (hh : L2.PO X hi (tPo T W mh)) : PE X (.Subscript e (.Slice lo hi none p2) pos) (tP T W (mSl ma ml mh)) := by
  refine pe_of (pe_slice (hK ▸ sl_any) ha hl hh) fun σ H Q ⟨S, B, env, mss, R, q⟩ => ⟨S, B, env, mss, R, ?_⟩
  cases hm : ma env with
  | ok ra =>
    intro S1 B1 H1 v g f1
    simp only [mSl, hm] at q
    have R1 := R.grow g
    refine po_run R1 (fun l el S2 B2 H2 g2 => ?_) (fun x el S2 B2 H2 cls d g2 ef => ?_) (fun el => ?_)
    · have R2 := R1.grow g2
      simp only [el] at q
      refine po_run R2 (fun h eh S3 B3 H3 g3 => ?_) (fun x el3 S3 B3 H3 cls d g3 ef => ?_) (fun el3 => ?_)
      · have R3 := R2.grow g3
        simp only [eh] at q
        cases hz : fSl ra.d l h with
        | none => simp only [hz] at q; exact q.elim
        | some z =>
          simp only [hz] at q
          have gv := vs_sl (R3.bs.trans R3.sh) (((f1.grow R1 g2).grow R2 g3).read R3) hz
          exact gv.run (mss := mss) (Q := Q) R3.bs R3.sh (((q.grow g).grow g2).grow g3)
      · simp only [el3] at q; exact ((q.grow g).grow g2) _ _ _ _ _ g3 ef
      · simp only [el3] at q; exact q
    · simp only [el] at q; exact (q.grow g) _ _ _ _ _ g2 ef
    · simp only [el] at q; exact q
  | ex x => simp only [mSl, hm] at q; exact q
  | er => simp only [mSl, hm] at q; exact q
@[simp] def isS : D → Bool
  | .im (.str _) => true
  | _ => false
@[simp] def mM1 (f : List D → Option D) (ma mb : ME) : ME := fun env => match ma env with
  | .ok ra => if isS ra.d then (match mb env with
    | .ok rb => match f [ra.d, rb.d] with
      | some z => .ok (.own z)
      | none => .er
    | .ex x => .ex x
    | .er => .er) else .er
  | .ex x => .ex x
  | .er => .er
def cMulS (a : Str) (n : Int) : Bool := decide (-1000 < n ∧ n < 1000 ∧ a.length ≤ 1000)
theorem mulS_ok {a : Str} {n : Int} (h : cMulS a n = true) : MulOk a n := by
  obtain ⟨h1, h2, h3⟩ := of_decide_eq_true h
  refine ⟨?_, fun hn _ => ?_, fun hn _ => ?_⟩
  · have e1 : decide (n < -(2 ^ 63 : Int)) = false := decide_eq_false (by omega)
    have e2 : decide (n ≥ 2 ^ 63) = false := decide_eq_false (by omega)
    rw [e1, e2]; rfl
  · have h4 : (9000000000000000 : Int) ≤ (2 ^ 63 - 1) / n := by
      rw [Int.le_ediv_iff_mul_le (by omega)]
      omega
    omega
  · have h5 : a.length * n.toNat ≤ 1000 * 1000 := Nat.mul_le_mul h3 (by omega)
    have h6 := le_line (n := a.length * n.toNat) (by omega)
    show decide (a.length * n.toNat > sizeLine) = false
    exact decide_eq_false (by omega)
def fMulS : List D → Option D
  | [.im (.str a), .im (.int n)] => if cMulS a n then some (.im (.str (Txt.mul a n))) else none
  | _ => none
def rMulS : R2 := fun x y H Q => ∃ a n, x = .str a ∧ y = .int n ∧ MulOk a n ∧ Q (.str (Txt.mul a n)) H
theorem op_mulS : OpR X (binaryOp .Mult) rMulS := by
  intro pins s σ H x y v u Q I rx ry h
  obtain ⟨a, n, rfl, rfl, hc, h⟩ := h
  obtain ⟨t, rfl⟩ := rx
  obtain ⟨t', rfl⟩ := ry
  exact PySem.SB.mul hc fun t2 k => ⟨.str _, H, I.tok k, ⟨t2, rfl⟩, h⟩
theorem vs_mulS : VS2 T fMulS rMulS := by
  intro B H ds vs z bh ro h
  unfold fMulS at h
  split at h
  · rename_i a n
    split at h
    · rename_i hc
      cases h
      obtain ⟨v, u, rfl, r1, r2⟩ := ros_c2 ro
      cases ros_im1 r1
      cases ros_im1 r2
      exact .im rfl fun Q k => ⟨_, _, rfl, _, _, rfl, rfl, mulS_ok hc, k⟩
    · cases h
  · cases h
theorem op_mulPS : OpR X (binaryOp .Mult) (fun x y H Q => (rI CMulX (fun i j => .int (i * j)) x y H Q ∨ rRep x y H Q) ∨ rMulS x y H Q) := OpR.or op_mulP op_mulS
theorem vs_mulPS : VS2 T (orF fMul fMulS) (fun x y H Q => (rI CMulX (fun i j => .int (i * j)) x y H Q ∨ rRep x y H Q) ∨ rMulS x y H Q) := VS2.or vs_mul vs_mulS
@[simp] theorem mulPS_int (a b : Int) : orF fMul fMulS [.im (.int a), .im (.int b)] = fMul [.im (.int a), .im (.int b)] := by
  show (match fMul [.im (.int a), .im (.int b)] with | some z => some z | none => fMulS [.im (.int a), .im (.int b)]) = _
  cases fMul [.im (.int a), .im (.int b)] with
  | some z => rfl
  | none => rfl
@[simp] theorem mulPS_lst (xs : List D) (b : Int) : orF fMul fMulS [.lst xs, .im (.int b)] = fMul [.lst xs, .im (.int b)] := by
  show (match fMul [.lst xs, .im (.int b)] with | some z => some z | none => fMulS [.lst xs, .im (.int b)]) = _
  cases fMul [.lst xs, .im (.int b)] with
  | some z => rfl
  | none => rfl
@[simp] theorem mulPS_str (a : Str) (b : Int) : orF fMul fMulS [.im (.str a), .im (.int b)] = fMulS [.im (.str a), .im (.int b)] := rfl
def strsD : List D → Option (List Str)
  | [] => some []
  | .im (.str x) :: ds => (strsD ds).map (x :: ·)
  | _ => none
end
end Tr
namespace Tr
open PySem L2
@[simp] def roS : Option Slot → Option Slot
  | some (.own d) => some (.ro d)
  | x => x
@[simp] def roE (env : En) : En := env.map roS
@[simp] def lcF (j : Nat) (mt : MT) (me : ME) (env : En) : List D → List D → Rz (List D)
  | [], acc => .ok acc
  | d :: ds, acc => match mt ((env.set j none).set j (some (slotD d))) with
    | .ok true env3 => match me env3 with
      | .ok r => if copyD r.d then lcF j mt me env ds (acc ++ [r.d]) else .er
      | _ => .er
    | .ok false _ => lcF j mt me env ds acc
    | _ => .er
@[simp] def mLc (mi : MI) (j : Nat) (mt : MT) (me : ME) : ME := fun env => match mi env with
  | .ok items fz => if fz.all (fun i => decide (i < env.length)) && decide (items.length ≤ 1000000) then (match lcF j mt me (roE env) items [] with
    | .ok ds => .ok (.own (.lst ds))
    | _ => .er) else .er
  | .ex x => .ex x
  | .er => .er
@[simp] def tTrue : MT := fun env => .ok true env
section
variable {X : Cx} {T : Tab} {W : WX} {e : Expr} {ma mb me : ME} {mt : MT} {mi : MI} {pos : Pos} {S B H S' B' H' : Hp} {env : En} {mss : List Cells} {σ : L2.St}
theorem wi_same {m : Cells} (sh : Same S H) (h : ∀ c ∈ m, H c.1 = some c.2) : Same (Wi S m) H := fun a o k => by
  unfold Wi at k
  cases e : S a with
  | some u => rw [e] at k; cases k; exact sh _ _ e
  | none =>
    rw [e] at k
    have k : m.lookup a = some o := k
    obtain ⟨l1, l2, rfl, _⟩ := List.lookup_eq_some_iff.mp k
    exact h (a, o) (by simp)
theorem fz_ex : ∀ {fz : List Nat} {S : Hp} {mss : List Cells}, Same S H → (∀ (j : Nat) (m : Cells), mss[j]? = some m → ∀ c ∈ m, H c.1 = some c.2) → (∀ i ∈ fz, i < mss.length) → ∃ Sf, FzOk S mss fz Sf ∧ Same Sf H
  | [], S, mss, sh, _, _ => ⟨S, .nil, sh⟩
  | i :: is, S, mss, sh, hm, hi => by
    have hl := hi i List.mem_cons_self
    have e : mss[i]? = some mss[i] := List.getElem?_eq_getElem hl
    obtain ⟨Sf, f, s⟩ := fz_ex (fz := is) (S := Wi S mss[i]) (mss := mss.set i []) (wi_same sh (hm i _ e)) (fun j m h => by
      rcases set_at h with ⟨_, rfl⟩ | ⟨_, h⟩
      · exact fun c hc => nomatch hc
      · exact hm j m h) (fun k hk => by rw [List.length_set]; exact hi k (List.mem_cons_of_mem _ hk))
    exact ⟨Sf, .cons e f, s⟩
/-- a frame that is only read -/
structure RoE (T : Tab) (S B : Hp) (env : En) (σ : L2.St) : Prop where
  l : env.length = σ.length
  at_ : ∀ (i : Nat) (e : Option Slot) (s : Option V), env[i]? = some e → σ[i]? = some s → SlotR T S B e s []
theorem slotR_up {o : Option Slot} {s : Option V} (h : SlotR T S B o s []) (s1 : Same S S') (b1 : Same B B') : SlotR T S' B' o s [] := by
  cases o with
  | none => exact h
  | some o =>
    cases s with
    | none => cases o <;> exact h
    | some v =>
      cases o with
      | own d => exact Owns.mono h b1
      | ro d => exact ⟨rfl, h.2.mono s1 b1⟩
theorem RoE.up (R : RoE T S B env σ) (s : Same S S') (b : Same B B') : RoE T S' B' env σ := ⟨R.l, fun i e x h1 h2 => slotR_up (R.at_ i e x h1 h2) s b⟩
theorem RoE.srx (R : RoE T S B env σ) (bs : Same B S) (sh : Same S H) (tb : TbOk T S H) (tc : TcOk T B H) : SRx T S B env (env.map fun _ => []) σ H := by
  refine ⟨bs, sh, R.l, by simp [R.l], fun i e s m h1 h2 h3 => ?_, fun i m h => ?_, fun i j m m' _ h1 h2 => ?_, tb, tc⟩
  · simp only [List.getElem?_map, Option.map_eq_some_iff] at h3
    obtain ⟨_, _, rfl⟩ := h3
    exact R.at_ i e s h1 h2
  · simp only [List.getElem?_map, Option.map_eq_some_iff] at h
    obtain ⟨_, _, rfl⟩ := h
    exact ⟨.nil, fun _ h => nomatch h⟩
  · simp only [List.getElem?_map, Option.map_eq_some_iff] at h1
    obtain ⟨_, _, rfl⟩ := h1
    exact fun c hc => nomatch hc
theorem RoE.set {j : Nat} {o : Option Slot} {s : Option V} (R : RoE T S B env σ) (h : SlotR T S B o s []) : RoE T S B (env.set j o) (σ.set j s) := by
  refine ⟨by simp [R.l], fun i e x h1 h2 => ?_⟩
  rcases set_at h1 with ⟨rfl, rfl⟩ | ⟨hj, h1⟩
  · rcases set_at h2 with ⟨_, rfl⟩ | ⟨hj, h2⟩
    · exact h
    · exact absurd rfl hj
  · rcases set_at h2 with ⟨z, rfl⟩ | ⟨_, h2⟩
    · exact absurd z hj
    · exact R.at_ i e x h1 h2
theorem SRx.roE (R : SRx T S B env mss σ H) : RoE T (nT T H) B (roE env) σ := by
  refine ⟨by simp [R.l1], fun i e s h1 h2 => ?_⟩
  simp only [Tr.roE, List.getElem?_map, Option.map_eq_some_iff] at h1
  obtain ⟨o, h1, rfl⟩ := h1
  have hl : i < mss.length := by rw [R.l2, ← R.l1]; exact (List.getElem?_eq_some_iff.mp h1).1
  have q := R.at_ i o s mss[i] h1 h2 (List.getElem?_eq_getElem hl)
  cases o with
  | none => exact rfl
  | some o =>
    cases s with
    | none => cases o <;> exact q
    | some v =>
      cases o with
      | own d => exact ⟨rfl, Owns.ro q (R.bs.trans (nT_in R.tb R.sh)) fun c hc => nT_of R.tb ((R.ok i mss[i] (List.getElem?_eq_getElem hl)).2 c hc).1 (Owns.nt q c hc)⟩
      | ro d => exact ⟨rfl, q.2.mono (nT_in R.tb R.sh) (Same.refl _)⟩
theorem slotD_ok {d : D} {v : V} (r : Ros T B S [d] [v]) : SlotR T S B (some (slotD d)) (some v) [] := by
  unfold slotD
  split
  · rename_i h; exact copy_own r (copy1 h)
  · exact ⟨rfl, r⟩
theorem i_lc {j : Nat} {y : Str} {Q : VK} (h : tP T W (mLc mi j mt me) σ H Q) : tLc (tI T W mi) (gName j) (tT T WF mt) (tP T WF me) [j] σ H Q := by
  obtain ⟨S, B, env, mss, R, q⟩ := h
  refine ⟨S, B, env, mss, R, ?_⟩
  cases hi : mi env with
  | ex x => simp only [mLc, hi] at q; exact q
  | er => simp only [mLc, hi] at q; exact q
  | ok items fz =>
    intro S1 B1 H1 J g hJ D hD
    simp only [mLc, hi] at q
    split at q
    · rename_i hc
      simp only [Bool.and_eq_true, List.all_eq_true, decide_eq_true_eq] at hc
      have R1 := R.grow g
      obtain ⟨Sf, f1, f2⟩ := fz_ex (H := nT T H1) (fz := fz) (nT_in R1.tb R1.sh) (fun k m hk c hc => nT_of R1.tb ((R1.ok k m hk).2 c hc).1 (R1.nt hk c hc)) (fun i hi => by rw [R1.l2, ← R1.l1]; exact hc.1 i hi)
      have I := hJ Sf f1 (f2.trans nT_le)
      have E0 := R1.roE
      have g0 : ∀ {o : HO}, Gr T.tbs S1 B1 H1 S1 B1 (upd H1 D o) := Gr.own R1.bs R1.sh hD
      have base : ∃ ds, lcF j mt me (Tr.roE env) items [] = .ok ds ∧ PP T W S B mss σ H Q (.ok (.own (.lst ds))) := by
        cases hl : lcF j mt me (Tr.roE env) items [] with
        | ok ds => rw [hl] at q; exact ⟨ds, rfl, q⟩
        | ex x => rw [hl] at q; exact q.elim
        | er => rw [hl] at q; exact q.elim
      obtain ⟨ds, hds, q⟩ := base
      let IV : Nat → Hp → Prop := fun i Hx => ∃ B2 ws acc, SameN T.tbs H1 Hx ∧ Hx D = some (.lst ws) ∧ Same B1 B2 ∧ Same B2 Hx ∧ B2 D = none ∧ (∀ a o, B2 a = some o → B1 a = some o ∨ H1 a = none) ∧ Owns T B2 acc ws [] ∧ TcOk T B2 Hx ∧ copyDs acc = true ∧ ws.length ≤ i ∧ lcF j mt me (Tr.roE env) (items.drop i) acc = .ok ds
      refine ⟨fun i m Hx => m = items.length - i ∧ IV i Hx, ⟨items.length, rfl, B1, [], [], g0.h, upd_same, Same.refl _, R1.bs.trans g0.sh, (R1.bs.trans R1.sh).free hD, fun a o h => .inl h, .nil, (R1.grow g0).tc, rfl, Nat.zero_le _, hds⟩, ?_⟩
      rintro i m Hx ⟨rfl, B2, ws, acc, k1, k2, k3, k4, k5, k6, k7, kt, k7c, k8, k9⟩
      have tbx : TbOk T (nT T H1) Hx := fun p hp => ⟨k1.t p hp (R1.tb p hp).1, nT_off hp⟩
      have tbB : TbOk T B2 Hx := fun p hp => ⟨(tbx p hp).1, by
        cases e : B2 p.1 with
        | none => rfl
        | some o =>
          obtain ⟨⟨ps, h3, _⟩, h4⟩ := R1.tb p hp
          rcases k6 _ _ e with z | z
          · rw [R1.bs _ _ z] at h4; cases h4
          · rw [h3] at z; cases z⟩
      obtain ⟨yes, no⟩ := I (nT T Hx) B2 Hx (f2.trans (nT_up k1)) k3 (nT_in tbB k4) nT_le i
      cases hi' : items[i]? with
      | none =>
        have hl : items.length ≤ i := List.getElem?_eq_none_iff.mp hi'
        rw [List.drop_eq_nil_of_le hl] at k9
        simp only [lcF] at k9
        have e9 := Rz.ok.inj k9
        subst e9
        refine .inl ⟨no hi', ?_⟩
        let Sx : Hp := fun a => if a = D then none else nT T Hx a
        have s1 : Same (nT T H1) Sx := fun a u h => by
          show (if a = D then none else nT T Hx a) = _
          rw [if_neg (fun z => by rw [z, nT_none hD] at h; cases h)]; exact nT_up k1 _ _ h
        have b2 : Same B2 Sx := fun a u h => by
          show (if a = D then none else nT T Hx a) = _
          rw [if_neg (fun z => by rw [z, k5] at h; cases h)]; exact nT_in tbB k4 _ _ h
        have s2 : Same Sx Hx := fun a u h => by
          have h : (if a = D then none else nT T Hx a) = some u := h
          split at h
          · cases h
          · exact nT_le _ _ h
        have tbS : TbOk T Sx Hx := fun p hp => ⟨(tbx p hp).1, by
          show (if p.1 = D then none else nT T Hx p.1) = none
          split
          · rfl
          · exact nT_off hp⟩
        have g' := gr_pure R1.bs R1.sh R1.tb ⟨s1, k3, fun a o h => (k6 a o h).imp id nT_none⟩ b2 s2 tbS kt
        have o : Owns T B2 [.lst acc] [.ref D] [(D, .lst ws)] := .lst (m := []) (ms := []) k7 .nil
        have c : CellsOk Sx Hx [(D, .lst ws)] := ⟨by simp, fun c hc => by
          have e : c = (D, .lst ws) := by simpa using hc
          subst e; exact ⟨k2, if_pos rfl⟩⟩
        exact q _ _ _ _ (g.trans g') ((own_pure R1.sh R1.tb tbS s1 o c b2).back g.h)
      | some d =>
        have hl : i < items.length := (List.getElem?_eq_some_iff.mp hi').1
        have ed : items.drop i = d :: items.drop (i + 1) := by
          rw [List.drop_eq_getElem_cons hl]
          congr 1
          exact (List.getElem?_eq_some_iff.mp hi').2
        rw [ed] at k9
        obtain ⟨go, yl⟩ := yes d hi'
        refine .inr ⟨go, fun Hx => IV (i + 1) Hx, fun H' h => ⟨items.length - (i + 1), by omega, rfl, h⟩, fun x H2 y => ?_⟩
        obtain ⟨S2, B2', gr, ro⟩ := yl x H2 y
        have hS2 := gr.h
        have tb2 := tb_grow (nT_tb tbB) gr.h gr.f
        have tbN := nT_tb tb2
        have tc2 : TcOk T B2' H2 := fun p hp => gr.t p hp (kt p hp)
        have bs2 : Same B2' H2 := gr.bs.trans gr.sh
        have E2 : RoE T (nT T H2) B2' (Tr.roE env) σ := E0.up (nT_up (k1.trans hS2)) (k3.trans gr.w.b)
        have E3 := E2.set (j := j) (o := none) (s := none) rfl
        have E4 := E3.set (j := j) (o := some (slotD d)) (s := some x) (slotD_ok (ro.mono (nT_in tb2 gr.sh) (Same.refl _)))
        simp only [lcF] at k9
        refine ⟨?_, nT T H2, B2', _, _, E4.srx (gr.bs.trans (nT_in tb2 gr.sh)) nT_le tbN tc2, ?_⟩
        · show ((σ.set j none).set j (some x)).set j none = σ.set j none
          rw [List.set_set, List.set_set]
        have nD : ∀ {Bn : Hp}, (∀ a o, Bn a = some o → B2' a = some o ∨ H2 a = none) → Bn D = none ∧ ∀ a o, Bn a = some o → B1 a = some o ∨ H1 a = none := fun {Bn} hn => by
          have key : ∀ a o, Bn a = some o → B2 a = some o ∨ Hx a = none := fun a o h => by
            rcases hn a o h with z | z
            · exact nT_free gr.bs tb2 gr.w.n _ _ z
            · exact .inr (hS2.free z)
          refine ⟨?_, fun a o h => ?_⟩
          · cases e : Bn D with
            | none => rfl
            | some u =>
              rcases key _ _ e with z | z
              · rw [k5] at z; cases z
              · rw [k2] at z; cases z
          · rcases key a o h with z | z
            · exact k6 _ _ z
            · exact .inr (k1.free z)
        cases hz : mt (((Tr.roE env).set j none).set j (some (slotD d))) with
        | ok b env3 =>
          intro S3 B3 H3 mss3 g3 R3
          simp only [hz] at k9
          have t3 : SameN T.tbs H2 H3 := nT_N tbN (g3.s.trans R3.sh) R3.tb
          have n3 := nT_free R3.bs R3.tb g3.n
          cases b with
          | false =>
            rw [if_neg Bool.false_ne_true]
            obtain ⟨n1, n2⟩ := nD (Bn := B3) n3
            exact ⟨B3, ws, acc, (k1.trans hS2).trans t3, t3.n _ _ (hS2.n _ _ k2 nt_lst) nt_lst, (k3.trans gr.w.b).trans g3.b, R3.bs.trans R3.sh, n1, n2, k7.mono (gr.w.b.trans g3.b), R3.tc, k7c, by omega, k9⟩
          | true =>
            rw [if_pos rfl]
            refine ⟨S3, B3, env3, mss3, R3, ?_⟩
            cases hm : me env3 with
            | ok r =>
              intro S4 B4 H4 v g4 f4
              simp only [hm] at k9
              split at k9
              · rename_i hcp
                have R4 := R3.grow g4
                have ow : Owns T B4 [r.d] [v] [] := copy_own (f4.read R4) (copy1 hcp)
                have t4 := g4.h
                have hD4 : H4 D = some (.lst ws) := t4.n _ _ (t3.n _ _ (hS2.n _ _ k2 nt_lst) nt_lst) nt_lst
                obtain ⟨n1, n2⟩ := nD (Bn := B4) (nT_free R4.bs R4.tb fun a o h => by
                  rcases g4.w.n _ _ h with z | z
                  · exact g3.n _ _ z
                  · exact .inr (g3.s.free z))
                have b4 : Same B4 (upd H4 D (.lst (ws ++ [v]))) := fun a u h => by
                  rw [upd_ne (fun z => by rw [z, n1] at h; cases h)]
                  exact (R4.bs.trans R4.sh) _ _ h
                have hk7 := (k7.mono ((gr.w.b.trans g3.b).trans g4.w.b)).ro (Same.refl B4) fun _ h => nomatch h
                have how := ow.ro (Same.refl B4) fun _ h => nomatch h
                have hcc : copyDs (acc ++ [r.d]) = true := by rw [copyDs_append, k7c]; simp [hcp]
                have hsz := le_line hc.2
                refine ⟨ws, hD4, by omega, B4, ws ++ [v], acc ++ [r.d], ?_, upd_same, ((k3.trans gr.w.b).trans g3.b).trans g4.w.b, b4, n1, n2, copy_own (ros_append hk7 how) hcc, tc_upd R4.tc hD4 nt_lst, hcc, by simp; omega, k9⟩
                exact same_new hD (((k1.trans hS2).trans t3).trans t4)
              · cases k9
            | ex x => simp only [hm] at k9; cases k9
            | er => simp only [hm] at k9; cases k9
        | ex x env3 => simp only [hz] at k9; cases k9
        | er => simp only [hz] at k9; cases k9
    · exact q.elim
theorem pts_true : PTs X [] (tT T WF tTrue) := ⟨fun pins s σ H Q I ⟨S, B, env, mss, R, q⟩ => (pts_nil (X := X)).run pins s σ H Q I (q S B H mss Gw.refl R)⟩
theorem ss_setLc {pin : Pins} {σ0 : L2.St} {i : Nat} {y : Str} {py : Pos} {elt tg iter : Expr} {ifs : List Expr} {scope : Scope} {x : Str} {j : Nat} {pos spos : Pos} (hc : X.calm = true) (hN : X.N.Nodup) (hy : X.N[i]? = some y) (hyl : X.env.scope.names.lookup y = some .local) (hpin : pin i = false)
    (hsw : swapsWith (.ListComp elt [⟨tg, iter, ifs, 0⟩] scope pos) (some (.Name y py)) spos.line X.env = pure true) (hi : PI X tg iter (tI T W mi)) (ok : BlkOk X.N X.env.scope scope [(x, j)])
    (hg : ∀ (s : Shared) (H : Hp) (C : Addr) (cl : List (Str × Addr)) (fp : List Addr), PG (X.blk s H scope (compEnvC scope cl C X.env) fp) tg (gName j)) (ht : ∀ (s : Shared) (H : Hp) (C : Addr) (cl : List (Str × Addr)) (fp : List Addr), PTs (X.blk s H scope (compEnvC scope cl C X.env) fp) ifs (tT T WF mt))
    (he : ∀ (s : Shared) (H : Hp) (C : Addr) (cl : List (Str × Addr)) (fp : List Addr), PE (X.blk s H scope (compEnvC scope cl C X.env) fp) elt (tP T WF me)) (hs : ∀ x, foldedSetIterable iter X.env x = pure x := by intro _; rfl) :
    PS X (.Assign [.Name y py] (.ListComp elt [⟨tg, iter, ifs, 0⟩] scope pos) spos) (tS T W pin σ0 (sSet i (liftE (mLc mi j mt me)))) := by
  refine ps_of (ps_setLc (i := i) (own := [(x, j)]) (g := gName j) (tt := tT T WF mt) hc hN hy hyl hsw hi ok hg ht he hs) fun D σ H ⟨S, B, env, mss, R, hp, q⟩ => ?_
  refine i_lc (y := x) (Q := fun v H1 => D.nx (σ.set i (some v)) H1) (i_p ⟨S, B, env, mss, R, ?_⟩)
  cases hm : liftE (mLc mi j mt me) env with
  | ok r env' => simp only [sSet, hm] at q; exact fun S' B' H' mss' v g R' f => setS_ok hpin R' hp f (q.gw g)
  | ex x env' => simp only [sSet, hm] at q; exact fun S' B' H' mss' cls d g R' f => q S' B' mss' σ H' cls d g R' hp f
  | er => simp only [sSet, hm] at q; exact q
end
end Tr
namespace Tr
open PySem L2
section
variable {X : Cx} {T : Tab} {W : WX} {pos : Pos}
@[simp] def mNewD : ME := fun _ => .ok (.own (.dct [] []))
theorem ep_dnew : PE X (.Dict [] [] pos) (tP T W mNewD) := by
  refine pe_of pe_dnewK fun σ H Q ⟨S, B, env, mss, R, q⟩ => ?_
  exact (Gives.dct (T := T) (B := B) (H := H) (ks := []) (ds := []) (ws := []) (r := fun Q => tDNewK σ H Q) .nil rfl fun Q k p hp => k p hp).run (mss := mss) (Q := Q) R.bs R.sh q
end
@[simp] theorem isi_dct_int (k) (i : List D) : fIsi [.dct k i, .im (.ty "int")] = some (.im (.bl false)) := fIsi_mk rfl (by decide +kernel)
@[simp] theorem isi_dct_str (k) (i : List D) : fIsi [.dct k i, .im (.ty "str")] = some (.im (.bl false)) := fIsi_mk rfl (by decide +kernel)
@[simp] theorem isi_dct_bl (k) (i : List D) : fIsi [.dct k i, .im (.ty "bool")] = some (.im (.bl false)) := fIsi_mk rfl (by decide +kernel)
@[simp] theorem isi_lst_str (i : List D) : fIsi [.lst i, .im (.ty "str")] = some (.im (.bl false)) := fIsi_mk rfl (by decide +kernel)
@[simp] theorem isi_tup_str (i : List D) : fIsi [.tup i, .im (.ty "str")] = some (.im (.bl false)) := fIsi_mk rfl (by decide +kernel)
@[simp] theorem isi_bl_str (i : Bool) : fIsi [.im (.bl i), .im (.ty "str")] = some (.im (.bl false)) := fIsi_mk rfl (by decide +kernel)
@[simp] theorem isi_lst_bl (i : List D) : fIsi [.lst i, .im (.ty "bool")] = some (.im (.bl false)) := fIsi_mk rfl (by decide +kernel)
@[simp] theorem isi_tup_bl (i : List D) : fIsi [.tup i, .im (.ty "bool")] = some (.im (.bl false)) := fIsi_mk rfl (by decide +kernel)
end Tr
namespace Tr
open PySem L2
def dmap {α : Type} (k : Key) (d : α) : List Key → List α → List α
  | k' :: ks, x :: xs => (if k' = k then d else x) :: dmap k d ks xs
  | _, _ => []
def dput {α : Type} (ks : List Key) (xs : List α) (k : Key) (d : α) : List Key × List α := if (ks.any fun k' => decide (k' = k)) = true then (ks, dmap k d ks xs) else (ks ++ [k], xs ++ [d])
section
variable {X : Cx} {T : Tab} {W : WX}
theorem dmap_len {α : Type} {k : Key} {d : α} : ∀ {ks : List Key} {xs : List α}, ks.length = xs.length → (dmap k d ks xs).length = ks.length
  | [], [], _ => rfl
  | _ :: ks, _ :: xs, h => by simp [dmap, dmap_len (ks := ks) (xs := xs) (by simpa using h)]
  | [], _ :: _, h => by simp at h
  | _ :: _, [], h => by simp at h
theorem any_zip {k : Key} : ∀ {ks : List Key} {ws : List V}, ks.length = ws.length → ((ks.zip ws).any fun kv => decide (kv.1 = k)) = ks.any fun k' => decide (k' = k)
  | [], [], _ => by simp
  | k' :: ks, w :: ws, h => by
    have ih := any_zip (k := k) (ks := ks) (ws := ws) (by simpa using h)
    rw [List.zip_cons_cons, List.any_cons, ih, List.any_cons]
  | [], _ :: _, h => by simp at h
  | _ :: _, [], h => by simp at h
theorem map_zip {k : Key} {v : V} : ∀ {ks : List Key} {ws : List V}, ks.length = ws.length → (ks.zip ws).map (fun kv => if kv.1 = k then (kv.1, v) else kv) = ks.zip (dmap k v ks ws)
  | [], [], _ => rfl
  | k' :: ks, w :: ws, h => by
    have ih := map_zip (k := k) (v := v) (ks := ks) (ws := ws) (by simpa using h)
    rw [List.zip_cons_cons, List.map_cons, ih]
    by_cases e : k' = k <;> simp [dmap, e]
  | [], _ :: _, h => by simp at h
  | _ :: _, [], h => by simp at h
theorem dput_zip {ks : List Key} {ws : List V} {k : Key} {v : V} (h : ks.length = ws.length) : (dput ks ws k v).1.zip (dput ks ws k v).2 = putK (ks.zip ws) k v := by
  unfold dput putK
  rw [any_zip h]
  by_cases e : (ks.any fun k' => decide (k' = k)) = true
  · rw [if_pos e, if_pos e, map_zip h]
  · rw [if_neg e, if_neg e]
    show (ks ++ [k]).zip (ws ++ [v]) = _
    rw [List.zip_append h]
    rfl
theorem dmap_own {B : Hp} {d : D} {v : V} {k : Key} (hd : Owns T B [d] [v] []) : ∀ {ks : List Key} {xs : List D} {ws : List V}, Owns T B xs ws [] → ks.length = ws.length → Owns T B (dmap k d ks xs) (dmap k v ks ws) []
  | [], xs, ws, o, h => by
    cases ws with
    | nil => cases o; exact .nil
    | cons w ws => simp at h
  | k' :: ks, xs, ws, o, h => by
    cases ws with
    | nil => simp at h
    | cons w ws =>
      cases xs with
      | nil => cases o
      | cons x xs =>
        obtain ⟨v', us', p1, p2, e1, e2, w1, w2⟩ := owns_uncons o
        cases e1
        have e2 := e2.symm
        rw [List.append_eq_nil_iff] at e2
        obtain ⟨rfl, rfl⟩ := e2
        have ih := dmap_own (k := k) hd (ks := ks) w2 (by simpa using h)
        simp only [dmap]
        by_cases e : k' = k
        · rw [if_pos e, if_pos e]; exact owns_cons (ms := []) hd ih
        · rw [if_neg e, if_neg e]; exact owns_cons (ms := []) w1 ih
theorem snoc_own {B : Hp} {d : D} {v : V} (hd : Owns T B [d] [v] []) : ∀ {xs : List D} {ws : List V}, Owns T B xs ws [] → Owns T B (xs ++ [d]) (ws ++ [v]) []
  | [], ws, o => by cases o; exact hd
  | x :: xs, ws, o => by
    obtain ⟨v', us', p1, p2, e1, e2, w1, w2⟩ := owns_uncons o
    cases e1
    have e2 := e2.symm
    rw [List.append_eq_nil_iff] at e2
    obtain ⟨rfl, rfl⟩ := e2
    exact owns_cons (ms := []) w1 (snoc_own hd w2)
theorem dput_own {B : Hp} {d : D} {v : V} {k : Key} (hd : Owns T B [d] [v] []) {ks : List Key} {xs : List D} {ws : List V} (o : Owns T B xs ws []) (h : ks.length = ws.length) : Owns T B (dput ks xs k d).2 (dput ks ws k v).2 [] ∧ (dput ks xs k d).1 = (dput ks ws k v).1 ∧ (dput ks ws k v).1.length = (dput ks ws k v).2.length := by
  unfold dput
  by_cases e : (ks.any fun k' => decide (k' = k)) = true
  · simp only [if_pos e]
    exact ⟨dmap_own hd o h, trivial, (dmap_len h).symm⟩
  · simp only [if_neg e]
    exact ⟨snoc_own hd o, trivial, by simp [h]⟩
def opSetD : D → List D → Option (D × D)
  | .dct ks xs, [.im kv, d] => match keyOf (.im kv) with
    | some k => if copyDs xs && copyD d && decide (xs.length < 1000000) then some (.dct (dput ks xs k d).1 (dput ks xs k d).2, .im .non) else none
    | none => none
  | _, _ => none
def rSetDD : V → List V → Hp → VK → Prop := fun u vs H Q => ∃ i v, vs = [i, v] ∧ rSetD u i v H fun H' => Q .non H'
theorem mu_setD : MutS T opSetD rSetDD := by
  intro B S H x u mx ds vs me x' res ox okx od oke ap bh h
  unfold opSetD at h
  split at h
  · rename_i ks xs kv d
    split at h
    · rename_i k hk
      split at h
      · rename_i hc
        simp only [Bool.and_eq_true, decide_eq_true_eq] at hc
        obtain ⟨⟨c1, c2⟩, c3⟩ := hc
        simp only [Option.some.injEq, Prod.mk.injEq] at h
        obtain ⟨rfl, rfl⟩ := h
        cases ox with
        | @dct a ks' ws _ _ _ m _ hl q r =>
          cases r
          have hm := copy_nil q c1
          subst hm
          obtain ⟨v0, us, n0, n1, rfl, rfl, o0, o1⟩ := owns_uncons od
          cases o0 with
          | im hi r0 =>
          cases r0
          obtain ⟨v, us, n1, n2, rfl, rfl, o1, o2⟩ := owns_uncons o1
          cases o2
          have hn := copy_nil o1 (copy1 c2)
          have hn' : n1 = [] := by simpa using hn
          subst hn'
          obtain ⟨z1, z2, z3⟩ := dput_own (k := k) o1 q hl
          have hkv : kv = kV k := ros_key (T := T) (B := fun _ => none) (S := fun _ => none) (.im hi .nil) hk
          have hH : H a = some (.dK (ks.zip ws)) := (okx.2 _ List.mem_cons_self).1
          have hzl : (ks.zip ws).length < sizeLine := by
            have l1 := q.len
            have l2 := le_line (n := xs.length + 1) (by omega)
            rw [List.length_zip]
            omega
          refine ⟨a, .dK ((dput ks ws k v).1.zip (dput ks ws k v).2), [(a, .dK ((dput ks ws k v).1.zip (dput ks ws k v).2))], .non, [], ⟨_, List.mem_cons_self⟩, ?_, own_non, by simp, fun c hc => .inl (by simpa using hc), (fun _ h => nomatch h), fun Q kk => ⟨kv, v, rfl, a, _, rfl, ?_, kk⟩⟩
          · rw [z2]
            exact .dct (m := []) (ms := []) z3 z1 .nil
          · rw [hkv, dput_zip hl]
            exact DPut.k hH hzl
      · cases h
    · cases h
  · cases h
/-- one of two operations -/
def opOr (f g : D → List D → Option (D × D)) : D → List D → Option (D × D) := fun x ds => match f x ds with
  | some z => some z
  | none => g x ds
theorem MutS.or {f g : D → List D → Option (D × D)} {r r' : V → List V → Hp → VK → Prop} (a : MutS T f r) (b : MutS T g r') : MutS T (opOr f g) (fun u vs H Q => r u vs H Q ∨ r' u vs H Q) := by
  intro B S H x u mx ds vs me x' res ox okx od oke ap bh h
  unfold opOr at h
  split at h
  · rename_i z e
    cases h
    obtain ⟨a1, o, mx', w, mr, p1, p2, p3, p4, p5, p6, p7⟩ := a B S H x u mx ds vs me _ _ ox okx od oke ap bh e
    exact ⟨a1, o, mx', w, mr, p1, p2, p3, p4, p5, p6, fun Q q => .inl (p7 Q q)⟩
  · obtain ⟨a1, o, mx', w, mr, p1, p2, p3, p4, p5, p6, p7⟩ := b B S H x u mx ds vs me _ _ ox okx od oke ap bh h
    exact ⟨a1, o, mx', w, mr, p1, p2, p3, p4, p5, p6, fun Q q => .inr (p7 Q q)⟩
def rSetA : V → List V → Hp → VK → Prop := fun u vs H Q => rSetI u vs H Q ∨ rSetDD u vs H Q
abbrev opSetA := opOr opSetI opSetD
theorem mu_setA : MutS T opSetA rSetA := MutS.or mu_setI mu_setD
theorem ps_setA {te to ti : TE} {e o i : Expr} {pos pos' : Pos} (hu : X.A.units + 1 < cLine) (he : PE X e te) (ho : PE X o to) (hi : PE X i ti)
    (ha : ∀ v, assign (.Subscript o i pos') X.env v = (do
      let ov ← holding [v] (eval o X.env)
      let iv ← holding [v, ov] (eval i X.env)
      standAt pos'
      holding [v, ov, iv] (setItem ov iv v)
      release [v, ov, iv] []) := by intro _; rfl)
    (hs : swapsWithSole [.Subscript o i pos'] e pos.line X.env = pure false := by rfl) (hw : swappedStores [.Subscript o i pos'] e X.env = pure none := by rfl)
    (h1 : (assignEach [.Subscript o i pos'] X.env).map (·.2) = [assign (.Subscript o i pos') X.env] := by rfl) :
    PS X (.Assign [.Subscript o i pos'] e pos) (tSub rSetA te to ti) := by
  have hp : PSet X (fun o i v H Q => rSetA o [i, v] H fun _ H' => Q H') := by
    intro pins s σ H x y v xv yv vv Q I r1 r2 r3 q
    rcases q with ⟨i', v', e, q⟩ | ⟨i', v', e, q⟩
    · cases e
      exact set_list pins s σ H x y v xv yv vv Q I r1 r2 r3 q
    · cases e
      exact set_dict hu pins s σ H x y v xv yv vv Q I r1 r2 r3 q
  exact ps_asg he (pg_sub ho hi hp ha) hs hw h1
end
end Tr
namespace Tr
open PySem L2
abbrev xT (z : Str) : D := .im (.str z)
/-- a well made text of at most n signs -/
structure OkT (n : Nat) (z : Str) : Prop where
  s : PyData.strOk z = true
  l : z.length ≤ n
theorem strOk_iff {z : Str} : PyData.strOk z = true ↔ ∀ c ∈ z.cps.toList, c < 0x110000 := by
  unfold PyData.strOk
  rw [← Array.all_toList, List.all_eq_true]
  simp
theorem x_len (z : Str) : z.cps.toList.length = z.length := by simp [Str.length]
theorem x_cps (a b : Str) : (a ++ b).cps.toList = a.cps.toList ++ b.cps.toList := by
  show (a.cps ++ b.cps).toList = _
  exact Array.toList_append
theorem OkT.mono {n m : Nat} {z : Str} (h : OkT n z) (k : n ≤ m) : OkT m z := ⟨h.s, Nat.le_trans h.l k⟩
theorem OkT.one {n : Nat} {z : Str} (h : OkT n z) {c : Nat} (hc : c ∈ z.cps.toList) : OkT 1 ⟨#[c]⟩ := by
  refine ⟨strOk_iff.mpr fun d hd => ?_, by show (#[c] : Array Nat).size ≤ 1; simp⟩
  have : d = c := by simpa using hd
  subst this
  exact strOk_iff.mp h.s d hc
theorem OkT.nil : OkT 0 "" := ⟨by decide +kernel, by decide +kernel⟩
theorem x_add {a b : Str} (h : a.length + b.length ≤ 1000000) : fAdd [xT a, xT b] = some (xT (a ++ b)) := by
  show (match fAddI [xT a, xT b] with | some z => some z | none => (match fAddS [xT a, xT b] with | some z => some z | none => fAddL [xT a, xT b])) = _
  have h1 : fAddI [xT a, xT b] = none := rfl
  have h2 : fAddS [xT a, xT b] = some (xT (a ++ b)) := by simp [fAddS, fS2, h]
  rw [h1, h2]
theorem x_strs : ∀ zs : List Str, strsD (zs.map xT) = some zs
  | [] => rfl
  | z :: zs => by simp [strsD, x_strs zs]
theorem depthAll : ∀ zs : List Str, PyData.depth (.list (zs.map PyData.str)) ≤ 64 := by
  intro zs
  have : ∀ zs : List Str, PyData.depthAll (zs.map PyData.str) ≤ 1 := fun zs => by
    induction zs with
    | nil => simp [PyData.depthAll]
    | cons z zs ih => simp [PyData.depthAll, PyData.depth]; omega
  have := this zs
  simp only [PyData.depth]
  omega
end Tr
namespace Tr
open PySem L2
section
variable {X : Cx} {T : Tab} {W : WX} {e : Expr} {m : ME} {S B H S' B' H' : Hp}
@[simp] def mFz (m : ME) : ME := fun env => match m env with
  | .ok (.own d) => .ok (.own (if copyD d then d else .fz d))
  | .ok _ => .er
  | .ex x => .ex x
  | .er => .er
theorem wi_some {m : Cells} {a : Addr} {u : HO} (h : Wi S m a = some u) : S a = some u ∨ (S a = none ∧ ∃ c ∈ m, c = (a, u)) := by
  unfold Wi at h
  cases e : S a with
  | some w => rw [e] at h; exact .inl h
  | none =>
    rw [e] at h
    have h : m.lookup a = some u := h
    obtain ⟨l1, l2, rfl, _⟩ := List.lookup_eq_some_iff.mp h
    exact .inr ⟨rfl, (a, u), by simp, rfl⟩
theorem ep_fz (h : PE X e (tP T W m)) : PE X e (tP T W (mFz m)) := by
  refine pe_of h fun σ H Q ⟨S, B, env, mss, R, q⟩ => ⟨S, B, env, mss, R, ?_⟩
  cases hm : m env with
  | ok r =>
    cases r with
    | own d =>
      simp only [mFz, hm] at q
      intro S' B' H' v g f
      split at q
      · exact q S' B' H' v g f
      · obtain ⟨ms, o, c, n⟩ := f
        have cb : CellsOk B' H' ms := ⟨c.1, fun x hx => ⟨(c.2 x hx).1, g.bs.free (c.2 x hx).2⟩⟩
        have g2 : Gr T.tbs S B H (Wi S' ms) (Wi B' ms) H' := by
          refine ⟨⟨g.w.s.trans Wi.same, g.w.b.trans Wi.same, fun a u h => ?_⟩, g.h, fun p hp h => (g.t p hp h).mono Wi.same fun _ h => h, fun a u h => ?_, Wi.le g.sh c, fun a u h => ?_⟩
          · rcases wi_some h with h | ⟨_, x, hx, rfl⟩
            · exact g.w.n _ _ h
            · exact .inr (R.sh.free (n _ hx))
          · rcases wi_some h with h | ⟨_, x, hx, rfl⟩
            · exact g.f _ _ h
            · exact .inr (n _ hx)
          · rcases wi_some h with h | ⟨_, x, hx, rfl⟩
            · exact Wi.same _ _ (g.bs _ _ h)
            · exact Wi.at_ c _ hx
        refine q _ _ _ v g2 ⟨[], .fz ((o.mono Wi.same).ro (Same.refl _) (Wi.at_ cb)) .nil, ⟨.nil, fun _ h => nomatch h⟩, fun _ h => nomatch h⟩
    | ro d => simp only [mFz, hm] at q; exact q.elim
    | bor i d => simp only [mFz, hm] at q; exact q.elim
  | ex x => simp only [mFz, hm] at q; exact q
  | er => simp only [mFz, hm] at q; exact q
end
end Tr
namespace Tr
open PySem L2
@[simp] def pickH : List ((Nat → Option Bool) × MS) → Exn → MS
  | [], x, env => .ex x env
  | (sub, ms) :: r, x, env => match sub x.c with
    | some true => match ms env with
      | .ex _ _ => .er
      | z => z
    | some false => pickH r x env
    | none => .er
@[simp] def sTryM (hs : List ((Nat → Option Bool) × MS)) (m : MS) : MS := fun env => match m env with
  | .ex x env => pickH hs x env
  | z => z
end Tr
namespace Tr
open PySem L2
section
variable {T : Tab} {B : Hp}
theorem owns_childB : ∀ {ds : List D} {vs : List V} {ms : Cells} {k : Nat} {x : D}, Owns T B ds vs ms → ds[k]? = some x → ∃ u mx m1 m2, vs[k]? = some u ∧ Owns T B [x] [u] mx ∧ ms = m1 ++ (mx ++ m2) ∧ ∀ B' x' mx', Same B B' → Owns T B' [x'] [u] mx' → Owns T B' (ds.set k x') vs (m1 ++ (mx' ++ m2)) := by
  intro ds
  induction ds with
  | nil => intro vs ms k x o h; simp at h
  | cons d ds ih =>
    intro vs ms k x o h
    obtain ⟨v, us, m1, m2, rfl, rfl, o1, o2⟩ := owns_uncons o
    cases k with
    | zero =>
      simp at h; subst h
      exact ⟨v, m1, [], m2, rfl, o1, rfl, fun B' x' mx' b o' => by simpa using owns_cons o' (o2.mono b)⟩
    | succ k =>
      obtain ⟨u, mx, n1, n2, h1, h2, rfl, h4⟩ := ih o2 (k := k) (x := x) (by simpa using h)
      refine ⟨u, mx, m1 ++ n1, n2, by simpa using h1, h2, by simp, fun B' x' mx' b o' => ?_⟩
      have := owns_cons (o1.mono b) (h4 B' x' mx' b o')
      simpa using this
theorem owns_kidsB {d : D} {v : V} {ms : Cells} {xs : List D} (o : Owns T B [d] [v] ms) (h : kids d = some xs) : ∃ ws pre m, ms = pre ++ m ∧ Owns T B xs ws m ∧ (∀ B' xs' m', Same B B' → Owns T B' xs' ws m' → Owns T B' [setKids d xs'] [v] (pre ++ m')) ∧
    (∀ H, Same B H → (∀ c ∈ ms, H c.1 = some c.2) → ∀ (k : Nat) u, ws[k]? = some u → childV H v k = some u) := by
  cases o with
  | im => simp [kids] at h
  | fz => simp [kids] at h
  | fn => simp [kids] at h
  | @lst a ws xs _ _ m _ q r =>
    cases r; simp [kids] at h; subst h
    refine ⟨ws, [(a, .lst ws)], m, by simp, q, fun B' xs' m' b o' => ?_, fun H b hc k u hu => ?_⟩
    · have := Owns.lst (a := a) o' (Owns.nil (T := T) (B := B')); simpa using this
    · simp only [childV]; rw [hc (a, .lst ws) List.mem_cons_self]; exact hu
  | @tup a ws xs _ _ m _ hb q r =>
    cases r; simp [kids] at h; subst h
    refine ⟨ws, [], m, by simp, q, fun B' xs' m' b o' => ?_, fun H b hc k u hu => ?_⟩
    · have := Owns.tup (b _ _ hb) o' (Owns.nil (T := T) (B := B')); simpa using this
    · simp only [childV]; rw [b _ _ hb]; exact hu
  | @dct a ks ws xs _ _ m _ hl q r =>
    cases r; simp [kids] at h; subst h
    refine ⟨ws, [(a, .dK (ks.zip ws))], m, by simp, q, fun B' xs' m' b o' => ?_, fun H b hc k u hu => ?_⟩
    · have := Owns.dct (a := a) hl o' (Owns.nil (T := T) (B := B')); simpa using this
    · simp only [childV]; rw [hc (a, .dK (ks.zip ws)) List.mem_cons_self]; exact zip_snd (Nat.le_of_eq hl.symm) hu
  | @obj a c C dx fl ws xs _ _ m _ hcl hl q r =>
    cases r; simp [kids] at h; subst h
    refine ⟨ws, [(a, .ins C dx (fl.zip ws))], m, by simp, q, fun B' xs' m' b o' => ?_, fun H b hc k u hu => ?_⟩
    · have := Owns.obj (a := a) (dx := dx) hcl hl o' (Owns.nil (T := T) (B := B')); simpa using this
    · simp only [childV]; rw [hc (a, .ins C dx (fl.zip ws)) List.mem_cons_self]; exact zip_snd hl hu
theorem owns_pathB {p : List Nat} : ∀ {d x : D} {v : V} {ms : Cells}, Owns T B [d] [v] ms → getP p d = some x → ∃ u mx m1 m2, (∀ H, Same B H → (∀ c ∈ ms, H c.1 = some c.2) → valP H p v = some u) ∧ Owns T B [x] [u] mx ∧ ms = m1 ++ (mx ++ m2) ∧
    ∀ B' x' mx', Same B B' → Owns T B' [x'] [u] mx' → Owns T B' [setP p d x'] [v] (m1 ++ (mx' ++ m2)) := by
  induction p with
  | nil =>
    intro d x v ms o h
    cases h
    exact ⟨v, ms, [], [], fun _ _ _ => rfl, o, by simp, fun B' x' mx' b o' => by simpa [setP] using o'⟩
  | cons k p ih =>
    intro d x v ms o h
    simp only [getP] at h
    cases e : kids d with
    | none => rw [e] at h; cases h
    | some xs =>
      rw [e] at h
      cases e2 : xs[k]? with
      | none => simp only [e2] at h; cases h
      | some y =>
        simp only [e2] at h
        obtain ⟨ws, pre, m, rfl, q, back, ch⟩ := owns_kidsB o e
        obtain ⟨u1, my, n1, n2, w1, w2, rfl, w4⟩ := owns_childB q e2
        obtain ⟨u, mx, l1, l2, z1, z2, rfl, z4⟩ := ih w2 h
        refine ⟨u, mx, pre ++ (n1 ++ l1), l2 ++ n2, fun H b hc => ?_, z2, by simp, fun B' x' mx' b o' => ?_⟩
        · simp only [valP]
          rw [ch H b hc k u1 w1]
          exact z1 H b fun c h' => hc c (by simp; simp at h'; rcases h' with h' | h' | h' <;> simp [h'])
        · simp only [setP, e, e2]
          have := back _ _ _ b (w4 _ _ _ b (z4 B' x' mx' b o'))
          simpa using this
end
inductive CA where
  | rd (m : ME)
  | tk (m : ME)
  | pl (m : ML)
inductive CV where
  | rd (r : Rs)
  | tk (d : D)
  | pl (i : Nat) (p : List Nat)
@[simp] def aCA : List CA → En → Rz (List CV)
  | [], _ => .ok []
  | .rd m :: cs, env => match m env with
    | .ok r => match aCA cs env with
      | .ok l => .ok (.rd r :: l)
      | .ex x => .ex x
      | .er => .er
    | .ex x => .ex x
    | .er => .er
  | .tk m :: cs, env => match m env with
    | .ok (.own d) => match aCA cs env with
      | .ok l => .ok (.tk d :: l)
      | .ex x => .ex x
      | .er => .er
    | .ok _ => .er
    | .ex x => .ex x
    | .er => .er
  | .pl m :: cs, env => match m env with
    | .ok i p => match aCA cs env with
      | .ok l => .ok (.pl i p :: l)
      | .ex x => .ex x
      | .er => .er
    | .ex x => .ex x
    | .er => .er
/-- a borrowed thing whose slot is not lent away -/
@[simp] def okB (r : Rs) (env : En) : Bool := match r with
  | .bor j _ => match env[j]? with
    | some (some _) => true
    | _ => false
  | _ => true
@[simp] def cSl : List CV → En → Option (List Slot × En)
  | [], env => some ([], env)
  | .rd r :: cs, env => match cSl cs env with
    | some (ss, env') => if okB r env' = true then some (.ro r.d :: ss, env') else none
    | none => none
  | .tk d :: cs, env => match cSl cs env with
    | some (ss, env') => some (.own d :: ss, env')
    | none => none
  | .pl i p :: cs, env => match env[i]? with
    | some (some (.own d)) => match getP p d with
      | some x => match cSl cs (env.set i none) with
        | some (ss, env') => some (.own x :: ss, env')
        | none => none
      | none => none
    | _ => none
@[simp] def cBk : List CV → En → En → En → Option En
  | [], _, _, env => some env
  | .pl i p :: cs, old, some (.own x') :: as, env => match old[i]? with
    | some (some (.own d)) => cBk cs old as (env.set i (some (.own (setP p d x'))))
    | _ => none
  | .rd _ :: cs, old, _ :: as, env => cBk cs old as env
  | .tk _ :: cs, old, _ :: as, env => cBk cs old as env
  | _ :: _, _, _, _ => none
inductive CAL (T : Tab) (S B H H0 : Hp) (mss : List Cells) (σ : L2.St) : List CV → List V → List Cells → Prop
  | nil : CAL T S B H H0 mss σ [] [] []
  | rd {r v m cvs vs css} (h : RFc T S B H H0 mss r v m) (t : CAL T S B H H0 mss σ cvs vs css) (a : ∀ m' ∈ css, Apart m m') : CAL T S B H H0 mss σ (.rd r :: cvs) (v :: vs) (m :: css)
  | tk {d v m cvs vs css} (h : RFc T S B H H0 mss (.own d) v m) (t : CAL T S B H H0 mss σ cvs vs css) (a : ∀ m' ∈ css, Apart m m') : CAL T S B H H0 mss σ (.tk d :: cvs) (v :: vs) (m :: css)
  | pl {i p v0 u cvs vs css} (h : σ[i]? = some (some v0)) (hu : valP H p v0 = some u) (t : CAL T S B H H0 mss σ cvs vs css) : CAL T S B H H0 mss σ (.pl i p :: cvs) (u :: vs) ([] :: css)
section
variable {T : Tab} {S B H S' B' H' H0 H1 : Hp} {mss : List Cells} {σ : L2.St} {env env0 : En} {cvs : List CV} {vs : List V} {css : List Cells}
theorem apart_nil {m : Cells} : Apart m [] := fun _ _ _ h => nomatch h
theorem nil_apart {m : Cells} : Apart [] m := fun _ h => nomatch h
theorem cells_nil : CellsOk S H [] := ⟨.nil, fun _ h => nomatch h⟩
theorem CAL.grow (R : SRx T S B env mss σ H) (g : Gr T.tbs S B H S' B' H') (f : CAL T S B H H0 mss σ cvs vs css) : CAL T S' B' H' H0 mss σ cvs vs css := by
  induction f with
  | nil => exact .nil
  | rd h _ a ih => exact .rd (h.grow R g) ih a
  | tk h _ a ih => exact .tk (h.grow R g) ih a
  | pl h hu _ ih => exact .pl h (valP_monoN g.h.n hu) ih
theorem CAL.back {L : List (Addr × Str)} (h : SameN L H0 H1) (f : CAL T S B H H1 mss σ cvs vs css) : CAL T S B H H0 mss σ cvs vs css := by
  induction f with
  | nil => exact .nil
  | rd h1 _ a ih => exact .rd (h1.back h) ih a
  | tk h1 _ a ih => exact .tk (h1.back h) ih a
  | pl h1 hu _ ih => exact .pl h1 hu ih
theorem rfc_new {r : Rs} {v : V} {m : Cells} (h : RFc T S B H H0 mss r v m) : CellsOk S H m ∧ ∀ c ∈ m, H0 c.1 = none := by
  cases r with
  | own d => exact ⟨h.2.1, h.2.2⟩
  | ro d => rw [h.1]; exact ⟨cells_nil, fun _ h => nomatch h⟩
  | bor i d => rw [h.1]; exact ⟨cells_nil, fun _ h => nomatch h⟩
theorem CAL.new (f : CAL T S B H H0 mss σ cvs vs css) : ∀ m ∈ css, CellsOk S H m ∧ ∀ c ∈ m, H0 c.1 = none := by
  induction f with
  | nil => intro m h; cases h
  | rd h1 _ _ ih =>
    intro m' h
    rcases List.mem_cons.mp h with rfl | h
    · exact rfc_new h1
    · exact ih m' h
  | tk h1 _ _ ih =>
    intro m' h
    rcases List.mem_cons.mp h with rfl | h
    · exact rfc_new h1
    · exact ih m' h
  | pl h1 _ _ ih =>
    intro m' h
    rcases List.mem_cons.mp h with rfl | h
    · exact ⟨cells_nil, fun _ h => nomatch h⟩
    · exact ih m' h
/-- what is read (z), handed over (c), kept of a lent thing's tree (w) -/
inductive FL (T : Tab) (S B H : Hp) (σ : L2.St) (env0 : En) : List CV → List V → List Slot → List (Cells × Cells × Cells) → Prop
  | nil : FL T S B H σ env0 [] [] [] []
  | rd {r v z cvs vs ss ps} (h : Ros T B (Wi S z) [r.d] [v]) (hz : CellsOk S H z) (hn : ∀ c ∈ z, NT c.2) (t : FL T S B H σ env0 cvs vs ss ps) : FL T S B H σ env0 (.rd r :: cvs) (v :: vs) (.ro r.d :: ss) ((z, [], []) :: ps)
  | tk {d v c cvs vs ss ps} (h : Owns T B [d] [v] c) (hc : CellsOk S H c) (t : FL T S B H σ env0 cvs vs ss ps) : FL T S B H σ env0 (.tk d :: cvs) (v :: vs) (.own d :: ss) (([], c, []) :: ps)
  | pl {i p d v0 u x c m1 m2 cvs vs ss ps} (hd : env0[i]? = some (some (.own d))) (hσ : σ[i]? = some (some v0)) (h : Owns T B [x] [u] c) (hc : CellsOk S H (m1 ++ (c ++ m2))) (back : ∀ B' x' c', Same B B' → Owns T B' [x'] [u] c' → Owns T B' [setP p d x'] [v0] (m1 ++ (c' ++ m2)))
      (t : FL T S B H σ env0 cvs vs ss ps) : FL T S B H σ env0 (.pl i p :: cvs) (u :: vs) (.own x :: ss) (([], c, m1 ++ m2) :: ps)
structure Far (a b : Cells × Cells × Cells) : Prop where
  zc : Apart a.1 b.2.1
  wc : Apart a.2.2 b.2.1
  cc : Apart a.2.1 b.2.1
  cz : Apart b.1 a.2.1
  cw : Apart b.2.2 a.2.1
  ww : Apart a.2.2 b.2.2
inductive GL (mss : List Cells) : List (Cells × Cells × Cells) → Prop
  | nil : GL mss []
  | cons {p ps} (h0 : Apart p.1 p.2.1) (h1 : Apart p.2.2 p.2.1) (h2 : ∀ q ∈ ps, Far p q) (h3 : ∀ (j : Nat) (m : Cells), mss[j]? = some m → Apart m p.2.1 ∧ Apart m p.2.2) (t : GL mss ps) : GL mss (p :: ps)
theorem GL.at {mss : List Cells} {ps : List (Cells × Cells × Cells)} (g : GL mss ps) {j : Nat} {m : Cells} (h : mss[j]? = some m) {q : Cells × Cells × Cells} (hq : q ∈ ps) : Apart m q.2.1 ∧ Apart m q.2.2 := by
  induction g with
  | nil => cases hq
  | cons _ _ _ h3 _ ih =>
    rcases List.mem_cons.mp hq with rfl | hq
    · exact h3 j m h
    · exact ih hq
theorem apart_new2 {m n : Cells} (c : CellsOk S H m) (n0 : ∀ c ∈ n, H c.1 = none) : Apart m n := fun x hx e he z => by
  have a1 := (c.2 x hx).1
  rw [z, n0 e he] at a1; cases a1
theorem foc : ∀ {cvs : List CV} {vs : List V} {css : List Cells} {env env' : En} {mss : List Cells} {ss : List Slot}, SRx T S B env mss σ H → CAL T S B H H0 mss0 σ cvs vs css → (∀ m ∈ css, ∀ (i : Nat) (m' : Cells), mss[i]? = some m' → Apart m' m) →
    (∀ (j : Nat) (s : Slot), env[j]? = some (some s) → env0[j]? = some (some s) ∧ mss[j]? = mss0[j]?) → cSl cvs env = some (ss, env') →
    ∃ mss' ps, SRx T S B env' mss' σ H ∧ FL T S B H σ env0 cvs vs ss ps ∧ GL mss' ps ∧ (∀ (j : Nat) (m : Cells), mss'[j]? = some m → m = [] ∨ mss[j]? = some m) ∧ (∀ (j : Nat) (s : Slot), env'[j]? = some (some s) → env0[j]? = some (some s) ∧ mss'[j]? = mss0[j]?) ∧
      (∀ A : Cells, (∀ (i : Nat) (m : Cells), mss[i]? = some m → Apart m A) → (∀ m ∈ css, Apart m A) → ∀ p ∈ ps, Apart p.1 A ∧ Apart p.2.1 A ∧ Apart p.2.2 A) := by
  intro cvs
  induction cvs with
  | nil =>
    intro vs css env env' mss ss R f ha h0 h
    cases f
    simp [cSl] at h
    obtain ⟨rfl, rfl⟩ := h
    exact ⟨mss, [], R, .nil, .nil, fun j m h => .inr h, h0, fun _ _ _ _ h => nomatch h⟩
  | cons cv cvs ih =>
    intro vs css env env' mss ss R f ha h0 h
    cases f with
    | @rd r v m _ vs css h1 t a =>
      simp only [cSl] at h
      cases hh : cSl cvs env with
      | none => simp [hh] at h
      | some q =>
        obtain ⟨ss1, env1⟩ := q
        simp only [hh] at h
        split at h
        · rename_i hok
          simp only [Option.some.injEq, Prod.mk.injEq] at h
          obtain ⟨rfl, rfl⟩ := h
          obtain ⟨mss', ps, R', fl, gl, p1, p2, p3⟩ := ih R t (fun m' hm => ha m' (List.mem_cons_of_mem _ hm)) h0 hh
          have low : ∀ z : Cells, CellsOk S H z → (∀ c ∈ z, NT c.2) → Ros T B (Wi S z) [r.d] [v] → (∀ q ∈ ps, Apart z q.2.1) → (∀ A : Cells, (∀ (i : Nat) (m : Cells), mss[i]? = some m → Apart m A) → (∀ m' ∈ m :: css, Apart m' A) → Apart z A) →
              ∃ mss' ps, SRx T S B env1 mss' σ H ∧ FL T S B H σ env0 (.rd r :: cvs) (v :: vs) (.ro r.d :: ss1) ps ∧ GL mss' ps ∧ (∀ (j : Nat) (m : Cells), mss'[j]? = some m → m = [] ∨ mss[j]? = some m) ∧ (∀ (j : Nat) (s : Slot), env1[j]? = some (some s) → env0[j]? = some (some s) ∧ mss'[j]? = mss0[j]?) ∧
              (∀ A : Cells, (∀ (i : Nat) (m : Cells), mss[i]? = some m → Apart m A) → (∀ m' ∈ m :: css, Apart m' A) → ∀ p ∈ ps, Apart p.1 A ∧ Apart p.2.1 A ∧ Apart p.2.2 A) := fun z hz hn hr hq hA =>
            ⟨mss', (z, [], []) :: ps, R', .rd hr hz hn fl, .cons apart_nil apart_nil (fun q hq' => ⟨hq q hq', nil_apart, nil_apart, apart_nil, apart_nil, nil_apart⟩) (fun _ _ _ => ⟨apart_nil, apart_nil⟩) gl, p1, p2, fun A h1 h2 p hp => by
              rcases List.mem_cons.mp hp with rfl | hp
              · exact ⟨hA A h1 h2, nil_apart, nil_apart⟩
              · exact p3 A h1 (fun m' hm' => h2 m' (List.mem_cons_of_mem _ hm')) p hp⟩
          cases r with
          | own d =>
            obtain ⟨o, c, n⟩ := h1
            refine low m c o.nt ((o.ro (R.bs.trans Wi.same) (Wi.at_ c))) (fun q hq => ?_) fun A _ h2 => h2 m List.mem_cons_self
            have am := p3 m (fun i m' hm => ha m List.mem_cons_self i m' hm) (fun m' hm' => apart_symm (a m' hm')) q hq
            exact apart_symm am.2.1
          | ro d =>
            refine low [] cells_nil (fun _ h => nomatch h) (h1.2.mono Wi.same (Same.refl _)) (fun q hq => nil_apart) fun A _ _ => nil_apart
          | bor j d =>
            obtain ⟨_, mj, e1, e2⟩ := h1
            simp only [okB] at hok
            split at hok
            · rename_i s hs
              have e3 := (p2 j s hs).2
              rw [e1] at e3
              have e4 : ∀ q ∈ ps, Apart mj q.2.1 := fun q hq => (gl.at e3 hq).1
              refine low mj (R'.ok j mj e3) (R'.nt e3) e2 e4 fun A h1 _ => ?_
              rcases p1 j mj e3 with rfl | e5
              · exact nil_apart
              · exact h1 j mj e5
            · cases hok
        · cases h
    | @tk d v m _ vs css h1 t a =>
      simp only [cSl] at h
      cases hh : cSl cvs env with
      | none => simp [hh] at h
      | some q =>
        obtain ⟨ss1, env1⟩ := q
        simp only [hh, Option.some.injEq, Prod.mk.injEq] at h
        obtain ⟨rfl, rfl⟩ := h
        obtain ⟨mss', ps, R', fl, gl, p1, p2, p3⟩ := ih R t (fun m' hm => ha m' (List.mem_cons_of_mem _ hm)) h0 hh
        obtain ⟨o, c, n⟩ := h1
        have am := p3 m (fun i m' hm => ha m List.mem_cons_self i m' hm) (fun m' hm' => apart_symm (a m' hm'))
        refine ⟨mss', ([], m, []) :: ps, R', .tk o c fl, .cons nil_apart nil_apart (fun q hq => ⟨nil_apart, nil_apart, apart_symm (am q hq).2.1, (am q hq).1, (am q hq).2.2, nil_apart⟩) (fun j m' hm => ⟨?_, apart_nil⟩) gl, p1, p2, fun A h1 h2 p hp => ?_⟩
        · rcases p1 j m' hm with rfl | h
          · exact nil_apart
          · exact ha m List.mem_cons_self j m' h
        · rcases List.mem_cons.mp hp with rfl | hp
          · exact ⟨nil_apart, h2 m List.mem_cons_self, nil_apart⟩
          · exact p3 A h1 (fun m' hm' => h2 m' (List.mem_cons_of_mem _ hm')) p hp
    | @pl i p v0 u _ vs css h1 hu t =>
      simp only [cSl] at h
      cases hd : env[i]? with
      | none => simp [hd] at h
      | some o =>
      cases o with
      | none => simp [hd] at h
      | some o =>
      cases o with
      | ro d => simp [hd] at h
      | own d =>
        simp only [hd] at h
        cases hg : getP p d with
        | none => simp [hg] at h
        | some x =>
          simp only [hg] at h
          cases hh : cSl cvs (env.set i none) with
          | none => simp [hh] at h
          | some q =>
            obtain ⟨ss1, env1⟩ := q
            simp only [hh, Option.some.injEq, Prod.mk.injEq] at h
            obtain ⟨rfl, rfl⟩ := h
            obtain ⟨v', m, e1, e2, own, okm⟩ := R.own hd
            rw [h1] at e1; cases e1
            obtain ⟨u', c, m1, m2, w1, w2, rfl, back⟩ := owns_pathB own hg
            have eu := w1 H (R.bs.trans R.sh) fun c hc => (okm.2 c hc).1
            rw [hu] at eu; cases eu
            obtain ⟨ok1, ok12, ap1⟩ := cells_split okm
            obtain ⟨okc, ok2, ap2⟩ := cells_split ok12
            have hi := (List.getElem?_eq_some_iff.mp h1).1
            have R1 : SRx T S B (env.set i none) (mss.set i []) σ H := by
              have q := R.set (i := i) (e := none) (s := σ[i]) (m := []) rfl cells_nil (fun _ _ _ _ => apart_nil)
              rwa [List.set_getElem_self] at q
            obtain ⟨mss', ps, R', fl, gl, p1, p2, p3⟩ := ih R1 t (fun m' hm j m2 hj => by
              rcases set_at hj with ⟨_, rfl⟩ | ⟨_, hj⟩
              · exact nil_apart
              · exact ha m' (List.mem_cons_of_mem _ hm) j m2 hj) (fun j s hs => by
              rcases set_at hs with ⟨_, z⟩ | ⟨hj, hs⟩
              · cases z
              · rw [List.getElem?_set_ne (fun z => hj z.symm)]
                exact h0 j s hs) hh
            have am := p3 (m1 ++ (c ++ m2)) (fun j m' hm => by
              rcases set_at hm with ⟨_, rfl⟩ | ⟨hj, hm⟩
              · exact nil_apart
              · exact R.ap j i _ _ hj hm e2) (fun m' hm' => apart_symm (ha m' (List.mem_cons_of_mem _ hm') i _ e2))
            have sub : ∀ z : Cells, Apart z (m1 ++ (c ++ m2)) → Apart z c ∧ Apart z (m1 ++ m2) := fun z hz => ⟨fun x hx e he => hz x hx e (by simp [he]), fun x hx e he => hz x hx e (by rcases List.mem_append.mp he with he | he <;> simp [he])⟩
            refine ⟨mss', ([], c, m1 ++ m2) :: ps, R', .pl (h0 i _ hd).1 h1 w2 okm back fl, .cons nil_apart (apart_app (apart_left ap1) (apart_symm ap2)) (fun q hq => ?_) (fun j m' hm => ?_) gl, fun j m' hm => ?_, p2, fun A h1 h2 p hp => ?_⟩
            · obtain ⟨q1, q2, q3⟩ := am q hq
              exact ⟨nil_apart, apart_symm (sub _ q2).2, apart_symm (sub _ q2).1, (sub _ q1).1, (sub _ q3).1, apart_symm (sub _ q3).2⟩
            · rcases p1 j m' hm with rfl | h
              · exact ⟨nil_apart, nil_apart⟩
              · rcases set_at h with ⟨_, rfl⟩ | ⟨hj, h⟩
                · exact ⟨nil_apart, nil_apart⟩
                · exact sub _ (R.ap j i _ _ hj h e2)
            · rcases p1 j m' hm with rfl | h
              · exact .inl rfl
              · rcases set_at h with ⟨_, rfl⟩ | ⟨hj, h⟩
                · exact .inl rfl
                · exact .inr h
            · rcases List.mem_cons.mp hp with rfl | hp
              · have aw := h1 i _ e2
                exact ⟨nil_apart, fun x hx => aw x (by simp [hx]), fun x hx => aw x (by rcases List.mem_append.mp hx with hx | hx <;> simp [hx])⟩
              · exact p3 A (fun j m' hm => by
                  rcases set_at hm with ⟨_, rfl⟩ | ⟨hj, hm⟩
                  · exact nil_apart
                  · exact h1 j m' hm) (fun m' hm' => h2 m' (List.mem_cons_of_mem _ hm')) p hp
/-- all that is handed over -/
def allC : List (Cells × Cells × Cells) → Cells
  | [] => []
  | p :: ps => p.2.1 ++ allC ps
theorem allC_mem {ps : List (Cells × Cells × Cells)} {x : Addr × HO} : x ∈ allC ps ↔ ∃ p ∈ ps, x ∈ p.2.1 := by
  induction ps with
  | nil => simp [allC]
  | cons p ps ih => simp [allC, ih]
theorem GL.all {mss : List Cells} {ps : List (Cells × Cells × Cells)} (g : GL mss ps) : ∀ p ∈ ps, Apart p.1 (allC ps) ∧ Apart p.2.2 (allC ps) := by
  induction g with
  | nil => intro p h; cases h
  | @cons p ps h0 h1 h2 h3 t ih =>
    have key : ∀ {a : Cells}, Apart a p.2.1 → (∀ q ∈ ps, Apart a q.2.1) → Apart a (allC (p :: ps)) := fun {a} k1 k2 x hx e he => by
      obtain ⟨q, hq, hq2⟩ := allC_mem.mp he
      rcases List.mem_cons.mp hq with h | hq
      · exact k1 x hx e (h ▸ hq2)
      · exact k2 q hq x hx e hq2
    intro q hq
    rcases List.mem_cons.mp hq with rfl | hq
    · exact ⟨key h0 fun q hq => (h2 q hq).zc, key h1 fun q hq => (h2 q hq).wc⟩
    · obtain ⟨a1, a2⟩ := ih q hq
      exact ⟨key (h2 q hq).cz fun q' hq' x hx e he => a1 x hx e (allC_mem.mpr ⟨q', hq', he⟩), key (h2 q hq).cw fun q' hq' x hx e he => a2 x hx e (allC_mem.mpr ⟨q', hq', he⟩)⟩
theorem GL.out {mss : List Cells} {ps : List (Cells × Cells × Cells)} (g : GL mss ps) {j : Nat} {m : Cells} (h : mss[j]? = some m) : Apart m (allC ps) := fun x hx e he => by
  obtain ⟨q, hq, he⟩ := allC_mem.mp he
  exact (g.at h hq).1 x hx e he
theorem FL.len {ss : List Slot} {ps : List (Cells × Cells × Cells)} (f : FL T S B H σ env0 cvs vs ss ps) : ss.length = vs.length ∧ ps.length = vs.length ∧ cvs.length = vs.length := by
  induction f with
  | nil => exact ⟨rfl, rfl, rfl⟩
  | rd _ _ _ _ ih => simp [ih.1, ih.2.1, ih.2.2]
  | tk _ _ _ ih => simp [ih.1, ih.2.1, ih.2.2]
  | pl _ _ _ _ _ _ ih => simp [ih.1, ih.2.1, ih.2.2]
theorem FL.nt {ss : List Slot} {ps : List (Cells × Cells × Cells)} (f : FL T S B H σ env0 cvs vs ss ps) : ∀ p ∈ ps, (∀ c ∈ p.1, NT c.2) ∧ (∀ c ∈ p.2.1, NT c.2) ∧ ∀ c ∈ p.2.2, NT c.2 := by
  induction f with
  | nil => intro p h; cases h
  | rd _ _ hn _ ih =>
    intro p hp
    rcases List.mem_cons.mp hp with rfl | hp
    · exact ⟨hn, (fun _ h => nomatch h), (fun _ h => nomatch h)⟩
    · exact ih p hp
  | tk h _ _ ih =>
    intro p hp
    rcases List.mem_cons.mp hp with rfl | hp
    · exact ⟨(fun _ h => nomatch h), h.nt, (fun _ h => nomatch h)⟩
    · exact ih p hp
  | @pl i p d v0 u x c m1 m2 cvs vs ss ps _ _ h _ back _ ih =>
    intro p hp
    rcases List.mem_cons.mp hp with rfl | hp
    · have z := (back B x c (Same.refl _) h).nt
      refine ⟨(fun _ h => nomatch h), h.nt, fun c' hc' => z c' ?_⟩
      rcases List.mem_append.mp hc' with q | q
      · exact List.mem_append_left _ q
      · exact List.mem_append_right _ (List.mem_append_right _ q)
    · exact ih p hp
theorem FL.cells {ss : List Slot} {ps : List (Cells × Cells × Cells)} (f : FL T S B H σ env0 cvs vs ss ps) : ∀ p ∈ ps, CellsOk S H p.1 ∧ CellsOk S H p.2.1 ∧ CellsOk S H p.2.2 := by
  induction f with
  | nil => intro p h; cases h
  | rd _ hz _ _ ih =>
    intro p hp
    rcases List.mem_cons.mp hp with rfl | hp
    · exact ⟨hz, cells_nil, cells_nil⟩
    · exact ih p hp
  | tk _ hc _ ih =>
    intro p hp
    rcases List.mem_cons.mp hp with rfl | hp
    · exact ⟨cells_nil, hc, cells_nil⟩
    · exact ih p hp
  | pl _ _ _ hc _ _ ih =>
    intro p hp
    rcases List.mem_cons.mp hp with rfl | hp
    · obtain ⟨ok1, ok12, ap1⟩ := cells_split hc
      obtain ⟨okc, ok2, ap2⟩ := cells_split ok12
      exact ⟨cells_nil, okc, cells_append ok1 ok2 (apart_right ap1)⟩
    · exact ih p hp
theorem FL.at {ss : List Slot} {ps : List (Cells × Cells × Cells)} {Sc : Hp} (f : FL T S B H σ env0 cvs vs ss ps) (hz : ∀ p ∈ ps, Same (Wi S p.1) Sc) : ∀ (k : Nat) (e : Option Slot) (s : Option V) (m : Cells), (ss.map some)[k]? = some e → (vs.map some)[k]? = some s → (ps.map (·.2.1))[k]? = some m → SlotR T Sc B e s m := by
  induction f with
  | nil => intro k e s m h; simp at h
  | @rd r v z cvs vs ss ps h hz' _ t ih =>
    intro k e s m h1 h2 h3
    cases k with
    | zero =>
      simp at h1 h2 h3; subst h1 h2 h3
      exact ⟨rfl, h.mono (hz _ List.mem_cons_self) (Same.refl _)⟩
    | succ k => exact ih (fun p hp => hz p (List.mem_cons_of_mem _ hp)) k e s m (by simpa using h1) (by simpa using h2) (by simpa using h3)
  | @tk d v c cvs vs ss ps h hc t ih =>
    intro k e s m h1 h2 h3
    cases k with
    | zero =>
      simp at h1 h2 h3; subst h1 h2 h3
      exact h
    | succ k => exact ih (fun p hp => hz p (List.mem_cons_of_mem _ hp)) k e s m (by simpa using h1) (by simpa using h2) (by simpa using h3)
  | @pl i p d v0 u x c m1 m2 cvs vs ss ps hd hσ h hc back t ih =>
    intro k e s m h1 h2 h3
    cases k with
    | zero =>
      simp at h1 h2 h3; subst h1 h2 h3
      exact h
    | succ k => exact ih (fun p hp => hz p (List.mem_cons_of_mem _ hp)) k e s m (by simpa using h1) (by simpa using h2) (by simpa using h3)
theorem GL.ap {mss : List Cells} {ps : List (Cells × Cells × Cells)} (g : GL mss ps) : ∀ (k l : Nat) (m m' : Cells), k ≠ l → (ps.map (·.2.1))[k]? = some m → (ps.map (·.2.1))[l]? = some m' → Apart m m' := by
  induction g with
  | nil => intro k l m m' _ h; simp at h
  | @cons p ps h0 h1 h2 h3 t ih =>
    intro k l m m' hkl g1 g2
    cases k with
    | zero =>
      cases l with
      | zero => exact absurd rfl hkl
      | succ l =>
        simp at g1; subst g1
        have g2 : (ps.map (·.2.1))[l]? = some m' := by simpa using g2
        obtain ⟨q, hq, rfl⟩ := List.mem_map.mp (List.mem_of_getElem? g2)
        exact (h2 q hq).cc
    | succ k =>
      cases l with
      | zero =>
        simp at g2; subst g2
        have g1 : (ps.map (·.2.1))[k]? = some m := by simpa using g1
        obtain ⟨q, hq, rfl⟩ := List.mem_map.mp (List.mem_of_getElem? g1)
        exact apart_symm (h2 q hq).cc
      | succ l => exact ih k l m m' (fun z => hkl (by rw [z])) (by simpa using g1) (by simpa using g2)
/-- the callee's state -/
theorem tb_mi {H : Hp} {z : Cells} (tb : TbOk T S H) : TbOk T (Mi (nT T H) z) H := fun p hp => ⟨(tb p hp).1, Mi.none (nT_off hp)⟩
theorem callee {ss : List Slot} {ps : List (Cells × Cells × Cells)} (R : SRx T S B env mss σ H) (f : FL T S B H σ env0 cvs vs ss ps) (g : GL mss ps) : SRx T (Mi (nT T H) (allC ps)) B (ss.map some) (ps.map (·.2.1)) (vs.map some) H ∧ Same S (Mi (nT T H) (allC ps)) ∧
    (∀ z : Cells, CellsOk S H z → (∀ c ∈ z, NT c.2) → Apart z (allC ps) → ∀ c ∈ z, Mi (nT T H) (allC ps) c.1 = some c.2) := by
  have kept : ∀ z : Cells, CellsOk S H z → (∀ c ∈ z, NT c.2) → Apart z (allC ps) → ∀ c ∈ z, Mi (nT T H) (allC ps) c.1 = some c.2 := fun z hz hn ha c hc => by
    rw [Mi.out fun e he w => ha c hc e he w.symm]
    exact nT_of R.tb (hz.2 c hc).1 (hn c hc)
  have sS : Same S (Mi (nT T H) (allC ps)) := fun a o h => by
    rw [Mi.out fun e he w => ?_]
    · exact nT_in R.tb R.sh _ _ h
    · obtain ⟨p, hp, he⟩ := allC_mem.mp he
      have := ((f.cells p hp).2.1.2 e he).2
      rw [w, h] at this
      cases this
  have sW : ∀ p ∈ ps, Same (Wi S p.1) (Mi (nT T H) (allC ps)) := fun p hp a o h => by
    unfold Wi at h
    cases e : S a with
    | some x => rw [e] at h; cases h; exact sS _ _ e
    | none =>
      rw [e] at h
      exact kept p.1 (f.cells p hp).1 (f.nt p hp).1 (g.all p hp).1 _ (mem_of_lookup' h)
  obtain ⟨l1, l2, _⟩ := f.len
  refine ⟨⟨R.bs.trans sS, Mi.le.trans nT_le, by simp [l1], by simp [l2], f.at sW, fun k m h => ?_, g.ap, tb_mi R.tb, R.tc⟩, sS, kept⟩
  obtain ⟨p, hp, rfl⟩ := List.mem_map.mp (List.mem_of_getElem? h)
  have c := (f.cells p hp).2.1
  exact ⟨c.1, fun x hx => ⟨(c.2 x hx).1, Mi.in_ (allC_mem.mpr ⟨p, hp, hx⟩)⟩⟩
theorem SRx.keep {S2 B2 : Hp} (R : SRx T S B env mss σ H) (s : Same S S2) (b : Same B B2) (bs : Same B2 S2) (sh : Same S2 H') (k : ∀ (j : Nat) (m : Cells), mss[j]? = some m → ∀ c ∈ m, H' c.1 = some c.2 ∧ S2 c.1 = none) (tb : TbOk T S2 H') (tc : TcOk T B2 H') : SRx T S2 B2 env mss σ H' :=
  ⟨bs, sh, R.l1, R.l2, fun i e s' m h1 h2 h3 => (R.at_ i e s' m h1 h2 h3).mono s b, fun i m h => ⟨(R.ok i m h).1, k i m h⟩, R.ap, tb, tc⟩
def isPl : CV → Bool
  | .pl _ _ => true
  | _ => false
theorem back_ok {S2 B2 : Hp} {ms : Cells} : ∀ {cvs : List CV} {vs : List V} {ss : List Slot} {ps : List (Cells × Cells × Cells)} {as : En} {mr : List Cells} {env env2 : En} {mss0 mss : List Cells}, FL T S B H σ env0 cvs vs ss ps → GL mss0 ps →
    SRx T S2 B2 env mss σ H' → Same B B2 → (∀ p ∈ ps, ∀ c ∈ p.2.2, H' c.1 = some c.2 ∧ S2 c.1 = none ∧ S' c.1 ≠ none) →
    (∀ (k : Nat) (e : Option Slot) (s : Option V) (m : Cells), as[k]? = some e → (vs.map some)[k]? = some s → mr[k]? = some m → SlotR T S' B2 e s m ∧ (m.map (·.1)).Nodup ∧ ∀ c ∈ m, H' c.1 = some c.2 ∧ S2 c.1 = none ∧ S' c.1 = none) → as.length = mr.length → as.length = vs.length →
    (∀ (k l : Nat) (m m' : Cells), k ≠ l → mr[k]? = some m → mr[l]? = some m' → Apart m m') →
    (∀ (j : Nat) (m : Cells), mss[j]? = some m → (∀ p ∈ ps, Apart m p.2.2) ∧ (∀ (l : Nat) (m' : Cells), mr[l]? = some m' → Apart m m') ∧ Apart m ms) →
    (∀ c ∈ ms, S' c.1 = none) → (∀ (l : Nat) (m' : Cells) (cv : CV), mr[l]? = some m' → cvs[l]? = some cv → isPl cv = true → Apart m' ms) →
    cBk cvs env0 as env = some env2 → ∃ mss2, SRx T S2 B2 env2 mss2 σ H' ∧ ∀ (j : Nat) (m : Cells), mss2[j]? = some m → Apart m ms := by
  intro cvs
  induction cvs with
  | nil =>
    intro vs ss ps as mr env env2 mss0 mss f g R b hw ha hl hlv hp hm hs hr h
    simp [cBk] at h; subst h
    exact ⟨mss, R, fun j m h => (hm j m h).2.2⟩
  | cons cv cvs ih =>
    intro vs ss ps as mr env env2 mss0 mss f g R b hw ha hl hlv hp hm hs hr h
    cases as with
    | nil => cases cv <;> simp [cBk] at h
    | cons a as =>
    cases mr with
    | nil => simp at hl
    | cons m0 mr =>
      have tl : ∀ {v : V} {vs' : List V} {p : Cells × Cells × Cells} {ps' : List (Cells × Cells × Cells)} {env' : En} {mss' : List Cells} {ss' : List Slot}, vs = v :: vs' → ps = p :: ps' → FL T S B H σ env0 cvs vs' ss' ps' → SRx T S2 B2 env' mss' σ H' →
          (∀ (j : Nat) (m : Cells), mss'[j]? = some m → (∀ p ∈ ps', Apart m p.2.2) ∧ (∀ (l : Nat) (m' : Cells), mr[l]? = some m' → Apart m m') ∧ Apart m ms) → cBk cvs env0 as env' = some env2 →
          ∃ mss2, SRx T S2 B2 env2 mss2 σ H' ∧ ∀ (j : Nat) (m : Cells), mss2[j]? = some m → Apart m ms := fun {v vs' p ps' env' mss' ss'} ev ep f' R' hm' h' => by
        subst ev ep
        cases g with
        | cons _ _ _ _ g' =>
          exact ih f' g' R' b (fun q hq => hw q (List.mem_cons_of_mem _ hq)) (fun k e s m h1 h2 h3 => ha (k + 1) e s m (by simpa using h1) (by simpa using h2) (by simpa using h3)) (by simpa using hl) (by simpa using hlv)
            (fun k l m m' hkl h1 h2 => hp (k + 1) (l + 1) m m' (by omega) (by simpa using h1) (by simpa using h2)) hm' hs (fun l m' cv' h1 h2 h3 => hr (l + 1) m' cv' (by simpa using h1) (by simpa using h2) h3) h'
      cases f with
      | rd h1 hz _ t =>
        simp only [cBk] at h
        exact tl rfl rfl t R (fun j m hj => ⟨fun q hq => (hm j m hj).1 q (List.mem_cons_of_mem _ hq), fun l m' hl' => (hm j m hj).2.1 (l + 1) m' (by simpa using hl'), (hm j m hj).2.2⟩) h
      | tk h1 hz t =>
        simp only [cBk] at h
        exact tl rfl rfl t R (fun j m hj => ⟨fun q hq => (hm j m hj).1 q (List.mem_cons_of_mem _ hq), fun l m' hl' => (hm j m hj).2.1 (l + 1) m' (by simpa using hl'), (hm j m hj).2.2⟩) h
      | @pl i p d v0 u x c m1 m2 _ vs ss ps hd hσ h1 hc back t =>
        cases a with
        | none => simp [cBk] at h
        | some a =>
        cases a with
        | ro d' => simp [cBk] at h
        | own x' =>
          simp only [cBk, hd] at h
          obtain ⟨sr, nd0, c0⟩ := ha 0 (some (.own x')) (some u) m0 rfl rfl rfl
          have own' := back B2 x' m0 b sr
          have hw0 := hw _ List.mem_cons_self
          obtain ⟨ok1, ok12, ap1⟩ := cells_split hc
          obtain ⟨okc, ok2, ap2⟩ := cells_split ok12
          have w1 : ∀ y ∈ m1, H' y.1 = some y.2 ∧ S2 y.1 = none ∧ S' y.1 ≠ none := fun y hy => hw0 y (List.mem_append_left _ hy)
          have w2 : ∀ y ∈ m2, H' y.1 = some y.2 ∧ S2 y.1 = none ∧ S' y.1 ≠ none := fun y hy => hw0 y (List.mem_append_right _ hy)
          have away : ∀ {y e : Addr × HO}, S' y.1 ≠ none → S' e.1 = none → y.1 ≠ e.1 := fun {y e} h1 h2 z => h1 (by rw [z]; exact h2)
          have oknew : CellsOk S2 H' (m1 ++ (m0 ++ m2)) := by
            refine cells_append ⟨ok1.1, fun y hy => ⟨(w1 y hy).1, (w1 y hy).2.1⟩⟩ (cells_append ⟨nd0, fun y hy => ⟨(c0 y hy).1, (c0 y hy).2.1⟩⟩ ⟨ok2.1, fun y hy => ⟨(w2 y hy).1, (w2 y hy).2.1⟩⟩ ?_) ?_
            · exact fun y hy e he z => away (w2 e he).2.2 (c0 y hy).2.2 z.symm
            · refine apart_symm (apart_app (fun y hy e he z => away (w1 e he).2.2 (c0 y hy).2.2 z.symm) (apart_symm (apart_right ap1)))
          have R1 := R.set (i := i) (e := some (.own (setP p d x'))) (s := some v0) (m := m1 ++ (m0 ++ m2)) own' oknew fun j m' hj hmj => by
            obtain ⟨k1, k2, _⟩ := hm j m' hmj
            have k1 := k1 _ List.mem_cons_self
            have k2 := k2 0 m0 rfl
            intro y hy e he
            rcases List.mem_append.mp he with he | he
            · exact k1 y hy e (List.mem_append_left _ he)
            · rcases List.mem_append.mp he with he | he
              · exact k2 y hy e he
              · exact k1 y hy e (List.mem_append_right _ he)
          have eσ : σ.set i (some v0) = σ := by
            apply List.ext_getElem?
            intro n
            by_cases hn : i = n
            · subst hn
              rw [hσ, List.getElem?_set_self (List.getElem?_eq_some_iff.mp hσ).1]
            · rw [List.getElem?_set_ne hn]
          rw [eσ] at R1
          cases g with
          | cons g0 g1 g2 g3 g' =>
          refine tl rfl rfl t R1 (fun j m hj => ?_) h
          rcases set_at hj with ⟨_, rfl⟩ | ⟨_, hj⟩
          · refine ⟨fun q hq => ?_, fun l m' hl' => ?_, ?_⟩
            · have q1 := (g2 q hq).ww
              have hq' := hw q (List.mem_cons_of_mem _ hq)
              exact apart_app (fun y hy e he => q1 y (List.mem_append_left _ hy) e he) (apart_app (fun y hy e he z => away (hq' e he).2.2 (c0 y hy).2.2 z.symm) fun y hy e he => q1 y (List.mem_append_right _ hy) e he)
            · have hml : ∀ e ∈ m', S' e.1 = none := fun e he => by
                obtain ⟨a', ha'⟩ : ∃ a', as[l]? = some a' := ⟨as[l]'(by have := (List.getElem?_eq_some_iff.mp hl').1; simp at hl; omega), List.getElem?_eq_getElem _⟩
                have lv : l < vs.length := by
                  have hh : l < as.length := (List.getElem?_eq_some_iff.mp ha').1
                  simp at hlv; omega
                exact ((ha (l + 1) a' (some vs[l]) m' (by simpa using ha') (by simp [lv]) (by simpa using hl')).2.2 e he).2.2
              exact apart_app (fun y hy e he z => away (w1 y hy).2.2 (hml e he) z) (apart_app (hp 0 (l + 1) m0 m' (by omega) rfl (by simpa using hl')) fun y hy e he z => away (w2 y hy).2.2 (hml e he) z)
            · exact apart_app (fun y hy e he z => away (w1 y hy).2.2 (hs e he) z) (apart_app (hr 0 m0 _ rfl rfl rfl) fun y hy e he z => away (w2 y hy).2.2 (hs e he) z)
          · exact ⟨fun q hq => (hm j m hj).1 q (List.mem_cons_of_mem _ hq), fun l m' hl' => (hm j m hj).2.1 (l + 1) m' (by simpa using hl'), (hm j m hj).2.2⟩
end
end Tr
namespace Tr
open PySem L2
section
variable {T : Tab} {S B H S' B' H' H0 S0 B0 : Hp} {mss : List Cells} {σ : L2.St} {env env0 : En} {cvs : List CV} {vs : List V} {css : List Cells}
theorem after {ss : List Slot} {ps : List (Cells × Cells × Cells)} {env' env2 as : En} {mss' mr : List Cells} {ms : Cells} (R : SRx T S B env' mss' σ H) (fl : FL T S B H σ env0 cvs vs ss ps) (gl : GL mss' ps)
    (gw : Gw (Mi (nT T H) (allC ps)) B S' B') (Rr : SRx T S' B' as mr (vs.map some) H') (hms : ∀ c ∈ ms, S' c.1 = none) (hr : ∀ (l : Nat) (m' : Cells) (cv : CV), mr[l]? = some m' → cvs[l]? = some cv → isPl cv = true → Apart m' ms) (hb : cBk cvs env0 as env' = some env2) :
    ∃ S2 mss2, Gw S B S2 B' ∧ SRx T S2 B' env2 mss2 σ H' ∧ (∀ (j : Nat) (m : Cells), mss2[j]? = some m → Apart m ms) ∧ ∀ c : Addr, S' c = none → S2 c = none := by
  obtain ⟨Rc, sS, kept⟩ := callee R fl gl
  have inS : ∀ z : Cells, CellsOk S H z → (∀ c ∈ z, NT c.2) → Apart z (allC ps) → ∀ c ∈ z, H' c.1 = some c.2 ∧ Jn S B' c.1 = none ∧ S' c.1 ≠ none := fun z hz hn ha c hc => by
    have k1 := kept z hz hn ha c hc
    have k2 := gw.s _ _ k1
    refine ⟨Rr.sh _ _ k2, ?_, by rw [k2]; intro h; cases h⟩
    unfold Jn
    rw [(hz.2 c hc).2]
    cases e : B' c.1 with
    | none => rfl
    | some o =>
      rcases gw.n _ _ e with q | q
      · rw [R.bs.free (hz.2 c hc).2] at q; cases q
      · rw [k1] at q; cases q
  have out : ∀ c : Addr, S' c = none → Jn S B' c = none := fun c h => by
    unfold Jn
    rw [sS.free (gw.s.free h)]
    exact Rr.bs.free h
  have s2 : Same S (Jn S B') := fun a u h => by unfold Jn; rw [h]
  have bs2 : Same B' (Jn S B') := fun a u h => by
    unfold Jn
    cases e : S a with
    | some w =>
      rcases gw.n _ _ h with q | q
      · rw [R.bs _ _ q] at e; cases e; rfl
      · rw [sS _ _ e] at q; cases q
    | none => exact h
  have sh2 : Same (Jn S B') H' := fun a u h => by
    unfold Jn at h
    cases e : S a with
    | some w => rw [e] at h; cases h; exact Rr.sh _ _ (gw.s _ _ (sS _ _ e))
    | none => rw [e] at h; exact Rr.sh _ _ (Rr.bs _ _ h)
  have tbJ : TbOk T (Jn S B') H' := fun p hp => ⟨(Rr.tb p hp).1, by
    unfold Jn; rw [(R.tb p hp).2]; exact Rr.bs.free (Rr.tb p hp).2⟩
  have gw2 : Gw S B (Jn S B') B' := ⟨s2, gw.b, fun a u h => (gw.n a u h).imp id fun q => sS.free q⟩
  have R2 : SRx T (Jn S B') B' env' mss' σ H' := R.keep s2 gw.b bs2 sh2 (fun j m hm c hc => by
    obtain ⟨a1, a2, _⟩ := inS m (R.ok j m hm) (R.nt hm) (gl.out hm) c hc
    exact ⟨a1, a2⟩) tbJ Rr.tc
  have la : as.length = vs.length := by have := Rr.l1; simpa using this
  have lm : mr.length = vs.length := by have := Rr.l2; simpa using this
  obtain ⟨mss2, R3, ap⟩ := back_ok (S' := S') (ms := ms) (as := as) (mr := mr) fl gl R2 gw.b (fun p hp c hc => inS p.2.2 (fl.cells p hp).2.2 (fl.nt p hp).2.2 (gl.all p hp).2 c hc)
    (fun k e s m h1 h2 h3 => ⟨Rr.at_ k e s m h1 h2 h3, (Rr.ok k m h3).1, fun c hc => ⟨((Rr.ok k m h3).2 c hc).1, out _ ((Rr.ok k m h3).2 c hc).2, ((Rr.ok k m h3).2 c hc).2⟩⟩) (by rw [la, lm]) la Rr.ap
    (fun j m hm => by
      have far : ∀ z : Cells, (∀ c ∈ z, S' c.1 = none) → Apart m z := fun z hz x hx e he w => (inS m (R.ok j m hm) (R.nt hm) (gl.out hm) x hx).2.2 (by rw [w]; exact hz e he)
      exact ⟨fun p hp => (gl.at hm hp).2, fun l m' hl => far m' fun c hc => ((Rr.ok l m' hl).2 c hc).2, far ms hms⟩) hms hr hb
  exact ⟨_, mss2, gw2, R3, ap, out⟩
end
/-- the call, its arguments reckoned -/
@[simp] def eC1 (mf : List Slot → FR) (cvs : List CV) (env : En) : EO := match cSl cvs env with
  | some (ss, env') => match mf ss with
    | .ok d as => match cBk cvs env as env' with
      | some env2 => .ok (.own d) env2
      | none => .er
    | .ex x as => match cBk cvs env as env' with
      | some env2 => .ex x env2
      | none => .er
    | .er => .er
  | none => .er
@[simp] def eCall (mf : List Slot → FR) (cs : List CA) : EE := fun env => match aCA cs env with
  | .ok cvs => eC1 mf cvs env
  | .ex x => .ex x env
  | .er => .er
def PCA (T : Tab) (W : WX) (S B : Hp) (mss : List Cells) (σ : L2.St) (H : Hp) (Q : List V → Hp → Prop) : Rz (List CV) → Prop
  | .ok cvs => ∀ S' B' H' vs css, Gr T.tbs S B H S' B' H' → CAL T S' B' H' H mss σ cvs vs css → Q vs H'
  | .ex x => ∀ S' B' H' cls d, Gr T.tbs S B H S' B' H' → ExF T H' x cls d → W cls d σ H'
  | .er => False
def tCA (T : Tab) (W : WX) (cs : List CA) : TA := fun σ H Q => ∃ S B env mss, SRx T S B env mss σ H ∧ PCA T W S B mss σ H Q (aCA cs env)
def tC1 (T : Tab) (W : WX) : CA → TE
  | .rd m => tP T W m
  | .tk m => tP T W m
  | .pl m => tL T W m
section
variable {X : Cx} {T : Tab} {W : WX} {e o : Expr} {es : List Expr} {S B H S' B' H' H0 S0 B0 S1 B1 H1 : Hp} {mss : List Cells} {σ : L2.St} {env : En} {cvs : List CV} {vs : List V} {css : List Cells} {c : CA} {cs : List CA} {mf : List Slot → FR} {n k : Nat} {pos apos p : Pos} {m x : Str} {f C : Addr} {fd : FuncData} {ps : List Str}
theorem PCA.grow {Q : List V → Hp → Prop} {z : Rz (List CV)} {S1 B1 H1 : Hp} (p : PCA T W S B mss σ H Q z) (g : Gr T.tbs S B H S1 B1 H1) : PCA T W S1 B1 mss σ H1 Q z := by
  cases z with
  | ok l => exact fun S' B' H' vs css g' f => p S' B' H' vs css (g.trans g') (f.back g.h)
  | ex x => exact fun S' B' H' cls d g' f => p S' B' H' cls d (g.trans g') f
  | er => exact p
theorem pca_nil : PA X [] (tCA T W []) := pa_of pa_nil fun σ H Q ⟨S, B, env, mss, R, q⟩ => q S B H [] [] R.gr .nil
/-- the first of a row, then the others -/
theorem i_ca {σ : L2.St} {H : Hp} {Q : List V → Hp → Prop} (h : tCA T W (c :: cs) σ H Q) : tC1 T W c σ H fun v H1 => tCA T W cs σ H1 fun vs H2 => Q (v :: vs) H2 := by
  obtain ⟨S, B, env, mss, R, q⟩ := h
  cases c with
  | rd m =>
    refine ⟨S, B, env, mss, R, ?_⟩
    cases hr : m env with
    | ok r =>
      simp only [aCA, hr] at q
      intro S1 B1 H1 v g f1
      have R1 := R.grow g
      refine ⟨S1, B1, env, mss, R1, ?_⟩
      cases hs : aCA cs env with
      | ok rs =>
        simp only [hs] at q
        intro S2 B2 H2 vs css g2 f2
        obtain ⟨m1, c1⟩ := f1.toC
        have c2 := c1.grow R1 g2
        refine q S2 B2 H2 (v :: vs) (m1 :: css) (g.trans g2) (.rd c2 (f2.back g.h) fun m' hm' => ?_)
        exact apart_new2 (rfc_new c1).1 (f2.new m' hm').2
      | ex x => simp only [hs] at q; exact fun S2 B2 H2 cls d g2 x2 => q S2 B2 H2 cls d (g.trans g2) x2
      | er => simp only [hs] at q; exact q
    | ex x => simp only [aCA, hr] at q; exact q
    | er => simp only [aCA, hr] at q; exact q
  | tk m =>
    refine ⟨S, B, env, mss, R, ?_⟩
    cases hr : m env with
    | ok r =>
      simp only [aCA, hr] at q
      cases r with
      | ro d => exact q.elim
      | bor i d => exact q.elim
      | own d =>
      intro S1 B1 H1 v g f1
      have R1 := R.grow g
      refine ⟨S1, B1, env, mss, R1, ?_⟩
      cases hs : aCA cs env with
      | ok rs =>
        simp only [hs] at q
        intro S2 B2 H2 vs css g2 f2
        obtain ⟨m1, c1⟩ := f1.toC
        have c2 := c1.grow R1 g2
        refine q S2 B2 H2 (v :: vs) (m1 :: css) (g.trans g2) (.tk c2 (f2.back g.h) fun m' hm' => ?_)
        exact apart_new2 (rfc_new c1).1 (f2.new m' hm').2
      | ex x => simp only [hs] at q; exact fun S2 B2 H2 cls d g2 x2 => q S2 B2 H2 cls d (g.trans g2) x2
      | er => simp only [hs] at q; exact q
    | ex x => simp only [aCA, hr] at q; exact q
    | er => simp only [aCA, hr] at q; exact q
  | pl m =>
    refine ⟨S, B, env, mss, R, ?_⟩
    cases hr : m env with
    | ok i p =>
      simp only [aCA, hr] at q
      intro S1 B1 H1 v u g hv hu
      have R1 := R.grow g
      refine ⟨S1, B1, env, mss, R1, ?_⟩
      cases hs : aCA cs env with
      | ok rs =>
        simp only [hs] at q
        intro S2 B2 H2 vs css g2 f2
        exact q S2 B2 H2 (u :: vs) ([] :: css) (g.trans g2) (.pl hv (valP_monoN g2.h.n hu) (f2.back g.h))
      | ex x => simp only [hs] at q; exact fun S2 B2 H2 cls d g2 x2 => q S2 B2 H2 cls d (g.trans g2) x2
      | er => simp only [hs] at q; exact q
    | ex x => simp only [aCA, hr] at q; exact q
    | er => simp only [aCA, hr] at q; exact q
theorem pca_cons (h1 : PE X e (tC1 T W c)) (h2 : PA X es (tCA T W cs)) (hs : starEach (e :: es) X.env = (false, eval e X.env) :: starEach es X.env := by rfl) : PA X (e :: es) (tCA T W (c :: cs)) :=
  pa_of (pa_cons h1 h2 hs) fun _ _ _ => i_ca
theorem aCA_len {cs : List CA} {env : En} : ∀ {l : List CV}, aCA cs env = .ok l → l.length = cs.length := by
  induction cs with
  | nil => intro l h; simp [aCA] at h; subst h; rfl
  | cons c cs ih =>
    intro l h
    cases c with
    | rd m =>
      simp only [aCA] at h
      split at h
      · split at h
        · rename_i h'; cases h; simp [ih h']
        · cases h
        · cases h
      · cases h
      · cases h
    | tk m =>
      simp only [aCA] at h
      split at h
      · split at h
        · rename_i h'; cases h; simp [ih h']
        · cases h
        · cases h
      · cases h
      · cases h
      · cases h
    | pl m =>
      simp only [aCA] at h
      split at h
      · split at h
        · rename_i h'; cases h; simp [ih h']
        · cases h
        · cases h
      · cases h
      · cases h
theorem CAL.len (f : CAL T S B H H0 mss σ cvs vs css) : cvs.length = vs.length := by
  induction f with
  | nil => rfl
  | rd _ _ _ ih => simp [ih]
  | tk _ _ _ ih => simp [ih]
  | pl _ _ _ ih => simp [ih]
theorem CAL.fresh (R0 : SRx T S0 B0 env mss σ H0) (f : CAL T S B H H0 mss σ cvs vs css) : ∀ m ∈ css, ∀ (i : Nat) (m' : Cells), mss[i]? = some m' → Apart m' m := fun m hm i m' hi => apart_new2 (R0.ok i m' hi) (f.new m hm).2
theorem call_sp {Q : VK} (R0 : SRx T S0 B0 env mss σ H0) (g : Gr T.tbs S0 B0 H0 S B H) (f : CAL T S B H H0 mss σ cvs vs css) (hn : vs.length = n) (q : PO T W S0 B0 σ Q (eC1 mf cvs env)) : spF T n mf vs H Q (WE W σ) := by
  have R := R0.grow g
  unfold eC1 at q
  cases hs : cSl cvs env with
  | none => simp only [hs] at q; exact q.elim
  | some pr =>
    obtain ⟨ss, env'⟩ := pr
    simp only [hs] at q
    obtain ⟨mss', ps, R', fl, gl, _, _, _⟩ := foc (mss0 := mss) (env0 := env) R f (f.fresh R0) (fun j s h => ⟨h, rfl⟩) hs
    obtain ⟨Rc, _, _⟩ := callee R' fl gl
    refine ⟨hn, Mi (nT T H) (allC ps), B, ss, _, Rc, ?_⟩
    cases hz : mf ss with
    | ok d as =>
      simp only [hz] at q
      intro S' B' H' v ms mr gw Rr ow co ap
      cases hb : cBk cvs env as env' with
      | none => simp only [hb] at q; exact q.elim
      | some env2 =>
        simp only [hb] at q
        obtain ⟨S2, mss2, g2, R2, a2, out⟩ := after R' fl gl gw Rr (fun c hc => (co.2 c hc).2) (fun l m' _ h _ _ => ap l m' h) hb
        exact q S2 B' H' mss2 v (g.w.trans g2) R2 ⟨ms, ow, ⟨co.1, fun c hc => ⟨(co.2 c hc).1, out _ (co.2 c hc).2⟩⟩, a2⟩
    | ex x as =>
      simp only [hz] at q
      intro S' B' H' mr cls dd gw Rr ef
      cases hb : cBk cvs env as env' with
      | none => simp only [hb] at q; exact q.elim
      | some env2 =>
        simp only [hb] at q
        obtain ⟨S2, mss2, g2, R2, _, _⟩ := after (ms := []) R' fl gl gw Rr (fun _ h => nomatch h) (fun _ _ _ _ _ _ => apart_nil) hb
        exact q S2 B' H' mss2 cls dd (g.w.trans g2) R2 ef
    | er => simp only [hz] at q; exact q.elim
/-- f(..) -/
theorem ee_call (F : FnOk X.prog X.w X.K X.mg X.base (L2.CX X.prog X.w) k f fd ps (spF T n mf)) (hr : Room k X.A) (hg : Gl X x) (hm : X.mg x = some (.ref f)) (hk : PySem.W.keepIn X.K (.ref f) = true) (hb : Binds X.K fd ps []) (tk : Takes X W)
    (ha : PA X (e :: es) (tCA T W cs)) (hn : cs.length = n := by rfl) (hdb : (x == ("__debug__" : Str)) = false := by decide) (he : starEach (e :: es) X.env = (false, eval e X.env) :: starEach es X.env := by rfl) (hpl : (backTo pos (starEach es X.env)).any (·.1) = false := by rfl) :
    PE X (.Call (.Name x p) (e :: es) [] pos) (tE T W (eCall mf cs)) := by
  refine pe_of (pe_callS F hr hg hm hk hb (fun σ => passAt tk σ) ha hdb he hpl) fun σ H Q ⟨S, B, env, mss, R, q⟩ => ⟨S, B, env, mss, R, ?_⟩
  cases hc : aCA cs env with
  | ok cvs =>
    simp only [eCall, hc] at q
    intro S' B' H' vs css g f
    exact call_sp R g f (by rw [← f.len, aCA_len hc, hn]) q
  | ex x => simp only [eCall, hc] at q; exact fun S' B' H' cls d g ef => q S' B' H' mss cls d g.w (R.grow g) ef
  | er => simp only [eCall, hc] at q; exact q
/-- m is a method of class c -/
structure MethOk (T : Tab) (c : Nat) (m : Str) (f : Addr) : Prop where
  ex : ∃ C fl, T.cls[c]? = some ⟨C, fl⟩ ∧ m ∉ fl ∧ Cls T.K C ∧ Meth T.K C m f
/-- the object at the head of a row is of class c -/
@[simp] def hdIs (c : Nat) : List CV → En → Bool
  | .rd r :: _, _ => match unfz r.d with
    | .obj c' _ => c' == c
    | _ => false
  | .tk d :: _, _ => match d with
    | .obj c' _ => c' == c
    | _ => false
  | .pl i p :: _, env => match atP i p env with
    | some (.obj c' _) => c' == c
    | _ => false
  | [], _ => false
theorem lookup_none {fl : List Str} {ws : List V} {m : Str} (h : m ∉ fl) : (fl.zip ws).lookup m = none := by
  induction fl generalizing ws with
  | nil => simp
  | cons g fl ih =>
    cases ws with
    | nil => simp
    | cons w ws =>
      rw [List.zip_cons_cons, List.lookup_cons]
      have : (m == g) = false := by
        simp only [beq_eq_false_iff_ne, ne_eq]
        intro z; exact h (z ▸ List.mem_cons_self)
      rw [this]
      exact ih fun z => h (List.mem_cons_of_mem _ z)
end
section
variable {X : Cx} {K : PySem.W.Frag} {CX : CXT} {k : Nat} {f C : Addr} {fd : FuncData} {ps : List Str} {sp : Sp} {E : L2.St → XK} {x m : Str} {p pos apos : Pos} {e o : Expr} {es : List Expr} {ta : TE} {t : TA}
/-- o.m(..) with the wish of the very slots -/
def tMethA (C : Addr) (m : Str) (sp : Sp) (E : L2.St → XK) (ta : TE) (t : TA) : TE := fun σ H Q => ta σ H fun y H1 => ∃ b ex gs, y = .ref b ∧ H1 b = some (.ins C ex gs) ∧ gs.lookup m = none ∧ t σ H1 fun ws H2 => sp (y :: ws) H2 Q (E σ)
theorem pe_methA {pl : Sem Bool} (ho : PE X o ta) (c : Cls X.K C) (hm : Meth X.K C m f) (F : FnOk X.prog X.w X.K X.mg X.base CX k f fd ps sp) (hr : Room k X.A) (hb : Binds X.K fd ps []) (hx : ∀ σ, PassesAt CX X σ (E σ)) (ha : PA X (e :: es) t)
    (h1 : starEach (e :: es) X.env = (false, eval e X.env) :: starEach es X.env := by rfl) (h2 : (backTo pos (starEach es X.env)).any (·.1) = false := by rfl)
    (h3 : eval (.Call (.Attribute o m apos) (e :: es) [] pos) X.env = (do
      let z ← eval o X.env
      standAt apos.atName
      let (g, first) ← holding [z] (getMethod z m pl)
      callWith pos g first (backTo pos (starEach (e :: es) X.env)) (backToKw pos (keywordEach [] X.env))) := by rfl) :
    PE X (.Call (.Attribute o m apos) (e :: es) [] pos) (tMethA C m sp E ta t) := by
  refine ⟨fun pins s σ H Q J h => PySem.W.methodCall_KW (pl := pl) (thn (ho.run pins s σ H _ J h) fun u s1 ⟨y, H1, J1, ry, b, ex, gs, ey, eb, lk, q⟩ => ?_) h3⟩
  subst ey
  cases ry
  refine getmeth_ok J1 eb c hm lk (PySem.W.callWith_K (first := [.ref b]) (h₀ := X.base) J.ok.mod.kin hm.kp (thn (ha.run pos pins s1 σ H1 _ J1 q) fun us s2 ⟨ws, H2, J2, rv, q2⟩ => ⟨J2.kIn, ?_⟩) h1 h2)
  exact run_fnS (us := .ref b :: us) (vs := .ref b :: ws) F hr hb (hx σ) J2 (.cons rfl rv) q2
theorem pe_methA0 {pl : Sem Bool} (ho : PE X o ta) (c : Cls X.K C) (hm : Meth X.K C m f) (F : FnOk X.prog X.w X.K X.mg X.base CX k f fd ps sp) (hr : Room k X.A) (hb : Binds X.K fd ps []) (hx : ∀ σ, PassesAt CX X σ (E σ))
    (h3 : eval (.Call (.Attribute o m apos) [] [] pos) X.env = (do
      let z ← eval o X.env
      standAt apos.atName
      let (g, first) ← holding [z] (getMethod z m pl)
      callWith pos g first (backTo pos (starEach [] X.env)) (backToKw pos (keywordEach [] X.env))) := by rfl) :
    PE X (.Call (.Attribute o m apos) [] [] pos) (tMethA C m sp E ta tNil) := by
  refine ⟨fun pins s σ H Q J h => PySem.W.methodCall_KW (pl := pl) (thn (ho.run pins s σ H _ J h) fun u s1 ⟨y, H1, J1, ry, b, ex, gs, ey, eb, lk, q⟩ => ?_) h3⟩
  subst ey
  cases ry
  refine getmeth_ok J1 eb c hm lk ?_
  exact PySem.W.callWith_K0 (first := [.ref b]) J1.kIn hm.kp (run_fnS (us := [.ref b]) (vs := [.ref b]) F hr hb (hx σ) J1 (.cons rfl .nil) q)
end
section
variable {X : Cx} {T : Tab} {W : WX} {e o : Expr} {es : List Expr} {S B H S' B' H' H0 S0 B0 S1 B1 H1 : Hp} {mss : List Cells} {σ : L2.St} {env : En} {cvs : List CV} {vs : List V} {css : List Cells} {c : CA} {cs : List CA} {mf : List Slot → FR} {n k cl : Nat} {pos apos p : Pos} {m x : Str} {f C : Addr} {fd : FuncData} {ps : List Str}
/-- a method of class c -/
@[simp] def eMeth (c : Nat) (mf : List Slot → FR) (ch : CA) (cs : List CA) : EE := fun env => match aCA [ch] env with
  | .ok hv => if hdIs c hv env = true then (match aCA (ch :: cs) env with
    | .ok cvs => eC1 mf cvs env
    | .ex x => .ex x env
    | .er => .er) else .er
  | .ex x => .ex x env
  | .er => .er
theorem hd_obj (M : MethOk T cl m f) {v : V} (R : SRx T S B env mss σ H) (fc : CAL T S B H H0 mss σ cvs (v :: vs) css) (h : hdIs cl cvs env = true) : ∃ C, Cls T.K C ∧ Meth T.K C m f ∧ (∃ fl, T.cls[cl]? = some ⟨C, fl⟩) ∧ ∃ b ex gs, v = .ref b ∧ H b = some (.ins C ex gs) ∧ gs.lookup m = none := by
  obtain ⟨C, fl, hc, hnf, k1, k2⟩ := M.ex
  refine ⟨C, k1, k2, ⟨fl, hc⟩, ?_⟩
  have fin : ∀ {d : D} {S : Hp}, Same S H → Ros T B S [d] [v] → (∃ ds, d = .obj cl ds) → ∃ b ex gs, v = .ref b ∧ H b = some (.ins C ex gs) ∧ gs.lookup m = none := fun {d S} sh r ⟨ds, e⟩ => by
    subst e
    obtain ⟨a, C', dx, fl', ws, rfl, h1, hc', hl, q⟩ := ros_obj r
    rw [hc] at hc'; cases hc'
    exact ⟨a, dx, _, rfl, sh _ _ h1, lookup_none hnf⟩
  cases fc with
  | @rd r _ m' cvs _ css hr t a =>
    simp only [hdIs] at h
    have rr : Ros T B H [r.d] [v] := by
      have f : RF T S B H H0 mss r v := by
        cases r with
        | own d => exact ⟨m', hr⟩
        | ro d => exact hr.2
        | bor i d => exact hr.2
      exact f.read R
    have r2 := ros_unfz (R.bs.trans R.sh) rr
    split at h
    · rename_i c' ds e
      have := beq_iff_eq.mp h
      subst this
      rw [e] at r2
      exact fin (Same.refl _) r2 ⟨ds, rfl⟩
    · cases h
  | @tk d _ m' cvs _ css hr t a =>
    simp only [hdIs] at h
    have rr : Ros T B H [d] [v] := by
      have f : RF T S B H H0 mss (.own d) v := ⟨m', hr⟩
      exact f.read R
    split at h
    · rename_i c' ds
      have := beq_iff_eq.mp h
      subst this
      exact fin (Same.refl _) rr ⟨ds, rfl⟩
    · cases h
  | @pl i p v0 _ cvs _ css hv hu t =>
    simp only [hdIs] at h
    split at h
    · rename_i c' ds hx
      have := beq_iff_eq.mp h
      subst this
      obtain ⟨v', u', mx, e1, e2, own, okx⟩ := R.place hx
      rw [hv] at e1; cases e1
      rw [hu] at e2; cases e2
      exact fin (Same.refl _) (own.ro (R.bs.trans R.sh) fun c hc => (okx.2 c hc).1) ⟨ds, rfl⟩
    · cases h
theorem aCA_cons (c : CA) (cs : List CA) (env : En) : aCA (c :: cs) env = (match aCA [c] env with
    | .ok l => match aCA cs env with
      | .ok l2 => .ok (l ++ l2)
      | .ex x => .ex x
      | .er => .er
    | .ex x => .ex x
    | .er => .er) := by
  cases c with
  | rd m =>
    simp only [aCA]
    cases m env with
    | ok r => simp only; cases aCA cs env <;> rfl
    | ex x => rfl
    | er => rfl
  | tk m =>
    simp only [aCA]
    cases m env with
    | ok r => cases r with
      | own d => simp only; cases aCA cs env <;> rfl
      | ro d => rfl
      | bor i d => rfl
    | ex x => rfl
    | er => rfl
  | pl m =>
    simp only [aCA]
    cases m env with
    | ok i p => simp only; cases aCA cs env <;> rfl
    | ex x => rfl
    | er => rfl
theorem CAL.cons {cv : CV} {v : V} {css1 : List Cells} (f1 : CAL T S1 B1 H1 H0 mss σ [cv] [v] css1) (R1 : SRx T S1 B1 env mss σ H1) (g : Gr T.tbs S1 B1 H1 S B H) {L : List (Addr × Str)} (h01 : SameN L H0 H1) (t : CAL T S B H H1 mss σ cvs vs css) : ∃ css2, CAL T S B H H0 mss σ (cv :: cvs) (v :: vs) css2 := by
  have f2 := f1.grow R1 g
  cases f1 with
  | rd h1 _ _ => cases f2 with
    | rd h2 _ _ => exact ⟨_, .rd h2 (t.back h01) fun m' hm' => apart_new2 (rfc_new h1).1 (t.new m' hm').2⟩
  | tk h1 _ _ => cases f2 with
    | tk h2 _ _ => exact ⟨_, .tk h2 (t.back h01) fun m' hm' => apart_new2 (rfc_new h1).1 (t.new m' hm').2⟩
  | pl h1 hu _ => cases f2 with
    | pl h2 hu2 _ => exact ⟨_, .pl h2 hu2 (t.back h01)⟩
theorem tC1_imp {c : CA} {σ : L2.St} {H : Hp} {Q Q' : VK} (h : tC1 T W c σ H Q) (i : ∀ v H, Q v H → Q' v H) : tC1 T W c σ H Q' := by
  cases c with
  | rd m =>
    obtain ⟨S, B, env, mss, R, q⟩ := h
    refine ⟨S, B, env, mss, R, ?_⟩
    revert q
    cases m env with
    | ok r => exact fun q S' B' H' v g f => i _ _ (q S' B' H' v g f)
    | ex x => exact id
    | er => exact id
  | tk m =>
    obtain ⟨S, B, env, mss, R, q⟩ := h
    refine ⟨S, B, env, mss, R, ?_⟩
    revert q
    cases m env with
    | ok r => exact fun q S' B' H' v g f => i _ _ (q S' B' H' v g f)
    | ex x => exact id
    | er => exact id
  | pl m =>
    obtain ⟨S, B, env, mss, R, q⟩ := h
    refine ⟨S, B, env, mss, R, ?_⟩
    revert q
    cases m env with
    | ok j p => exact fun q S' B' H' v u g hv hu => i _ _ (q S' B' H' v u g hv hu)
    | ex x => exact id
    | er => exact id
/-- the head of a row alone -/
theorem i_hd {c : CA} {σ : L2.St} {H : Hp} {Q : VK} (R : SRx T S B env mss σ H) (q : match aCA [c] env with
    | .ok l => ∀ S' B' H' v css, Gr T.tbs S B H S' B' H' → CAL T S' B' H' H mss σ l [v] css → Q v H'
    | .ex x => ∀ S' B' H' cls d, Gr T.tbs S B H S' B' H' → ExF T H' x cls d → W cls d σ H'
    | .er => False) : tC1 T W c σ H Q := by
  have h : tCA T W [c] σ H (fun vs H' => ∃ v, vs = [v] ∧ Q v H') := by
    refine ⟨S, B, env, mss, R, ?_⟩
    cases hc : aCA [c] env with
    | ok l =>
      simp only [hc] at q
      intro S' B' H' vs css g f
      have hl := f.len
      rw [aCA_len hc] at hl
      match vs, hl with
      | [v], _ => exact ⟨v, rfl, q S' B' H' v css g f⟩
    | ex x => simp only [hc] at q; exact q
    | er => simp only [hc] at q
  refine tC1_imp (i_ca h) fun v H1 ⟨S, B, env, mss, R, q⟩ => ?_
  obtain ⟨v', e, q⟩ := q S B H1 [] [] R.gr .nil
  cases e
  exact q
theorem i_meth {C : Addr} {fl : List Str} {Q : VK} {σ : L2.St} {H : Hp} (M : MethOk T cl m f) (hc : T.cls[cl]? = some ⟨C, fl⟩) (hn : (c :: cs).length = n) (h : tE T W (eMeth cl mf c cs) σ H Q) : tMethA C m (spF T n mf) (WE W) (tC1 T W c) (tCA T W cs) σ H Q := by
  obtain ⟨S, B, env, mss, R, q⟩ := h
  refine i_hd R ?_
  unfold eMeth at q
  rw [aCA_cons c cs] at q
  cases hh : aCA [c] env with
  | ok hv =>
    simp only [hh] at q
    split at q
    · rename_i hd
      intro S1 B1 H1 v css1 g1 f1
      have R1 := R.grow g1
      obtain ⟨C', _, _, ⟨fl', hc'⟩, b, ex, gs, rfl, hb1, hlk⟩ := hd_obj M R1 f1 hd
      rw [hc] at hc'; cases hc'
      refine ⟨b, ex, gs, rfl, hb1, hlk, S1, B1, env, mss, R1, ?_⟩
      cases hs : aCA cs env with
      | ok rs =>
        simp only [hs] at q
        intro S2 B2 H2 vs css g2 f2
        have l1 := aCA_len hh
        match hv, l1 with
        | [cv], _ =>
          obtain ⟨css2, f3⟩ := f1.cons R1 g2 g1.h f2
          exact call_sp R (g1.trans g2) f3 (by rw [← hn, List.length_cons, ← f2.len, aCA_len hs]; rfl) q
      | ex x => simp only [hs] at q; exact fun S2 B2 H2 cls d g2 x2 => q S2 B2 H2 mss cls d (g1.w.trans g2.w) (R1.grow g2) x2
      | er => simp only [hs] at q; exact q.elim
    · exact q.elim
  | ex x => simp only [hh] at q; exact fun S' B' H' cls d g ef => q S' B' H' mss cls d g.w (R.grow g) ef
  | er => simp only [hh] at q; exact q.elim
theorem ee_meth (hK : X.K = T.K) (M : MethOk T cl m f) (F : FnOk X.prog X.w X.K X.mg X.base (L2.CX X.prog X.w) k f fd ps (spF T n mf)) (hr : Room k X.A) (hb : Binds X.K fd ps []) (tk : Takes X W) (ho : PE X o (tC1 T W c)) (ha : PA X (e :: es) (tCA T W cs)) (hn : (c :: cs).length = n := by rfl)
    {pl : Sem Bool} (h1 : starEach (e :: es) X.env = (false, eval e X.env) :: starEach es X.env := by rfl) (h2 : (backTo pos (starEach es X.env)).any (·.1) = false := by rfl)
    (h3 : eval (.Call (.Attribute o m apos) (e :: es) [] pos) X.env = (do
      let z ← eval o X.env
      standAt apos.atName
      let (g, first) ← holding [z] (getMethod z m pl)
      callWith pos g first (backTo pos (starEach (e :: es) X.env)) (backToKw pos (keywordEach [] X.env))) := by rfl) :
    PE X (.Call (.Attribute o m apos) (e :: es) [] pos) (tE T W (eMeth cl mf c cs)) := by
  obtain ⟨C, fl, hc, hnf, k1, k2⟩ := M.ex
  refine pe_of (pe_methA (C := C) (f := f) (pl := pl) ho (hK ▸ k1) (hK ▸ k2) F hr hb (fun σ => passAt tk σ) ha h1 h2 h3) fun σ H Q h => i_meth M hc hn h
end
end Tr
namespace Tr
open PySem L2
section
variable {X : Cx} {T : Tab} {W : WX} {e o : Expr} {es : List Expr} {S B H S' B' H' H0 S0 B0 S1 B1 H1 : Hp} {mss : List Cells} {σ : L2.St} {env : En} {vs : List V} {mo : ME} {ms : List ME} {mf : List Slot → FR} {n k cl : Nat} {pos apos p : Pos} {m x : Str} {f C : Addr} {fd : FuncData} {ps : List Str}
/-- what a call gives that changes nothing -/
@[simp] def frR : FR → Rz Rs
  | .ok d _ => .ok (.own d)
  | .ex x _ => .ex x
  | .er => .er
theorem call_pure {Q : VK} {ds : List D} (R : SRx T S B env mss σ H) (r : Ros T B H ds vs) (hn : vs.length = n) (q : PP T W S B mss σ H Q (frR (mf (ds.map Slot.ro)))) : spF T n mf vs H Q (WE W σ) := by
  have bh := R.bs.trans R.sh
  refine ⟨hn, nT T H, B, ds.map Slot.ro, vs.map fun _ => [], srx_ros R.bs R.sh R.tb R.tc r, ?_⟩
  cases hz : mf (ds.map Slot.ro) with
  | ok d as =>
    rw [hz] at q
    intro S' B' H' v m' mss' gw R' o c _
    exact q _ _ _ _ (gr_pure R.bs R.sh R.tb gw R'.bs R'.sh R'.tb R'.tc) (own_pure R.sh R.tb R'.tb gw.s o c R'.bs)
  | ex x as =>
    rw [hz] at q
    intro S' B' H' mss' cls dd gw R' ef
    exact q _ _ _ _ _ (gr_pure R.bs R.sh R.tb gw R'.bs R'.sh R'.tb R'.tc) ef
  | er => rw [hz] at q; exact q.elim
/-- o.m(..), nothing changed -/
@[simp] def mMeth (c : Nat) (mf : List Slot → FR) (mo : ME) (ms : List ME) : ME := fun env => match mo env with
  | .ok r => match unfz r.d with
    | .obj c' _ => if c' = c then (match mAs ms env with
      | .ok rs => frR (mf ((r.d :: rs.map Rs.d).map Slot.ro))
      | .ex x => .ex x
      | .er => .er) else .er
    | _ => .er
  | .ex x => .ex x
  | .er => .er
theorem i_methP {C : Addr} {fl : List Str} {Q : VK} {σ : L2.St} {H : Hp} (M : MethOk T cl m f) (hc : T.cls[cl]? = some ⟨C, fl⟩) (hn : ms.length + 1 = n) (h : tP T W (mMeth cl mf mo ms) σ H Q) : tMethA C m (spF T n mf) (WE W) (tP T W mo) (tPR T W ms) σ H Q := by
  obtain ⟨S, B, env, mss, R, q⟩ := h
  refine ⟨S, B, env, mss, R, ?_⟩
  cases hm : mo env with
  | ok r =>
    simp only [mMeth, hm] at q
    intro S1 B1 H1 v g1 f1
    have R1 := R.grow g1
    have rd := ros_unfz (R1.bs.trans R1.sh) (f1.read R1)
    cases hu : unfz r.d with
    | obj c' ds =>
      simp only [hu] at q
      split at q
      · rename_i hcc
        subst hcc
        rw [hu] at rd
        obtain ⟨a, C', dx, fl', ws, rfl, h1, hc', hl, _⟩ := ros_obj rd
        obtain ⟨C2, fl2, hc2, hnf, k1, k2⟩ := M.ex
        rw [hc] at hc'; cases hc'
        rw [hc] at hc2; cases hc2
        refine ⟨a, dx, _, rfl, h1, lookup_none hnf, S1, B1, env, mss, R1, ?_⟩
        cases hs : mAs ms env with
        | ok rs =>
          simp only [hs] at q
          intro S2 B2 H2 vs g2 r2
          have R2 := R1.grow g2
          have f2 := (f1.grow R1 g2).read R2
          have hl : (V.ref a :: vs).length = n := by
            have l1 := r2.len
            have l2 := mAs_len hs
            rw [List.length_cons, ← l1, List.length_map, l2, hn]
          exact call_pure R2 (ros_cons f2 r2) hl (q.grow (g1.trans g2))
        | ex x => simp only [hs] at q; exact fun S2 B2 H2 cls d g2 ef => q S2 B2 H2 cls d (g1.trans g2) ef
        | er => simp only [hs] at q; exact q.elim
      · exact q.elim
    | _ => simp only [hu] at q; exact q.elim
  | ex x => simp only [mMeth, hm] at q; exact q
  | er => simp only [mMeth, hm] at q; exact q
theorem ep_meth (hK : X.K = T.K) (M : MethOk T cl m f) (F : FnOk X.prog X.w X.K X.mg X.base (L2.CX X.prog X.w) k f fd ps (spF T n mf)) (hr : Room k X.A) (hb : Binds X.K fd ps []) (tk : Takes X W) (ho : PE X o (tP T W mo)) (ha : PA X (e :: es) (tPR T W ms)) (hn : ms.length + 1 = n := by rfl)
    {pl : Sem Bool} (h1 : starEach (e :: es) X.env = (false, eval e X.env) :: starEach es X.env := by rfl) (h2 : (backTo pos (starEach es X.env)).any (·.1) = false := by rfl)
    (h3 : eval (.Call (.Attribute o m apos) (e :: es) [] pos) X.env = (do
      let z ← eval o X.env
      standAt apos.atName
      let (g, first) ← holding [z] (getMethod z m pl)
      callWith pos g first (backTo pos (starEach (e :: es) X.env)) (backToKw pos (keywordEach [] X.env))) := by rfl) :
    PE X (.Call (.Attribute o m apos) (e :: es) [] pos) (tP T W (mMeth cl mf mo ms)) := by
  obtain ⟨C, fl, hc, hnf, k1, k2⟩ := M.ex
  exact pe_of (pe_methA (C := C) (f := f) (pl := pl) ho (hK ▸ k1) (hK ▸ k2) F hr hb (fun σ => passAt tk σ) ha h1 h2 h3) fun σ H Q h => i_methP M hc hn h
theorem ep_meth0 (hK : X.K = T.K) (M : MethOk T cl m f) (F : FnOk X.prog X.w X.K X.mg X.base (L2.CX X.prog X.w) k f fd ps (spF T n mf)) (hr : Room k X.A) (hb : Binds X.K fd ps []) (tk : Takes X W) (ho : PE X o (tP T W mo)) (hn : 1 = n := by rfl)
    {pl : Sem Bool} (h3 : eval (.Call (.Attribute o m apos) [] [] pos) X.env = (do
      let z ← eval o X.env
      standAt apos.atName
      let (g, first) ← holding [z] (getMethod z m pl)
      callWith pos g first (backTo pos (starEach [] X.env)) (backToKw pos (keywordEach [] X.env))) := by rfl) :
    PE X (.Call (.Attribute o m apos) [] [] pos) (tP T W (mMeth cl mf mo [])) := by
  obtain ⟨C, fl, hc, hnf, k1, k2⟩ := M.ex
  refine pe_of (pe_methA0 (C := C) (f := f) (pl := pl) ho (hK ▸ k1) (hK ▸ k2) F hr hb (fun σ => passAt tk σ) h3) fun σ H Q h => ?_
  have z := i_methP (Q := Q) (ms := []) (n := n) M hc hn h
  exact tC1_imp (c := .rd mo) z fun v H1 ⟨b, ex, gs, h1, h2, h3, S, B, env, mss, R, q⟩ => ⟨b, ex, gs, h1, h2, h3, q S B H1 [] R.gr .nil⟩
/-- the object's class chooses -/
@[simp] def mSel (c : Nat) (mo m1 m2 : ME) : ME := fun env => match mo env with
  | .ok r => match unfz r.d with
    | .obj c' _ => if c' = c then m1 env else m2 env
    | _ => m2 env
  | _ => m2 env
@[simp] def eSel (c : Nat) (ch : CA) (m1 m2 : EE) : EE := fun env => match aCA [ch] env with
  | .ok hv => if hdIs c hv env = true then m1 env else m2 env
  | _ => m2 env
structure MakeOk (T : Tab) (c : Nat) (C f : Addr) : Prop where
  ex : ∃ fl, T.cls[c]? = some ⟨C, fl⟩ ∧ Mk T.K C f
end
section
variable {X : Cx} {CX : CXT} {k : Nat} {f C : Addr} {fd : FuncData} {ps : List Str} {sp : Sp} {E : L2.St → XK} {x : Str} {p pos : Pos} {e : Expr} {es : List Expr} {t : TA}
theorem run_makeA {pins : List (Addr × Obj)} {σ : L2.St} {H : Hp} {s : Shared} {Q : VK} {us : List Value} {ws : List V} (M : Mk X.K C f) (F : FnOk X.prog X.w X.K X.mg X.base CX k f fd ps sp) (hr : Room (k + 1) X.A) (hb : Binds X.K fd ps []) (hx : PassesAt CX X σ (E σ)) (J : Inv X pins σ H s) (rv : Vals ws us)
    (h : ∀ a dx, H a = none → H dx = none → dx ≠ a → sp (.ref a :: ws) (upd (upd H dx (.own a)) a (.ins C dx [])) (fun v H2 => v = .non ∧ Q (.ref a) H2) (E σ)) :
    wpAny (model X.prog X.w) X.A (call (.ref C) us) (EP X pins σ Q) X.xe s := by
  have sz := s.heap.objs.size
  have q := h (s.heap.objs.size + 1) s.heap.objs.size (J.hok.fresh (Nat.le_succ _)) (J.hok.fresh (Nat.le_refl _)) (Nat.ne_of_lt (Nat.lt_succ_self _))
  have J2 := Inv.made (C := C) J
  have r2 : Vals (V.ref (s.heap.objs.size + 1) :: ws) (Value.ref (s.heap.objs.size + 1) :: us) := .cons rfl rv
  have ln : (Value.ref (s.heap.objs.size + 1) :: us ++ []).length = ps.length := by
    rw [List.append_nil, ← r2.length]
    exact F.len _ _ _ _ q
  have bb := hb _ (Value.ref (s.heap.objs.size + 1) :: us) J2.kIn ln
  rw [List.append_nil] at bb
  refine wpAny_call (make_map (f := f) J.kIn M.makes M.init (beq_iff_eq.mp M.fn) (codeAny_mono (F.run _ X.stack _ _ ⟨Value.ref (s.heap.objs.size + 1) :: us, []⟩ _ _ _ (E σ) (hr.make C us []) (J2.env0.make C us []) bb r2 q) fun r s' z => ?_))
  cases r with
  | error er => exact hx pins _ _ er s' J2 z
  | ok fl =>
    cases fl with
    | ret u =>
      obtain ⟨v, Hn, J3, rv3, ev, q3⟩ := J2.after z
      subst ev
      exact ⟨rv3, V.ref (s.heap.objs.size + 1), Hn, J3, rfl, q3⟩
    | next => exact z.elim
    | brk => exact z.elim
    | cont => exact z.elim
def tMakeA (C : Addr) (sp : Sp) (E : L2.St → XK) (t : TA) : TE := fun σ H Q => t σ H fun ws H1 => ∀ a dx, H1 a = none → H1 dx = none → dx ≠ a → sp (.ref a :: ws) (upd (upd H1 dx (.own a)) a (.ins C dx [])) (fun v H2 => v = .non ∧ Q (.ref a) H2) (E σ)
theorem pe_makeA (M : Mk X.K C f) (F : FnOk X.prog X.w X.K X.mg X.base CX k f fd ps sp) (hr : Room (k + 1) X.A) (hg : Gl X x) (hm : X.mg x = some (.ref C)) (hb : Binds X.K fd ps []) (hx : ∀ σ, PassesAt CX X σ (E σ)) (ha : PA X (e :: es) t)
    (h0 : (x == ("__debug__" : Str)) = false := by decide) (h1 : starEach (e :: es) X.env = (false, eval e X.env) :: starEach es X.env := by rfl) (h2 : (backTo pos (starEach es X.env)).any (·.1) = false := by rfl) :
    PE X (.Call (.Name x p) (e :: es) [] pos) (tMakeA C sp E t) :=
  ⟨fun pins s σ H Q J h => wpAny_Call_Name_kw (ld_glob J hg hm (PySem.W.callWith_K (h₀ := X.base) J.ok.mod.kin M.kp (thn (ha.run pos pins s σ H _ J h) fun us s1 ⟨ws, H1, J1, r, q⟩ => ⟨J1.kIn, run_makeA M F hr hb (hx σ) J1 r q⟩) h1 h2) h0)⟩
end
section
variable {X : Cx} {T : Tab} {W : WX} {e o : Expr} {es : List Expr} {S B H S' B' H' H0 S0 B0 S1 B1 H1 : Hp} {mss : List Cells} {σ : L2.St} {env : En} {vs : List V} {mo : ME} {ms : List ME} {mf : List Slot → FR} {n k cl : Nat} {pos apos p : Pos} {m x : Str} {f C : Addr} {fd : FuncData} {ps : List Str}
/-- C(..): self is handed over empty, what it has become is the answer -/
@[simp] def mkR : FR → Rz Rs
  | .ok (.im .non) (some (.own d) :: _) => .ok (.own d)
  | .ok _ _ => .er
  | .ex x _ => .ex x
  | .er => .er
@[simp] def mMake (c : Nat) (mf : List Slot → FR) (ms : List ME) : ME := fun env => match mAs ms env with
  | .ok rs => mkR (mf (.own (.obj c []) :: (rs.map Rs.d).map Slot.ro))
  | .ex x => .ex x
  | .er => .er
theorem i_make {Q : VK} {σ : L2.St} {H : Hp} (M : MakeOk T cl C f) (hn : ms.length + 1 = n) (h : tP T W (mMake cl mf ms) σ H Q) : tMakeA C (spF T n mf) (WE W) (tPR T W ms) σ H Q := by
  obtain ⟨S, B, env, mss, R, q⟩ := h
  obtain ⟨fl, hc, _⟩ := M.ex
  refine ⟨S, B, env, mss, R, ?_⟩
  cases hs : mAs ms env with
  | ok rs =>
    simp only [mMake, hs] at q
    intro S1 B1 H1 vs g1 r1 a dx na nd ne
    have R1 := R.grow g1
    have bh := R1.bs.trans R1.sh
    have hl : (V.ref a :: vs).length = n := by
      have l1 := r1.len
      have l2 := mAs_len hs
      rw [List.length_cons, ← l1, List.length_map, l2, hn]
    have sH : Same H1 (upd (upd H1 dx (.own a)) a (.ins C dx [])) := fun b u h => by
      rw [upd_ne (ne_of_none h na), upd_ne (ne_of_none h nd)]; exact h
    have R0 : SRx T (nT T H1) B1 (((rs.map Rs.d).map Slot.ro).map some) (vs.map fun _ => []) (vs.map some) (upd (upd H1 dx (.own a)) a (.ins C dx [])) := by
      have z := srx_ros (T := T) R1.bs R1.sh R1.tb R1.tc r1
      exact ⟨z.bs, nT_le.trans sH, z.l1, z.l2, z.at_, fun i m hi => by
        simp only [List.getElem?_map, Option.map_eq_some_iff] at hi
        obtain ⟨_, _, rfl⟩ := hi
        exact cells_nil, z.ap, fun p hp => ⟨let ⟨ps, h, _⟩ := (R1.tb p hp).1; ⟨ps, sH _ _ h, trivial⟩, nT_off hp⟩, fun p hp => (R1.tc p hp).mono (Same.refl _) fun ps h => sH _ _ h⟩
    have Rc : SRx T (nT T H1) B1 ((Slot.own (.obj cl []) :: (rs.map Rs.d).map Slot.ro).map some) ([(a, .ins C dx [])] :: vs.map fun _ => []) ((V.ref a :: vs).map some) (upd (upd H1 dx (.own a)) a (.ins C dx [])) := by
      have own : Owns T B1 [.obj cl []] [.ref a] [(a, .ins C dx [])] := by
        have := Owns.obj (a := a) (dx := dx) (ws := []) hc (Nat.zero_le _) (Owns.nil (T := T) (B := B1)) (Owns.nil (T := T) (B := B1))
        simpa using this
      refine ⟨R0.bs, R0.sh, by have := r1.len; simp at this; simp [this], by simp, fun i e s m h1 h2 h3 => ?_, fun i m h => ?_, fun i j m m' hij h1 h2 => ?_, R0.tb, R0.tc⟩
      · cases i with
        | zero => simp at h1 h2 h3; subst h1 h2 h3; exact own
        | succ i => exact R0.at_ i e s m (by simpa using h1) (by simpa using h2) (by simpa using h3)
      · cases i with
        | zero =>
          simp at h; subst h
          exact ⟨by simp, fun c hc => by
            have : c = (a, .ins C dx []) := by simpa using hc
            subst this
            exact ⟨upd_same, nT_none na⟩⟩
        | succ i => exact R0.ok i m (by simpa using h)
      · cases i with
        | zero =>
          cases j with
          | zero => exact absurd rfl hij
          | succ j =>
            have h2 : (vs.map fun _ => ([] : Cells))[j]? = some m' := by simpa using h2
            simp only [List.getElem?_map, Option.map_eq_some_iff] at h2
            obtain ⟨_, _, rfl⟩ := h2
            exact apart_nil
        | succ i =>
          have h1 : (vs.map fun _ => ([] : Cells))[i]? = some m := by simpa using h1
          simp only [List.getElem?_map, Option.map_eq_some_iff] at h1
          obtain ⟨_, _, rfl⟩ := h1
          exact nil_apart
    refine ⟨hl, nT T H1, B1, _, _, Rc, ?_⟩
    have g2 : ∀ {S' B' H' : Hp}, Gw (nT T H1) B1 S' B' → Same B' S' → Same S' H' → TbOk T S' H' → TcOk T B' H' → Gr T.tbs S1 B1 H1 (Jn S1 B') B' H' := fun gw b2 s2 t2 c2 => gr_pure R1.bs R1.sh R1.tb gw b2 s2 t2 c2
    cases hz : mf (.own (.obj cl []) :: (rs.map Rs.d).map Slot.ro) with
    | ok d as =>
      rw [hz] at q
      intro S' B' H' v m' mss' gw R' o c _
      match d, as, q, o, R' with
      | .im .non, some (.own d') :: as, q, o, R' =>
        cases mss' with
        | nil => have := R'.l2; simp at this
        | cons m0 mss' =>
          refine ⟨own_im o, q _ _ _ _ (g1.trans (g2 gw R'.bs R'.sh R'.tb R'.tc)) ((own_pure R1.sh R1.tb R'.tb gw.s (R'.at_ 0 _ _ m0 rfl rfl rfl) (R'.ok 0 m0 rfl) R'.bs).back g1.h)⟩
    | ex x as =>
      rw [hz] at q
      intro S' B' H' mss' cls dd gw R' ef
      exact q _ _ _ _ _ (g1.trans (g2 gw R'.bs R'.sh R'.tb R'.tc)) ef
    | er => rw [hz] at q; exact q.elim
  | ex x => simp only [mMake, hs] at q; exact q
  | er => simp only [mMake, hs] at q; exact q
theorem ep_make (hK : X.K = T.K) (M : MakeOk T cl C f) (F : FnOk X.prog X.w X.K X.mg X.base (L2.CX X.prog X.w) k f fd ps (spF T n mf)) (hr : Room (k + 1) X.A) (hg : Gl X x) (hm : X.mg x = some (.ref C)) (hb : Binds X.K fd ps []) (tk : Takes X W) (ha : PA X (e :: es) (tPR T W ms)) (hn : ms.length + 1 = n := by rfl)
    (h0 : (x == ("__debug__" : Str)) = false := by decide) (h1 : starEach (e :: es) X.env = (false, eval e X.env) :: starEach es X.env := by rfl) (h2 : (backTo pos (starEach es X.env)).any (·.1) = false := by rfl) :
    PE X (.Call (.Name x p) (e :: es) [] pos) (tP T W (mMake cl mf ms)) := by
  obtain ⟨fl, hc, mk⟩ := M.ex
  exact pe_of (pe_makeA (hK ▸ mk) F hr hg hm hb (fun σ => passAt tk σ) ha h0 h1 h2) fun σ H Q h => i_make M hn h
def fldT (tb : List (Nat × Nat)) : D → Option D
  | .obj c ds => match tb.lookup c with
    | some k => ds[k]?
    | none => none
  | _ => none
def FldT (T : Tab) (tb : List (Nat × Nat)) (f : Str) : Prop := ∀ c k, tb.lookup c = some k → FldOk T c k f
theorem fldT_nil {f : Str} : FldT T [] f := fun c k h => by cases h
theorem fldT_cons {c k : Nat} {tb : List (Nat × Nat)} {f : Str} (h : FldOk T c k f) (t : FldT T tb f) : FldT T ((c, k) :: tb) f := fun c' k' h' => by
  rw [List.lookup_cons] at h'
  split at h'
  · rename_i e; cases h'; rw [beq_iff_eq.mp e]; exact h
  · exact t c' k' h'
theorem acc_fldT {tb : List (Nat × Nat)} {f : Str} (F : FldT T tb f) : Acc T (fldT tb) (fun H v u => ∃ a C dx fs, v = .ref a ∧ H a = some (.ins C dx fs) ∧ Cls T.K C ∧ NoAttr T.K C f ∧ fs.lookup f = some u) := by
  intro B S H d v x s b r h
  unfold fldT at h
  split at h
  · rename_i c ds
    split at h
    · rename_i k hk
      exact acc_fld (F c k hk) B S H (.obj c ds) v x s b r (by simp [fldG, h])
    · cases h
  · cases h
@[simp] def mFd (tb : List (Nat × Nat)) (ma : ME) : ME := fun env => match ma env with
  | .ok ra => subR ra (fldT tb)
  | .ex x => .ex x
  | .er => .er
theorem ep_fd {tb : List (Nat × Nat)} {ma : ME} {g : Str} (hK : X.K = T.K) (F : FldT T tb g) (ha : PE X o (tP T W ma)) (hb : attributeBase o g X.env (eval o X.env) = eval o X.env := by rfl) : PE X (.Attribute o g pos) (tP T W (mFd tb ma)) := by
  refine pe_of (pe_fld ha hb) fun σ H Q ⟨S, B, env, mss, R, q⟩ => ⟨S, B, env, mss, R, ?_⟩
  cases ha : ma env with
  | ok ra =>
    intro S1 B1 H1 v g1 f1
    simp only [mFd, ha] at q
    have R1 := R.grow g1
    cases hs : subR ra (fldT tb) with
    | ok r' =>
      rw [hs] at q
      obtain ⟨u, hu, a, C, dx, fs, rfl, h1, h2, h3, h4⟩ := subR_ok (acc_fldT F) R1 f1 hs
      exact ⟨a, C, dx, fs, u, rfl, h1, hK ▸ h2, hK ▸ h3, h4, q S1 B1 H1 u g1 hu⟩
    | ex x => exact absurd hs subR_ex
    | er => rw [hs] at q; exact q.elim
  | ex x => simp only [mFd, ha] at q; exact q
  | er => simp only [mFd, ha] at q; exact q
@[simp] def lFd (tb : List (Nat × Nat)) (ml : ML) : ML := fun env => match ml env with
  | .ok i p => match atP i p env with
    | some (.obj c ds) => match tb.lookup c with
      | some k => if k < ds.length then .ok i (p ++ [k]) else .er
      | none => .er
    | _ => .er
  | .ex x => .ex x
  | .er => .er
theorem el_fd {tb : List (Nat × Nat)} {ml : ML} {g : Str} (hK : X.K = T.K) (F : FldT T tb g) (ha : PE X o (tL T W ml)) (hb : attributeBase o g X.env (eval o X.env) = eval o X.env := by rfl) : PE X (.Attribute o g pos) (tL T W (lFd tb ml)) := by
  refine pe_of (pe_fld ha hb) fun σ H Q ⟨S, B, env, mss, R, q⟩ => ⟨S, B, env, mss, R, ?_⟩
  unfold lFd at q
  cases hm : ml env with
  | ok i p =>
    simp only [hm] at q
    intro S' B' H' v u g' hv hu
    have R' := R.grow g'
    cases hx : atP i p env with
    | none => simp only [hx] at q; exact q.elim
    | some x =>
      simp only [hx] at q
      cases x with
      | obj c ds =>
        simp only at q
        split at q
        · rename_i k hk
          split at q
          · rename_i hlt
            obtain ⟨v', u', mx, e1, e2, own, ok⟩ := R'.place hx
            rw [hv] at e1; cases e1
            rw [hu] at e2; cases e2
            cases own with
            | @obj a _ C dx fl ws xs _ _ m _ hcl hl q' r =>
              cases r
              obtain ⟨C', fl', hc', hfk, nd, cl, na, _⟩ := (F c k hk).ex
              rw [hcl] at hc'; cases hc'
              have hws : k < ws.length := by rw [← q'.len]; exact hlt
              have ha := (ok.2 _ List.mem_cons_self).1
              refine ⟨a, C, dx, _, ws[k], rfl, ha, hK ▸ cl, hK ▸ na, lookup_zip nd hfk (List.getElem?_eq_getElem hws), ?_⟩
              refine q S' B' H' v _ g' hv (valP_app hu ?_)
              simp only [valP, childV]
              rw [ha]
              simp only
              rw [zip_snd hl (List.getElem?_eq_getElem hws)]
          · exact q.elim
        · exact q.elim
      | _ => exact q.elim
  | ex x => simp only [hm] at q; exact q
  | er => simp only [hm] at q; exact q
theorem own_set {d : D} {v : V} {me : Cells} (oe : Owns T B [d] [v] me) (ke : CellsOk S H me) : ∀ {ds : List D} {vs : List V} {ms : Cells} {j : Nat}, Owns T B ds vs ms → j < ds.length → CellsOk S H ms → Apart ms me → ∃ m', Owns T B (ds.set j d) (vs.set j v) m' ∧ (m'.map (·.1)).Nodup ∧ (∀ c ∈ m', c ∈ ms ∨ c ∈ me) := by
  intro ds
  induction ds with
  | nil => intro vs ms j o h; simp at h
  | cons y ys ih =>
    intro vs ms j o hl ok ap
    obtain ⟨v', us', p1, p2, rfl, rfl, w1, w2⟩ := owns_uncons o
    obtain ⟨c1, c2, c12⟩ := cells_split ok
    have ap2 : Apart p2 me := fun c hc => ap c (List.mem_append_right _ hc)
    cases j with
    | zero =>
      refine ⟨me ++ p2, by simpa using owns_cons oe w2, (cells_append ke c2 (apart_symm ap2)).1, fun c hc => ?_⟩
      rcases List.mem_append.mp hc with hc | hc
      · exact .inr hc
      · exact .inl (List.mem_append_right _ hc)
    | succ j =>
      obtain ⟨m', w3, w4, w5⟩ := ih w2 (j := j) (by simpa using hl) c2 ap2
      refine ⟨p1 ++ m', by simpa using owns_cons w1 w3, ?_, fun c hc => ?_⟩
      · rw [List.map_append, List.nodup_append]
        refine ⟨c1.1, w4, fun x hx y hy => ?_⟩
        obtain ⟨c, hc, rfl⟩ := List.mem_map.mp hx
        obtain ⟨e, he, rfl⟩ := List.mem_map.mp hy
        rcases w5 e he with he | he
        · exact c12 c hc e he
        · exact ap c (List.mem_append_left _ hc) e he
      · rcases List.mem_append.mp hc with hc | hc
        · exact .inl (List.mem_append_left _ hc)
        · exact (w5 c hc).imp (List.mem_append_right _) id
theorem putF_zip {fl : List Str} {ws : List V} {k : Nat} {g : Str} {y : V} (nd : fl.Nodup) (hk : fl[k]? = some g) (hl : k ≤ ws.length) : putF g y (fl.zip ws) = fl.zip (if k < ws.length then ws.set k y else ws ++ [y]) := by
  induction fl generalizing ws k with
  | nil => simp at hk
  | cons h fl ih =>
    cases k with
    | zero =>
      have : h = g := by simpa using hk
      subst this
      cases ws with
      | nil => simp [putF]
      | cons w ws => simp [putF]
    | succ k =>
      have hk' : fl[k]? = some g := by simpa using hk
      cases ws with
      | nil => simp at hl
      | cons w ws =>
        have hne : ¬ h = g := fun z => (List.nodup_cons.mp nd).1 (z ▸ List.mem_of_getElem? hk')
        rw [List.zip_cons_cons]
        simp only [putF, if_neg hne]
        rw [ih (List.nodup_cons.mp nd).2 hk' (by simpa using hl)]
        have : (k + 1 < (w :: ws).length) = (k < ws.length) := by simp
        simp only [this]
        split <;> simp
def opFd (tb : List (Nat × Nat)) : D → List D → Option (D × D)
  | .obj c ds, [d] => match tb.lookup c with
    | some k => if k < ds.length then some (.obj c (ds.set k d), .im .non) else if k = ds.length then some (.obj c (ds ++ [d]), .im .non) else none
    | none => none
  | _, _ => none
def rFd (K : PySem.W.Frag) (g : Str) : V → List V → Hp → VK → Prop := fun u vs H Q => match vs with
  | [y] => ∃ a C dx fs, u = .ref a ∧ H a = some (.ins C dx fs) ∧ Cls K C ∧ NoAttr K C g ∧ fs.length < 1000 ∧ Q .non (upd H a (.ins C dx (putF g y fs)))
  | _ => False
theorem mut_obj {a : Addr} {o1 o2 : HO} {x' : D} {m me m' : Cells} (ok : CellsOk S H ((a, o1) :: m)) (ap : Apart ((a, o1) :: m) me) (o : Owns T B [x'] [.ref a] ((a, o2) :: m')) (nd : (m'.map (·.1)).Nodup) (s1 : ∀ c ∈ m', c ∈ m ∨ c ∈ me) :
    ∃ a' o' mx' w mr, (∃ o0, (a', o0) ∈ (a, o1) :: m) ∧ Owns T B [x'] [.ref a] mx' ∧ Owns T B [.im .non] [w] mr ∧ ((mx' ++ mr).map (·.1)).Nodup ∧ (∀ c ∈ mx', c = (a', o') ∨ (c.1 ≠ a' ∧ (c ∈ (a, o1) :: m ∨ c ∈ me))) ∧ (∀ c ∈ mr, c.1 ≠ a' ∧ (c ∈ (a, o1) :: m ∨ c ∈ me)) ∧ a' = a ∧ o' = o2 ∧ w = .non := by
  have na : ∀ c, (c ∈ m ∨ c ∈ me) → c.1 ≠ a := fun c hc z => by
    rcases hc with hc | hc
    · have := ok.1
      rw [List.map_cons, List.nodup_cons] at this
      exact this.1 (List.mem_map.mpr ⟨c, hc, z⟩)
    · exact ap _ List.mem_cons_self c hc z.symm
  refine ⟨a, o2, _, .non, [], ⟨o1, List.mem_cons_self⟩, o, own_non, ?_, fun c hc => ?_, (fun _ h => nomatch h), rfl, rfl, rfl⟩
  · rw [List.append_nil, List.map_cons, List.nodup_cons]
    refine ⟨fun h => ?_, nd⟩
    obtain ⟨c, hc, e⟩ := List.mem_map.mp h
    exact na c (s1 c hc) e
  · rcases List.mem_cons.mp hc with rfl | hc
    · exact .inl rfl
    · exact .inr ⟨na c (s1 c hc), (s1 c hc).imp (List.mem_cons_of_mem _) id⟩
theorem mu_fd {tb : List (Nat × Nat)} {g : Str} (F : FldT T tb g) : MutS T (opFd tb) (rFd T.K g) := by
  intro B S H x u mx ds vs me x' res ox okx od oke ap bh h
  unfold opFd at h
  split at h
  · rename_i c xs d
    split at h
    · rename_i k hk
      obtain ⟨C', fl', hc', hfk, nd, cl, na, hlen⟩ := (F c k hk).ex
      cases ox with
      | @obj a _ C dx fl ws _ _ _ m _ hcl hl q r =>
        cases r
        rw [List.append_nil] at *
        rw [hcl] at hc'; cases hc'
        obtain ⟨v, us, n1, n2, rfl, rfl, o1, o2⟩ := owns_uncons od
        cases o2
        rw [List.append_nil] at *
        have okm : CellsOk S H m := ⟨(List.nodup_cons.mp (by simpa using okx.1)).2, fun c hc => okx.2 c (List.mem_cons_of_mem _ hc)⟩
        have apm : Apart m n1 := fun c hc => ap c (List.mem_cons_of_mem _ hc)
        have hx := (okx.2 _ List.mem_cons_self).1
        have ll := q.len
        have hz : (fl'.zip ws).length < 1000 := by rw [List.length_zip]; omega
        have hkf : k < fl'.length := (List.getElem?_eq_some_iff.mp hfk).1
        have fin : ∀ (xs' : List D) (ws' : List V) (m' : Cells), Owns T B xs' ws' m' → ws'.length ≤ fl'.length → (m'.map (·.1)).Nodup → (∀ c ∈ m', c ∈ m ∨ c ∈ n1) → putF g v (fl'.zip ws) = fl'.zip ws' → x' = .obj c xs' → res = .im .non →
            ∃ a' o' mx' w mr, (∃ o0, (a', o0) ∈ (a, HO.ins C' dx (fl'.zip ws)) :: m) ∧ Owns T B [x'] [.ref a] mx' ∧ Owns T B [res] [w] mr ∧ ((mx' ++ mr).map (·.1)).Nodup ∧ (∀ c ∈ mx', c = (a', o') ∨ (c.1 ≠ a' ∧ (c ∈ (a, HO.ins C' dx (fl'.zip ws)) :: m ∨ c ∈ n1))) ∧ (∀ c ∈ mr, c.1 ≠ a' ∧ (c ∈ (a, HO.ins C' dx (fl'.zip ws)) :: m ∨ c ∈ n1)) ∧ ∀ Q : VK, Q w (upd H a' o') → rFd T.K g (.ref a) [v] H Q := by
          intro xs' ws' m' o' hlw ndm sub hp ex er
          subst ex er
          have own' : Owns T B [.obj c xs'] [.ref a] ((a, .ins C' dx (fl'.zip ws')) :: m') := by
            have := Owns.obj (a := a) (dx := dx) hcl hlw o' (Owns.nil (T := T) (B := B))
            simpa using this
          obtain ⟨a', o2, mx', w, mr, z1, z2, z3, z4, z5, z6, rfl, rfl, rfl⟩ := mut_obj okx ap own' ndm sub
          exact ⟨_, _, mx', _, mr, z1, z2, z3, z4, z5, z6, fun Q kq => ⟨a', C', dx, _, rfl, hx, cl, na, hz, by rw [hp]; exact kq⟩⟩
        split at h
        · rename_i hlt
          simp only [Option.some.injEq, Prod.mk.injEq] at h
          obtain ⟨rfl, rfl⟩ := h
          obtain ⟨m', w1, w2, w3⟩ := own_set o1 oke q hlt okm apm
          exact fin _ _ m' w1 (by rw [List.length_set]; exact hl) w2 w3 (by rw [putF_zip nd hfk (by omega), if_pos (by omega)]) rfl rfl
        · split at h
          · rename_i hkl
            simp only [Option.some.injEq, Prod.mk.injEq] at h
            obtain ⟨rfl, rfl⟩ := h
            exact fin _ _ (m ++ n1) (owns_app q o1) (by rw [List.length_append]; simp; omega) (cells_append okm oke apm).1 (fun c hc => List.mem_append.mp hc) (by rw [putF_zip nd hfk (by omega), if_neg (by omega)]) rfl rfl
          · cases h
    · cases h
  · cases h
/-- o.f = e -/
@[simp] def sSto (op : D → List D → Option (D × D)) (me : EE) (ml : ML) : MS := fun env => match me env with
  | .ok (.own dv) env => match ml env with
    | .ok i p => match env[i]? with
      | some (some (.own d)) => match getP p d with
        | some x => match op x [dv] with
          | some (x', _) => .nx (env.set i (some (.own (setP p d x'))))
          | none => .er
        | none => .er
      | _ => .er
    | .ex x => .ex x env
    | .er => .er
  | .ex x env => .ex x env
  | _ => .er
def tSto (r : V → List V → Hp → VK → Prop) (te to : TE) : TS := fun D σ H => te σ H fun y H1 => to σ H1 fun x H2 => r x [y] H2 fun _ H3 => D.nx σ H3
theorem ss_sto {st : Stmt} {pin : Pins} {σ0 : L2.St} {op : D → List D → Option (D × D)} {r : V → List V → Hp → VK → Prop} {me : EE} {ml : ML} (M : MutS T op r) (h : PS X st (tSto r (tE T W me) (tL T W ml))) : PS X st (tS T W pin σ0 (sSto op me ml)) := by
  refine ps_of h fun De σ H ⟨S, B, env, mss, R, hp, q⟩ => ⟨S, B, env, mss, R, ?_⟩
  cases hm : me env with
  | ok rv env1 =>
    intro S1 B1 H1 mss1 y g1 R1 f1
    simp only [sSto, hm] at q
    cases rv with
    | ro d => exact q.elim
    | bor i d => exact q.elim
    | own dv =>
      simp only at q
      obtain ⟨my, oy, oky, apy⟩ := f1
      refine ⟨S1, B1, env1, mss1, R1, ?_⟩
      cases hl : ml env1 with
      | ok i p =>
        simp only [hl] at q
        intro S2 B2 H2 v u g2 hv hu
        have R2 := R1.grow g2
        cases hd : env1[i]? with
        | none => simp only [hd] at q; exact q.elim
        | some o =>
        cases o with
        | none => simp only [hd] at q; exact q.elim
        | some o =>
        cases o with
        | ro d => simp only [hd] at q; exact q.elim
        | own d =>
          simp only [hd] at q
          cases hg : getP p d with
          | none => simp only [hg] at q; exact q.elim
          | some x =>
            simp only [hg] at q
            cases hop : op x [dv] with
            | none => simp only [hop] at q; exact q.elim
            | some xr =>
              obtain ⟨x', res⟩ := xr
              simp only [hop] at q
              exact mut_do M R2 hd hg hop (oy.mono g2.w.b) (oky.grow oy.nt g2.h g2.f) apy hv hu fun mss4 H4 w4 mr R4 _ _ _ => q S2 B2 mss4 σ H4 (g1.trans g2.w) R4 hp
      | ex x => simp only [hl] at q; exact fun S3 B3 H3 cls d g3 ef => q S3 B3 mss1 σ H3 cls d (g1.trans g3.w) (R1.grow g3) hp ef
      | er => simp only [hl] at q; exact q
  | ex x env1 => simp only [sSto, hm] at q; exact fun S' B' H' mss' cls d g R' ef => q S' B' mss' σ H' cls d g R' hp ef
  | er => simp only [sSto, hm] at q; exact q
theorem ps_fd {g : Str} {value : Expr} {p' : Pos} {te to : TE} (ho : PE X o to) (he : PE X value te) (hs : swapsWith value (some (.Attribute o g p')) pos.line X.env = pure false := by rfl) : PS X (.Assign [.Attribute o g p'] value pos) (tSto (rFd X.K g) te to) :=
  ps_of (ps_fld ho he hs) fun D σ H h => h
end
end Tr
namespace Tr
open PySem L2 PySem.Spec PyProof.Rows
section
variable {X : Cx} {T : Tab} {W : WX} {pin : Pins} {σ0 : L2.St} {e a b : Expr} {es : List Expr} {S B H S' B' H' : Hp} {env : En} {mss : List Cells} {σ : L2.St} {pos : Pos} {st : Stmt} {rest : List Stmt} {m n : MS}
/-- the state of the suite: the exception is x -/
def KX (T : Tab) (x : Exn) (cls : Value) (d : Option Addr) : Hp → Prop := fun S => ∃ C fl, T.exc[x.c]? = some ⟨C, fl⟩ ∧ cls = .ref C ∧ x.vs.length = fl.length ∧ x.vs.all imm = true ∧ (if fl.isEmpty = true then d = none else ∃ dd, d = some dd ∧ S dd = some (.xd (fl.zip x.vs)))
theorem KX.mono {x : Exn} {cls : Value} {d : Option Addr} : ∀ S S', Same S S' → KX T x cls d S → KX T x cls d S' := fun S S' s ⟨C, fl, h1, h2, h3, h4, h5⟩ => ⟨C, fl, h1, h2, h3, h4, by
  split
  · rename_i h; rw [if_pos h] at h5; exact h5
  · rename_i h; rw [if_neg h] at h5
    obtain ⟨dd, e, q⟩ := h5
    exact ⟨dd, e, s _ _ q⟩⟩
/-- slots j := e.f for one or several fields -/
@[simp] def exV (x : Exn) (k : Nat) : Option V := x.vs[k]?
/-- v = e.f -/
@[simp] def sExF (x : Exn) (c k iv : Nat) : MS := fun env => if x.c = c then (match exV x k with
  | some v => .nx (env.set iv (some (.own (.im v))))
  | none => .er) else .er
/-- v = (e.f, e.g) -/
@[simp] def sExT (x : Exn) (c k l iv : Nat) : MS := fun env => if x.c = c then (match exV x k, exV x l with
  | some v, some w => .nx (env.set iv (some (.own (.tup [.im v, .im w]))))
  | _, _ => .er) else .er
@[simp] def unE (ie : Nat) : SS → SS
  | .nx env => .nx (env.set ie none)
  | .bk env => .bk (env.set ie none)
  | .ct env => .ct (env.set ie none)
  | .rt d env => .rt d (env.set ie none)
  | _ => .er
abbrev HT1 := (Nat → Option Bool) × Option Nat × (Exn → MS)
@[simp] def pickX : List HT1 → Exn → MS
  | [], x, env => .ex x env
  | (sub, none, ms) :: r, x, env => match sub x.c with
    | some true => match ms x env with
      | .ex _ _ => .er
      | z => z
    | some false => pickX r x env
    | none => .er
  | (sub, some ie, ms) :: r, x, env => match sub x.c with
    | some true => unE ie (ms x (env.set ie none))
    | some false => pickX r x env
    | none => .er
@[simp] def sTryX (hs : List HT1) (m : MS) : MS := fun env => match m env with
  | .ex x env => pickX hs x env
  | z => z
end
end Tr
namespace Tr
open PySem L2 PySem.Spec PyProof.Rows
/-- the promise of such an __init__: fl the fields, in the order of the stores -/
def spXI (K : PySem.W.Frag) (fl : List Str) : Sp := fun vs H Q _ => ∃ (a C : Addr) (us : List V), vs = .ref a :: us ∧ us.length = fl.length ∧ OexC K C ∧ (∀ f ∈ fl, PySem.W.findIn K (.ref C) f = some none) ∧ H a = some (exo a C none) ∧
  ∀ d H', H d = none → d ≠ a → H' a = some (exo a C (some d)) → H' d = some (exd d (fl.reverse.zip us.reverse)) → (∀ b, b ≠ a → b ≠ d → H' b = H b) → Q .non H'
section
variable {P : Program} {w : World} {K : PySem.W.Frag} {mg : Str → Option Value} {base : Heap}
theorem xi1 {qual x1 p0 p1 : Str} {st : Stmt} {f : Addr} {fd : FuncData} {q1 q2 q3 q4 : Pos} (F : Fun K "__init__" qual st f fd) (Sc : FnScope [p0, p1] [p0, p1] (defScope st)) (hb : defBody st = [.Assign [.Attribute (.Name p0 q1) x1 q2] (.Name p1 q3) q4]) (v0 : Vis (defScope st) p0) (v1 : Vis (defScope st) p1)
    (d0 : (p0 == ("__debug__" : Str)) = false) (d1 : (p1 == ("__debug__" : Str)) = false) (c0 : (p0 == ("__classdict__" : Str)) = false) (c1 : (p1 == ("__classdict__" : Str)) = false) (hs : ∀ env, swapsWith (.Name p1 q3) (some (.Attribute (.Name p0 q1) x1 q2)) q4.line env = pure false) :
    FnOk P w K mg base CX0 1 f fd [p0, p1] (spXI K [x1]) := by
  refine F.ok Sc (fun vs H Q E h => ?_) (fun cdv A outer s H vs Q E hr h => ?_)
  · obtain ⟨a, C, us, rfl, hl, _⟩ := h
    simp only [List.length_cons, hl, List.length_nil]
  · obtain ⟨a, C, us, rfl, hl, T, hno, ha, k⟩ := h
    match us, hl with
    | [v], _ =>
      rw [hb]
      refine ⟨_, pss_one (ps_ost (pv 0 rfl v0 d0 c0) (pv 1 rfl v1 d1 c1) (hs _)), ?_⟩
      refine ⟨v, rfl, .ref a, rfl, a, C, rfl, T, hno x1 List.mem_cons_self, .inl ⟨ha, fun dx nd ne => ?_⟩⟩
      exact k dx _ nd ne upd_same (by rw [upd_ne ne, upd_same]; rfl) fun b n1 n2 => by rw [upd_ne n1, upd_ne n2]
theorem xi2 {qual x1 x2 p0 p1 p2 : Str} {st : Stmt} {f : Addr} {fd : FuncData} {q1 q2 q3 q4 r1 r2 r3 r4 : Pos} (F : Fun K "__init__" qual st f fd) (Sc : FnScope [p0, p1, p2] [p0, p1, p2] (defScope st)) (hb : defBody st = [.Assign [.Attribute (.Name p0 q1) x1 q2] (.Name p1 q3) q4, .Assign [.Attribute (.Name p0 r1) x2 r2] (.Name p2 r3) r4])
    (v0 : Vis (defScope st) p0) (v1 : Vis (defScope st) p1) (v2 : Vis (defScope st) p2) (d0 : (p0 == ("__debug__" : Str)) = false) (d1 : (p1 == ("__debug__" : Str)) = false) (d2 : (p2 == ("__debug__" : Str)) = false) (c0 : (p0 == ("__classdict__" : Str)) = false) (c1 : (p1 == ("__classdict__" : Str)) = false) (c2 : (p2 == ("__classdict__" : Str)) = false)
    (hs : ∀ env, swapsWith (.Name p1 q3) (some (.Attribute (.Name p0 q1) x1 q2)) q4.line env = pure false) (hs2 : ∀ env, swapsWith (.Name p2 r3) (some (.Attribute (.Name p0 r1) x2 r2)) r4.line env = pure false) :
    FnOk P w K mg base CX0 1 f fd [p0, p1, p2] (spXI K [x1, x2]) := by
  refine F.ok Sc (fun vs H Q E h => ?_) (fun cdv A outer s H vs Q E hr h => ?_)
  · obtain ⟨a, C, us, rfl, hl, _⟩ := h
    simp only [List.length_cons, hl, List.length_nil]
  · obtain ⟨a, C, us, rfl, hl, T, hno, ha, k⟩ := h
    match us, hl with
    | [v, v'], _ =>
      rw [hb]
      refine ⟨_, pss_cons (ps_ost (pv 0 rfl v0 d0 c0) (pv 1 rfl v1 d1 c1) (hs _)) (pss_one (ps_ost (pv 0 rfl v0 d0 c0) (pv 2 rfl v2 d2 c2) (hs2 _))), ?_⟩
      refine ⟨v, rfl, .ref a, rfl, a, C, rfl, T, hno x1 List.mem_cons_self, .inl ⟨ha, fun dx nd ne => ?_⟩⟩
      refine ⟨v', rfl, .ref a, rfl, a, C, rfl, T, hno x2 (by simp), .inr ⟨dx, [(x1, v)], upd_same, by rw [upd_ne ne, upd_same], (by simp : [(x1, v)].length ≤ 900), ?_⟩⟩
      refine k dx _ nd ne (by rw [upd_ne (Ne.symm ne), upd_same]) (by rw [upd_same]; rfl) fun b n1 n2 => by rw [upd_ne n2, upd_ne n1, upd_ne n2]
end
section
variable {X : Cx} {T : Tab} {W : WX} {pin : Pins} {σ0 : L2.St} {e : Expr} {es : List Expr} {pos p q : Pos} {x : Str} {C fI : Addr} {k : Nat} {fd : FuncData} {ps fl : List Str} {ms : List ME} {c : Nat}
def allIm : List D → Option (List V)
  | [] => some []
  | .im v :: ds => (allIm ds).map (v :: ·)
  | _ :: _ => none
theorem allIm_ros {B H : Hp} : ∀ {ds : List D} {ws vs : List V}, allIm ds = some ws → Ros T B H ds vs → vs = ws ∧ ws.all imm = true
  | [], ws, vs, h, r => by
    simp [allIm] at h; subst h
    exact ⟨ros_nil r, rfl⟩
  | .im v :: ds, ws, vs, h, r => by
    simp only [allIm, Option.map_eq_some_iff] at h
    obtain ⟨us, h, rfl⟩ := h
    obtain ⟨us', rfl, r, hi⟩ := ros_im r
    obtain ⟨rfl, h2⟩ := allIm_ros h r
    exact ⟨rfl, by simp [hi, h2]⟩
  | .lst _ :: _, _, _, h, _ => by simp [allIm] at h
  | .tup _ :: _, _, _, h, _ => by simp [allIm] at h
  | .dct _ _ :: _, _, _, h, _ => by simp [allIm] at h
  | .obj _ _ :: _, _, _, h, _ => by simp [allIm] at h
  | .fz _ :: _, _, _, h, _ => by simp [allIm] at h
  | .scr _ :: _, _, _, h, _ => by simp [allIm] at h
@[simp] def sRaiseX (c : Nat) (ms : List ME) : MS := fun env => match mAs ms env with
  | .ok rs => match allIm (rs.map Rs.d) with
    | some vs => .ex ⟨c, vs.reverse⟩ env
    | none => .er
  | .ex x => .ex x env
  | .er => .er
/-- what stands of the class; fl: its fields in the order of the stores -/
structure RaiseOk (T : Tab) (c : Nat) (C fI : Addr) (fl : List Str) : Prop where
  cls : T.exc[c]? = some ⟨C, fl.reverse⟩
  ox : OexC T.K C
  iC : PySem.W.findIn T.K (.ref C) "__init__" = some (some (.ref fI))
  tI : PySem.W.typeIn T.K (.ref fI) = some (.type "function")
  no : ∀ f ∈ fl, PySem.W.findIn T.K (.ref C) f = some none
  ne : fl ≠ []
  few : fl.length ≤ 1000
theorem ss_raiseX (hK : X.K = T.K) (hc : X.calm = true) (tk : Takes X W) (R0 : RaiseOk T c C fI fl) (F : FnOk X.prog X.w X.K X.mg X.base CX0 k fI fd ps (spXI T.K fl)) (hr : Room (k + 1) X.A) (hb : Binds X.K fd ps []) (hg : Gl X x) (hm : X.mg x = some (.ref C)) (ha : PA X (e :: es) (tPR T W ms)) (hn : ms.length = fl.length := by rfl)
    (h0 : (x == ("__debug__" : Str)) = false := by decide) (h1 : starEach (e :: es) X.env = (false, eval e X.env) :: starEach es X.env := by rfl) (h2 : (backTo p (starEach es X.env)).any (·.1) = false := by rfl) :
    PS X (.Raise (some (.Call (.Name x q) (e :: es) [] p)) none pos) (tS T W pin σ0 (sRaiseX c ms)) := by
  refine ps_of (ps_raise hc tk (pmk_oex (dvs := []) (hK ▸ R0.ox) (hK ▸ R0.iC) (hK ▸ R0.tI) F hr hb .nil (fun _ _ _ _ _ _ _ h => h.elim) hg hm ha h0 h1 h2)) fun D σ H ⟨S, B, env, mss, R, hp, q⟩ => ⟨S, B, env, mss, R, ?_⟩
  cases hs : mAs ms env with
  | ok rs =>
    simp only [sRaiseX, hs] at q
    intro S1 B1 H1 vs g1 r1
    have R1 := R.grow g1
    cases hi : allIm (rs.map Rs.d) with
    | none => simp only [hi] at q; exact q.elim
    | some ws =>
      simp only [hi] at q
      obtain ⟨rfl, him⟩ := allIm_ros hi r1
      have hl : vs.length = fl.length := by
        have l1 := r1.len
        have l2 := mAs_len hs
        rw [← l1, List.length_map, l2, hn]
      refine ⟨?_, fun a na => ?_⟩
      · rw [hl]; exact R0.few
      · rw [List.append_nil]
        refine ⟨a, C, vs, rfl, hl, R0.ox, R0.no, upd_same, fun d H' nd ne e1 e2 e3 => ?_⟩
        rw [upd_ne ne] at nd
        refine ⟨rfl, d, _, e1, e2, nd, ?_⟩
        have eH : upd (del H' a) d (.xd (fl.reverse.zip vs.reverse)) = upd H1 d (.xd (fl.reverse.zip vs.reverse)) := by
          funext b
          by_cases hbd : b = d
          · rw [hbd, upd_same, upd_same]
          · rw [upd_ne hbd, upd_ne hbd]
            by_cases hba : b = a
            · rw [hba, del_same, na]
            · rw [del_ne hba, e3 b hba hbd, upd_ne hba]
        rw [eH]
        have gr := Gr.own (L := T.tbs) (o := .xd (fl.reverse.zip vs.reverse)) R1.bs R1.sh nd
        refine q S1 B1 mss σ _ (.ref C) (some d) (g1.w.trans gr.w) (R1.grow gr) hp ⟨C, fl.reverse, R0.cls, rfl, by simp [hl], by simpa using him, ?_⟩
        rw [if_neg (by simpa using R0.ne)]
        exact ⟨d, rfl, upd_same⟩
  | ex x => simp only [sRaiseX, hs] at q; exact fun S' B' H' cls d g ef => q S' B' mss σ H' cls d g.w (R.grow g) hp ef
  | er => simp only [sRaiseX, hs] at q; exact q
end
end Tr
namespace Tr
open PySem L2 PySem.Spec PyProof.Rows
section
variable {X : Cx}
def isT (k : Str) : Value → Bool
  | .str z _ => z.cps.toList == k.cps.toList
  | _ => false
theorem str_beq (z k : Str) : (z.cps.toList == k.cps.toList) = (z == k) := by
  by_cases h : z = k
  · subst h; simp
  · have : ¬ z.cps.toList = k.cps.toList := fun e => h (by
      cases z; cases k; simp only [Str.mk.injEq]
      exact Array.toList_inj.mp e)
    rw [beq_eq_false_iff_ne.mpr this, beq_eq_false_iff_ne.mpr h]
def rRemT : V → List V → Hp → VK → Prop := fun x xs H Q => ∃ (l : Addr) (zs : List Str) (k : Str), x = .ref l ∧ xs = [.str k] ∧ H l = some (.lst (zs.map V.str)) ∧ k ∈ zs ∧ Q .non (upd H l (.lst ((zs.erase k).map V.str)))
theorem strs_vals : ∀ {zs : List Str} {us : List Value}, Vals (zs.map V.str) us → ∀ (i : Nat) (h : i < us.length), ∃ z t, zs[i]? = some z ∧ us[i] = .str z t
  | [], _, .nil, i, h => absurd h (by simp)
  | z :: zs, u :: us, .cons r rs, 0, _ => by
    obtain ⟨t, rfl⟩ := r
    exact ⟨z, t, rfl, rfl⟩
  | z :: zs, u :: us, .cons r rs, i + 1, h => by
    obtain ⟨z', t, h1, h2⟩ := strs_vals rs i (by simpa using h)
    exact ⟨z', t, by simpa using h1, by simpa using h2⟩
theorem erase_at {k : Str} : ∀ {zs : List Str}, k ∈ zs → ∃ j, zs[j]? = some k ∧ (∀ i, i < j → zs[i]? ≠ some k) ∧ zs.eraseIdx j = zs.erase k
  | [], h => absurd h (by simp)
  | a :: r, h => by
    by_cases e : a = k
    · subst e
      exact ⟨0, rfl, fun i hi => absurd hi (Nat.not_lt_zero _), by simp⟩
    · have hr : k ∈ r := by
        rcases List.mem_cons.mp h with z | z
        · exact absurd z.symm e
        · exact z
      obtain ⟨j, h2, h3, h4⟩ := erase_at hr
      refine ⟨j + 1, by simpa using h2, fun i hi => ?_, ?_⟩
      · cases i with
        | zero => intro z; exact e (Option.some.inj z)
        | succ i =>
          have := h3 i (by omega)
          simpa using this
      · rw [List.erase_cons_tail (by simpa using e), ← h4]; rfl
theorem mt_removeT : MtM X "list.remove" rRemT := by
  intro pins s σ H x xs v us Q J rx rxs h
  obtain ⟨l, zs, k, rfl, rfl, hH, hk, q⟩ := h
  cases rx
  obtain ⟨u, rfl, ru⟩ := rxs.one
  obtain ⟨t, rfl⟩ := ru
  obtain ⟨z, its, n, r, hl, e⟩ := J.lstM hH
  obtain ⟨j, e1, e2, e3⟩ := erase_at hk
  rw [List.length_map] at hl z
  have jl : j < zs.length := (List.getElem?_eq_some_iff.mp e1).1
  have jt : j < its.length := by omega
  refine call_meets PySem.F.slot_list_remove ⟨_, e, rfl⟩ PySem.F.entry_list_remove (PySem.F.args_list_remove_2 _ _)
    (MeetsSeq.list_remove l its.toArray n (.str k t) (isT k) (fun y hy => ?_) j (by rw [List.size_toArray]; exact jt) ?_ ?_ (by rw [List.size_toArray, ← hl]; exact z)) ⟨e, ?_⟩
  · obtain ⟨i, hi, rfl⟩ := List.getElem_of_mem (show y ∈ its by simpa using hy)
    obtain ⟨w, tw, g1, g2⟩ := strs_vals r i hi
    rw [g2]
    exact PySem.SeqRoads2.EqGives.str w k tw t
  · obtain ⟨w, tw, g1, g2⟩ := strs_vals r j jt
    rw [e1] at g1; cases g1
    have : its.toArray[j] = .str k tw := by simpa using g2
    rw [this]
    simp [isT]
  · intro m hm hmj
    have hml : m < its.length := by rw [List.size_toArray] at hm; exact hm
    obtain ⟨w, tw, g1, g2⟩ := strs_vals r m hml
    have : its.toArray[m] = .str w tw := by simpa using g2
    rw [this]
    show (w.cps.toList == k.cps.toList) = false
    rw [str_beq]
    have := e2 m hmj
    rw [g1] at this
    simpa using fun z => this (by rw [z])
  · have r2 := r.eraseIdx j
    have em : (zs.map V.str).eraseIdx j = (zs.erase k).map V.str := by
      rw [← e3]
      clear r2 q hH e3 e1 e2 r hl e jt z hk jl
      induction zs generalizing j with
      | nil => simp
      | cons a r ih => cases j with
        | zero => simp
        | succ j => simp [ih]
    rw [em] at r2
    refine ⟨.non, _, J.lset (its' := its.eraseIdx j) hH e ?_ r2 ?_, rfl, q⟩
    · show its.toArray.eraseIdxIfInBounds j = (its.eraseIdx j).toArray
      rw [List.eraseIdxIfInBounds_toArray]
    · rw [List.length_map]
      have := List.length_erase_le (a := k) (l := zs)
      omega
end
section
variable {X : Cx} {T : Tab} {W : WX} {pin : Pins} {σ0 : L2.St} {e a b o : Expr} {es : List Expr} {S B H S' B' H' : Hp} {env : En} {mss : List Cells} {σ : L2.St} {pos apos cpos : Pos} {ma mb mc m : ME}
theorem owns_strs : ∀ {ds : List D} {vs : List V} {ms : Cells} {zs : List Str}, Owns T B ds vs ms → strsD ds = some zs → vs = zs.map V.str ∧ ms = []
  | [], _, _, zs, o, h => by
    cases o
    simp [strsD] at h; subst h
    exact ⟨rfl, rfl⟩
  | d :: ds, vs, ms, zs, o, h => by
    unfold strsD at h
    split at h
    · rename_i h0; cases h0
    · rename_i z r h0
      cases h0
      simp only [Option.map_eq_some_iff] at h
      obtain ⟨zs', h, rfl⟩ := h
      cases o with
      | im hi r =>
        obtain ⟨rfl, rfl⟩ := owns_strs r h
        exact ⟨rfl, rfl⟩
    · cases h
theorem owns_xts (zs : List Str) : Owns T B (zs.map fun z => D.im (.str z)) (zs.map V.str) [] := by
  induction zs with
  | nil => exact .nil
  | cons z zs ih => exact .im rfl ih
def opRemove : D → List D → Option (D × D)
  | .lst xs, [.im (.str k)] => match strsD xs with
    | some zs => if k ∈ zs then some (.lst ((zs.erase k).map fun z => .im (.str z)), .im .non) else none
    | none => none
  | _, _ => none
theorem mu_remove : MutS T opRemove rRemT := by
  intro B S H x u mx ds vs me x' res ox okx od oke ap bh h
  unfold opRemove at h
  split at h
  · rename_i xs k
    split at h
    · rename_i zs hz
      split at h
      · rename_i hk
        simp only [Option.some.injEq, Prod.mk.injEq] at h
        obtain ⟨rfl, rfl⟩ := h
        cases ox with
        | @lst a ws _ _ _ m _ q r =>
          cases r
          rw [List.append_nil] at *
          obtain ⟨rfl, rfl⟩ := owns_strs q hz
          have ev : vs = [.str k] := by
            cases od with
            | im _ r => cases r; rfl
          subst ev
          obtain ⟨z1, z2, z3, z4, z5, z6⟩ := mut_list (ws' := (zs.erase k).map V.str) okx oke ap (owns_xts (T := T) (B := B) (zs.erase k)) own_non (by simp) (fun _ h => nomatch h) (fun _ h => nomatch h)
          exact ⟨a, _, _, _, _, z1, z2, z3, z4, z5, z6, fun Q kq => ⟨a, zs, k, rfl, rfl, (okx.2 _ List.mem_cons_self).1, hk, kq⟩⟩
      · cases h
    · cases h
  · cases h
def fListD : List D → Option D
  | [d] => match unfz d with
    | .dct ks xs => if ks.length = xs.length then some (.lst (ks.map fun k => .im (kV k))) else none
    | _ => none
  | _ => none
theorem imm_kV (k : Key) : imm (kV k) = true := by cases k <;> rfl
theorem owns_keys (ks : List Key) : Owns T B (ks.map fun k => D.im (kV k)) (ks.map kV) [] := by
  induction ks with
  | nil => exact .nil
  | cons k ks ih => exact .im (imm_kV k) ih
theorem zip_fst {ks : List Key} {ws : List V} (h : ks.length = ws.length) : ((ks.zip ws).map fun kv => kV kv.1) = ks.map kV := by
  induction ks generalizing ws with
  | nil => rfl
  | cons k ks ih =>
    cases ws with
    | nil => simp at h
    | cons w ws => simp [ih (by simpa using h)]
def rListD : List V → Hp → VK → Prop := fun xs H Q => ∃ (a : Addr) (kvs : List (Key × V)), xs = [.ref a] ∧ Rd H a (.dK kvs) ∧ ∀ p, H p = none → Q (.ref p) (upd H p (.lst (kvs.map fun kv => kV kv.1)))
theorem vs_listD : VS T fListD rListD := by
  intro B H ds vs z bh ro h
  unfold fListD at h
  split at h
  · rename_i d
    obtain ⟨v, rfl⟩ := ros_c1 ro
    have q := ros_unfz bh ro
    split at h
    · rename_i ks xs e
      split at h
      · cases h
        rw [e] at q
        obtain ⟨a, ws, rfl, h1, hl, q⟩ := ros_dct q
        refine .lst (owns_keys ks) fun Q k => ⟨a, _, rfl, h1, fun p hp => ?_⟩
        rw [zip_fst hl]
        exact k p hp
      · cases h
    · cases h
  · cases h
abbrev fListA := orF fListS fListD
theorem call_listA (hc : X.calm = true) : CallR X (.type "list") (fun xs H Q => (∃ p ys, xs = [.ref p] ∧ (SqL X.K H p ys ∨ SqT X.K H p ys) ∧ ∀ l, H l = none → Q (.ref l) (upd H l (.lst ys))) ∨ rListD xs H Q) := CallR.or call_list_of (call_listD hc)
theorem vs_listA : VS T fListA (fun xs H Q => (∃ p ys, xs = [.ref p] ∧ (SqL T.K H p ys ∨ SqT T.K H p ys) ∧ ∀ l, H l = none → Q (.ref l) (upd H l (.lst ys))) ∨ rListD xs H Q) := VS.orF vs_listS vs_listD
/-- o.m(x), o a built-in thing of the kind ky, nothing changed -/
@[simp] def mBm (ky : D → Bool) (f : List D → Option D) (ma mb : ME) : ME := fun env => match ma env with
  | .ok ra => if ky (unfz ra.d) = true then (match mb env with
    | .ok rb => match f [ra.d, rb.d] with
      | some z => .ok (.own z)
      | none => .er
    | .ex x => .ex x
    | .er => .er) else .er
  | .ex x => .ex x
  | .er => .er
@[simp] def sUnp (f : TgF) (m : ME) : MS := fun env => match m env with
  | .ok (.own d) => if copyD d = true then (match f d env with
    | some env => .nx env
    | none => .er) else .er
  | .ok _ => .er
  | .ex x => .ex x env
  | .er => .er
end
open PySem.Spec PyProof.Rows
/-- tables of the law's defs, own classes too -/
theorem all_tab2 {l : PySem.W.OpenLaw} {w : World} {K : PySem.W.Frag} {mg : Str → Option Value} {fa : Addr} {k : Nat} {x : Str} {mf : List Slot → FR} {tab : PySem.W.Frag → (Nat → Addr) → (Nat → Addr) → Tab} (ht : ∀ K x y, (tab K x y).K = K ∧ (tab K x y).tbs = [])
    (h : ∃ (xs ys : Nat → Addr) (fd : FuncData), (∀ (s : Shared) (v : Value), BindsTo s fd ⟨[v], []⟩ [(x, v)]) ∧ ∀ base : Heap, K.In base → base.Ns mainGlobals mg → FnOk l.prog w K mg base (L2.CX l.prog w) k fa fd [x] (spF (tab K xs ys) 1 mf)) :
    ∃ (tb : Tab), (tb.K = K ∧ tb.tbs = []) ∧ ∃ fd : FuncData, (∀ (s : Shared) (u : Value), BindsTo s fd ⟨[u], []⟩ [(x, u)]) ∧ ∀ base : Heap, K.In base → base.Ns mainGlobals mg → FnOk l.prog w K mg base (L2.CX l.prog w) k fa fd [x] (spF tb 1 mf) := by
  obtain ⟨xs, ys, fd, h1, h2⟩ := h
  exact ⟨tab K xs ys, ht K xs ys, fd, h1, h2⟩
end Tr
namespace Tr
open PySem L2
def Zo (o : Option D) : Rz Rs := match o with
  | some z => .ok (.own z)
  | none => .er
def Zv (i : Nat) (o : Option (Option Slot)) : Rz Rs := match o with
  | some (some (.own d)) => .ok (if copyD d then .own d else .bor i d)
  | some (some (.ro d)) => .ok (if copyD d then .own d else .ro d)
  | _ => .er
def Zf (z : Rz Rs) : Rz Rs := match z with
  | .ok (.own d) => .ok (.own (if copyD d then d else .fz d))
  | .ok _ => .er
  | .ex x => .ex x
  | .er => .er
def Zp (r : Rs) (o : Option D) : Rz Rs := match o with
  | some x => if copyD x then .ok (.own x) else match r with
    | .own _ => .er
    | .ro _ => .ok (.ro x)
    | .bor i _ => .ok (.bor i x)
  | none => .er
def Zq (o : Option D) : Rz Rs := match o with
  | some x => .ok (.own (if copyD x then x else .fz x))
  | none => .er
def Zi (d : D) : Rz (Option Int) := match d with
  | .im (.int i) => .ok (some i)
  | _ => .er
def ixR (ra rb : Rs) : Rz Rs := if ixKind ra.d = 2 then Zo (fIxS [ra.d, rb.d]) else if ixKind ra.d = 1 then (match gDk rb.d with
  | some f => subR ra f
  | none => .er) else (match gIx rb.d with
  | some f => subR ra f
  | none => .er)
def Zb (b : D) (y n : Rz Rs) : Rz Rs := match b with
  | .im (.bl true) => y
  | .im (.bl false) => n
  | _ => .er
def ZM (c : Nat) (u : D) (k : Rz Rs) : Rz Rs := match u with
  | .obj c' _ => if c' = c then k else .er
  | _ => .er
def Zdsp (z : Rz (List Rs)) (k : List D → D) : Rz Rs := match z with
  | .ok rs => match ownAll rs with
    | some ds => if ds.length ≤ 1000000 then .ok (.own (k ds)) else .er
    | none => .er
  | .ex x => .ex x
  | .er => .er
theorem EV2 :
    (∀ (α β : Type) (a : α) (k : α → Rz β), Rz.bind (.ok a) k = k a) ∧ (∀ (α β : Type) (x : Exn) (k : α → Rz β), Rz.bind (.ex x) k = .ex x) ∧ (∀ (α β : Type) (k : α → Rz β), Rz.bind (.er : Rz α) k = .er) ∧
    (∀ (f : List D → Option D) (a : ME) (env : En), m1 f a env = (a env).bind fun r => Zo (f [r.d])) ∧ (∀ (f : List D → Option D) (a b : ME) (env : En), m2 f a b env = (a env).bind fun r => (b env).bind fun s => Zo (f [r.d, s.d])) ∧
    (∀ (f : List D → Option D) (ms : List ME) (env : En), mN f ms env = (mAs ms env).bind fun rs => Zo (f (rs.map Rs.d))) ∧ (∀ env : En, mAs [] env = .ok []) ∧ (∀ (m : ME) (ms : List ME) (env : En), mAs (m :: ms) env = (m env).bind fun r => (mAs ms env).bind fun rs => .ok (r :: rs)) ∧
    (∀ z : D, Zo (some z) = .ok (.own z)) ∧ (∀ (i : Nat) (env : En), mVar i env = Zv i env[i]?) ∧ (∀ (i : Nat) (d : D), Zv i (some (some (.own d))) = .ok (if copyD d then .own d else .bor i d)) ∧ (∀ (i : Nat) (d : D), Zv i (some (some (.ro d))) = .ok (if copyD d then .own d else .ro d)) ∧
    (∀ (v : V) (env : En), mC v env = .ok (.own (.im v))) ∧ (∀ (mf : List Slot → FR) (ms : List ME) (env : En), mCall mf ms env = (mAs ms env).bind fun rs => frR (mf (rs.map fun r => .ro r.d))) ∧
    (∀ (d : D) (as : En), frR (.ok d as) = .ok (.own d)) ∧ (∀ (x : Exn) (as : En), frR (.ex x as) = .ex x) ∧
    (∀ (c : Nat) (mf : List Slot → FR) (mo : ME) (ms : List ME) (env : En), mMeth c mf mo ms env = (mo env).bind fun r => ZM c (unfz r.d) ((mAs ms env).bind fun rs => frR (mf ((r.d :: rs.map Rs.d).map Slot.ro)))) ∧
    (∀ (c c' : Nat) (ds : List D) (k : Rz Rs), ZM c (.obj c' ds) k = if c' = c then k else .er) ∧
    (∀ (c : Nat) (mf : List Slot → FR) (ms : List ME) (env : En), mMake c mf ms env = (mAs ms env).bind fun rs => mkR (mf (.own (.obj c []) :: (rs.map Rs.d).map Slot.ro))) ∧
    (∀ (d : D) (as : En), mkR (.ok (.im .non) (some (.own d) :: as)) = .ok (.own d)) ∧ (∀ (x : Exn) (as : En), mkR (.ex x as) = .ex x) ∧
    (∀ (m : ME) (env : En), mFz m env = Zf (m env)) ∧ (∀ d : D, Zf (.ok (.own d)) = .ok (.own (if copyD d then d else .fz d))) ∧ (∀ x : Exn, Zf (.ex x) = .ex x) ∧
    (∀ (t : List (Nat × Nat)) (m : ME) (env : En), mFd t m env = (m env).bind fun r => subR r (fldT t)) ∧
    (∀ (d : D) (g : D → Option D), subR (.own (.fz d)) g = Zq (g d)) ∧ (∀ (d : D) (g : D → Option D), subR (.ro (.fz d)) g = Zq (g d)) ∧ (∀ (i : Nat) (d : D) (g : D → Option D), subR (.bor i (.fz d)) g = Zq (g d)) ∧
    (∀ z : D, Zq (some z) = .ok (.own (if copyD z then z else .fz z))) ∧
    (∀ (i c : Nat) (ds : List D) (g : D → Option D), subR (.bor i (.obj c ds)) g = Zp (.bor i (.obj c ds)) (g (.obj c ds))) ∧ (∀ (c : Nat) (ds : List D) (g : D → Option D), subR (.ro (.obj c ds)) g = Zp (.ro (.obj c ds)) (g (.obj c ds))) ∧ (∀ (c : Nat) (ds : List D) (g : D → Option D), subR (.own (.obj c ds)) g = Zp (.own (.obj c ds)) (g (.obj c ds))) ∧
    (∀ (i : Nat) (ds : List D) (g : D → Option D), subR (.bor i (.lst ds)) g = Zp (.bor i (.lst ds)) (g (.lst ds))) ∧ (∀ (ds : List D) (g : D → Option D), subR (.ro (.lst ds)) g = Zp (.ro (.lst ds)) (g (.lst ds))) ∧ (∀ (ds : List D) (g : D → Option D), subR (.own (.lst ds)) g = Zp (.own (.lst ds)) (g (.lst ds))) ∧
    (∀ (i : Nat) (ds : List D) (g : D → Option D), subR (.bor i (.tup ds)) g = Zp (.bor i (.tup ds)) (g (.tup ds))) ∧ (∀ (ds : List D) (g : D → Option D), subR (.ro (.tup ds)) g = Zp (.ro (.tup ds)) (g (.tup ds))) ∧ (∀ (ds : List D) (g : D → Option D), subR (.own (.tup ds)) g = Zp (.own (.tup ds)) (g (.tup ds))) ∧
    (∀ (i : Nat) (ks : List Key) (ds : List D) (g : D → Option D), subR (.bor i (.dct ks ds)) g = Zp (.bor i (.dct ks ds)) (g (.dct ks ds))) ∧ (∀ (ks : List Key) (ds : List D) (g : D → Option D), subR (.ro (.dct ks ds)) g = Zp (.ro (.dct ks ds)) (g (.dct ks ds))) ∧ (∀ (ks : List Key) (ds : List D) (g : D → Option D), subR (.own (.dct ks ds)) g = Zp (.own (.dct ks ds)) (g (.dct ks ds))) ∧
    (∀ (i : Nat) (ns : List Int) (g : D → Option D), subR (.bor i (.scr ns)) g = Zp (.bor i (.scr ns)) (g (.scr ns))) ∧ (∀ (ns : List Int) (g : D → Option D), subR (.ro (.scr ns)) g = Zp (.ro (.scr ns)) (g (.scr ns))) ∧
    (∀ (i : Nat) (d x : D), Zp (.bor i d) (some x) = .ok (if copyD x then .own x else .bor i x)) ∧ (∀ (d x : D), Zp (.ro d) (some x) = .ok (if copyD x then .own x else .ro x)) ∧ (∀ (d x : D), Zp (.own d) (some x) = if copyD x then .ok (.own x) else .er) := by
  refine ⟨fun _ _ _ _ => rfl, fun _ _ _ _ => rfl, fun _ _ _ => rfl, fun f a env => ?_, fun f a b env => ?_, fun f ms env => ?_, fun _ => rfl, fun m ms env => ?_, fun _ => rfl, fun i env => ?_, fun _ _ => rfl, fun _ _ => rfl, fun _ _ => rfl, fun mf ms env => ?_, fun _ _ => rfl, fun _ _ => rfl,
    fun c mf mo ms env => ?_, fun _ _ _ _ => rfl, fun c mf ms env => ?_, fun _ _ => rfl, fun _ _ => rfl, fun m env => ?_, fun _ => rfl, fun _ => rfl, fun t m env => ?_, fun _ _ => rfl, fun _ _ => rfl, fun _ _ _ => rfl, fun _ => rfl, ?_⟩
  · unfold m1; cases a env with
    | ok r => simp only [Rz.bind, Zo] <;> rfl
    | _ => rfl
  · unfold m2; cases a env with
    | ok r => cases b env with
      | ok s => simp only [Rz.bind, Zo] <;> rfl
      | _ => rfl
    | _ => rfl
  · unfold mN; cases mAs ms env with
    | ok r => simp only [Rz.bind, Zo] <;> rfl
    | _ => rfl
  · simp only [mAs]; cases m env with
    | ok r => cases mAs ms env <;> rfl
    | _ => rfl
  · rfl
  · unfold mCall; cases mAs ms env with
    | ok rs => simp only [Rz.bind]; cases mf (rs.map fun r => .ro r.d) <;> rfl
    | _ => rfl
  · unfold mMeth; cases mo env with
    | ok r =>
      simp only [Rz.bind, ZM]
      cases unfz r.d with
      | obj c' ds =>
        simp only
        split
        · cases mAs ms env <;> rfl
        · rfl
      | _ => rfl
    | _ => rfl
  · unfold mMake; cases mAs ms env <;> rfl
  · rfl
  · unfold mFd; cases m env <;> rfl
  · have s : ∀ (r : Rs) (g : D → Option D), (∀ d, r.d ≠ .fz d) → subR r g = Zp r (g r.d) := fun r g h => by
      unfold subR Zp
      split
      · rename_i d e; exact absurd e (h d)
      · rfl
    refine ⟨fun _ _ _ _ => s _ _ (fun _ z => by cases z), fun _ _ _ => s _ _ (fun _ z => by cases z), fun _ _ _ => s _ _ (fun _ z => by cases z), fun _ _ _ => s _ _ (fun _ z => by cases z), fun _ _ => s _ _ (fun _ z => by cases z), fun _ _ => s _ _ (fun _ z => by cases z),
      fun _ _ _ => s _ _ (fun _ z => by cases z), fun _ _ => s _ _ (fun _ z => by cases z), fun _ _ => s _ _ (fun _ z => by cases z), fun _ _ _ _ => s _ _ (fun _ z => by cases z), fun _ _ _ => s _ _ (fun _ z => by cases z), fun _ _ _ => s _ _ (fun _ z => by cases z),
      fun _ _ _ => s _ _ (fun _ z => by cases z), fun _ _ => s _ _ (fun _ z => by cases z), fun i d x => ?_, fun d x => ?_, fun d x => ?_⟩
    · unfold Zp; by_cases h : copyD x = true <;> simp [h]
    · unfold Zp; by_cases h : copyD x = true <;> simp [h]
    · unfold Zp; by_cases h : copyD x = true <;> simp [h]
theorem EV3 :
    (∀ (a b : ME) (env : En), (∀ x, a env ≠ .ex x) → (a env ≠ .er) → mIx a b env = (a env).bind fun r => (b env).bind fun s => ixR r s) ∧
    (∀ (z : Str) (s : Rs), ixR (.own (.im (.str z))) s = Zo (fIxS [.im (.str z), s.d])) ∧
    (∀ (ds : List D) (i : Int), ixR (.own (.fz (.lst ds))) (.own (.im (.int i))) = Zq (atI ds i)) ∧ (∀ (ds : List D) (i : Int), ixR (.own (.tup ds)) (.own (.im (.int i))) = Zp (.own (.tup ds)) (atI ds i)) ∧ (∀ (ds : List D) (i : Int), ixR (.own (.fz (.tup ds))) (.own (.im (.int i))) = Zq (atI ds i)) ∧
    (∀ (ds : List D) (i : Int), ixR (.ro (.lst ds)) (.own (.im (.int i))) = Zp (.ro (.lst ds)) (atI ds i)) ∧ (∀ (j : Nat) (ds : List D) (i : Int), ixR (.bor j (.lst ds)) (.own (.im (.int i))) = Zp (.bor j (.lst ds)) (atI ds i)) ∧ (∀ (ds : List D) (i : Int), ixR (.own (.lst ds)) (.own (.im (.int i))) = Zp (.own (.lst ds)) (atI ds i)) ∧
    (∀ (ds : List D) (i : Int), ixR (.ro (.tup ds)) (.own (.im (.int i))) = Zp (.ro (.tup ds)) (atI ds i)) ∧ (∀ (j : Nat) (ds : List D) (i : Int), ixR (.bor j (.tup ds)) (.own (.im (.int i))) = Zp (.bor j (.tup ds)) (atI ds i)) ∧
    (∀ (ns : List Int) (i : Int), ixR (.ro (.scr ns)) (.own (.im (.int i))) = Zp (.ro (.scr ns)) ((atI ns i).map fun n => .im (.int n))) ∧
    (∀ (ks : List Key) (ds : List D) (z : Str), ixR (.ro (.dct ks ds)) (.own (.im (.str z))) = Zp (.ro (.dct ks ds)) (dlook ks ds (.inr z))) ∧ (∀ (j : Nat) (ks : List Key) (ds : List D) (z : Str), ixR (.bor j (.dct ks ds)) (.own (.im (.str z))) = Zp (.bor j (.dct ks ds)) (dlook ks ds (.inr z))) ∧
    (∀ (ks : List Key) (ds : List D) (z : Str), ixR (.own (.fz (.dct ks ds))) (.own (.im (.str z))) = Zq (dlook ks ds (.inr z))) ∧
    (∀ (f : List D → Option D) (a b : ME) (env : En), mM1 f a b env = (a env).bind fun r => if isS r.d = true then ((b env).bind fun s => Zo (f [r.d, s.d])) else .er) ∧
    (∀ (ky : D → Bool) (f : List D → Option D) (a b : ME) (env : En), mBm ky f a b env = (a env).bind fun r => if ky (unfz r.d) = true then ((b env).bind fun s => Zo (f [r.d, s.d])) else .er) ∧
    (∀ (a b : ME) (env : En), mAnd a b env = (a env).bind fun r => Zb r.d (b env) (.ok (.own (.im (.bl false))))) ∧ (∀ (a b : ME) (env : En), mOr a b env = (a env).bind fun r => Zb r.d (.ok (.own (.im (.bl true)))) (b env)) ∧
    (∀ y n : Rz Rs, Zb (.im (.bl true)) y n = y) ∧ (∀ y n : Rz Rs, Zb (.im (.bl false)) y n = n) ∧
    (∀ (a : ME) (l h : Option ME) (env : En), mSl a l h env = (a env).bind fun r => (mPo l env).bind fun x => (mPo h env).bind fun y => Zo (fSl r.d x y)) ∧ (∀ env : En, mPo none env = .ok none) ∧ (∀ (m : ME) (env : En), mPo (some m) env = (m env).bind fun r => Zi r.d) ∧ (∀ i : Int, Zi (.im (.int i)) = .ok (some i)) ∧
    (∀ (k : List D → D) (ms : List ME) (env : En), mDsp k ms env = Zdsp (mAs ms env) k) ∧ (∀ env : En, mNewD env = .ok (.own (.dct [] []))) ∧
    (∀ (n : Nat) (pins : List Bool) (b : MS) (as : List Slot), mF n pins b as = fin pins (b (as.map some ++ List.replicate (n - as.length) none))) ∧
    (∀ (pins : List Bool) (e : En), fin pins (.nx e) = .ok (.im .non) (trunc pins e)) ∧ (∀ (pins : List Bool) (d : D) (e : En), fin pins (.rt d e) = .ok d (trunc pins e)) ∧ (∀ (pins : List Bool) (x : Exn) (e : En), fin pins (.ex x e) = .ex x (trunc pins e)) ∧
    (∀ (ps : List Bool) (e : Option Slot) (es : En), trunc (true :: ps) (e :: es) = e :: trunc ps es) ∧ (∀ (ps : List Bool) (e : Option Slot) (es : En), trunc (false :: ps) (e :: es) = none :: trunc ps es) ∧ (∀ es : En, trunc [] es = []) := by
  refine ⟨fun a b env hx he => ?_, fun _ _ => rfl, fun _ _ => rfl, fun _ _ => rfl, fun _ _ => rfl, fun _ _ => rfl, fun _ _ _ => rfl, fun _ _ => rfl, fun _ _ => rfl, fun _ _ _ => rfl, fun _ _ => rfl, fun _ _ _ => rfl, fun _ _ _ _ => rfl, fun _ _ _ => rfl, fun f a b env => ?_, fun ky f a b env => ?_, fun a b env => ?_, fun a b env => ?_, fun _ _ => rfl, fun _ _ => rfl, fun a l h env => ?_, fun _ => rfl, fun m env => ?_, fun _ => rfl,
    fun k ms env => ?_, fun _ => rfl, fun _ _ _ _ => rfl, fun _ _ => rfl, fun _ _ _ => rfl, fun _ _ _ => rfl, fun _ _ _ => rfl, fun _ _ _ => rfl, fun es => ?_⟩
  · cases ha : a env with
    | ok r =>
      simp only [mIx, ha, Rz.bind, ixR]
      split
      · simp only [m2, ha]; cases b env with
        | ok s => simp only [Zo] <;> rfl
        | _ => rfl
      · split
        · simp only [mSub, ha]; cases b env <;> rfl
        · simp only [mSub, ha]; cases b env <;> rfl
    | ex x => exact absurd ha (hx x)
    | er => exact absurd ha he
  · unfold mM1; cases a env with
    | ok r =>
      simp only [Rz.bind]
      split
      · cases b env with
        | ok s => simp only [Zo] <;> rfl
        | _ => rfl
      · rfl
    | _ => rfl
  · unfold mBm; cases a env with
    | ok r =>
      simp only [Rz.bind]
      split
      · cases b env with
        | ok s => simp only [Zo] <;> rfl
        | _ => rfl
      · rfl
    | _ => rfl
  · unfold mAnd; cases a env with
    | ok r => simp only [Rz.bind, Zb] <;> rfl
    | _ => rfl
  · unfold mOr; cases a env with
    | ok r => simp only [Rz.bind, Zb] <;> rfl
    | _ => rfl
  · unfold mSl; cases a env with
    | ok r => simp only [Rz.bind]; cases mPo l env with
      | ok x => cases mPo h env with
        | ok y => simp only [Zo] <;> rfl
        | _ => rfl
      | _ => rfl
    | _ => rfl
  · simp only [mPo]; cases m env with
    | ok r => simp only [Rz.bind, Zi] <;> rfl
    | _ => rfl
  · unfold mDsp Zdsp; cases mAs ms env <;> rfl
  · unfold trunc; cases es <;> rfl
/-- an index, where the row is there -/
theorem ix_e {a b : ME} {env : En} {r : Rs} (h : a env = .ok r) : mIx a b env = (b env).bind fun s => ixR r s := by
  have := EV3.1 a b env (by rw [h]; intro x z; cases z) (by rw [h]; intro z; cases z)
  rw [this, h]; rfl
end Tr
namespace Tr
open PySem L2
@[simp] def wipeE (env : En) : List Nat → En
  | [] => env
  | j :: js => (wipeE env js).set j none
@[simp] def lcG (js : List Nat) (f : TgF) (mt : MT) (me : ME) (env : En) : List D → List D → Rz (List D)
  | [], acc => .ok acc
  | d :: ds, acc => match f d (wipeE env js) with
    | some env2 => match mt env2 with
      | .ok true env3 => match me env3 with
        | .ok r => if copyD r.d then lcG js f mt me env ds (acc ++ [r.d]) else .er
        | _ => .er
      | .ok false _ => lcG js f mt me env ds acc
      | _ => .er
    | none => .er
@[simp] def mLcG (mi : MI) (js : List Nat) (f : TgF) (mt : MT) (me : ME) : ME := fun env => match mi env with
  | .ok items fz => if fz.all (fun i => decide (i < env.length)) && decide (items.length ≤ 1000000) then (match lcG js f mt me (roE env) items [] with
    | .ok ds => .ok (.own (.lst ds))
    | _ => .er) else .er
  | .ex x => .ex x
  | .er => .er
def offJ (js : List Nat) : Pins := fun k => !js.contains k
section
variable {X : Cx} {T : Tab} {W : WX} {e : Expr} {ma mb me : ME} {mt : MT} {mi : MI} {pos : Pos} {S B H S' B' H' : Hp} {env : En} {mss : List Cells} {σ : L2.St} {js : List Nat} {f : TgF} {g : TG}
theorem RoE.wipe (R : RoE T S B env σ) : ∀ js : List Nat, RoE T S B (wipeE env js) (wipe σ js)
  | [] => R
  | j :: js => (R.wipe js).set rfl
theorem wipe_pin : ∀ {js : List Nat} {σ σ' : L2.St}, σ'.length = σ.length → (∀ k, offJ js k = true → σ'[k]? = σ[k]?) → L2.wipe σ' js = L2.wipe σ js
  | [], σ, σ', hl, h => List.ext_getElem? fun k => h k rfl
  | j :: js, σ, σ', hl, h => by
    have e : L2.wipe (σ'.set j none) js = L2.wipe (σ.set j none) js := wipe_pin (by simp [hl]) fun k hk => by
      by_cases hj : j = k
      · subst hj
        rw [List.getElem?_set, List.getElem?_set]; simp [hl]
      · rw [List.getElem?_set_ne hj, List.getElem?_set_ne hj]
        refine h k ?_
        unfold offJ at hk ⊢
        simp only [Bool.not_eq_true', List.contains_cons, Bool.or_eq_false_iff, beq_eq_false_iff_ne, ne_eq] at hk ⊢
        exact ⟨fun z => hj z.symm, hk⟩
    have comm : ∀ (js : List Nat) (σ : L2.St), (L2.wipe σ js).set j none = L2.wipe (σ.set j none) js := fun js => by
      induction js with
      | nil => intro σ; rfl
      | cons i js ih =>
        intro σ
        show ((L2.wipe σ js).set i none).set j none = (L2.wipe (σ.set j none) js).set i none
        by_cases hij : i = j
        · subst hij; rw [← ih σ]
        · rw [List.set_comm _ _ hij, ih σ]
    show (L2.wipe σ' js).set j none = (L2.wipe σ js).set j none
    rw [comm, comm, e]
theorem wipe_idem (σ : L2.St) (js : List Nat) : L2.wipe (L2.wipe σ js) js = L2.wipe σ js := by
  refine wipe_pin (L2.wipe_length σ js) fun k hk => ?_
  induction js with
  | nil => rfl
  | cons j js ih =>
    unfold offJ at hk ih
    simp only [Bool.not_eq_true', List.contains_cons, Bool.or_eq_false_iff, beq_eq_false_iff_ne, ne_eq] at hk ih
    show ((L2.wipe σ js).set j none)[k]? = σ[k]?
    rw [List.getElem?_set_ne (fun z => hk.1 z.symm)]
    exact ih hk.2
/-- what a comprehension reaches -/
def LcEnd (T : Tab) (B1 H1 : Hp) (ds : List D) (v : V) (Hx : Hp) : Prop := ∃ Dn B2 ws, v = .ref Dn ∧ H1 Dn = none ∧ SameN T.tbs H1 Hx ∧ Hx Dn = some (.lst ws) ∧ Same B1 B2 ∧ Same B2 Hx ∧ B2 Dn = none ∧ (∀ a o, B2 a = some o → B1 a = some o ∨ H1 a = none) ∧ Owns T B2 ds ws [] ∧ TcOk T B2 Hx
theorem lcg_core {J : It} {items ds : List D} {env : En} {B1 H1 : Hp} {Q : VK} (tb1 : TbOk T B1 H1) (tc1 : TcOk T B1 H1) (bh : Same B1 H1) (E0 : RoE T (nT T H1) B1 env σ)
    (I : ∀ (Hx B2 : Hp), SameN T.tbs H1 Hx → Same B1 B2 → Same B2 Hx → TbOk T B2 Hx → TcOk T B2 Hx → ∀ i : Nat, (∀ d, items[i]? = some d → J.go i Hx ∧ ∀ x H', J.yld i Hx x H' → ∃ S' B', Gr T.tbs (nT T Hx) B2 Hx S' B' H' ∧ Ros T B' S' [d] [x]) ∧ (items[i]? = none → J.stop i Hx))
    (hg : TgR T (offJ js) g f) (hlen : items.length ≤ 1000000) (hds : lcG js f mt me env items [] = .ok ds) (hq : ∀ v Hx, LcEnd T B1 H1 ds v Hx → Q v Hx) :
    ∀ D, H1 D = none → ∃ Wt : Nat → Nat → Hp → Prop, (∃ m, Wt 0 m (upd H1 D (.lst []))) ∧ ∀ i m H, Wt i m H →
      (J.stop i H ∧ Q (.ref D) H) ∨ (J.go i H ∧ ∃ Nx : Hp → Prop, (∀ H', Nx H' → ∃ m', m' < m ∧ Wt (i + 1) m' H') ∧ ∀ x H', J.yld i H x H' → g x (wipe σ js) H' fun σ2 H2 => wipe σ2 js = wipe σ js ∧ tT T WF mt σ2 H2 fun b H3 =>
        if b = true then tP T WF me σ2 H3 fun y H4 => ∃ acc, H4 D = some (.lst acc) ∧ acc.length < sizeLine ∧ Nx (upd H4 D (.lst (acc ++ [y]))) else Nx H3) := by
  intro D hD
  have g0 : ∀ {o : HO}, Gr T.tbs B1 B1 H1 B1 B1 (upd H1 D o) := Gr.own (Same.refl _) bh hD
  let IV : Nat → Hp → Prop := fun i Hx => ∃ B2 ws acc, SameN T.tbs H1 Hx ∧ Hx D = some (.lst ws) ∧ Same B1 B2 ∧ Same B2 Hx ∧ B2 D = none ∧ (∀ a o, B2 a = some o → B1 a = some o ∨ H1 a = none) ∧ Owns T B2 acc ws [] ∧ TcOk T B2 Hx ∧ copyDs acc = true ∧ ws.length ≤ i ∧ lcG js f mt me env (items.drop i) acc = .ok ds
  refine ⟨fun i m Hx => m = items.length - i ∧ IV i Hx, ⟨items.length, rfl, B1, [], [], g0.h, upd_same, Same.refl _, g0.sh, bh.free hD, fun a o h => .inl h, .nil, (fun p hp => (g0 (o := .lst [])).t p hp (tc1 p hp)), rfl, Nat.zero_le _, hds⟩, ?_⟩
  rintro i m Hx ⟨rfl, B2, ws, acc, k1, k2, k3, k4, k5, k6, k7, kt, k7c, k8, k9⟩
  have tbB := tb_far tb1 (Same.refl _) k1 k6
  obtain ⟨yes, no⟩ := I Hx B2 k1 k3 k4 tbB kt i
  cases hi' : items[i]? with
  | none =>
    have hl : items.length ≤ i := List.getElem?_eq_none_iff.mp hi'
    rw [List.drop_eq_nil_of_le hl] at k9
    simp only [lcG] at k9
    have e9 := Rz.ok.inj k9
    subst e9
    exact .inl ⟨no hi', hq _ _ ⟨D, B2, ws, rfl, hD, k1, k2, k3, k4, k5, k6, k7, kt⟩⟩
  | some d =>
    have hl : i < items.length := (List.getElem?_eq_some_iff.mp hi').1
    have ed : items.drop i = d :: items.drop (i + 1) := by
      rw [List.drop_eq_getElem_cons hl]
      congr 1
      exact (List.getElem?_eq_some_iff.mp hi').2
    rw [ed] at k9
    obtain ⟨go, yl⟩ := yes d hi'
    refine .inr ⟨go, fun Hx => IV (i + 1) Hx, fun H' h => ⟨items.length - (i + 1), by omega, rfl, h⟩, fun x H2 y => ?_⟩
    obtain ⟨S2, B2', gr, ro⟩ := yl x H2 y
    have hS2 := gr.h
    have tb2 := tb_grow (nT_tb tbB) gr.h gr.f
    have tbN := nT_tb tb2
    have tc2 : TcOk T B2' H2 := fun p hp => gr.t p hp (kt p hp)
    have E2 : RoE T (nT T H2) B2' (wipeE env js) (wipe σ js) := (E0.up (nT_up (k1.trans hS2)) (k3.trans gr.w.b)).wipe js
    simp only [lcG] at k9
    cases hf : f d (wipeE env js) with
    | none => simp only [hf] at k9; cases k9
    | some env2 =>
    simp only [hf] at k9
    refine hg (nT T H2) B2' _ _ (wipe σ js) (wipe σ js) H2 d x env2 (E2.srx (gr.bs.trans (nT_in tb2 gr.sh)) nT_le tbN tc2) ⟨rfl, fun k _ => rfl⟩ (ro.mono (nT_in tb2 gr.sh) (Same.refl _)) hf _ fun σ2 mss2 R2 hp2 => ?_
    refine ⟨(wipe_pin hp2.1 fun k hk => hp2.2 k hk).trans (wipe_idem σ js), nT T H2, B2', env2, mss2, R2, ?_⟩
    have nD : ∀ {Bn : Hp}, (∀ a o, Bn a = some o → B2' a = some o ∨ H2 a = none) → Bn D = none ∧ ∀ a o, Bn a = some o → B1 a = some o ∨ H1 a = none := fun {Bn} hn => by
      have key : ∀ a o, Bn a = some o → B2 a = some o ∨ Hx a = none := fun a o h => by
        rcases hn a o h with z | z
        · exact nT_free gr.bs tb2 gr.w.n _ _ z
        · exact .inr (hS2.free z)
      refine ⟨?_, fun a o h => ?_⟩
      · cases e : Bn D with
        | none => rfl
        | some u =>
          rcases key _ _ e with z | z
          · rw [k5] at z; cases z
          · rw [k2] at z; cases z
      · rcases key a o h with z | z
        · exact k6 _ _ z
        · exact .inr (k1.free z)
    cases hz : mt env2 with
    | ok b env3 =>
      intro S3 B3 H3 mss3 g3 R3
      simp only [hz] at k9
      have t3 : SameN T.tbs H2 H3 := nT_N tbN (g3.s.trans R3.sh) R3.tb
      have n3 := nT_free R3.bs R3.tb g3.n
      cases b with
      | false =>
        rw [if_neg Bool.false_ne_true]
        obtain ⟨n1, n2⟩ := nD (Bn := B3) n3
        exact ⟨B3, ws, acc, (k1.trans hS2).trans t3, t3.n _ _ (hS2.n _ _ k2 nt_lst) nt_lst, (k3.trans gr.w.b).trans g3.b, R3.bs.trans R3.sh, n1, n2, k7.mono (gr.w.b.trans g3.b), R3.tc, k7c, by omega, k9⟩
      | true =>
        rw [if_pos rfl]
        refine ⟨S3, B3, env3, mss3, R3, ?_⟩
        cases hm : me env3 with
        | ok r =>
          intro S4 B4 H4 v g4 f4
          simp only [hm] at k9
          split at k9
          · rename_i hcp
            have R4 := R3.grow g4
            have ow : Owns T B4 [r.d] [v] [] := copy_own (f4.read R4) (copy1 hcp)
            have t4 := g4.h
            have hD4 : H4 D = some (.lst ws) := t4.n _ _ (t3.n _ _ (hS2.n _ _ k2 nt_lst) nt_lst) nt_lst
            obtain ⟨n1, n2⟩ := nD (Bn := B4) (nT_free R4.bs R4.tb fun a o h => by
              rcases g4.w.n _ _ h with z | z
              · exact g3.n _ _ z
              · exact .inr (g3.s.free z))
            have b4 : Same B4 (upd H4 D (.lst (ws ++ [v]))) := fun a u h => by
              rw [upd_ne (fun z => by rw [z, n1] at h; cases h)]
              exact (R4.bs.trans R4.sh) _ _ h
            have hk7 := (k7.mono ((gr.w.b.trans g3.b).trans g4.w.b)).ro (Same.refl B4) fun _ h => nomatch h
            have how := ow.ro (Same.refl B4) fun _ h => nomatch h
            have hcc : copyDs (acc ++ [r.d]) = true := by rw [copyDs_append, k7c]; simp [hcp]
            have hsz := le_line hlen
            refine ⟨ws, hD4, by omega, B4, ws ++ [v], acc ++ [r.d], same_new hD (((k1.trans hS2).trans t3).trans t4), upd_same, ((k3.trans gr.w.b).trans g3.b).trans g4.w.b, b4, n1, n2, copy_own (ros_append hk7 how) hcc, tc_upd R4.tc hD4 nt_lst, hcc, by simp; omega, k9⟩
          · cases k9
        | ex x => simp only [hm] at k9; cases k9
        | er => simp only [hm] at k9; cases k9
    | ex x env3 => simp only [hz] at k9; cases k9
    | er => simp only [hz] at k9; cases k9
theorem lc_fin {ds : List D} {v : V} {Hx Hu S B H B1 H1 : Hp} {Q : VK} (bs : Same B S) (sh : Same S H) (tb : TbOk T S H) (le : LcEnd T B1 H1 ds v Hx) (sN : SameN T.tbs H Hu) (e2 : ∀ x o, B1 x = some o → B x = some o ∨ H x = none) (b1 : Same B B1) (e3 : ∀ x, H1 x = none → H x = none) (e4 : ∀ x o, (B1 x = some o ∨ H1 x = none) → Hx x = some o → Hu x = some o) (e5 : ∀ p ∈ T.tbs, ∀ ps, Hx p.1 = some (.tbl ps) → Hu p.1 = some (.tbl ps))
    (q : PP T W S B mss σ H Q (.ok (.own (.lst ds)))) : Q v Hu := by
  obtain ⟨Dn, B2, ws, rfl, hD, k1, k2, k3, k4, k5, k6, k7, kt⟩ := le
  have hDu : Hu Dn = some (.lst ws) := e4 Dn _ (.inr hD) k2
  have k6' : ∀ a o, B2 a = some o → B a = some o ∨ H a = none := fun a o h => by
    rcases k6 a o h with z | z
    · exact e2 _ _ z
    · exact .inr (e3 _ z)
  have tbB : TbOk T B2 Hu := tb_far tb bs sN k6'
  let Sx : Hp := fun a => if a = Dn then none else nT T Hu a
  have s1 : Same (nT T H) Sx := fun a u h => by
    show (if a = Dn then none else nT T Hu a) = _
    rw [if_neg (fun z => by rw [z, nT_none (e3 _ hD)] at h; cases h)]; exact nT_up sN _ _ h
  have b2h : Same B2 Hu := fun a u h => e4 a u (k6 _ _ h) (k4 _ _ h)
  have b2 : Same B2 Sx := fun a u h => by
    show (if a = Dn then none else nT T Hu a) = _
    rw [if_neg (fun z => by rw [z, k5] at h; cases h)]
    exact nT_in tbB b2h _ _ h
  have s2 : Same Sx Hu := fun a u h => by
    have h : (if a = Dn then none else nT T Hu a) = some u := h
    split at h
    · cases h
    · exact nT_le _ _ h
  have tbS : TbOk T Sx Hu := fun p hp => ⟨(tbB p hp).1, by
    show (if p.1 = Dn then none else nT T Hu p.1) = none
    split
    · rfl
    · exact nT_off hp⟩
  have g' := gr_pure bs sh tb ⟨s1, b1.trans k3, fun a o h => (k6' a o h).imp id nT_none⟩ b2 s2 tbS fun p hp => (kt p hp).mono (Same.refl _) (e5 p hp)
  have o : Owns T B2 [.lst ds] [.ref Dn] [(Dn, .lst ws)] := .lst (m := []) (ms := []) k7 .nil
  have c : CellsOk Sx Hu [(Dn, .lst ws)] := ⟨by simp, fun c hc => by
    have e : c = (Dn, .lst ws) := by simpa using hc
    subst e; exact ⟨hDu, if_pos rfl⟩⟩
  exact q _ _ _ _ g' (own_pure sh tb tbS s1 o c b2)
def itD (ks : List Key) (xs : List D) : List D := (ks.zip xs).map fun kx => .tup [.im (kV kx.1), kx.2]
@[simp] def mLcI (i : Nat) (js : List Nat) (f : TgF) (mt : MT) (me : ME) : ME := fun env => match env[i]? with
  | some (some (.own (.dct ks xs))) => if decide (ks.length = xs.length) && decide (ks.length ≤ 1000000) then (match lcG js f mt me (roE env) (itD ks xs) [] with
    | .ok ds => .ok (.own (.lst ds))
    | _ => .er) else .er
  | _ => .er
theorem ros_lock {a : Addr} {kvs : List (Key × V)} {od : Obj} : ∀ {S : Hp} {ds : List D} {vs : List V}, S a = some (.dK kvs) → Ros T B S ds vs → Ros T B (upd S a (.frz od (.dK kvs))) ds vs := by
  intro S ds vs hd r
  induction r with
  | nil => exact .nil
  | im h _ ih => exact .im h (ih hd)
  | lst h _ _ ih1 ih2 => exact .lst (by rw [upd_ne (fun z => by rw [z, hd] at h; cases h)]; exact h) (ih1 hd) (ih2 hd)
  | tup h _ _ ih1 ih2 => exact .tup h (ih1 hd) (ih2 hd)
  | @dct S b ks ws xs ds vs h hl _ _ ih1 ih2 =>
    refine .dct ?_ hl (ih1 hd) (ih2 hd)
    rcases h with h | ⟨o, h⟩
    · by_cases e : b = a
      · subst e
        rw [hd] at h; cases h
        exact .inr ⟨od, upd_same⟩
      · exact .inl (by rw [upd_ne e]; exact h)
    · exact .inr ⟨o, by rw [upd_ne (fun z => by rw [z, hd] at h; cases h)]; exact h⟩
  | obj h hc hl _ _ ih1 ih2 => exact .obj (by rw [upd_ne (fun z => by rw [z, hd] at h; cases h)]; exact h) hc hl (ih1 hd) (ih2 hd)
  | scr h _ ih =>
    refine .scr ?_ (ih hd)
    rcases h with h | h
    · refine .inl ?_
      rcases h with h | ⟨o, h⟩
      · exact .inl (by rw [upd_ne (fun z => by rw [z, hd] at h; cases h)]; exact h)
      · exact .inr ⟨o, by rw [upd_ne (fun z => by rw [z, hd] at h; cases h)]; exact h⟩
    · exact .inr h
  | fz q _ _ ih => exact .fz q (ih hd)
  | fn h _ ih => exact .fn h (ih hd)
theorem RoE.lock {a : Addr} {kvs : List (Key × V)} {od : Obj} (E : RoE T H B env σ) (hd : H a = some (.dK kvs)) : RoE T (upd H a (.frz od (.dK kvs))) B env σ := ⟨E.l, fun i e s h1 h2 => by
  have q := E.at_ i e s h1 h2
  cases e with
  | none => exact q
  | some o =>
    cases s with
    | none => cases o <;> exact q
    | some v =>
      cases o with
      | own d => exact q
      | ro d => exact ⟨q.1, ros_lock hd q.2⟩⟩
theorem i_lcI {i : Nat} {Q : VK} (hg : TgR T (offJ js) g f) (h : tP T W (mLcI i js f mt me) σ H Q) : tLockE (tLc (iItems (tVar i)) g (tT T WF mt) (tP T WF me) js) σ H Q := by
  obtain ⟨S, B, env, mss, R, q⟩ := h
  simp only [mLcI] at q
  split at q
  · rename_i ks xs hv
    split at q
    · rename_i hc
      simp only [Bool.and_eq_true, decide_eq_true_eq] at hc
      cases hl : lcG js f mt me (Tr.roE env) (itD ks xs) [] with
      | ex x => rw [hl] at q; exact q.elim
      | er => rw [hl] at q; exact q.elim
      | ok ds =>
      rw [hl] at q
      obtain ⟨v, m, h1, h2, own, okm⟩ := R.own hv
      have ro : Ros T B H [.dct ks xs] [v] := Owns.ro own (R.bs.trans R.sh) fun c hc => (okm.2 c hc).1
      obtain ⟨a, ws, rfl, hrd, hlen, rox⟩ := ros_dct ro
      have ha : H a = some (.dK (ks.zip ws)) ∧ S a = none := by
        cases own with
        | @dct _ _ ws' _ _ _ m1 m2 hl' q' r' =>
          have c := okm.2 _ List.mem_cons_self
          obtain ⟨c1, c2⟩ := c
          refine ⟨?_, c2⟩
          rcases hrd with hrd | ⟨o, hrd⟩
          · exact hrd
          · rw [c1] at hrd; cases hrd
      have ba : B a = none := R.bs.free ha.2
      refine ⟨a, .dK (ks.zip ws), ha.1, trivial, fun od => ⟨.ref a, h1, a, od, ks.zip ws, rfl, upd_same, ?_⟩⟩
      have hHL : ∀ x o, x ≠ a → (upd H a (.frz od (.dK (ks.zip ws)))) x = some o → H x = some o := fun x o hx h => by rw [upd_ne hx] at h; exact h
      have bhl : Same B (upd H a (.frz od (.dK (ks.zip ws)))) := fun x o h => by
        rw [upd_ne (fun z => by rw [z, ba] at h; cases h)]
        exact (R.bs.trans R.sh) _ _ h
      have rox' := ros_lock (od := od) ha.1 rox
      have zl : (ks.zip ws).length = ks.length := by rw [List.length_zip]; omega
      have aT : a ∉ T.tbs.map (·.1) := nT_ne R.tb ha.1 nt_dK
      have tbL : TbOk T S (upd H a (.frz od (.dK (ks.zip ws)))) := tb_upd R.tb ha.1 nt_dK
      have rl := R.roE.lock (od := od) (nT_of R.tb ha.1 nt_dK)
      rw [← nT_upd aT] at rl
      refine lcg_core (J := Iti a od (ks.zip ws)) (Q := fun v H' => H' a = some (.frz od (.dK (ks.zip ws))) ∧ Q v (upd H' a (.dK (ks.zip ws)))) (items := itD ks xs) (tb_sub R.bs tbL) (tc_upd R.tc ha.1 nt_dK) bhl rl (fun Hx B2 k1 k3 k4 tbB _ n => ?_) hg (by simp [itD]; omega) hl fun v Hx le => ?_
      · have hax : Hx a = some (.frz od (.dK (ks.zip ws))) := k1.n _ _ upd_same nt_frz
        refine ⟨fun d hd => ?_, fun hd => ⟨hax, ?_⟩⟩
        · simp only [itD, List.getElem?_map, Option.map_eq_some_iff] at hd
          obtain ⟨⟨k, x⟩, hz, rfl⟩ := hd
          obtain ⟨hk, hx⟩ := List.getElem?_zip_eq_some.mp hz
          obtain ⟨w, hw, r⟩ := ros_at rox' hx
          have hlt : n < ks.length := (List.getElem?_eq_some_iff.mp hk).1
          refine ⟨⟨hax, by omega⟩, fun y H' yl => ?_⟩
          obtain ⟨t, k', w', g1, rfl, g2, rfl⟩ := yl
          obtain ⟨gk, gw⟩ := List.getElem?_zip_eq_some.mp g1
          rw [hk] at gk; cases gk
          rw [hw] at gw; cases gw
          have gr := Gr.tup (L := T.tbs) (o := .tup [kV k, w']) (nT_in tbB k4) (nT_le (T := T) (H := Hx)) g2
          exact ⟨_, _, gr, .tup upd_same (.im (imm_kV k) (((ros_nT tbB (r.monoN k1.n k3)).mono gr.w.s gr.w.b))) .nil⟩
        · have := List.getElem?_eq_none_iff.mp hd
          simp only [itD, List.length_map, List.length_zip] at this
          omega
      · have k1 : SameN T.tbs (upd H a (.frz od (.dK (ks.zip ws)))) Hx := by obtain ⟨_, _, _, _, _, k1, _⟩ := le; exact k1
        refine ⟨k1.n _ _ upd_same nt_frz, ?_⟩
        refine lc_fin (B1 := B) (Hx := Hx) R.bs R.sh R.tb le (same_back ha.1 nt_dK nt_frz k1) (fun x o h => .inl h) (Same.refl _) (fun x h => ?_) (fun x o h1 h2 => ?_) (fun p hp ps h => by
          rw [upd_ne (fun z => by rw [z, k1.n _ _ upd_same nt_frz] at h; cases h)]; exact h) q
        · by_cases e : x = a
          · subst e; rw [upd_same] at h; cases h
          · rw [upd_ne e] at h; exact h
        · by_cases e : x = a
          · subst e
            rcases h1 with z | z
            · rw [ba] at z; cases z
            · rw [upd_same] at z; cases z
          · rw [upd_ne e]; exact h2
    · exact q.elim
  · exact q.elim
theorem ep_lcI {elt e : Expr} {elts : List Expr} {kk : Nat} {tpos apos cpos : Pos} {ifs : List Expr} {scope : Scope} {own : List (Str × Nat)} {i : Nat} (hc : X.calm = true) (hN : X.N.Nodup) (hv : PE X e (tVar i)) (ok : BlkOk X.N X.env.scope scope own) (htg : TgR T (offJ (own.map (·.2))) g f)
    (hg : ∀ (s : Shared) (H : Hp) (C : Addr) (cl : List (Str × Addr)) (fp : List Addr), PG (X.blk s H scope (compEnvC scope cl C X.env) fp) (.Tuple elts kk tpos) g) (ht : ∀ (s : Shared) (H : Hp) (C : Addr) (cl : List (Str × Addr)) (fp : List Addr), PTs (X.blk s H scope (compEnvC scope cl C X.env) fp) ifs (tT T WF mt))
    (he : ∀ (s : Shared) (H : Hp) (C : Addr) (cl : List (Str × Addr)) (fp : List Addr), PE (X.blk s H scope (compEnvC scope cl C X.env) fp) elt (tP T WF me))
    (hbase : attributeBase e "items" X.env (eval e X.env) = eval e X.env := by rfl) (hline : (apos.endLine == cpos.line) = true := by rfl) (hs : ∀ x, foldedSetIterable (.Call (.Attribute e "items" apos) [] [] cpos) X.env x = pure x := by intro _; rfl) :
    PE X (.ListComp elt [⟨.Tuple elts kk tpos, .Call (.Attribute e "items" apos) [] [] cpos, ifs, 0⟩] scope pos) (tP T W (mLcI i (own.map (·.2)) f mt me)) :=
  pe_of (pe_lock (pe_lc (own := own) (g := g) (tt := tT T WF mt) hc hN (pi_items hv hbase hline) ok hg ht he hs)) fun _ _ _ => i_lcI htg
end
end Tr
namespace Tr
open PySem L2
@[simp] def e2 (f : List D → Option D) (me : EE) (mb : ME) : EE := fun env => match me env with
  | .ok r env' => if copyD r.d = true then (match mb env' with
    | .ok rb => match f [r.d, rb.d] with
      | some z => .ok (.own z) env'
      | none => .er
    | .ex x => .ex x env'
    | .er => .er) else .er
  | .ex x env' => .ex x env'
  | .er => .er
section
variable {X : Cx} {T : Tab} {W : WX} {e a b : Expr} {me : EE} {mb : ME} {S B H : Hp} {mss : List Cells} {env : En} {σ : L2.St} {v : V} {r : Rs}
theorem RFe.rd (R : SRx T S B env mss σ H) (f : RFe T S B H mss r v) : Ros T B H [r.d] [v] := by
  cases r with
  | own d => obtain ⟨ms, h1, h2, _⟩ := f; exact h1.ro (R.bs.trans R.sh) fun c hc => (h2.2 c hc).1
  | ro d => exact Ros.mono f R.sh (Same.refl _)
  | bor i d => obtain ⟨m, h1, h2⟩ := f; exact h2.mono (Wi.le R.sh (R.ok i m h1)) (Same.refl _)
end
end Tr
namespace Tr
open PySem L2
end Tr
namespace Tr
open PySem L2
section
variable {T : Tab} {B S H : Hp}
theorem owns_pick : ∀ {xs : List D} {ws : List V} {k : Nat} {y : D}, Owns T B xs ws [] → xs[k]? = some y → ∃ w, ws[k]? = some w ∧ Owns T B [y] [w] [] ∧ Owns T B (xs.eraseIdx k) (ws.eraseIdx k) [] := by
  intro xs
  induction xs with
  | nil => intro ws k y o h; simp at h
  | cons x xs ih =>
    intro ws k y o h
    obtain ⟨v, us, m1, m2, rfl, e, o1, o2⟩ := owns_uncons o
    have e := List.append_eq_nil_iff.mp e.symm
    rw [e.1] at o1; rw [e.2] at o2
    cases k with
    | zero =>
      simp at h; subst h
      exact ⟨v, rfl, o1, by simpa using o2⟩
    | succ k =>
      obtain ⟨w, h1, h2, h3⟩ := ih o2 (k := k) (y := y) (by simpa using h)
      exact ⟨w, by simpa using h1, h2, by simpa using owns_app (m := []) (n := []) o1 h3⟩
def opPopAt : D → List D → Option (D × D)
  | .lst xs, [.im (.int i)] => if copyDs xs && decide (-(2 ^ 63) ≤ i ∧ i < 2 ^ 63) then (match seqIndex? i xs.length with
    | some k => match xs[k]? with
      | some y => some (.lst (xs.eraseIdx k), y)
      | none => none
    | none => none) else none
  | _, _ => none
theorem mu_popAt : MutS T opPopAt rPopAt := by
  intro B S H x u mx ds vs me x' res ox okx od oke ap bh h
  unfold opPopAt at h
  split at h
  · rename_i xs i
    split at h
    · rename_i hc
      simp only [Bool.and_eq_true, decide_eq_true_eq] at hc
      split at h
      · rename_i k hk
        split at h
        · rename_i y hy
          simp only [Option.some.injEq, Prod.mk.injEq] at h
          obtain ⟨rfl, rfl⟩ := h
          cases ox with
          | @lst a ws _ _ _ m _ q r =>
            cases r
            rw [List.append_nil] at *
            have em := copy_nil q hc.1
            subst em
            have ev : vs = [.int i] := by
              cases od with
              | im _ r => cases r; rfl
            subst ev
            obtain ⟨w, hw, o1, o2⟩ := owns_pick q hy
            obtain ⟨z1, z2, z3, z4, z5, z6⟩ := mut_list (ws' := ws.eraseIdx k) okx oke ap o2 o1 (by simp) (fun _ h => nomatch h) (fun _ h => nomatch h)
            exact ⟨a, _, _, _, _, z1, z2, z3, z4, z5, z6, fun Q kq => ⟨a, ws, i, k, w, rfl, rfl, (okx.2 _ List.mem_cons_self).1, hc.2.1, hc.2.2, by rw [← q.len]; exact hk, hw, kq⟩⟩
        · cases h
      · cases h
    · cases h
  · cases h
end
end Tr
namespace Tr
open PySem L2
section
variable {X : Cx} {T : Tab} {W : WX} {tg e : Expr} {ma mb : ME} {S B H S' B' H' S0 B0 : Hp} {env : En} {mss : List Cells} {σ : L2.St}
def zpD (xs ys : List D) : List D := (xs.zip ys).map fun p => .tup [p.1, p.2]
theorem its_zip {a b : Addr} {xs ys : List D} (h1 : LsAt T S0 B0 a xs) (h2 : LsAt T S0 B0 b ys) : ItS T S0 B0 (Itz T.K a b) (zpD xs ys) := by
  obtain ⟨ws, hs1, ro1⟩ := h1
  obtain ⟨us, hs2, ro2⟩ := h2
  intro S B H s0 b0 bs sh i
  have hH1 : SqL T.K H a ws := sql_mono (s0.trans sh) hs1
  have hH2 : SqL T.K H b us := sql_mono (s0.trans sh) hs2
  refine ⟨fun d h => ?_, fun h => ?_⟩
  · simp only [zpD, List.getElem?_map, Option.map_eq_some_iff] at h
    obtain ⟨⟨x, y⟩, hz, rfl⟩ := h
    obtain ⟨hx, hy⟩ := List.getElem?_zip_eq_some.mp hz
    obtain ⟨v, hv, r1⟩ := ros_at ro1 hx
    obtain ⟨u, hu, r2⟩ := ros_at ro2 hy
    refine ⟨⟨ws, us, v, u, hH1, hH2, hv, hu⟩, fun z H' yl => ?_⟩
    obtain ⟨p, v', u', rfl, hp, rfl, y1, y2⟩ := yl
    have e1 := y1 ws hH1
    have e2 := y2 us hH2
    rw [hv] at e1; cases e1
    rw [hu] at e2; cases e2
    have gr := Gr.tup (L := T.tbs) (o := .tup [v, u]) bs sh hp
    have q1 := (r1.mono s0 b0).mono gr.w.s gr.w.b
    have q2 := (r2.mono s0 b0).mono gr.w.s gr.w.b
    exact ⟨_, _, gr, .tup upd_same (ros2 q1 q2) .nil⟩
  · refine ⟨ws, us, hH1, hH2, ?_⟩
    have := List.getElem?_eq_none_iff.mp h
    simp only [zpD, List.length_map, List.length_zip] at this
    rw [← ro1.len, ← ro2.len]
    omega
theorem fz1 {i : Nat} {m : Cells} {Sf : Hp} (f : FzOk S mss [i] Sf) (h : mss[i]? = some m) : Sf = Wi S m := by
  cases f with
  | cons h' r =>
    rw [h] at h'; cases h'
    cases r; rfl
theorem fz2 {i j : Nat} {m1 m2 : Cells} {Sf : Hp} (f : FzOk S mss [i, j] Sf) (h1 : mss[i]? = some m1) (h2 : mss[j]? = some m2) (ap : i ≠ j → Apart m1 m2) : Same (Wi S m1) Sf ∧ Same (Wi S m2) Sf := by
  cases f with
  | cons h' r =>
    rw [h1] at h'; cases h'
    cases r with
    | cons h'' r =>
      cases r
      by_cases e : i = j
      · subst e
        rw [h1] at h2; cases h2
        exact ⟨Wi.same, Wi.same⟩
      · rw [List.getElem?_set_ne e, h2] at h''
        cases h''
        refine ⟨Wi.same, fun a o h => ?_⟩
        unfold Wi at h ⊢
        cases hs : S a with
        | some u => rw [hs] at h; simp only at h ⊢; exact h
        | none =>
          rw [hs] at h
          simp only at h ⊢
          have hm : (a, o) ∈ m2 := mem_of_lookup' h
          have hn : m1.lookup a = none := by
            cases hl : m1.lookup a with
            | none => rfl
            | some o' => exact absurd rfl (ap e (a, o') (mem_of_lookup' hl) (a, o) hm)
          rw [hn]
          exact h
@[simp] def noOwn : Rs → Bool
  | .own _ => false
  | _ => true
@[simp] def iZp (ma mb : ME) : MI := fun env => match ma env with
  | .ok r => match mb env with
    | .ok s => if noOwn r && noOwn s then (match itemsOf r.d with
      | some xs => match itemsOf s.d with
        | some ys => .ok (zpD xs ys) (rootOf r ++ rootOf s)
        | none => .er
      | none => .er) else .er
    | .ex x => .ex x
    | .er => .er
  | .ex x => .ex x
  | .er => .er
/-- a place's list, where what it stands in stands still -/
theorem place_ls {r : Rs} {v : V} {m : Cells} {items : List D} {Sf : Hp} (R : SRx T S' B' env mss σ H') (hn : noOwn r = true) (f : RFc T S' B' H' H mss r v m) (h : itemsOf r.d = some items) (s0 : Same S' Sf) (hs : ∀ i mi, r = .bor i r.d → mss[i]? = some mi → Same (Wi S' mi) Sf) : ∃ a, v = .ref a ∧ LsAt T Sf B' a items := by
  cases r with
  | own d => cases hn
  | ro d =>
    obtain ⟨a, rfl, ws, l1, l2⟩ := ls_of f.2 R.bs h
    exact ⟨a, rfl, ws, sql_mono s0 l1, l2.mono s0 (Same.refl _)⟩
  | bor i d =>
    obtain ⟨_, mi, h1, h2⟩ := f
    obtain ⟨a, rfl, ws, l1, l2⟩ := ls_of h2 (R.bs.trans Wi.same) h
    have s1 := hs i mi rfl h1
    exact ⟨a, rfl, ws, sql_mono s1 l1, l2.mono s1 (Same.refl _)⟩
theorem ip_zip (hK : X.K = T.K) (h : PI X tg e (iZip X.K (tPK T W [.p ma, .p mb]))) : PI X tg e (tI T W (iZp ma mb)) := by
  refine pi_of' h fun σ H R ⟨S, B, env, mss, Rx, q⟩ => ⟨S, B, env, mss, Rx, ?_⟩
  simp only [iZp] at q
  cases hm : ma env with
  | ok r =>
    simp only [hm] at q
    cases hm2 : mb env with
    | ok s =>
      simp only [hm2] at q
      simp only [aKs, hm, hm2]
      intro S' B' H' vs css g f
      split at q
      · rename_i hno
        simp only [Bool.and_eq_true] at hno
        cases h1 : itemsOf r.d with
        | none => simp only [h1] at q; exact q.elim
        | some xs =>
          cases h2 : itemsOf s.d with
          | none => simp only [h1, h2] at q; exact q.elim
          | some ys =>
            simp only [h1, h2] at q
            have R' := Rx.grow g
            cases f with
            | @r _ v mc _ vs css fc t ap =>
              cases t with
              | @r _ u md _ vs css fd t ap2 =>
                cases t
                have rd1 : Ros T B' H' [r.d] [v] := by
                  cases r with
                  | own d => cases hno.1
                  | ro d => exact Ros.mono fc.2 g.sh (Same.refl _)
                  | bor i d => obtain ⟨_, m', k1, k2⟩ := fc; exact k2.mono (Wi.le g.sh (R'.ok i m' k1)) (Same.refl _)
                have rd2 : Ros T B' H' [s.d] [u] := by
                  cases s with
                  | own d => cases hno.2
                  | ro d => exact Ros.mono fd.2 g.sh (Same.refl _)
                  | bor i d => obtain ⟨_, m', k1, k2⟩ := fd; exact k2.mono (Wi.le g.sh (R'.ok i m' k1)) (Same.refl _)
                obtain ⟨a, ea, ws, hs1, _⟩ := ls_of rd1 (g.bs.trans g.sh) h1
                obtain ⟨b, eb, us, hs2, _⟩ := ls_of rd2 (g.bs.trans g.sh) h2
                subst ea eb
                refine ⟨a, b, ws, us, rfl, hK ▸ hs1, hK ▸ hs2, ?_⟩
                rw [hK]
                refine q S' B' H' _ g fun Sf hz _ => ?_
                have key : Same S' Sf ∧ (∀ i mi, r = .bor i r.d → mss[i]? = some mi → Same (Wi S' mi) Sf) ∧ (∀ i mi, s = .bor i s.d → mss[i]? = some mi → Same (Wi S' mi) Sf) := by
                  cases r with
                  | own d => cases hno.1
                  | ro d =>
                    cases s with
                    | own d => cases hno.2
                    | ro d2 =>
                      cases hz
                      exact ⟨Same.refl _, fun _ _ z => (by cases z), fun _ _ z => (by cases z)⟩
                    | bor j d2 =>
                      obtain ⟨_, m', k1, _⟩ := fd
                      have e1 := fz1 hz k1
                      subst e1
                      exact ⟨Wi.same, fun _ _ z => (by cases z), fun i mi z hi => by cases z; rw [k1] at hi; cases hi; exact Same.refl _⟩
                  | bor i d =>
                    obtain ⟨_, m1, k1, _⟩ := fc
                    cases s with
                    | own d => cases hno.2
                    | ro d2 =>
                      have e1 := fz1 hz k1
                      subst e1
                      exact ⟨Wi.same, fun i mi z hi => by cases z; rw [k1] at hi; cases hi; exact Same.refl _, fun _ _ z => (by cases z)⟩
                    | bor j d2 =>
                      obtain ⟨_, m2, k2, _⟩ := fd
                      obtain ⟨q1, q2⟩ := fz2 hz k1 k2 fun hij => Rx.ap i j m1 m2 hij k1 k2
                      exact ⟨Wi.same.trans q1, fun i mi z hi => by cases z; rw [k1] at hi; cases hi; exact q1, fun i mi z hi => by cases z; rw [k2] at hi; cases hi; exact q2⟩
                obtain ⟨a1, ea, l1⟩ := place_ls R' hno.1 fc h1 key.1 key.2.1
                obtain ⟨b1, eb, l2⟩ := place_ls R' hno.2 fd h2 key.1 key.2.2
                cases ea
                cases eb
                exact its_zip l1 l2
      · exact q.elim
    | ex x => simp only [hm2] at q; simp only [aKs, hm, hm2]; exact q
    | er => simp only [hm2] at q; exact q.elim
  | ex x => simp only [hm] at q; simp only [aKs, hm]; exact q
  | er => simp only [hm] at q; exact q.elim
end
end Tr
namespace Tr
open PySem L2
@[simp] def mG2 (ma mb mc : ME) : ME := fun env => match ma env with
  | .ok ra => match unfz ra.d with
    | .dct ks xs => match mb env with
      | .ok rb => match keyOf rb.d with
        | some k => match mc env with
          | .ok rc => if copyD rc.d = true then (match dlook ks xs k with
            | some y => if copyD y = true then .ok (.own y) else .er
            | none => .ok (.own rc.d)) else .er
          | .ex x => .ex x
          | .er => .er
        | none => .er
      | .ex x => .ex x
      | .er => .er
    | _ => .er
  | .ex x => .ex x
  | .er => .er
end Tr
namespace Tr
open PySem L2
@[simp] def sAug (i : Nat) (g : Int → Int → Int) (m : ME) : MS := fun env => match env[i]? with
  | some (some (.own (.im (.int a)))) => match m env with
    | .ok r => match r.d with
      | .im (.int b) => .nx (env.set i (some (.own (.im (.int (g a b))))))
      | _ => .er
    | .ex x => .ex x env
    | .er => .er
  | _ => .er
end Tr
namespace Tr
open PySem L2 PySem.Spec PyProof.Rows
@[simp] def sAugL (g : Int → Int → Int) (ml : ML) (mi me : ME) : MS := fun env => match ml env with
  | .ok i p => match mi env with
    | .ok ri => match ri.d with
      | .im (.int k) => match env[i]? with
        | some (some (.own d)) => match getP p d with
          | some (.lst xs) => match L2.atI xs k with
            | some (.im (.int a)) => match me env with
              | .ok re => match re.d with
                | .im (.int b) => match opSetI (.lst xs) [.im (.int k), .im (.int (g a b))] with
                  | some (x', _) => .nx (env.set i (some (.own (setP p d x'))))
                  | none => .er
                | _ => .er
              | .ex x => .ex x env
              | .er => .er
            | _ => .er
          | _ => .er
        | _ => .er
      | _ => .er
    | .ex x => .ex x env
    | .er => .er
  | .ex x => .ex x env
  | .er => .er
end Tr
namespace Tr
open PySem L2
end Tr
namespace Tr
open PySem L2
end Tr
namespace Tr
open PySem L2
@[simp] def isDct : D → Bool
  | .dct _ _ => true
  | _ => false
end Tr
namespace Tr
open PySem L2
def rOwn : Rs → Option D
  | .own d => some d
  | .ro d => if copyD d = true then some d else none
  | .bor _ d => if copyD d = true then some d else none
@[simp] def eMutE (ky : D → Bool) (op : D → List D → Option (D × D)) (i : Nat) (me : EE) : EE := fun env => match env[i]? with
  | some (some (.own x0)) => if ky x0 = true then (match me env with
    | .ok r env => match rOwn r with
      | some d => match env[i]? with
        | some (some (.own x)) => match op x [d] with
          | some (x', res) => .ok (.own res) (env.set i (some (.own x')))
          | none => .er
        | _ => .er
      | none => .er
    | .ex x env => .ex x env
    | .er => .er) else .er
  | _ => .er
section
variable {X : Cx} {T : Tab} {W : WX} {e a : Expr} {me : EE} {S B H : Hp} {mss : List Cells} {env : En} {σ : L2.St} {v : V} {r : Rs} {i : Nat}
theorem rOwn_ok {d : D} (R : SRx T S B env mss σ H) (f : RFe T S B H mss r v) (h : rOwn r = some d) : ∃ ms, Owns T B [d] [v] ms ∧ CellsOk S H ms ∧ ∀ (j : Nat) (m : Cells), mss[j]? = some m → Apart m ms := by
  cases r with
  | own d' => cases h; exact f
  | ro d' =>
    simp only [rOwn] at h
    split at h
    · rename_i hc
      cases h
      exact ⟨[], copy_own f (copy1 hc), ⟨.nil, fun _ h => nomatch h⟩, fun _ _ _ _ _ _ h => nomatch h⟩
    · cases h
  | bor j d' =>
    simp only [rOwn] at h
    split at h
    · rename_i hc
      cases h
      obtain ⟨m, _, h2⟩ := f
      exact ⟨[], copy_own h2 (copy1 hc), ⟨.nil, fun _ h => nomatch h⟩, fun _ _ _ _ _ _ h => nomatch h⟩
    · cases h
theorem pa_1 (h : PE X e (tE T W me)) (hs : starEach [e] X.env = (false, eval e X.env) :: starEach [] X.env := by rfl) : PA X [e] (fun σ H Q => tE T W me σ H fun v H1 => Q [v] H1) :=
  pa_of (pa_cons h pa_nil hs) fun σ H Q q => q
theorem ee_mutE {Ty : String} {ky : D → Bool} {op : D → List D → Option (D × D)} {rr : V → List V → Hp → VK → Prop} (M : MutS T op rr) (hty : ∀ B H x u mx, Owns T B [x] [u] mx → (∀ c ∈ mx, H c.1 = some c.2) → ky x = true → tyV X.K Ty u H)
    (h : PE X a (tBM X.K Ty rr (tL T W (lVar i)) (fun σ H Q => tE T W me σ H fun v H1 => Q [v] H1))) : PE X a (tE T W (eMutE ky op i me)) := by
  refine pe_of h fun σ H Q ⟨S, B, env, mss, R, q⟩ => ⟨S, B, env, mss, R, ?_⟩
  cases hd : env[i]? with
  | none => simp only [eMutE, hd] at q; exact q.elim
  | some o =>
  cases o with
  | none => simp only [eMutE, hd] at q; exact q.elim
  | some o =>
  cases o with
  | ro d => simp only [eMutE, hd] at q; exact q.elim
  | own x0 =>
    simp only [eMutE, hd] at q
    split at q
    · rename_i hk
      simp only [lVar, hd]
      intro S1 B1 H1 v u g1 hv hu
      have R1 := R.grow g1
      have hx : atP i [] env = some x0 := by simp [atP, hd, getP]
      obtain ⟨v', u', mx, e1, e2, own, okx⟩ := R1.place hx
      rw [hv] at e1; cases e1
      rw [hu] at e2; cases e2
      refine ⟨hty B1 H1 x0 u mx own (fun c hc => (okx.2 c hc).1) hk, S1, B1, env, mss, R1, ?_⟩
      have hvu : v = u := by simpa [valP] using hu
      subst hvu
      cases hm : me env with
      | ok r env' =>
        simp only [hm] at q
        intro S2 B2 H2 mss2 w g2 R2 f2
        cases hr : rOwn r with
        | none => simp only [hr] at q; exact q.elim
        | some d =>
          simp only [hr] at q
          obtain ⟨ms, o1, o2, o3⟩ := rOwn_ok R2 f2 hr
          cases hd2 : env'[i]? with
          | none => simp only [hd2] at q; exact q.elim
          | some o =>
          cases o with
          | none => simp only [hd2] at q; exact q.elim
          | some o =>
          cases o with
          | ro d => simp only [hd2] at q; exact q.elim
          | own x =>
            simp only [hd2] at q
            cases hop : op x [d] with
            | none => simp only [hop] at q; exact q.elim
            | some xr =>
              obtain ⟨x', res⟩ := xr
              simp only [hop] at q
              exact mut_do (p := []) M R2 hd2 rfl hop o1 o2 o3 hv rfl fun mss4 H4 w mr R4 o4 c4 a4 => q S2 B2 H4 mss4 w (g1.w.trans g2) R4 ⟨mr, o4, c4, a4⟩
      | ex x env' => simp only [hm] at q; exact fun S2 B2 H2 mss2 cls d g2 R2 ef => q S2 B2 H2 mss2 cls d (g1.w.trans g2) R2 ef
      | er => simp only [hm] at q; exact q
    · exact q.elim
end
end Tr
namespace Tr
open PySem L2
@[simp] def eCall1 (mf : List Slot → FR) (me : EE) (ms : List ME) : EE := fun env => match me env with
  | .ok r env' => match mAs ms env' with
    | .ok rs => match mf ((r.d :: rs.map Rs.d).map Slot.ro) with
      | .ok d _ => .ok (.own d) env'
      | .ex x _ => .ex x env'
      | .er => .er
    | .ex x => .ex x env'
    | .er => .er
  | .ex x env' => .ex x env'
  | .er => .er
end Tr
namespace Tr
open PySem L2
@[simp] def eNot (ma : EE) : EE := fun env => match ma env with
  | .ok r env' => match r.d with
    | .im (.bl c) => .ok (.own (.im (.bl (!c)))) env'
    | _ => .er
  | .ex x env' => .ex x env'
  | .er => .er
end Tr
namespace Tr
open PySem L2
end Tr
namespace Tr
open PySem L2
section
variable {X : Cx} {T : Tab} {W : WX} {S B H : Hp} {pin : Pins} {σ0 : L2.St} {e : Expr} {m : ME} {pos : Pos}
def TgoR (T : Tab) (pin : Pins) (g : TG) (f : TgF) : Prop := ∀ S B env mss σ0 σ H d v ms env', SRx T S B env mss σ H → Pin pin σ0 σ → Owns T B [d] [v] ms → CellsOk S H ms → (∀ (i : Nat) (m : Cells), mss[i]? = some m → Apart m ms) → f d env = some env' →
  ∀ Q : L2.St → Hp → Prop, (∀ σ' mss', SRx T S B env' mss' σ' H → Pin pin σ0 σ' → (∀ N : Cells, Apart ms N → (∀ (i : Nat) (m : Cells), mss[i]? = some m → Apart m N) → ∀ (i : Nat) (m : Cells), mss'[i]? = some m → Apart m N) → Q σ' H) → g v σ H Q
def TgosR (T : Tab) (pin : Pins) (g : TGs) (f : TgsF) : Prop := ∀ S B env mss σ0 σ H ds vs ms env', SRx T S B env mss σ H → Pin pin σ0 σ → Owns T B ds vs ms → CellsOk S H ms → (∀ (i : Nat) (m : Cells), mss[i]? = some m → Apart m ms) → f ds env = some env' →
  ∀ Q : L2.St → Hp → Prop, (∀ σ' mss', SRx T S B env' mss' σ' H → Pin pin σ0 σ' → (∀ N : Cells, Apart ms N → (∀ (i : Nat) (m : Cells), mss[i]? = some m → Apart m N) → ∀ (i : Nat) (m : Cells), mss'[i]? = some m → Apart m N) → Q σ' H) → g vs σ H Q
@[simp] def toN (j : Nat) : TgF := fun d env => some (env.set j (some (.own d)))
theorem to_name {j : Nat} (hj : pin j = false) : TgoR T pin (gName j) (toN j) := by
  intro S B env mss σ0 σ H d v ms env' R hp o c ap h Q q
  simp only [toN, Option.some.injEq] at h
  subst h
  refine q _ (mss.set j ms) (R.set (e := some (.own d)) (s := some v) o c fun k m' _ hk => ap k m' hk) (pin_set hp hj) fun N h1 h2 i m hi => ?_
  rcases set_at hi with ⟨_, rfl⟩ | ⟨_, hk⟩
  · exact h1
  · exact h2 i m hk
@[simp] def tosNil : TgsF := fun ds env => match ds with
  | [] => some env
  | _ => none
@[simp] def tosCons (f : TgF) (fs : TgsF) : TgsF := fun ds env => match ds with
  | d :: ds => match f d env with
    | some env => fs ds env
    | none => none
  | [] => none
theorem tos_nil : TgosR T pin gNil tosNil := by
  intro S B env mss σ0 σ H ds vs ms env' R hp o c ap h Q q
  cases ds with
  | nil =>
    simp [tosNil] at h; subst h
    cases o
    exact ⟨rfl, q σ mss R hp fun N _ h2 => h2⟩
  | cons => simp [tosNil] at h
theorem tos_cons {g : TG} {gs : TGs} {f : TgF} {fs : TgsF} (h1 : TgoR T pin g f) (h2 : TgosR T pin gs fs) : TgosR T pin (gCons g gs) (tosCons f fs) := by
  intro S B env mss σ0 σ H ds vs ms env' R hp o c ap h Q q
  cases ds with
  | nil => simp [tosCons] at h
  | cons d ds =>
    obtain ⟨v, us, m1, m2, rfl, rfl, o1, o2⟩ := owns_uncons o
    obtain ⟨c1, c2, a12⟩ := cells_split c
    simp only [tosCons] at h
    cases hf : f d env with
    | none => simp [hf] at h
    | some env2 =>
      simp only [hf] at h
      refine ⟨v, us, rfl, h1 S B env mss σ0 σ H d v m1 env2 R hp o1 c1 (fun k m' hk => apart_left (ap k m' hk)) hf _ fun σ' mss' R' hp' k1 => ?_⟩
      refine h2 S B env2 mss' σ0 σ' H ds us m2 env' R' hp' o2 c2 (k1 m2 a12 fun k m' hk => apart_right (ap k m' hk)) h Q fun σ2 mss2 R2 hp2 k2 => q σ2 mss2 R2 hp2 fun N n1 n2 => ?_
      exact k2 N (fun x hx => n1 x (List.mem_append_right _ hx)) (k1 N (fun x hx => n1 x (List.mem_append_left _ hx)) n2)
@[simp] def toT (fs : TgsF) : TgF := fun d env => match d with
  | .tup xs => fs xs env
  | .fz (.tup xs) => fs (xs.map cover) env
  | _ => none
@[simp] def toL (fs : TgsF) : TgF := fun d env => match d with
  | .lst xs => fs xs env
  | _ => none
theorem owns_cover {ds : List D} {vs : List V} (r : Ros T B B ds vs) : Owns T B (ds.map cover) vs [] := by
  induction ds generalizing vs with
  | nil => rw [ros_nil r]; exact .nil
  | cons d ds ih =>
    obtain ⟨v, us, rfl, h1, r⟩ := ros_c r
    rw [List.map_cons]
    have h2 : Owns T B [cover d] [v] [] := by
      unfold cover
      split
      · rename_i hc; exact copy_own h1 (copy1 hc)
      · exact .fz h1 .nil
    have := owns_cons h2 (ih r)
    simpa using this
theorem to_tup {gs : TGs} {fs : TgsF} {n : Nat} (h : TgosR T pin gs fs) (hn : ∀ ds env env', fs ds env = some env' → ds.length = n) : TgoR T pin (gTup T.K n gs) (toT fs) := by
  intro S B env mss σ0 σ H d v ms env' R hp o c ap hf Q q
  unfold toT at hf
  split at hf
  · rename_i xs
    cases o with
    | tup h1 qo r =>
      cases r
      rw [List.append_nil] at c ap q
      exact ⟨_, _, rfl, SqT.of (R.bs.trans R.sh _ _ h1), by rw [← qo.len]; exact hn _ _ _ hf, h S B env mss σ0 σ H xs _ _ env' R hp qo c ap hf Q q⟩
  · rename_i xs
    cases o with
    | fz r0 r =>
      cases r
      obtain ⟨a, ws, rfl, h1, r1⟩ := ros_tup r0
      have o2 := owns_cover r1
      exact ⟨a, ws, rfl, SqT.of (R.bs.trans R.sh _ _ h1), by rw [← r1.len, ← hn _ _ _ hf, List.length_map], h S B env mss σ0 σ H _ ws [] env' R hp o2 c ap hf Q q⟩
  · cases hf
theorem tol_nil (ds : List D) (env env' : En) (h : tosNil ds env = some env') : ds.length = 0 := by
  cases ds with
  | nil => rfl
  | cons => simp [tosNil] at h
theorem tol_cons {f : TgF} {fs : TgsF} {n : Nat} (h : ∀ ds env env', fs ds env = some env' → ds.length = n) (ds : List D) (env env' : En) (hf : tosCons f fs ds env = some env') : ds.length = n + 1 := by
  cases ds with
  | nil => simp [tosCons] at hf
  | cons d ds =>
    simp only [tosCons] at hf
    cases h2 : f d env with
    | none => rw [h2] at hf; cases hf
    | some e2 => rw [h2] at hf; simp [h ds e2 env' hf]
@[simp] def sUnO (f : TgF) (m : ME) : MS := fun env => match m env with
  | .ok (.own d) => (match f d env with
    | some env => .nx env
    | none => .er)
  | .ok _ => .er
  | .ex x => .ex x env
  | .er => .er
theorem ss_uno {tg : Expr} {g : TG} {f : TgF} (hg : PG X tg g) (htg : TgoR T pin g f) (h : PE X e (tP T W m)) (hs : swapsWithSole [tg] e pos.line X.env = pure false := by rfl) (hw : swappedStores [tg] e X.env = pure none := by rfl)
    (h1 : (assignEach [tg] X.env).map (·.2) = [assign tg X.env] := by rfl) : PS X (.Assign [tg] e pos) (tS T W pin σ0 (sUnO f m)) := by
  refine ps_of (ps_asg h hg hs hw h1) fun D σ H ⟨S, B, env, mss, R, hp, q⟩ => ⟨S, B, env, mss, R, ?_⟩
  cases hm : m env with
  | ok r =>
    simp only [sUnO, hm] at q
    cases r with
    | ro d => exact q.elim
    | bor i d => exact q.elim
    | own d =>
      simp only at q
      intro S' B' H' v gr f1
      have R' := R.grow gr
      cases hf : f d env with
      | none => simp only [hf] at q; exact q.elim
      | some env2 =>
        simp only [hf] at q
        obtain ⟨ms, o, c, fr⟩ := f1
        refine htg S' B' env mss σ0 σ H' d v ms env2 R' hp o c (fun i m' hi x hx y hy e => ?_) hf _ fun σ' mss' R2 hp2 _ => q S' B' mss' σ' H' gr.w R2 hp2
        have h1 := (R.ok i m' hi).2 x hx
        have h2 := fr y hy
        rw [← e] at h2
        rw [h1.1] at h2
        cases h2
  | ex x => simp only [sUnO, hm] at q; exact fun S' B' H' cls d g ef => q S' B' mss σ H' cls d g.w (R.grow g) hp ef
  | er => simp only [sUnO, hm] at q; exact q
end
end Tr
namespace Tr
open PySem L2
section
variable {X : Cx} {T : Tab} {W : WX} {S B H : Hp} {a b : Expr} {ml : ML} {mi : ME} {pos : Pos}
def kpos (ks : List Key) (k : Key) : Option Nat := match ks with
  | [] => none
  | k' :: ks => if k' = k then some 0 else (kpos ks k).map (· + 1)
end
end Tr
namespace Tr
open PySem L2
end Tr
namespace Tr
open PySem L2
end Tr
namespace Tr
open PySem L2
section
variable {X : Cx} {T : Tab} {W : WX} {tg e : Expr} {m : ME} {S0 B0 : Hp} {p pos : Pos}
@[simp] def iRv1 (m : ME) : MI := fun env => match m env with
  | .ok r => match r.d with
    | .im (.int n) => if rgOk n then .ok (rgD 0 n.toNat).reverse [] else .er
    | _ => .er
  | .ex x => .ex x
  | .er => .er
end
end Tr
namespace Tr
open PySem L2
end Tr
namespace Tr
open PySem L2
section
variable {X : Cx} {T : Tab} {W : WX} {a b c : Expr} {pos : Pos}
/-- a op b op c, of ints -/
@[simp] def mChn (f f' : Int → Int → Bool) (ma mb mc : ME) : ME := fun env => match ma env with
  | .ok ra => match mb env with
    | .ok rb => match ra.d with
      | .im (.int i) => match rb.d with
        | .im (.int j) => if f i j = true then (match mc env with
          | .ok rc => match rc.d with
            | .im (.int k) => .ok (.own (.im (.bl (f' j k))))
            | _ => .er
          | .ex x => .ex x
          | .er => .er) else .ok (.own (.im (.bl false)))
        | _ => .er
      | _ => .er
    | .ex x => .ex x
    | .er => .er
  | .ex x => .ex x
  | .er => .er
end
end Tr
namespace L2
open PySem PySem.Spec PyProof.Rows
section
variable {X : Cx}
/-- a word f that takes what a dict's values tell, ints all: z as R says -/
def EatsV (X : Cx) (f : String) (R : List Int → Int → Prop) : Prop := ∀ (s : Shared) (a b : Addr) (vs : List (Key × Value)) (ep : Nat) (is : List Int) (Q : Value → Shared → Prop),
  s.heap.IsValuesView b a → s.heap.DictAt (mixKind X.prog X.w) a vs ep → a < s.heap.objs.size → vs.length = is.length →
  (∀ (i : Nat) (v : Value), (∃ k, vs[i]? = some (k, v)) → ∃ t, v = Value.int (is.getD i 0) t) → X.A.in1.handled = none →
  (∃ z, R is z ∧ ∀ h' tk t', (∀ c u, s.heap.get? c = some u → h'.get? c = some u) → Q (.int z t') { s with heap := h', toks := tk }) →
  wpAny (model X.prog X.w) X.A (call (.builtin f) [.ref b]) Q X.xe s
theorem eats_max : EatsV X "max" (fun is m => m ∈ is ∧ ∀ j ∈ is, j ≤ m) := by
  intro s a b vs ep is Q hv dat hlt hl hval hh ⟨z, ⟨z1, z2⟩, q⟩
  have ne : 0 < vs.length := by rw [hl]; exact List.length_pos_of_mem z1
  refine call_max_walk (wpAny_pyIter_values hv dat ?_)
  refine ⟨_, _, _, _, _, _, _, rfl, Walks.dictValues (knd := mixKind X.prog X.w) (A := X.A.in1) hh s.heap.objs.size a (Nat.ne_of_lt hlt) vs ep,
    ⟨⟨_, Heap.get?_push_size _ rfl, rfl, rfl⟩, dat.keep fun b u e => Heap.get?_push_of_some _ e⟩, fun c hc => ?_, ne, CmpOf.ints_gt (fun i => is.getD i 0) hval, fun v h' tk hP hk => ?_⟩
  · show c < (s.heap.push _).objs.size
    rw [Heap.size_push]
    rcases List.mem_cons.mp hc with e | hc
    · rw [e]; exact Nat.lt_succ_self _
    · rw [List.mem_singleton.mp hc]; exact Nat.lt_succ_of_lt hlt
  · obtain ⟨t, rfl⟩ := hval _ v hP
    obtain ⟨b1, b2⟩ := argBest_gt (fun i => is.getD i 0) (vs.length - 1)
    have hin : argBest (fun i j => decide (is.getD i 0 > is.getD j 0)) (vs.length - 1) < is.length := by omega
    have e : is.getD (argBest (fun i j => decide (is.getD i 0 > is.getD j 0)) (vs.length - 1)) 0 = z := by
      refine Int.le_antisymm (z2 _ ?_) ?_
      · rw [List.getD_eq_getElem?_getD, List.getElem?_eq_getElem hin]; exact List.getElem_mem hin
      · obtain ⟨i, hi, e⟩ := List.mem_iff_getElem.mp z1
        have e2 : is.getD i 0 = z := by rw [List.getD_eq_getElem?_getD, List.getElem?_eq_getElem hi, ← e]; rfl
        rw [← e2]; exact b2 i (by omega)
    rw [e]
    refine q h' tk t fun c u hc => hk c u (fun hm => ?_) (Heap.get?_push_of_some _ hc)
    rw [List.mem_singleton.mp hm] at hc
    exact absurd (Heap.lt_size hc) (Nat.lt_irrefl _)
/-- f(o.values()), a dict with int values -/
def tVals (R : List Int → Int → Prop) (td : TE) : TE := fun σ H Q => td σ H fun x H1 => ∃ a kvs is z, x = V.ref a ∧ Rd H1 a (.dK kvs) ∧ kvs.map (·.2) = is.map V.int ∧ R is z ∧ Q (.int z) H1
variable {o : Expr} {p pos apos mpos : Pos} {td : TE}
theorem pe_vals {f : String} {R : List Int → Int → Prop} (hf : EatsV X f R) (hc : X.calm = true) (hg : Gl X (Str.ofString f)) (hm : X.mg (Str.ofString f) = none) (hb : bootBuiltins (Str.ofString f) = some (.builtin f)) (hn1 : Str.ofString f ≠ "__name__") (hn2 : (Str.ofString f == ("__debug__" : Str)) = false) (hd : PE X o td) (hbase : attributeBase o "values" X.env (eval o X.env) = eval o X.env := by rfl) (hline : (apos.endLine == mpos.line) = true := by rfl)
    (hse : starEach [Expr.Call (.Attribute o "values" apos) [] [] mpos] X.env = [(false, eval (Expr.Call (.Attribute o "values" apos) [] [] mpos) X.env)] := by rfl) :
    PE X (.Call (.Name (Str.ofString f) p) [.Call (.Attribute o "values" apos) [] [] mpos] [] pos) (tVals R td) := by
  refine ⟨fun pins s σ H Q I h => ?_⟩
  refine wpAny_Call_Name_kw (ld_blt I hg hm hb ?_ hn1 hn2)
  rw [hse]
  refine PySem.callWith_builtin1 (wpAny_Call_method0_late hbase hline (thn (hd.run pins s σ H _ I h) fun v s1 ⟨x, H1, I1, r1, a, kvs, is, z, ex, ha, hv, hR, q⟩ => ?_))
  subst ex
  obtain rfl : v = Value.ref a := r1
  obtain ⟨_, hsys, vs, rel, dof⟩ := dk_rd I1.hok ha
  obtain ⟨ep, dat⟩ := dof.dictAt
  obtain ⟨ob, es, ho, ex, hdat, hko, hpr, hnd⟩ := id dat
  refine ⟨"dict", "dict.values", F.plainAttrs_dict, F.slot_dict_values, F.type_dict_values, ⟨ob, ho, ex.1⟩, fun b e => ?_, Calls.callWith_builtin rfl (PySem.evalArgs_none ?_)⟩
  · cases e
    exact ⟨ob, ho, ex.2.1⟩
  refine call_meetsIn F.slot_dict_values ⟨ob, ho, ex.1⟩ F.entry_dict_values (F.args_dict_values_1 _) (meets_dict_values (mixKind X.prog X.w) a hsys) ⟨⟨vs, dof⟩, ?_⟩
  have k1 : ∀ b u, s1.heap.get? b = some u → (s1.heap.push { cls := .type "dict_values", data := .fields #[.ref a] }).get? b = some u := fun b u e => Heap.get?_push_of_some _ e
  have hlv : vs.length = is.length := by
    have e1 := congrArg List.length hv
    rw [List.length_map, List.length_map] at e1
    rw [← e1]
    exact (KV.length rel).symm
  refine hf _ a s1.heap.objs.size vs ep is _ ⟨_, Heap.get?_push_size _ rfl, rfl, rfl⟩ (dat.keep k1) (by rw [Heap.size_push]; exact Nat.lt_succ_of_lt (Heap.lt_size ho)) hlv (fun i v ⟨k, hk⟩ => ?_) (I.ok.hd hc) ⟨z, hR, fun h' tk t' hk => ?_⟩
  · obtain ⟨x, h1, h2⟩ := KV.at' rel hk
    have e1 : (kvs.map (·.2))[i]? = some x := by rw [List.getElem?_map, h1]; rfl
    rw [hv, List.getElem?_map] at e1
    obtain ⟨j, hj, rfl⟩ := Option.map_eq_some_iff.mp e1
    obtain ⟨t, e3⟩ := h2
    exact ⟨t, by rw [e3, List.getD_eq_getElem?_getD, hj]; rfl⟩
  · exact ⟨.int z, H1, I1.kept (t' := tk) fun b u e => hk b u (k1 b u e), ⟨t', rfl⟩, q⟩
end
end L2
namespace Tr
open PySem L2
section
variable {X : Cx} {T : Tab} {W : WX} {o : Expr} {p pos apos mpos : Pos} {m : ME}
/-- what is told of a dict's values, ints all -/
def fVals (g : List Int → Option Int) : List D → Option D
  | [d] => match unfz d with
    | .dct _ ds => match intsD ds with
      | some is => (g is).map fun z => .im (.int z)
      | none => none
    | _ => none
  | _ => none
theorem i_vals {g : List Int → Option Int} {R : List Int → Int → Prop} (hR : ∀ is z, g is = some z → R is z) {σ : L2.St} {H : Hp} {Q : VK} (q : tP T W (m1 (fVals g) m) σ H Q) : tVals R (tP T W m) σ H Q := by
  obtain ⟨S, B, env, mss, Rx, q⟩ := q
  refine ⟨S, B, env, mss, Rx, ?_⟩
  cases hm : m env with
  | ok r =>
    simp only [m1, hm] at q
    intro S1 B1 H1 v g1 f1
    have R1 := Rx.grow g1
    have rd := ros_unfz (R1.bs.trans R1.sh) (f1.read R1)
    cases hf : fVals g [r.d] with
    | none => simp only [hf] at q; exact q.elim
    | some z =>
      simp only [hf] at q
      unfold fVals at hf
      simp only at hf
      split at hf
      · rename_i ks ds hd
        rw [hd] at rd
        obtain ⟨a, ws, rfl, h1, hl, r2⟩ := ros_dct rd
        split at hf
        · rename_i is hi
          rw [ints_eq hi] at r2
          obtain rfl := ros_ims r2
          simp only [Option.map_eq_some_iff] at hf
          obtain ⟨y, hy, rfl⟩ := hf
          exact ⟨a, _, is, y, rfl, h1, by rw [List.map_snd_zip (by omega)], hR _ _ hy, q S1 B1 H1 _ g1 (RF.imm rfl)⟩
        · cases hf
      · cases hf
  | ex x => simp only [m1, hm] at q; exact q
  | er => simp only [m1, hm] at q; exact q
abbrev gMaxV : List Int → Option Int := List.max?
theorem ep_maxV (hc : X.calm = true) (hg : Gl X "max") (hm : X.mg "max" = none) (hd : PE X o (tP T W m)) (hbase : attributeBase o "values" X.env (eval o X.env) = eval o X.env := by rfl) (hline : (apos.endLine == mpos.line) = true := by rfl)
    (hse : starEach [Expr.Call (.Attribute o "values" apos) [] [] mpos] X.env = [(false, eval (Expr.Call (.Attribute o "values" apos) [] [] mpos) X.env)] := by rfl) :
    PE X (.Call (.Name "max" p) [.Call (.Attribute o "values" apos) [] [] mpos] [] pos) (tP T W (m1 (fVals gMaxV) m)) :=
  pe_of (pe_vals eats_max hc hg hm (by first | rfl | decide +kernel) (by decide +kernel) (by decide +kernel) hd hbase hline hse) fun _ _ _ => i_vals (g := gMaxV) (R := fun is m => m ∈ is ∧ ∀ j ∈ is, j ≤ m) fun is z h => int_max h
end
end Tr
namespace Tr
open PySem L2
section
variable {X : Cx} {T : Tab} {W : WX} {pin : Pins} {σ0 : L2.St} {sts : List Stmt} {S B H : Hp} {env : En} {mss : List Cells} {σ : L2.St} {m : MS}
/-- a read copy is one's own -/
@[simp] def ownE (i : Nat) (env : En) : En := match env[i]? with
  | some (some (.ro d)) => if copyD d = true then env.set i (some (.own d)) else env
  | _ => env
@[simp] def sOwn (i : Nat) (m : MS) : MS := fun env => m (ownE i env)
end
end Tr
namespace Tr
open PySem L2
end Tr
namespace Tr
open PySem L2
def itK (ks : List Key) : List D := ks.map fun k => .im (kV k)
@[simp] def mLcK (i : Nat) (js : List Nat) (f : TgF) (mt : MT) (me : ME) : ME := fun env => match env[i]? with
  | some (some (.own (.dct ks xs))) => if decide (ks.length = xs.length) && decide (ks.length ≤ 1000000) then (match lcG js f mt me (roE env) (itK ks) [] with
    | .ok ds => .ok (.own (.lst ds))
    | _ => .er) else .er
  | _ => .er
end Tr
namespace Tr
open PySem L2
end Tr
namespace Tr
open PySem L2
@[simp] def e2r (f : List D → Option D) (ma : ME) (me : EE) : EE := fun env => match ma env with
  | .ok (.bor _ _) => .er
  | .ok (.own d) => if copyD d = true then (match me env with
    | .ok rb env' => match f [d, rb.d] with
      | some z => .ok (.own z) env'
      | none => .er
    | .ex x env' => .ex x env'
    | .er => .er) else .er
  | .ok (.ro d) => (match me env with
    | .ok rb env' => match f [d, rb.d] with
      | some z => .ok (.own z) env'
      | none => .er
    | .ex x env' => .ex x env'
    | .er => .er)
  | .ex x => .ex x env
  | .er => .er
end Tr
namespace Tr
open PySem L2
@[simp] def keepR : Rs → Option D
  | .own d => some d
  | .ro d => if copyD d then some d else none
  | .bor _ d => if copyD d then some d else none
@[simp] def lcO (js : List Nat) (f : TgF) (mt : MT) (me : ME) (env : En) : List D → List D → Rz (List D)
  | [], acc => .ok acc
  | d :: ds, acc => match f d (wipeE env js) with
    | some env2 => match mt env2 with
      | .ok true env3 => match me env3 with
        | .ok r => match keepR r with
          | some z => lcO js f mt me env ds (acc ++ [z])
          | none => .er
        | _ => .er
      | .ok false _ => lcO js f mt me env ds acc
      | _ => .er
    | none => .er
@[simp] def mLcO (mi : MI) (js : List Nat) (f : TgF) (mt : MT) (me : ME) : ME := fun env => match mi env with
  | .ok items fz => if fz.all (fun i => decide (i < env.length)) && decide (items.length ≤ 1000000) then (match lcO js f mt me (roE env) items [] with
    | .ok ds => .ok (.own (.lst ds))
    | _ => .er) else .er
  | .ex x => .ex x
  | .er => .er
theorem owns_append {T : Tab} {B : Hp} {xs ys : List D} {vs ws : List V} {m m' : Cells} (a : Owns T B xs vs m) (b : Owns T B ys ws m') : Owns T B (xs ++ ys) (vs ++ ws) (m ++ m') := by
  induction a with
  | nil => exact b
  | im h r ih => exact .im h ih
  | lst q r iq ih => simp only [List.cons_append, List.append_assoc]; exact .lst q ih
  | tup h q r iq ih => simp only [List.cons_append, List.append_assoc]; exact .tup h q ih
  | dct hl q r iq ih => simp only [List.cons_append, List.append_assoc]; exact .dct hl q ih
  | obj hc hl q r iq ih => simp only [List.cons_append, List.append_assoc]; exact .obj hc hl q ih
  | fz q r ih => exact .fz q ih
  | fn h r ih => exact .fn h ih
section
variable {X : Cx} {T : Tab} {W : WX} {e : Expr} {ma mb me : ME} {mt : MT} {mi : MI} {pos : Pos} {S B H S' B' H' H0 : Hp} {env : En} {mss : List Cells} {σ : L2.St} {js : List Nat} {f : TgF} {g : TG}
/-- what is kept of an item: its own cells, all new -/
theorem keep_own {r : Rs} {z : D} {v : V} (h : keepR r = some z) (sh : Same S H) (bs : Same B S) (R : SRx T S B env mss σ H) (f : RF T S B H H0 mss r v) : ∃ m, Owns T B [z] [v] m ∧ CellsOk S H m ∧ ∀ c ∈ m, H0 c.1 = none := by
  have cp : copyD r.d = true → z = r.d → ∃ m, Owns T B [z] [v] m ∧ CellsOk S H m ∧ ∀ c ∈ m, H0 c.1 = none := fun hc e => by
    subst e
    exact ⟨[], copy_own (f.read R) (copy1 hc), ⟨.nil, fun _ h => nomatch h⟩, fun _ h => nomatch h⟩
  cases r with
  | own d =>
    cases h
    obtain ⟨m, o, c, n⟩ := f
    exact ⟨m, o, c, n⟩
  | ro d =>
    simp only [keepR] at h
    split at h
    · rename_i hc; cases h; exact cp hc rfl
    · cases h
  | bor i d =>
    simp only [keepR] at h
    split at h
    · rename_i hc; cases h; exact cp hc rfl
    · cases h
def McO (H1 B2 Hx : Hp) (Dn : Addr) (mc : Cells) : Prop := (mc.map (·.1)).Nodup ∧ ∀ c ∈ mc, Hx c.1 = some c.2 ∧ H1 c.1 = none ∧ B2 c.1 = none ∧ c.1 ≠ Dn
def LcEnO (T : Tab) (B1 H1 : Hp) (ds : List D) (v : V) (Hx : Hp) : Prop := ∃ Dn B2 ws, v = .ref Dn ∧ H1 Dn = none ∧ SameN T.tbs H1 Hx ∧ Hx Dn = some (.lst ws) ∧ Same B1 B2 ∧ Same B2 Hx ∧ B2 Dn = none ∧ (∀ a o, B2 a = some o → B1 a = some o ∨ H1 a = none) ∧ TcOk T B2 Hx ∧ ∃ mc, Owns T B2 ds ws mc ∧ McO H1 B2 Hx Dn mc
theorem lco_core {J : It} {items ds : List D} {env : En} {B1 H1 : Hp} {Q : VK} (tb1 : TbOk T B1 H1) (tc1 : TcOk T B1 H1) (bh : Same B1 H1) (E0 : RoE T (nT T H1) B1 env σ)
    (I : ∀ (Hx B2 : Hp), SameN T.tbs H1 Hx → Same B1 B2 → Same B2 Hx → TbOk T B2 Hx → ∀ i : Nat, (∀ d, items[i]? = some d → J.go i Hx ∧ ∀ x H', J.yld i Hx x H' → ∃ S' B', Gr T.tbs (nT T Hx) B2 Hx S' B' H' ∧ Ros T B' S' [d] [x]) ∧ (items[i]? = none → J.stop i Hx))
    (hg : TgR T (offJ js) g f) (hlen : items.length ≤ 1000000) (hds : lcO js f mt me env items [] = .ok ds) (hq : ∀ v Hx, LcEnO T B1 H1 ds v Hx → Q v Hx) :
    ∀ D, H1 D = none → ∃ Wt : Nat → Nat → Hp → Prop, (∃ m, Wt 0 m (upd H1 D (.lst []))) ∧ ∀ i m H, Wt i m H →
      (J.stop i H ∧ Q (.ref D) H) ∨ (J.go i H ∧ ∃ Nx : Hp → Prop, (∀ H', Nx H' → ∃ m', m' < m ∧ Wt (i + 1) m' H') ∧ ∀ x H', J.yld i H x H' → g x (wipe σ js) H' fun σ2 H2 => wipe σ2 js = wipe σ js ∧ tT T WF mt σ2 H2 fun b H3 =>
        if b = true then tP T WF me σ2 H3 fun y H4 => ∃ acc, H4 D = some (.lst acc) ∧ acc.length < sizeLine ∧ Nx (upd H4 D (.lst (acc ++ [y]))) else Nx H3) := by
  intro D hD
  have g0 : ∀ {o : HO}, Gr T.tbs B1 B1 H1 B1 B1 (upd H1 D o) := Gr.own (Same.refl _) bh hD
  let IV : Nat → Hp → Prop := fun i Hx => ∃ B2 ws acc mc, SameN T.tbs H1 Hx ∧ Hx D = some (.lst ws) ∧ Same B1 B2 ∧ Same B2 Hx ∧ B2 D = none ∧ (∀ a o, B2 a = some o → B1 a = some o ∨ H1 a = none) ∧ TcOk T B2 Hx ∧ Owns T B2 acc ws mc ∧ McO H1 B2 Hx D mc ∧ ws.length ≤ i ∧ lcO js f mt me env (items.drop i) acc = .ok ds
  refine ⟨fun i m Hx => m = items.length - i ∧ IV i Hx, ⟨items.length, rfl, B1, [], [], [], g0.h, upd_same, Same.refl _, g0.sh, bh.free hD, fun a o h => .inl h, (fun p hp => (g0 (o := .lst [])).t p hp (tc1 p hp)), .nil, ⟨.nil, fun _ h => nomatch h⟩, Nat.zero_le _, hds⟩, ?_⟩
  rintro i m Hx ⟨rfl, B2, ws, acc, mc, k1, k2, k3, k4, k5, k6, kt, k7, k7c, k8, k9⟩
  have tbB := tb_far tb1 (Same.refl _) k1 k6
  obtain ⟨yes, no⟩ := I Hx B2 k1 k3 k4 tbB i
  cases hi' : items[i]? with
  | none =>
    have hl : items.length ≤ i := List.getElem?_eq_none_iff.mp hi'
    rw [List.drop_eq_nil_of_le hl] at k9
    simp only [lcO] at k9
    have e9 := Rz.ok.inj k9
    subst e9
    exact .inl ⟨no hi', hq _ _ ⟨D, B2, ws, rfl, hD, k1, k2, k3, k4, k5, k6, kt, mc, k7, k7c⟩⟩
  | some d =>
    have hl : i < items.length := (List.getElem?_eq_some_iff.mp hi').1
    have ed : items.drop i = d :: items.drop (i + 1) := by
      rw [List.drop_eq_getElem_cons hl]
      congr 1
      exact (List.getElem?_eq_some_iff.mp hi').2
    rw [ed] at k9
    obtain ⟨go, yl⟩ := yes d hi'
    refine .inr ⟨go, fun Hx => IV (i + 1) Hx, fun H' h => ⟨items.length - (i + 1), by omega, rfl, h⟩, fun x H2 y => ?_⟩
    obtain ⟨S2, B2', gr, ro⟩ := yl x H2 y
    have hS2 := gr.h
    have tb2 := tb_grow (nT_tb tbB) gr.h gr.f
    have tbN := nT_tb tb2
    have tc2 : TcOk T B2' H2 := fun p hp => gr.t p hp (kt p hp)
    have E2 : RoE T (nT T H2) B2' (wipeE env js) (wipe σ js) := (E0.up (nT_up (k1.trans hS2)) (k3.trans gr.w.b)).wipe js
    simp only [lcO] at k9
    cases hf : f d (wipeE env js) with
    | none => simp only [hf] at k9; cases k9
    | some env2 =>
    simp only [hf] at k9
    refine hg (nT T H2) B2' _ _ (wipe σ js) (wipe σ js) H2 d x env2 (E2.srx (gr.bs.trans (nT_in tb2 gr.sh)) nT_le tbN tc2) ⟨rfl, fun k _ => rfl⟩ (ro.mono (nT_in tb2 gr.sh) (Same.refl _)) hf _ fun σ2 mss2 R2 hp2 => ?_
    refine ⟨(wipe_pin hp2.1 fun k hk => hp2.2 k hk).trans (wipe_idem σ js), nT T H2, B2', env2, mss2, R2, ?_⟩
    have nD : ∀ {Bn : Hp}, (∀ a o, Bn a = some o → B2' a = some o ∨ H2 a = none) → (∀ a u, Hx a = some u → B2 a = none → Bn a = none) ∧ ∀ a o, Bn a = some o → B1 a = some o ∨ H1 a = none := fun {Bn} hn => by
      have key : ∀ a o, Bn a = some o → B2 a = some o ∨ Hx a = none := fun a o h => by
        rcases hn a o h with z | z
        · exact nT_free gr.bs tb2 gr.w.n _ _ z
        · exact .inr (hS2.free z)
      refine ⟨fun a u hx hb => ?_, fun a o h => ?_⟩
      · cases e : Bn a with
        | none => rfl
        | some o =>
          rcases key _ _ e with z | z
          · rw [hb] at z; cases z
          · rw [hx] at z; cases z
      · rcases key a o h with z | z
        · exact k6 _ _ z
        · exact .inr (k1.free z)
    cases hz : mt env2 with
    | ok b env3 =>
      intro S3 B3 H3 mss3 g3 R3
      simp only [hz] at k9
      have t3 : SameN T.tbs H2 H3 := nT_N tbN (g3.s.trans R3.sh) R3.tb
      have n3 := nT_free R3.bs R3.tb g3.n
      have nt := k7.nt
      cases b with
      | false =>
        rw [if_neg Bool.false_ne_true]
        obtain ⟨n1, n2⟩ := nD (Bn := B3) n3
        exact ⟨B3, ws, acc, mc, (k1.trans hS2).trans t3, t3.n _ _ (hS2.n _ _ k2 nt_lst) nt_lst, (k3.trans gr.w.b).trans g3.b, R3.bs.trans R3.sh, n1 _ _ k2 k5, n2, R3.tc, k7.mono (gr.w.b.trans g3.b), ⟨k7c.1, fun c hc => by
          obtain ⟨c1, c2, c3, c4⟩ := k7c.2 c hc
          exact ⟨t3.n _ _ (hS2.n _ _ c1 (nt c hc)) (nt c hc), c2, n1 _ _ c1 c3, c4⟩⟩, by omega, k9⟩
      | true =>
        rw [if_pos rfl]
        refine ⟨S3, B3, env3, mss3, R3, ?_⟩
        cases hm : me env3 with
        | ok r =>
          intro S4 B4 H4 v g4 f4
          simp only [hm] at k9
          cases hk : keepR r with
          | none => simp only [hk] at k9; cases k9
          | some z =>
            simp only [hk] at k9
            have R4 := R3.grow g4
            obtain ⟨m4, ow, c4, n4⟩ := keep_own hk R4.sh R4.bs R4 f4
            have t4 := g4.h
            have up := (hS2.trans t3).trans t4
            have hD3 : H3 D = some (.lst ws) := t3.n _ _ (hS2.n _ _ k2 nt_lst) nt_lst
            have hD4 : H4 D = some (.lst ws) := t4.n _ _ hD3 nt_lst
            obtain ⟨n1, n2⟩ := nD (Bn := B4) (nT_free R4.bs R4.tb fun a o h => by
              rcases g4.w.n _ _ h with z | z
              · exact g3.n _ _ z
              · exact .inr (g3.s.free z))
            have nBD := n1 _ _ k2 k5
            have b4 : Same B4 (upd H4 D (.lst (ws ++ [v]))) := fun a u h => by
              rw [upd_ne (fun z => by rw [z, nBD] at h; cases h)]
              exact (R4.bs.trans R4.sh) _ _ h
            have hsz := le_line hlen
            have mk : McO H1 B4 (upd H4 D (.lst (ws ++ [v]))) D (mc ++ m4) := by
              refine ⟨?_, fun c hc => ?_⟩
              · rw [List.map_append, List.nodup_append]
                refine ⟨k7c.1, c4.1, fun a ha b hb e => ?_⟩
                obtain ⟨c, hc, rfl⟩ := List.mem_map.mp ha
                obtain ⟨c', hc', rfl⟩ := List.mem_map.mp hb
                have q1 := t3.n _ _ (hS2.n _ _ (k7c.2 c hc).1 (nt c hc)) (nt c hc)
                have q2 := n4 c' hc'
                rw [e, q2] at q1; cases q1
              · rcases List.mem_append.mp hc with hc | hc
                · obtain ⟨c1, c2, c3, c5⟩ := k7c.2 c hc
                  exact ⟨by rw [upd_ne c5]; exact up.n _ _ c1 (nt c hc), c2, n1 _ _ c1 c3, c5⟩
                · have q2 := n4 c hc
                  have ne : c.1 ≠ D := fun e => by rw [e, hD3] at q2; cases q2
                  exact ⟨by rw [upd_ne ne]; exact (c4.2 c hc).1, ((k1.trans hS2).trans t3).free q2, R4.bs.free (c4.2 c hc).2, ne⟩
            refine ⟨ws, hD4, by omega, B4, ws ++ [v], acc ++ [z], mc ++ m4, same_new hD (k1.trans up), upd_same, ((k3.trans gr.w.b).trans g3.b).trans g4.w.b, b4, nBD, n2, tc_upd R4.tc hD4 nt_lst, owns_append (k7.mono ((gr.w.b.trans g3.b).trans g4.w.b)) ow, mk, by simp; omega, k9⟩
        | ex x => simp only [hm] at k9; cases k9
        | er => simp only [hm] at k9; cases k9
    | ex x env3 => simp only [hz] at k9; cases k9
    | er => simp only [hz] at k9; cases k9
theorem lco_fin {ds : List D} {v : V} {Hx S B H B1 : Hp} {Q : VK} (bs : Same B S) (sh : Same S H) (tb : TbOk T S H) (le : LcEnO T B H ds v Hx) (q : PP T W S B mss σ H Q (.ok (.own (.lst ds)))) : Q v Hx := by
  obtain ⟨Dn, B2, ws, rfl, hD, k1, k2, k3, k4, k5, k6, kt, mc, k7, k8⟩ := le
  have tbB : TbOk T B2 Hx := tb_far tb bs k1 k6
  let Sx : Hp := fun a => if a = Dn ∨ a ∈ mc.map (·.1) then none else nT T Hx a
  have s1 : Same (nT T H) Sx := fun a u h => by
    show (if a = Dn ∨ a ∈ mc.map (·.1) then none else nT T Hx a) = _
    rw [if_neg]
    · exact nT_up k1 _ _ h
    · rintro (z | z)
      · rw [z, nT_none hD] at h; cases h
      · obtain ⟨c, hc, rfl⟩ := List.mem_map.mp z
        rw [nT_none (k8.2 c hc).2.1] at h; cases h
  have b2 : Same B2 Sx := fun a u h => by
    show (if a = Dn ∨ a ∈ mc.map (·.1) then none else nT T Hx a) = _
    rw [if_neg]
    · exact nT_in tbB k4 _ _ h
    · rintro (z | z)
      · rw [z, k5] at h; cases h
      · obtain ⟨c, hc, rfl⟩ := List.mem_map.mp z
        rw [(k8.2 c hc).2.2.1] at h; cases h
  have s2 : Same Sx Hx := fun a u h => by
    have h : (if a = Dn ∨ a ∈ mc.map (·.1) then none else nT T Hx a) = some u := h
    split at h
    · cases h
    · exact nT_le _ _ h
  have tbS : TbOk T Sx Hx := fun p hp => ⟨(tbB p hp).1, by
    show (if p.1 = Dn ∨ p.1 ∈ mc.map (·.1) then none else nT T Hx p.1) = none
    split
    · rfl
    · exact nT_off hp⟩
  have g' := gr_pure bs sh tb ⟨s1, k3, fun a o h => (k6 a o h).imp id nT_none⟩ b2 s2 tbS kt
  have o : Owns T B2 [.lst ds] [.ref Dn] ((Dn, .lst ws) :: (mc ++ [])) := .lst k7 .nil
  rw [List.append_nil] at o
  have c : CellsOk Sx Hx ((Dn, .lst ws) :: mc) := by
    refine ⟨?_, fun c hc => ?_⟩
    · rw [List.map_cons, List.nodup_cons]
      refine ⟨fun h => ?_, k8.1⟩
      obtain ⟨c, hc, e⟩ := List.mem_map.mp h
      exact (k8.2 c hc).2.2.2 e
    · rcases List.mem_cons.mp hc with e | hc
      · subst e; exact ⟨k2, if_pos (.inl rfl)⟩
      · exact ⟨(k8.2 c hc).1, if_pos (.inr (List.mem_map.mpr ⟨c, hc, rfl⟩))⟩
  exact q _ _ _ _ g' (own_pure sh tb tbS s1 o c b2)
theorem i_lcO {Q : VK} (hg : TgR T (offJ js) g f) (h : tP T W (mLcO mi js f mt me) σ H Q) : tLc (tI T W mi) g (tT T WF mt) (tP T WF me) js σ H Q := by
  obtain ⟨S, B, env, mss, R, q⟩ := h
  refine ⟨S, B, env, mss, R, ?_⟩
  cases hi : mi env with
  | ex x => simp only [mLcO, hi] at q; exact q
  | er => simp only [mLcO, hi] at q; exact q
  | ok items fz =>
    intro S1 B1 H1 J gr hJ
    simp only [mLcO, hi] at q
    split at q
    · rename_i hc
      simp only [Bool.and_eq_true, List.all_eq_true, decide_eq_true_eq] at hc
      have R1 := R.grow gr
      obtain ⟨Sf, f1, f2⟩ := fz_ex (H := nT T H1) (fz := fz) (nT_in R1.tb R1.sh) (fun k m hk c hc => nT_of R1.tb ((R1.ok k m hk).2 c hc).1 (R1.nt hk c hc)) (fun i hi => by rw [R1.l2, ← R1.l1]; exact hc.1 i hi)
      have I := hJ Sf f1 (f2.trans nT_le)
      cases hl : lcO js f mt me (Tr.roE env) items [] with
      | ok ds =>
        rw [hl] at q
        have q1 := q.grow gr
        exact lco_core (tb_sub R1.bs R1.tb) R1.tc (R1.bs.trans R1.sh) R1.roE (fun Hx B2 k1 k3 k4 tbB => I (nT T Hx) B2 Hx (f2.trans (nT_up k1)) k3 (nT_in tbB k4) nT_le) hg hc.2 hl fun v Hx le => lco_fin (B1 := B1) R1.bs R1.sh R1.tb le q1
      | ex x => rw [hl] at q; exact q.elim
      | er => rw [hl] at q; exact q.elim
    · exact q.elim
theorem ep_lcO {elt tg iter : Expr} {ifs : List Expr} {scope : Scope} {own : List (Str × Nat)} (hc : X.calm = true) (hN : X.N.Nodup) (hi : PI X tg iter (tI T W mi)) (ok : BlkOk X.N X.env.scope scope own) (htg : TgR T (offJ (own.map (·.2))) g f)
    (hg : ∀ (s : Shared) (H : Hp) (C : Addr) (cl : List (Str × Addr)) (fp : List Addr), PG (X.blk s H scope (compEnvC scope cl C X.env) fp) tg g) (ht : ∀ (s : Shared) (H : Hp) (C : Addr) (cl : List (Str × Addr)) (fp : List Addr), PTs (X.blk s H scope (compEnvC scope cl C X.env) fp) ifs (tT T WF mt))
    (he : ∀ (s : Shared) (H : Hp) (C : Addr) (cl : List (Str × Addr)) (fp : List Addr), PE (X.blk s H scope (compEnvC scope cl C X.env) fp) elt (tP T WF me)) (hs : ∀ x, foldedSetIterable iter X.env x = pure x := by intro _; rfl) :
    PE X (.ListComp elt [⟨tg, iter, ifs, 0⟩] scope pos) (tP T W (mLcO mi (own.map (·.2)) f mt me)) :=
  pe_of (pe_lc (own := own) (g := g) (tt := tT T WF mt) hc hN hi ok hg ht he hs) fun _ _ _ => i_lcO htg
theorem ss_setLcO {pin : Pins} {σ0 : L2.St} {i : Nat} {y : Str} {py : Pos} {elt tg iter : Expr} {ifs : List Expr} {scope : Scope} {own : List (Str × Nat)} {spos : Pos} (hc : X.calm = true) (hN : X.N.Nodup) (hy : X.N[i]? = some y) (hyl : X.env.scope.names.lookup y = some .local) (hpin : pin i = false)
    (hsw : swapsWith (.ListComp elt [⟨tg, iter, ifs, 0⟩] scope pos) (some (.Name y py)) spos.line X.env = pure true) (hi : PI X tg iter (tI T W mi)) (ok : BlkOk X.N X.env.scope scope own) (htg : TgR T (offJ (own.map (·.2))) g f)
    (hg : ∀ (s : Shared) (H : Hp) (C : Addr) (cl : List (Str × Addr)) (fp : List Addr), PG (X.blk s H scope (compEnvC scope cl C X.env) fp) tg g) (ht : ∀ (s : Shared) (H : Hp) (C : Addr) (cl : List (Str × Addr)) (fp : List Addr), PTs (X.blk s H scope (compEnvC scope cl C X.env) fp) ifs (tT T WF mt))
    (he : ∀ (s : Shared) (H : Hp) (C : Addr) (cl : List (Str × Addr)) (fp : List Addr), PE (X.blk s H scope (compEnvC scope cl C X.env) fp) elt (tP T WF me)) (hs : ∀ x, foldedSetIterable iter X.env x = pure x := by intro _; rfl) :
    PS X (.Assign [.Name y py] (.ListComp elt [⟨tg, iter, ifs, 0⟩] scope pos) spos) (tS T W pin σ0 (sSet i (liftE (mLcO mi (own.map (·.2)) f mt me)))) := by
  refine ps_of (ps_setLc (i := i) (own := own) (g := g) (tt := tT T WF mt) hc hN hy hyl hsw hi ok hg ht he hs) fun D σ H ⟨S, B, env, mss, R, hp, q⟩ => ?_
  refine i_lcO (Q := fun v H1 => D.nx (σ.set i (some v)) H1) htg (i_p ⟨S, B, env, mss, R, ?_⟩)
  cases hm : liftE (mLcO mi (own.map (·.2)) f mt me) env with
  | ok r env' => simp only [sSet, hm] at q; exact fun S' B' H' mss' v g R' f => setS_ok hpin R' hp f (q.gw g)
  | ex x env' => simp only [sSet, hm] at q; exact fun S' B' H' mss' cls d g R' f => q S' B' mss' σ H' cls d g R' hp f
  | er => simp only [sSet, hm] at q; exact q
end
end Tr
namespace Tr
open PySem L2
inductive LX where
  | ok (env : En) (i : Nat) (p : List Nat)
  | ex (x : Exn)
  | er
abbrev MLX := En → LX
@[simp] def eMutX (ky : D → Bool) (op : D → List D → Option (D × D)) (ml : MLX) (ks : List AK) : EE := fun env => match ml env with
  | .ok env i p => match atP i p env with
    | some x0 => if ky x0 = true then (match eRow ks env with
      | .ok ds env => match env[i]? with
        | some (some (.own d)) => match getP p d with
          | some x => match op x ds with
            | some (x', r) => .ok (.own r) (env.set i (some (.own (setP p d x'))))
            | none => .er
          | none => .er
        | _ => .er
      | .ex x env => .ex x env
      | .er => .er) else .er
    | none => .er
  | .ex x => .ex x env
  | .er => .er
@[simp] def lSetd (ml : ML) (mk : ME) : MLX := fun env => match ml env with
  | .ok i p => match mk env with
    | .ok r => match keyOf r.d with
      | some k => match env[i]? with
        | some (some (.own d)) => match getP p d with
          | some (.dct ks xs) => if ks.length = xs.length ∧ xs.length < 1000000 then (match kpos ks k with
            | some j => .ok env i (p ++ [j])
            | none => .ok (env.set i (some (.own (setP p d (.dct (ks ++ [k]) (xs ++ [.lst []])))))) i (p ++ [ks.length])) else .er
          | _ => .er
        | _ => .er
      | none => .er
    | .ex x => (match atP i p env with
      | some (.dct _ _) => .ex x
      | _ => .er)
    | .er => .er
  | .ex x => .ex x
  | .er => .er
end Tr
namespace Tr
open PySem PySem.Spec PyProof.Rows L2 RT
@[simp] def mG2R (ma mb mc : ME) : ME := fun env => match ma env with
  | .ok (.ro da) => match unfz da with
    | .dct ks xs => match mb env with
      | .ok rb => match keyOf rb.d with
        | some k => match mc env with
          | .ok (.own dc) => match dlook ks xs k with
            | some y => .ok (.ro y)
            | none => .ok (.ro dc)
          | .ok _ => .er
          | .ex x => .ex x
          | .er => .er
        | none => .er
      | .ex x => .ex x
      | .er => .er
    | _ => .er
  | .ok _ => .er
  | .ex x => .ex x
  | .er => .er
end Tr
namespace Tr
open PySem PySem.Spec PyProof.Rows L2 LiI
@[simp] def mItL (ma : ME) : ME := fun env => match ma env with
  | .ok r => match unfz r.d with
    | .dct ks xs => if copyDs xs = true ∧ ks.length = xs.length then .ok (.own (.lst (itD ks xs))) else .er
    | _ => .er
  | .ex x => .ex x
  | .er => .er
end Tr
namespace Tr
open PySem L2 PySem.Spec PyProof.Rows
section
variable {X : Cx} {T : Tab} {W : WX} {S B H : Hp} {mss : List Cells} {σ : L2.St} {env : En} {ms zs : List ME} {e : Expr} {es : List Expr}
theorem PR.imp {Q Q' : List V → Hp → Prop} {z : Rz (List Rs)} (h : PR T W S B σ H Q z) (i : ∀ vs H', Q vs H' → Q' vs H') : PR T W S B σ H Q' z := by
  cases z with
  | ok rs => exact fun S' B' H' vs g r => i _ _ (h S' B' H' vs g r)
  | ex x => exact h
  | er => exact h
end
end Tr
namespace Tr
open PySem L2
section
variable {X : Cx} {T : Tab} {W : WX} {S B H : Hp} {pin : Pins} {σ0 : L2.St} {e : Expr} {m : ME} {pos : Pos}
@[simp] def sUnR (f : TgF) (m : ME) : MS := fun env => match m env with
  | .ok (.ro d) => (match f d env with
    | some env => .nx env
    | none => .er)
  | .ok (.own d) => if copyD d then (match f d env with
    | some env => .nx env
    | none => .er) else .er
  | .ok _ => .er
  | .ex x => .ex x env
  | .er => .er
end
end Tr
namespace Tr
open PySem L2
@[simp] def lcN (js : List Nat) (f : TgF) (mt : MT) (me : ME) (env : En) : List D → Nat → Rz Nat
  | [], n => .ok n
  | d :: ds, n => match f d (wipeE env js) with
    | some env2 => match mt env2 with
      | .ok true env3 => match me env3 with
        | .ok _ => lcN js f mt me env ds (n + 1)
        | _ => .er
      | .ok false _ => lcN js f mt me env ds n
      | _ => .er
    | none => .er
@[simp] def mLcN (mi : MI) (js : List Nat) (f : TgF) (mt : MT) (me : ME) : ME := fun env => match mi env with
  | .ok items fz => if fz.all (fun i => decide (i < env.length)) && decide (items.length ≤ 1000000) then (match lcN js f mt me (roE env) items 0 with
    | .ok n => .ok (.own (.im (.int n)))
    | _ => .er) else .er
  | .ex x => .ex x
  | .er => .er
end Tr
namespace Tr
open PySem L2
@[simp] def noEx : SS → SS
  | .ex _ _ => .er
  | z => z
@[simp] def sForK (pin pin' : Pins) (i : Nat) (f : TgF) (m : MS) : MS := fun env => match env[i]? with
  | some (some (.own (.dct ks xs))) => if pin' i = true then (if ks.length = xs.length then noEx (thS pin i env (loopF f m (itK ks) (env.set i (some (.ro (.dct ks xs)))))) else .er) else .er
  | _ => .er
section
variable {X : Cx} {T : Tab} {W : WX} {pin pin' p0 : Pins} {σ0 : L2.St} {S B H S' B' H' S2 B2 H2 : Hp} {env env2 : En} {mss mss2 : List Cells} {σ σ2 : L2.St} {De : Ends} {pos : Pos} {a : Addr} {kvs : List (Key × V)} {od : Obj}
theorem ros_unlock : ∀ {S : Hp} {ds : List D} {vs : List V}, S a = some (.frz od (.dK kvs)) → Ros T B S ds vs → Ros T B (upd S a (.dK kvs)) ds vs := by
  intro S ds vs hd r
  induction r with
  | nil => exact .nil
  | im h _ ih => exact .im h (ih hd)
  | lst h _ _ ih1 ih2 => exact .lst (by rw [upd_ne (fun z => by rw [z, hd] at h; cases h)]; exact h) (ih1 hd) (ih2 hd)
  | tup h _ _ ih1 ih2 => exact .tup h (ih1 hd) (ih2 hd)
  | @dct S b ks ws xs ds vs h hl _ _ ih1 ih2 =>
    refine .dct ?_ hl (ih1 hd) (ih2 hd)
    by_cases e : b = a
    · subst e
      rcases h with h | ⟨o, h⟩
      · rw [hd] at h; cases h
      · rw [hd] at h; cases h
        exact .inl upd_same
    · rcases h with h | ⟨o, h⟩
      · exact .inl (by rw [upd_ne e]; exact h)
      · exact .inr ⟨o, by rw [upd_ne e]; exact h⟩
  | obj h hc hl _ _ ih1 ih2 => exact .obj (by rw [upd_ne (fun z => by rw [z, hd] at h; cases h)]; exact h) hc hl (ih1 hd) (ih2 hd)
  | scr h _ ih =>
    refine .scr ?_ (ih hd)
    rcases h with h | h
    · refine .inl ?_
      rcases h with h | ⟨o, h⟩
      · exact .inl (by rw [upd_ne (fun z => by rw [z, hd] at h; cases h)]; exact h)
      · exact .inr ⟨o, by rw [upd_ne (fun z => by rw [z, hd] at h; cases h)]; exact h⟩
    · exact .inr h
  | fz q _ _ ih => exact .fz q (ih hd)
  | fn h _ ih => exact .fn h (ih hd)
theorem cells_ne {S H : Hp} {m : Cells} {u : HO} (h : CellsOk S H m) (hS : S a = some u) : ∀ c ∈ m, c.1 ≠ a := fun c hc z => by
  have := (h.2 c hc).2
  rw [z, hS] at this; cases this
theorem cells_upd {S H : Hp} {m : Cells} {u o : HO} (h : CellsOk S H m) (hS : S a = some u) : CellsOk (upd S a o) (upd H a o) m := ⟨h.1, fun c hc => by
  have ne := cells_ne h hS c hc
  obtain ⟨h1, h2⟩ := h.2 c hc
  exact ⟨by rw [upd_ne ne]; exact h1, by rw [upd_ne ne]; exact h2⟩⟩
theorem same_upd {S H : Hp} {o : HO} (h : Same S H) : Same (upd S a o) (upd H a o) := fun x u hx => by
  by_cases e : x = a
  · subst e; rw [upd_same] at hx ⊢; exact hx
  · rw [upd_ne e] at hx ⊢; exact h _ _ hx
theorem same_updB {B S : Hp} {o : HO} (h : Same B S) (hB : B a = none) : Same B (upd S a o) := fun x u hx => by
  rw [upd_ne (fun z => by rw [z, hB] at hx; cases hx)]; exact h _ _ hx
theorem SRx.relock {u o : HO} (R : SRx T S B env mss σ H) (hu : NT u) (hx : ∀ φ, u ≠ .ext φ) (hS : S a = some u) (hB : B a = none) (hr : ∀ {ds : List D} {vs : List V}, Ros T B S ds vs → Ros T B (upd S a o) ds vs) : SRx T (upd S a o) B env mss σ (upd H a o) :=
  ⟨same_updB R.bs hB, same_upd R.sh, R.l1, R.l2, fun k x s mk h1 h2 h3 => by
    have q := R.at_ k x s mk h1 h2 h3
    cases x with
    | none => exact q
    | some x =>
      cases s with
      | none => cases x <;> exact q
      | some v =>
        cases x with
        | own d => exact q
        | ro d => exact ⟨q.1, hr q.2⟩, fun k mk h => cells_upd (R.ok k mk h) hS, R.ap, fun p hp => ⟨(tb_upd R.tb (R.sh _ _ hS) hu p hp).1, by
          have z := (R.tb p hp).2
          rw [upd_ne (fun e => by rw [e, hS] at z; cases z)]; exact z⟩, tc_upd R.tc (R.sh _ _ hS) hu⟩
theorem SRx.lock (R : SRx T S B env mss σ H) (hS : S a = some (.dK kvs)) (hB : B a = none) : SRx T (upd S a (.frz od (.dK kvs))) B env mss σ (upd H a (.frz od (.dK kvs))) := R.relock nt_dK (fun _ h => by cases h) hS hB fun r => ros_lock hS r
theorem SRx.unlock (R : SRx T S B env mss σ H) (hS : S a = some (.frz od (.dK kvs))) (hB : B a = none) : SRx T (upd S a (.dK kvs)) B env mss σ (upd H a (.dK kvs)) := R.relock nt_frz (fun _ h => by cases h) hS hB fun r => ros_unlock hS r
/-- the ends of a locked run -/
abbrev LkE (De : Ends) (d : Addr) (od : Obj) (u : HO) : Ends := ⟨fun σ' H' => H' d = some (.frz od u) ∧ De.nx σ' (upd H' d u), fun v H' => H' d = some (.frz od u) ∧ De.rt v (upd H' d u), fun σ' H' => H' d = some (.frz od u) ∧ De.bk σ' (upd H' d u), fun σ' H' => H' d = some (.frz od u) ∧ De.ct σ' (upd H' d u)⟩
theorem gw_unlock (hS : S a = some (.dK kvs)) (hB : B a = none) (g : Gw (upd S a (.frz od (.dK kvs))) B S2 B2) : Gw S B (upd S2 a (.dK kvs)) B2 ∧ S2 a = some (.frz od (.dK kvs)) ∧ B2 a = none := by
  have e2 : S2 a = some (.frz od (.dK kvs)) := g.s _ _ upd_same
  refine ⟨⟨fun x o h => ?_, g.b, fun x o h => ?_⟩, e2, ?_⟩
  · by_cases e : x = a
    · subst e; rw [upd_same]; rw [hS] at h; exact h
    · rw [upd_ne e]; exact g.s _ _ (by rw [upd_ne e]; exact h)
  · rcases g.n x o h with z | z
    · exact .inl z
    · by_cases e : x = a
      · subst e; rw [upd_same] at z; cases z
      · rw [upd_ne e] at z; exact .inr z
  · cases e : B2 a with
    | none => rfl
    | some o =>
      rcases g.n a o e with z | z
      · rw [hB] at z; cases z
      · rw [upd_same] at z; cases z
theorem PS'.lock {z : SS} (hz : noEx z = z) (hS : S a = some (.dK kvs)) (hB : B a = none) (q : PS' T W pin σ0 S B De z) : PS' T W pin σ0 (upd S a (.frz od (.dK kvs))) B (LkE De a od (.dK kvs)) z := by
  have k1 : ∀ {S2 B2 H2 env2 mss2 σ2}, Gw (upd S a (.frz od (.dK kvs))) B S2 B2 → SRx T S2 B2 env2 mss2 σ2 H2 → Gw S B (upd S2 a (.dK kvs)) B2 ∧ SRx T (upd S2 a (.dK kvs)) B2 env2 mss2 σ2 (upd H2 a (.dK kvs)) ∧ H2 a = some (.frz od (.dK kvs)) ∧ S2 a = some (.frz od (.dK kvs)) := fun g R => by
    obtain ⟨g1, g2, g3⟩ := gw_unlock hS hB g
    exact ⟨g1, R.unlock g2 g3, R.sh _ _ g2, g2⟩
  cases z with
  | nx f => exact fun S2 B2 mss2 σ2 H2 g R2 hp2 => let ⟨g1, R1, e, _⟩ := k1 g R2; ⟨e, q _ _ _ _ _ g1 R1 hp2⟩
  | bk f => exact fun S2 B2 mss2 σ2 H2 g R2 hp2 => let ⟨g1, R1, e, _⟩ := k1 g R2; ⟨e, q _ _ _ _ _ g1 R1 hp2⟩
  | ct f => exact fun S2 B2 mss2 σ2 H2 g R2 hp2 => let ⟨g1, R1, e, _⟩ := k1 g R2; ⟨e, q _ _ _ _ _ g1 R1 hp2⟩
  | rt d f => exact fun S2 B2 mss2 σ2 H2 v ms g R2 hp2 o c ap => let ⟨g1, R1, e, e2⟩ := k1 g R2; ⟨e, q _ _ _ _ _ _ _ g1 R1 hp2 o (cells_upd c e2) ap⟩
  | ex x f => cases hz
  | er => exact q
end
end Tr
namespace Tr
open PySem L2
end Tr
namespace Tr
open PySem L2
@[simp] def mLcR (i : Nat) (js : List Nat) (f : TgF) (mt : MT) (me : ME) : ME := fun env => match env[i]? with
  | some (some (.ro (.dct ks xs))) => if decide (ks.length = xs.length) && decide (ks.length ≤ 1000000) then (match lcG js f mt me (roE env) (itK ks) [] with
    | .ok ds => .ok (.own (.lst ds))
    | _ => .er) else .er
  | _ => .er
end Tr
namespace Tr
open PySem L2
end Tr
namespace Tr
open PySem L2
end Tr
namespace Tr
open PySem L2
section
variable {X : Cx} {T : Tab} {W : WX} {pin : Pins} {σ0 : L2.St} {e a b : Expr} {es : List Expr} {S B H S' B' H' : Hp} {env : En} {mss : List Cells} {σ : L2.St} {pos : Pos}
@[simp] def sTryIsC (sub isb : Nat → Option Bool) (va vb : V) (ie iv : Nat) (m : MS) : MS := fun env => match m env with
  | .ex x env => match sub x.c with
    | some true => match isb x.c with
      | some b => if x.vs.isEmpty then .nx ((env.set iv (some (.own (.im (if b = true then va else vb))))).set ie none) else .er
      | none => .er
    | some false => .ex x env
    | none => .er
  | z => z
end
end Tr
namespace Tr
open PySem L2
@[simp] def mIsO (tab : List (Nat × Bool)) (m : ME) : ME := fun env => match m env with
  | .ok r => match unfz r.d with
    | .obj c _ => match tab.lookup c with
      | some b => .ok (.own (.im (.bl b)))
      | none => .er
    | _ => .er
  | .ex x => .ex x
  | .er => .er
@[simp] def sExI (x : Exn) (c k l : Nat) (m1 m2_ : ME) (ml : ML) (mi : ME) : MS := fun env => if x.c = c then (match exV x k, exV x l with
  | some v, some w => sSub opSetA (liftE (mAnd (m2 fEq (mC v) m1) (m2 fEq (mC w) m2_))) ml mi env
  | _, _ => .er) else .er
end Tr
namespace Tr
open PySem L2
@[simp] def e2a (f : List D → Option D) (me : EE) (mb : ME) : EE := fun env => match me env with
  | .ok r env' => (match mb env' with
    | .ok rb => match f [r.d, rb.d] with
      | some z => .ok (.own z) env'
      | none => .er
    | .ex x => .ex x env'
    | .er => .er)
  | .ex x env' => .ex x env'
  | .er => .er
end Tr
namespace Tr
open PySem L2
end Tr
namespace Tr
open PySem L2
section
variable {X : Cx} {T : Tab} {W : WX} {S B S' B' H H' : Hp} {env : En} {mss : List Cells} {σ : St} {tg e : Expr} {m : ME}
def tupOf : D → Option (List D)
  | .tup xs => some xs
  | _ => none
@[simp] def iTp (m : ME) : MI := fun env => match m env with
  | .ok r => match tupOf r.d with
    | some items => .ok items (rootOf r)
    | none => .er
  | .ex x => .ex x
  | .er => .er
end
end Tr
namespace Tr
open PySem L2 PySem.Spec PyProof.Rows
/-- v = (z, e.f, e.g) -/
@[simp] def sExS (x : Exn) (c k l iv : Nat) (z : Str) : MS := fun env => if x.c = c then (match exV x k, exV x l with
  | some v, some w => .nx (env.set iv (some (.own (.tup [.im (.str z), .im v, .im w]))))
  | _, _ => .er) else .er
end Tr
namespace Tr
open PySem L2
end Tr
namespace Tr
open PySem L2
/-- own slots among K -/
@[simp] def kpGo (K : List Nat) : Nat → En → En
  | k, e :: es => (if k ∈ K then (match e with
    | some (.own d) => some (.own d)
    | _ => none) else none) :: kpGo K (k + 1) es
  | _, [] => []
@[simp] def kpM (K : List Nat) : Nat → En → List Cells → List Cells
  | k, e :: es, m :: ms => (if k ∈ K then (match e with
    | some (.own _) => m
    | _ => []) else []) :: kpM K (k + 1) es ms
  | _, _, _ => []
section
variable {X : Cx} {T : Tab} {W : WX} {pin pin' : Pins} {σ0 : L2.St} {e a b c : Expr} {S B H S' B' H' S0 B0 S2 B2 H2 S3 : Hp} {env env2 : En} {mss mss2 : List Cells} {σ σ2 : L2.St} {De : Ends} {pos : Pos} {K : List Nat}
open Classical in
noncomputable def decO (r : Addr → Option En) : Option En := if ∀ a, r a = r 0 then r 0 else none
theorem decO_at {r : Addr → Option En} {z : En} (h : decO r = some z) (a : Addr) : r a = some z := by
  unfold decO at h
  split at h
  · rename_i e; rw [e a]; exact h
  · cases h
theorem decO_of {r : Addr → Option En} {z : En} (h : ∀ a, r a = some z) : decO r = some z := by
  unfold decO
  rw [if_pos (fun a => by rw [h a, h 0])]; exact h 0
@[simp] def finO (K : List Nat) (i : Nat) (q : List Nat) (x : D) (a : Addr) : SS → Option En
  | .nx env2 => match env2[i]? with
    | some (some (.own d2)) => (match getP q d2 with
      | some (.im (.ref b)) => if b = a then some ((kpGo K 0 env2).set i (some (.own (setP q d2 x)))) else none
      | _ => none)
    | _ => none
  | _ => none
end
end Tr
namespace Tr
open PySem L2
@[simp] def isRf : D → Bool
  | .lst _ => true
  | .dct _ _ => true
  | .obj _ _ => true
  | _ => false
/-- slots among K -/
@[simp] def kp2 (K : List Nat) : Nat → En → En
  | k, e :: es => (if k ∈ K then e else none) :: kp2 K (k + 1) es
  | _, [] => []
@[simp] def kpM2 (K : List Nat) : Nat → List Cells → List Cells
  | k, m :: ms => (if k ∈ K then m else []) :: kpM2 K (k + 1) ms
  | _, [] => []
section
variable {X : Cx} {T : Tab} {W : WX} {pin pin' : Pins} {σ0 : L2.St} {e a b c : Expr} {S B H S' B' H' S0 B0 S2 B2 H2 S3 : Hp} {env env2 : En} {mss mss2 : List Cells} {σ σ2 : L2.St} {De : Ends} {pos : Pos} {K : List Nat}
theorem kp2_len : ∀ {k : Nat} {es : En}, (kp2 K k es).length = es.length
  | k, e :: es => by simp [kp2_len (k := k + 1) (es := es)]
  | _, [] => rfl
theorem kpM2_len : ∀ {k : Nat} {ms : List Cells}, (kpM2 K k ms).length = ms.length
  | k, m :: ms => by simp [kpM2_len (k := k + 1) (ms := ms)]
  | _, [] => rfl
theorem kp2_at : ∀ {k : Nat} {es : En} {j : Nat} {x : Option Slot}, (kp2 K k es)[j]? = some x → (k + j ∈ K ∧ es[j]? = some x) ∨ (k + j ∉ K ∧ x = none)
  | k, e :: es, 0, x, h => by
    simp only [kp2, List.getElem?_cons_zero, Option.some.injEq] at h
    by_cases hk : k ∈ K
    · rw [if_pos hk] at h; exact .inl ⟨hk, by rw [List.getElem?_cons_zero, h]⟩
    · rw [if_neg hk] at h; exact .inr ⟨hk, h.symm⟩
  | k, e :: es, j + 1, x, h => by
    simp only [kp2, List.getElem?_cons_succ] at h ⊢
    have := kp2_at (k := k + 1) h
    rwa [show k + 1 + j = k + (j + 1) by omega] at this
  | _, [], _, _, h => by simp at h
theorem kpM2_at : ∀ {k : Nat} {ms : List Cells} {j : Nat} {m : Cells}, (kpM2 K k ms)[j]? = some m → (k + j ∈ K ∧ ms[j]? = some m) ∨ (k + j ∉ K ∧ m = [])
  | k, m0 :: ms, 0, m, h => by
    simp only [kpM2, List.getElem?_cons_zero, Option.some.injEq] at h
    by_cases hk : k ∈ K
    · rw [if_pos hk] at h; exact .inl ⟨hk, by rw [List.getElem?_cons_zero, h]⟩
    · rw [if_neg hk] at h; exact .inr ⟨hk, h.symm⟩
  | k, m0 :: ms, j + 1, m, h => by
    simp only [kpM2, List.getElem?_cons_succ] at h ⊢
    have := kpM2_at (k := k + 1) h
    rwa [show k + 1 + j = k + (j + 1) by omega] at this
  | _, [], _, _, h => by simp at h
theorem SRx.kp (R : SRx T S B env mss σ H) : SRx T S B (kp2 K 0 env) (kpM2 K 0 mss) σ H := by
  refine ⟨R.bs, R.sh, by rw [kp2_len, R.l1], by rw [kpM2_len, R.l2], fun k x s mk h1 h2 h3 => ?_, fun k mk h => ?_, fun j k mj mk hjk h1 h2 => ?_, R.tb, R.tc⟩
  · rcases kp2_at h1 with ⟨hk, e1⟩ | ⟨hk, rfl⟩
    · rcases kpM2_at h3 with ⟨_, e3⟩ | ⟨hk', _⟩
      · exact R.at_ k x s mk e1 h2 e3
      · exact absurd hk hk'
    · rcases kpM2_at h3 with ⟨hk', _⟩ | ⟨_, rfl⟩
      · exact absurd hk' hk
      · rfl
  · rcases kpM2_at h with ⟨_, e⟩ | ⟨_, rfl⟩
    · exact R.ok k mk e
    · exact ⟨.nil, fun _ h => nomatch h⟩
  · rcases kpM2_at h1 with ⟨_, e1⟩ | ⟨_, rfl⟩
    · rcases kpM2_at h2 with ⟨_, e2⟩ | ⟨_, rfl⟩
      · exact R.ap j k mj mk hjk e1 e2
      · exact fun _ _ _ h => nomatch h
    · exact fun _ h => nomatch h
theorem owns_rf {x : D} {u : V} {m : Cells} (o : Owns T B [x] [u] m) (h : isRf x = true) : ∃ a, u = .ref a := by
  cases o with
  | im _ _ => cases h
  | lst _ _ => exact ⟨_, rfl⟩
  | tup _ _ _ => cases h
  | dct _ _ _ => exact ⟨_, rfl⟩
  | obj _ _ _ _ => exact ⟨_, rfl⟩
  | fz _ _ => cases h
  | fn _ _ => cases h
/-- a part of the thing in slot i is lent to slot j; a mark stands for it -/
theorem lend {i j : Nat} {d x : D} {p : List Nat} (hij : i ≠ j) (R : SRx T S B env mss σ H) (he : env[i]? = some (some (.own d))) (hq : getP p d = some x) (hx : isRf x = true) (hj : j < σ.length) :
    ∃ v a, σ[i]? = some (some v) ∧ valP H p v = some (.ref a) ∧ ∃ mss', SRx T S B ((env.set i (some (.own (setP p d (.im (.ref a)))))).set j (some (.own x))) mss' (σ.set j (some (.ref a))) H := by
  obtain ⟨v, m, e1, e2, own, ok⟩ := R.own he
  obtain ⟨u, mx, m1, m2, q1, q2, rfl, q4⟩ := owns_pathB own hq
  obtain ⟨a, rfl⟩ := owns_rf q2 hx
  have bh := R.bs.trans R.sh
  obtain ⟨okm1, ok12, ap1⟩ := cells_split ok
  obtain ⟨okx, okm2, ap2⟩ := cells_split ok12
  have own1 : Owns T B [setP p d (.im (.ref a))] [v] (m1 ++ m2) := by
    have := q4 B (.im (.ref a)) [] (Same.refl _) (.im rfl .nil)
    simpa using this
  have sub : ∀ c ∈ m1 ++ m2, c ∈ m1 ++ (mx ++ m2) := fun c hc => by
    rcases List.mem_append.mp hc with hc | hc
    · exact List.mem_append_left _ hc
    · exact List.mem_append_right _ (List.mem_append_right _ hc)
  have ok2 : CellsOk S H (m1 ++ m2) := by
    refine ⟨?_, fun c hc => ok.2 c (sub c hc)⟩
    have n0 := ok.1
    rw [List.map_append, List.map_append] at n0
    rw [List.map_append]
    have a1 := List.nodup_append.mp n0
    have a2 := List.nodup_append.mp a1.2.1
    exact List.nodup_append.mpr ⟨a1.1, a2.2.1, fun x hx y hy => a1.2.2 x hx y (List.mem_append_right _ hy)⟩
  have es : σ.set i (some v) = σ := by
    apply List.ext_getElem?
    intro k
    by_cases hk : k = i
    · subst hk
      rw [List.getElem?_set_self (List.getElem?_eq_some_iff.mp e1).1, e1]
    · rw [List.getElem?_set_ne (fun z => hk z.symm)]
  have R1 := R.set (i := i) (e := some (.own (setP p d (.im (.ref a))))) (s := some v) (m := m1 ++ m2) own1 ok2 fun k m' hk hm' => fun c hc y hy => by
    first
      | exact R.ap k i m' _ hk hm' e2 c hc y (sub y hy)
      | exact fun z => R.ap k i m' _ hk hm' e2 y hy c (sub c hc) z.symm
  rw [es] at R1
  refine ⟨v, a, e1, q1 _ bh fun c hc => (ok.2 c hc).1, (mss.set i (m1 ++ m2)).set j mx, R1.set (i := j) (e := some (.own x)) (s := some (.ref a)) (m := mx) q2 okx fun k m' hk hm' => ?_⟩
  have apx : Apart m' mx := by
    rcases set_at hm' with ⟨rfl, rfl⟩ | ⟨hk2, g⟩
    · intro c hc y hy
      rcases List.mem_append.mp hc with hc | hc
      · exact ap1 c hc y (List.mem_append_left _ hy)
      · exact fun z => ap2 y hy c hc z.symm
    · exact fun c hc y hy => R.ap k i m' _ hk2 g e2 c hc y (List.mem_append_right _ (List.mem_append_left _ hy))
  first
    | exact apx
    | exact apart_symm apx
/-- what was lent comes back -/
theorem merge {i j : Nat} {d x : D} {p : List Nat} {a : Addr} (hij : i ≠ j) (R : SRx T S B env mss σ H) (he : env[i]? = some (some (.own d))) (hq : getP p d = some (.im (.ref a))) (hj : env[j]? = some (some (.own x))) (hs : σ[j]? = some (some (.ref a))) :
    ∃ mss', SRx T S B ((env.set j none).set i (some (.own (setP p d x)))) mss' σ H := by
  obtain ⟨v, m, e1, e2, own, ok⟩ := R.own he
  obtain ⟨w, mx, f1, f2, ownx, okx⟩ := R.own hj
  rw [hs] at f1; cases f1
  obtain ⟨u, m0, m1, m2, q1, q2, rfl, q4⟩ := owns_pathB own hq
  have hu : u = .ref a ∧ m0 = [] := by
    cases q2 with
    | im h r => cases r; exact ⟨rfl, rfl⟩
  obtain ⟨rfl, rfl⟩ := hu
  have own3 := q4 B x mx (Same.refl _) ownx
  simp only [List.nil_append] at e2 ok
  have apm : Apart (m1 ++ m2) mx := R.ap i j _ _ hij e2 f2
  obtain ⟨okm1, okm2, ap12⟩ := cells_split ok
  have sub : ∀ c ∈ m1 ++ (mx ++ m2), c ∈ m1 ++ m2 ∨ c ∈ mx := fun c hc => by
    rcases List.mem_append.mp hc with hc | hc
    · exact .inl (List.mem_append_left _ hc)
    · rcases List.mem_append.mp hc with hc | hc
      · exact .inr hc
      · exact .inl (List.mem_append_right _ hc)
  have ok3 : CellsOk S H (m1 ++ (mx ++ m2)) := by
    refine ⟨?_, fun c hc => ?_⟩
    · rw [List.map_append, List.map_append]
      have far : ∀ z : Cells, (∀ c ∈ z, c ∈ m1 ++ m2) → ∀ x ∈ z.map (·.1), ∀ y ∈ mx.map (·.1), x ≠ y := fun z hz x hx y hy => by
        obtain ⟨c, hc, rfl⟩ := List.mem_map.mp hx
        obtain ⟨w, hw, rfl⟩ := List.mem_map.mp hy
        exact apm c (hz c hc) w hw
      have n0 := ok.1
      rw [List.map_append] at n0
      have a1 := List.nodup_append.mp n0
      refine List.nodup_append.mpr ⟨a1.1, List.nodup_append.mpr ⟨okx.1, a1.2.1, fun x hx y hy z => far m2 (fun c hc => List.mem_append_right _ hc) y hy x hx z.symm⟩, fun x hx y hy => ?_⟩
      rcases List.mem_append.mp hy with hy | hy
      · exact far m1 (fun c hc => List.mem_append_left _ hc) x hx y hy
      · exact a1.2.2 x hx y hy
    · rcases sub c hc with hc | hc
      · exact ok.2 c hc
      · exact okx.2 c hc
  have esj : σ.set j (some (.ref a)) = σ := by
    apply List.ext_getElem?
    intro k
    by_cases hk : k = j
    · subst hk
      rw [List.getElem?_set_self (List.getElem?_eq_some_iff.mp hs).1, hs]
    · rw [List.getElem?_set_ne (fun z => hk z.symm)]
  have es : σ.set i (some v) = σ := by
    apply List.ext_getElem?
    intro k
    by_cases hk : k = i
    · subst hk
      rw [List.getElem?_set_self (List.getElem?_eq_some_iff.mp e1).1, e1]
    · rw [List.getElem?_set_ne (fun z => hk z.symm)]
  have R1 := R.set (i := j) (e := none) (s := some (.ref a)) (m := []) rfl ⟨.nil, fun _ h => nomatch h⟩ fun k m' hk hm' => fun c hc y hy => by
    first
      | exact nomatch hy
      | exact nomatch hc
  rw [esj] at R1
  have R2 := R1.set (i := i) (e := some (.own (setP p d x))) (s := some v) (m := m1 ++ (mx ++ m2)) own3 ok3 fun k m' hk hm' => ?_
  · rw [es] at R2
    exact ⟨_, R2⟩
  · have ap3 : Apart m' (m1 ++ (mx ++ m2)) := by
      rcases set_at hm' with ⟨rfl, rfl⟩ | ⟨hk2, g⟩
      · exact fun _ h => nomatch h
      · intro c hc y hy
        rcases sub y hy with hy | hy
        · exact R.ap k i m' _ hk g (by simpa using e2) c hc y hy
        · exact R.ap k j m' _ hk2 g f2 c hc y hy
    first
      | exact ap3
      | exact apart_symm ap3
@[simp] def finA (K : List Nat) (i j : Nat) (p : List Nat) (a : Addr) : SS → Option En
  | .nx env2 => match env2[i]?, env2[j]? with
    | some (some (.own d2)), some (some (.own x)) => (match getP p d2 with
      | some (.im (.ref b)) => if b = a then some (kp2 K 0 ((env2.set j none).set i (some (.own (setP p d2 x))))) else none
      | _ => none)
    | _, _ => none
  | .ct env2 => match env2[i]?, env2[j]? with
    | some (some (.own d2)), some (some (.own x)) => (match getP p d2 with
      | some (.im (.ref b)) => if b = a then some (kp2 K 0 ((env2.set j none).set i (some (.own (setP p d2 x))))) else none
      | _ => none)
    | _, _ => none
  | _ => none
@[simp] def lentA (i j : Nat) (p : List Nat) (d x : D) (a : Addr) (env : En) : En := (env.set i (some (.own (setP p d (.im (.ref a)))))).set j (some (.own x))
end
end Tr
namespace Tr
open PySem L2
section
variable {T : Tab} {B S H : Hp}
theorem MutS.imp {op : D → List D → Option (D × D)} {r r' : V → List V → Hp → VK → Prop} (a : MutS T op r) (i : ∀ u vs H Q, r u vs H Q → r' u vs H Q) : MutS T op r' := by
  intro B S H x u mx ds vs me x' res ox okx od oke ap bh h
  obtain ⟨a1, o, mx', w, mr, p1, p2, p3, p4, p5, p6, p7⟩ := a B S H x u mx ds vs me _ _ ox okx od oke ap bh h
  exact ⟨a1, o, mx', w, mr, p1, p2, p3, p4, p5, p6, fun Q q => i _ _ _ _ (p7 Q q)⟩
end
end Tr
namespace Tr
open PySem L2
end Tr
namespace Tr
open PySem L2
end Tr
namespace Tr
open PySem L2
end Tr
namespace Tr
open PySem L2
section
variable {X : Cx} {T : Tab} {W : WX} {e : Expr} {ma : ME} {L : List (Addr × Str)} {S B H : Hp}
theorem Gr.rd {p : Addr} {o : HO} (bs : Same B S) (sh : Same S H) (hp : H p = none) : Gr L S B H (upd S p o) B (upd H p o) := by
  have sp : S p = none := sh.free hp
  refine ⟨⟨fun b u e => by rw [upd_ne (ne_of_none e sp)]; exact e, fun b u e => e, fun a u e => .inl e⟩, saN fun b u e => by rw [upd_ne (ne_of_none e hp)]; exact e, fun _ _ h => h.mono (fun b u e => e) fun ps e => by rw [upd_ne (ne_of_none e hp)]; exact e, fun a u e => ?_, fun a u e => ?_, fun a u e => ?_⟩
  · by_cases h : a = p
    · subst h; exact .inr hp
    · rw [upd_ne h] at e; exact .inl e
  · by_cases h : a = p
    · subst h; rw [upd_same] at e ⊢; exact e
    · rw [upd_ne h] at e ⊢; exact sh _ _ e
  · have e1 := bs _ _ e
    rw [upd_ne (ne_of_none e1 sp)]; exact e1
end
end Tr
namespace Tr
open PySem L2
end Tr
namespace Tr
open PySem L2
end Tr
namespace Tr
open PySem L2
@[simp] def lentE (i q j : Nat) (k : Nat) (d x : D) (a : Addr) (env : En) : En := lentA i j [k] d x a (env.set q (some (.own (.im (.int (k : Int))))))
noncomputable def aeGo (K : List Nat) (i q j : Nat) (m : MS) : Nat → Nat → En → SS
  | 0, k, env => match env[i]? with
    | some (some (.own (.lst items))) => if items.length ≤ k then .nx env else .er
    | _ => .er
  | r + 1, k, env => match env[i]? with
    | some (some (.own (.lst items))) => (match items[k]? with
      | none => .nx env
      | some x => if isRf x = true then (match decO (fun a => finA K i j [k] a (m (lentE i q j k (.lst items) x a env))) with
        | some env3 => aeGo K i q j m r (k + 1) env3
        | none => .er) else .er)
    | _ => .er
noncomputable def sForE (K : List Nat) (i q j : Nat) (m : MS) : MS := fun env => match env[i]? with
  | some (some (.own (.lst items))) => if j < env.length ∧ q < env.length then aeGo K i q j m (items.length + 1) 0 env else .er
  | _ => .er
section
variable {X : Cx} {T : Tab} {W : WX} {pin pin' : Pins} {σ0 : L2.St} {K : List Nat}
theorem ss_forE {iter : Expr} {elts : List Expr} {kk : Nat} {tpos p pos pos2 : Pos} {body : List Stmt} {i q j : Nat} {m : MS} (hK : X.K = T.K) (hp : PassesOwn (model X.prog X.w) X.A X.env X.xe) (hc : X.calm = true) (hge : Gl X "enumerate") (hme : X.mg "enumerate" = none) (hi : PE X iter (tVar i))
    (hgt : PG X (.Tuple elts kk tpos) (gTup X.K 2 (gCons (gName q) (gCons (gName j) gNil)))) (hij : i ≠ j) (hiq : i ≠ q) (hqj : q ≠ j) (hpi : pin' i = true) (hpj : pin' j = true) (hnj : pin j = false) (hnq : pin q = false)
    (hpp : ∀ k, pin k = true → pin' k = true) (hb : ∀ σ1, PSs X body (tS T W pin' σ1 m))
    (ha : starEach [iter] X.env = (false, eval iter X.env) :: starEach [] X.env := by rfl) (hse : starEach [iter] X.env = [(false, eval iter X.env)] := by rfl)
    (hs : ∀ v, foldedSetIterable (.Call (.Name "enumerate" p) [iter] [] pos2) X.env v = pure v := by intro _; rfl) :
    PS X (.For (.Tuple elts kk tpos) (.Call (.Name "enumerate" p) [iter] [] pos2) body [] pos) (tS T W pin σ0 (sForE K i q j m)) := by
  refine ⟨fun pins s σ H De I h => ?_⟩
  obtain ⟨S, B, env, mss, R, hpn, hq⟩ := h
  have hb' : PSs X body (fun D σ H => ∃ σ1, tS T W pin' σ1 m D σ H) := ⟨fun pins s σ H D I h => let ⟨σ1, h⟩ := h; (hb σ1).run pins s σ H D I h⟩
  refine (ps_for hp hc (pi_enum hge hme (pa_cons hi pa_nil ha) hse) hgt hb' (hs := hs)).run pins s σ H De I ?_
  have start : ∃ A, σ[i]? = some (some (.ref A)) ∧ j < σ0.length ∧ q < σ0.length ∧ ∃ n, PS' T W pin σ0 S B De (aeGo K i q j m n 0 env) := by
    unfold sForE at hq
    split at hq
    · rename_i items hd
      obtain ⟨v, mm, e1, e2, own, ok⟩ := R.own hd
      obtain ⟨a, rfl⟩ := owns_rf own rfl
      split at hq
      · rename_i hj
        exact ⟨a, e1, by rw [← hpn.1, ← R.l1]; exact hj.1, by rw [← hpn.1, ← R.l1]; exact hj.2, _, hq⟩
      · exact hq.elim
    · exact hq.elim
  obtain ⟨A, hA, hj0, hq0, n, hq⟩ := start
  have sql : ∀ {S B H env mss σ items}, SRx T S B env mss σ H → σ[i]? = some (some (.ref A)) → env[i]? = some (some (.own (.lst items))) → ∃ ws, H A = some (.lst ws) ∧ ws.length = items.length := fun {S B H env mss σ items} R hA hd => by
    obtain ⟨v, mm, e1, e2, own, ok⟩ := R.own hd
    rw [hA] at e1; cases e1
    cases own with
    | lst o r =>
      cases r
      exact ⟨_, (ok.2 _ List.mem_cons_self).1, o.len.symm⟩
  have first : ∃ items, env[i]? = some (some (.own (.lst items))) := by
    cases n with
    | zero =>
      unfold aeGo at hq
      split at hq
      · rename_i items hd; exact ⟨items, hd⟩
      · exact hq.elim
    | succ n =>
      unfold aeGo at hq
      split at hq
      · rename_i items hd; exact ⟨items, hd⟩
      · exact hq.elim
  obtain ⟨items0, hd0⟩ := first
  obtain ⟨ws0, sq0, _⟩ := sql R hA hd0
  unfold tFor iEnum
  refine ⟨.ref A, hA, A, ws0, rfl, SqL.of sq0, ?_⟩
  refine ⟨fun k n σ H => ∃ S B env mss, SRx T S B env mss σ H ∧ Pin pin σ0 σ ∧ σ[i]? = some (some (.ref A)) ∧ PS' T W pin σ0 S B De (aeGo K i q j m n k env), ⟨n, S, B, env, mss, R, hpn, hA, hq⟩, ?_⟩
  rintro k n σ H ⟨S, B, env, mss, R, hpn, hA, hq⟩
  cases n with
  | zero =>
    unfold aeGo at hq
    split at hq
    · rename_i items hd
      split at hq
      · rename_i hl
        obtain ⟨ws, sq, hlen⟩ := sql R hA hd
        exact .inl ⟨⟨ws, SqL.of sq, by omega⟩, hq S B mss σ H Gw.refl R hpn⟩
      · exact hq.elim
    · exact hq.elim
  | succ n =>
    unfold aeGo at hq
    split at hq
    · rename_i items hd
      obtain ⟨ws, sq, hlen⟩ := sql R hA hd
      split at hq
      · rename_i hk
        exact .inl ⟨⟨ws, SqL.of sq, by rw [hlen]; exact List.getElem?_eq_none_iff.mp hk⟩, hq S B mss σ H Gw.refl R hpn⟩
      · rename_i x hk
        split at hq
        · rename_i hx
          split at hq
          · rename_i env3 hz
            have kl : k < ws.length := by rw [hlen]; exact (List.getElem?_eq_some_iff.mp hk).1
            refine .inr ⟨⟨ws, ws[k], SqL.of sq, List.getElem?_eq_getElem kl⟩, fun σ H => ∃ S B env mss, SRx T S B env mss σ H ∧ Pin pin σ0 σ ∧ σ[i]? = some (some (.ref A)) ∧ PS' T W pin σ0 S B De (aeGo K i q j m n (k + 1) env), fun σ' H' h => ⟨n, by omega, h⟩, fun y H' hy => ?_⟩
            obtain ⟨Z, y0, rfl, hZ, rfl, hyy⟩ := (show ∃ Z y0, y = .ref Z ∧ H Z = none ∧ H' = upd H Z (.tup [.int (k : Nat), y0]) ∧ ∀ xs, SqL X.K H A xs → xs[k]? = some y0 from hy)
            have hy := hyy ws (SqL.of sq)
            have hj : j < σ.length := by rw [hpn.1]; exact hj0
            have hql : q < σ.length := by rw [hpn.1]; exact hq0
            have gr : Gr T.tbs S B H (upd S Z (.tup [.int (k : Nat), y0])) (upd B Z (.tup [.int (k : Nat), y0])) (upd H Z (.tup [.int (k : Nat), y0])) := Gr.tup R.bs R.sh hZ
            have R1 := R.grow gr
            have R2 := R1.set (i := q) (e := some (.own (.im (.int (k : Int))))) (s := some (.int (k : Int))) (m := []) (.im rfl .nil) ⟨.nil, fun _ h => nomatch h⟩ fun k' m' hk' hm' => fun c hc y hy => by
              first
                | exact nomatch hy
                | exact nomatch hc
            have hd2 : (env.set q (some (.own (.im (.int (k : Int))))))[i]? = some (some (.own (.lst items))) := by rw [List.getElem?_set_ne (fun z => hiq z.symm), hd]
            have hA2 : (σ.set q (some (.int (k : Int))))[i]? = some (some (.ref A)) := by rw [List.getElem?_set_ne (fun z => hiq z.symm), hA]
            have hj2 : j < (σ.set q (some (.int (k : Int)))).length := by rw [List.length_set]; exact hj
            obtain ⟨v, a, f1, f2, mss1, R3⟩ := lend hij R2 hd2 (p := [k]) (x := x) (by simp [getP, kids, hk]) hx hj2
            rw [hA2] at f1; cases f1
            have nAZ : A ≠ Z := ne_of_none sq hZ
            have ya : y0 = .ref a := by
              have hv : valP (upd H Z (.tup [.int (k : Nat), y0])) [k] (.ref A) = ws[k]? := by
                simp only [valP, childV, upd_ne nAZ, sq]
                cases ws[k]? <;> rfl
              rw [hv, hy] at f2
              exact Option.some.inj f2
            subst ya
            have hz2 := decO_at hz a
            refine ⟨Z, [.int (k : Nat), .ref a], rfl, .inl (.inl upd_same), rfl, .int (k : Nat), [.ref a], rfl, .ref a, [], rfl, rfl, ?_⟩
            show ∃ σ1, tS T W pin' σ1 m _ _ _
            refine ⟨(σ.set q (some (.int (k : Int)))).set j (some (.ref a)), _, _, _, mss1, R3, ⟨rfl, fun _ _ => rfl⟩, ?_⟩
            have fin : ∀ env2, finA K i j [k] a (.nx env2) = some env3 → ∀ S2 B2 mss2 σ2 H2, Gw (upd S Z (.tup [.int (k : Nat), .ref a])) (upd B Z (.tup [.int (k : Nat), .ref a])) S2 B2 → SRx T S2 B2 env2 mss2 σ2 H2 → Pin pin' ((σ.set q (some (.int (k : Int)))).set j (some (.ref a))) σ2 → ∃ S B env mss, SRx T S B env mss σ2 H2 ∧ Pin pin σ0 σ2 ∧ σ2[i]? = some (some (.ref A)) ∧ PS' T W pin σ0 S B De (aeGo K i q j m n (k + 1) env) := fun env2 hz2 S2 B2 mss2 σ2 H2 g Rb hp2 => by
              simp only [finA] at hz2
              split at hz2
              · rename_i d2 x2 h2 hx2
                split at hz2
                · rename_i b hq2
                  split at hz2
                  · rename_i eb
                    cases hz2
                    subst eb
                    have sj : σ2[j]? = some (some (.ref b)) := by rw [hp2.2 j hpj, List.getElem?_set_self hj2]
                    have si : σ2[i]? = some (some (.ref A)) := by rw [hp2.2 i hpi, List.getElem?_set_ne (fun z => hij z.symm), hA2]
                    obtain ⟨mss3, R3⟩ := merge hij Rb h2 hq2 hx2 sj
                    refine ⟨S2, B2, _, _, R3.kp (K := K), ⟨hp2.1.trans (by rw [List.length_set, List.length_set]; exact hpn.1), fun k hk => ?_⟩, si, PS'.gw hq (gr.w.trans g)⟩
                    have hkj : k ≠ j := fun e => by rw [e, hnj] at hk; cases hk
                    have hkq : k ≠ q := fun e => by rw [e, hnq] at hk; cases hk
                    rw [hp2.2 k (hpp k hk), List.getElem?_set_ne (fun z => hkj z.symm), List.getElem?_set_ne (fun z => hkq z.symm), hpn.2 k hk]
                  · cases hz2
                · cases hz2
              · cases hz2
            cases hr : m (lentE i q j k (.lst items) x a env) with
            | nx env2 => rw [hr] at hz2; simp only [lentE, lentA] at hr; rw [hr]; exact fin env2 hz2
            | ct env2 => rw [hr] at hz2; simp only [lentE, lentA] at hr; rw [hr]; exact fin env2 hz2
            | rt d env => rw [hr] at hz2; cases hz2
            | bk env => rw [hr] at hz2; cases hz2
            | ex c env => rw [hr] at hz2; cases hz2
            | er => rw [hr] at hz2; cases hz2
          · exact hq.elim
        · exact hq.elim
    · exact hq.elim
end
end Tr
namespace Tr
open PySem L2
section
variable {T : Tab} {B : Hp}
theorem own_one {x : D} {vs : List V} {m : Cells} (q : Owns T B [x] vs m) : ∃ z, vs = [z] := by
  have l := q.len
  match vs, l with
  | [z], _ => exact ⟨z, rfl⟩
theorem own_tup_at : ∀ {items : List D} {ws : List V} {m : Cells}, Owns T B items ws m → ∀ {k : Nat} {u w : V} {x : D}, items[k]? = some (.tup [.im u, .im w, x]) → ∃ t, ws[k]? = some (.ref t) ∧ ∃ us, B t = some (.tup us) ∧ ∃ z, us = [u, w, z]
  | _, _, _, .nil, k, u, w, x, h => by simp at h
  | _, _, _, .im hi r, 0, u, w, x, h => by simp at h
  | _, _, _, .lst q r, 0, u, w, x, h => by simp at h
  | _, _, _, .dct hl q r, 0, u, w, x, h => by simp at h
  | _, _, _, .obj hc hl q r, 0, u, w, x, h => by simp at h
  | _, _, _, .fz q r, 0, u, w, x, h => by simp at h
  | _, _, _, .fn q r, 0, u, w, x, h => by simp at h
  | _, _, _, .tup hb q r, 0, u, w, x, h => by
    simp at h; subst h
    cases q with
    | im h1 q =>
      cases q with
      | im h2 q =>
        obtain ⟨z, rfl⟩ := own_one q
        exact ⟨_, rfl, _, hb, z, rfl⟩
  | _, _, _, .im hi r, k + 1, u, w, x, h => by simp at h; simpa using own_tup_at r h
  | _, _, _, .lst q r, k + 1, u, w, x, h => by simp at h; simpa using own_tup_at r h
  | _, _, _, .dct hl q r, k + 1, u, w, x, h => by simp at h; simpa using own_tup_at r h
  | _, _, _, .obj hc hl q r, k + 1, u, w, x, h => by simp at h; simpa using own_tup_at r h
  | _, _, _, .fz q r, k + 1, u, w, x, h => by simp at h; simpa using own_tup_at r h
  | _, _, _, .fn q r, k + 1, u, w, x, h => by simp at h; simpa using own_tup_at r h
  | _, _, _, .tup hb q r, k + 1, u, w, x, h => by simp at h; simpa using own_tup_at r h
theorem own_ims : ∀ {items : List D} {ws : List V} {m : Cells}, Owns T B items ws m → ∀ {k : Nat} {u w : V} {x : D}, items[k]? = some (.tup [.im u, .im w, x]) → imm u = true ∧ imm w = true
  | _, _, _, .nil, k, u, w, x, h => by simp at h
  | _, _, _, .im hi r, 0, u, w, x, h => by simp at h
  | _, _, _, .lst q r, 0, u, w, x, h => by simp at h
  | _, _, _, .dct hl q r, 0, u, w, x, h => by simp at h
  | _, _, _, .obj hc hl q r, 0, u, w, x, h => by simp at h
  | _, _, _, .fz q r, 0, u, w, x, h => by simp at h
  | _, _, _, .fn q r, 0, u, w, x, h => by simp at h
  | _, _, _, .tup hb q r, 0, u, w, x, h => by
    simp at h; subst h
    cases q with
    | im h1 q =>
      cases q with
      | im h2 q => exact ⟨h1, h2⟩
  | _, _, _, .im hi r, k + 1, u, w, x, h => by simp at h; exact own_ims r h
  | _, _, _, .lst q r, k + 1, u, w, x, h => by simp at h; exact own_ims r h
  | _, _, _, .dct hl q r, k + 1, u, w, x, h => by simp at h; exact own_ims r h
  | _, _, _, .obj hc hl q r, k + 1, u, w, x, h => by simp at h; exact own_ims r h
  | _, _, _, .fz q r, k + 1, u, w, x, h => by simp at h; exact own_ims r h
  | _, _, _, .fn q r, k + 1, u, w, x, h => by simp at h; exact own_ims r h
  | _, _, _, .tup hb q r, k + 1, u, w, x, h => by simp at h; exact own_ims r h
theorem own_im_at {items : List D} {v : V} {m : Cells} (o : Owns T B [.lst items] [v] m) {k : Nat} {u w : V} {x : D} (h : items[k]? = some (.tup [.im u, .im w, x])) : imm u = true ∧ imm w = true := by
  cases o with
  | lst q r => exact own_ims q h
end
@[simp] def lentT (i p q j : Nat) (k : Nat) (d x : D) (u v : V) (a : Addr) (env : En) : En := lentA i j [k, 2] d x a ((env.set p (some (.own (.im u)))).set q (some (.own (.im v))))
noncomputable def atGo (K : List Nat) (i p q j : Nat) (m : MS) : Nat → Nat → En → SS
  | 0, k, env => match env[i]? with
    | some (some (.own (.lst items))) => if items.length ≤ k then .nx env else .er
    | _ => .er
  | r + 1, k, env => match env[i]? with
    | some (some (.own (.lst items))) => (match items[k]? with
      | none => .nx env
      | some (.tup [.im u, .im v, x]) => if isRf x = true then (match decO (fun a => finA K i j [k, 2] a (m (lentT i p q j k (.lst items) x u v a env))) with
        | some env3 => atGo K i p q j m r (k + 1) env3
        | none => .er) else .er
      | some _ => .er)
    | _ => .er
noncomputable def sForT (K : List Nat) (i p q j : Nat) (m : MS) : MS := fun env => match env[i]? with
  | some (some (.own (.lst items))) => if j < env.length ∧ q < env.length ∧ p < env.length then atGo K i p q j m (items.length + 1) 0 env else .er
  | _ => .er
section
variable {X : Cx} {T : Tab} {W : WX} {pin pin' : Pins} {σ0 : L2.St} {K : List Nat}
theorem ss_forT {iter : Expr} {elts : List Expr} {kk : Nat} {tpos pos : Pos} {body : List Stmt} {i p q j : Nat} {m : MS} (hK : X.K = T.K) (hp : PassesOwn (model X.prog X.w) X.A X.env X.xe) (hc : X.calm = true) (hi : PE X iter (tVar i))
    (hgt : PG X (.Tuple elts kk tpos) (gTup X.K 3 (gCons (gName p) (gCons (gName q) (gCons (gName j) gNil))))) (hij : i ≠ j) (hiq : i ≠ q) (hip : i ≠ p) (hqj : q ≠ j) (hpi : pin' i = true) (hpj : pin' j = true) (hnj : pin j = false) (hnq : pin q = false) (hnp : pin p = false)
    (hpp : ∀ k, pin k = true → pin' k = true) (hb : ∀ σ1, PSs X body (tS T W pin' σ1 m))
    (hs : ∀ v, foldedSetIterable iter X.env v = pure v := by intro _; rfl) :
    PS X (.For (.Tuple elts kk tpos) iter body [] pos) (tS T W pin σ0 (sForT K i p q j m)) := by
  refine ⟨fun pins s σ H De I h => ?_⟩
  obtain ⟨S, B, env, mss, R, hpn, hq⟩ := h
  have hb' : PSs X body (fun D σ H => ∃ σ1, tS T W pin' σ1 m D σ H) := ⟨fun pins s σ H D I h => let ⟨σ1, h⟩ := h; (hb σ1).run pins s σ H D I h⟩
  refine (ps_for hp hc (pi_list hi) hgt hb' (hs := hs)).run pins s σ H De I ?_
  have start : ∃ A, σ[i]? = some (some (.ref A)) ∧ j < σ0.length ∧ q < σ0.length ∧ p < σ0.length ∧ ∃ n, PS' T W pin σ0 S B De (atGo K i p q j m n 0 env) := by
    unfold sForT at hq
    split at hq
    · rename_i items hd
      obtain ⟨v, mm, e1, e2, own, ok⟩ := R.own hd
      obtain ⟨a, rfl⟩ := owns_rf own rfl
      split at hq
      · rename_i hj
        exact ⟨a, e1, by rw [← hpn.1, ← R.l1]; exact hj.1, by rw [← hpn.1, ← R.l1]; exact hj.2.1, by rw [← hpn.1, ← R.l1]; exact hj.2.2, _, hq⟩
      · exact hq.elim
    · exact hq.elim
  obtain ⟨A, hA, hj0, hq0, hp0, n, hq⟩ := start
  have sql : ∀ {S B H env mss σ items}, SRx T S B env mss σ H → σ[i]? = some (some (.ref A)) → env[i]? = some (some (.own (.lst items))) → ∃ ws, H A = some (.lst ws) ∧ ws.length = items.length := fun {S B H env mss σ items} R hA hd => by
    obtain ⟨v, mm, e1, e2, own, ok⟩ := R.own hd
    rw [hA] at e1; cases e1
    cases own with
    | lst o r =>
      cases r
      exact ⟨_, (ok.2 _ List.mem_cons_self).1, o.len.symm⟩
  have first : ∃ items, env[i]? = some (some (.own (.lst items))) := by
    cases n with
    | zero =>
      unfold atGo at hq
      split at hq
      · rename_i items hd; exact ⟨items, hd⟩
      · exact hq.elim
    | succ n =>
      unfold atGo at hq
      split at hq
      · rename_i items hd; exact ⟨items, hd⟩
      · exact hq.elim
  obtain ⟨items0, hd0⟩ := first
  obtain ⟨ws0, sq0, _⟩ := sql R hA hd0
  unfold tFor iList
  refine ⟨.ref A, hA, A, rfl, ⟨ws0, SqL.of sq0⟩, ?_⟩
  refine ⟨fun k n σ H => ∃ S B env mss, SRx T S B env mss σ H ∧ Pin pin σ0 σ ∧ σ[i]? = some (some (.ref A)) ∧ PS' T W pin σ0 S B De (atGo K i p q j m n k env), ⟨n, S, B, env, mss, R, hpn, hA, hq⟩, ?_⟩
  rintro k n σ H ⟨S, B, env, mss, R, hpn, hA, hq⟩
  cases n with
  | zero =>
    unfold atGo at hq
    split at hq
    · rename_i items hd
      split at hq
      · rename_i hl
        obtain ⟨ws, sq, hlen⟩ := sql R hA hd
        exact .inl ⟨⟨ws, SqL.of sq, by omega⟩, hq S B mss σ H Gw.refl R hpn⟩
      · exact hq.elim
    · exact hq.elim
  | succ n =>
    unfold atGo at hq
    split at hq
    · rename_i items hd
      obtain ⟨ws, sq, hlen⟩ := sql R hA hd
      split at hq
      · rename_i hk
        exact .inl ⟨⟨ws, SqL.of sq, by rw [hlen]; exact List.getElem?_eq_none_iff.mp hk⟩, hq S B mss σ H Gw.refl R hpn⟩
      · rename_i u w x hk
        split at hq
        · rename_i hx
          split at hq
          · rename_i env3 hz
            have kl : k < ws.length := by rw [hlen]; exact (List.getElem?_eq_some_iff.mp hk).1
            refine .inr ⟨⟨ws, ws[k], SqL.of sq, List.getElem?_eq_getElem kl⟩, fun σ H => ∃ S B env mss, SRx T S B env mss σ H ∧ Pin pin σ0 σ ∧ σ[i]? = some (some (.ref A)) ∧ PS' T W pin σ0 S B De (atGo K i p q j m n (k + 1) env), fun σ' H' h => ⟨n, by omega, h⟩, fun y H' hy => ?_⟩
            obtain ⟨rfl, hyy⟩ := (show H' = H ∧ ∀ xs, SqL X.K H A xs → xs[k]? = some y from hy)
            have hy := hyy ws (SqL.of sq)
            have hj : j < σ.length := by rw [hpn.1]; exact hj0
            have hql : q < σ.length := by rw [hpn.1]; exact hq0
            have hpl : p < σ.length := by rw [hpn.1]; exact hp0
            have no : ∀ {k' : Nat} {m' : Cells} {z : Nat}, k' ≠ z → mss[k']? = some m' → Apart m' [] := fun _ _ => fun c hc y hy => nomatch hy
            have R1 := R.set (i := p) (e := some (.own (.im u))) (s := some u) (m := []) (by
              obtain ⟨v0, mm, e1, e2, own, ok⟩ := R.own hd
              have := own_im_at own hk
              exact .im this.1 .nil) ⟨.nil, fun _ h => nomatch h⟩ fun k' m' hk' hm' => fun c hc y hy => by
              first
                | exact nomatch hy
                | exact nomatch hc
            have R2 := R1.set (i := q) (e := some (.own (.im w))) (s := some w) (m := []) (by
              obtain ⟨v0, mm, e1, e2, own, ok⟩ := R.own hd
              have := own_im_at own hk
              exact .im this.2 .nil) ⟨.nil, fun _ h => nomatch h⟩ fun k' m' hk' hm' => fun c hc y hy => by
              first
                | exact nomatch hy
                | exact nomatch hc
            have hd2 : ((env.set p (some (.own (.im u)))).set q (some (.own (.im w))))[i]? = some (some (.own (.lst items))) := by rw [List.getElem?_set_ne (fun z => hiq z.symm), List.getElem?_set_ne (fun z => hip z.symm), hd]
            have hA2 : ((σ.set p (some u)).set q (some w))[i]? = some (some (.ref A)) := by rw [List.getElem?_set_ne (fun z => hiq z.symm), List.getElem?_set_ne (fun z => hip z.symm), hA]
            have hj2 : j < ((σ.set p (some u)).set q (some w)).length := by rw [List.length_set, List.length_set]; exact hj
            obtain ⟨v, a, f1, f2, mss1, R3⟩ := lend hij R2 hd2 (p := [k, 2]) (x := x) (by simp [getP, kids, hk]) hx hj2
            rw [hA2] at f1; cases f1
            obtain ⟨t, hyt, ht⟩ : ∃ t, y = .ref t ∧ H' t = some (.tup [u, w, .ref a]) := by
              obtain ⟨v0, mm, e1, e2, own, ok⟩ := R.own hd
              rw [hA] at e1; cases e1
              cases own with
              | lst o r =>
                cases r
                have hws : ws = _ := HO.lst.inj (Option.some.inj (sq.symm.trans (ok.2 _ List.mem_cons_self).1))
                subst hws
                obtain ⟨t, h1, us, h2, h3⟩ := own_tup_at o hk
                rw [hy] at h1
                have hv : valP H' [k, 2] (.ref A) = us[2]? := by
                  have e0 : H' A = some (.lst _) := sq
                  have hB := (R.bs.trans R.sh) _ _ h2
                  simp only [valP, childV, e0, hy, Option.some.inj h1, hB]
                  cases us[2]? <;> rfl
                rw [hv] at f2
                obtain ⟨z, rfl⟩ := h3
                simp at f2
                subst f2
                exact ⟨t, Option.some.inj h1, (R.bs.trans R.sh) _ _ h2⟩
            subst hyt
            have hz2 := decO_at hz a
            refine ⟨t, [u, w, .ref a], rfl, .inl (.inl ht), rfl, u, [w, .ref a], rfl, w, [.ref a], rfl, .ref a, [], rfl, rfl, ?_⟩
            show ∃ σ1, tS T W pin' σ1 m _ _ _
            refine ⟨((σ.set p (some u)).set q (some w)).set j (some (.ref a)), _, _, _, mss1, R3, ⟨rfl, fun _ _ => rfl⟩, ?_⟩
            have fin : ∀ env2, finA K i j [k, 2] a (.nx env2) = some env3 → ∀ S2 B2 mss2 σ2 H2, Gw S B S2 B2 → SRx T S2 B2 env2 mss2 σ2 H2 → Pin pin' (((σ.set p (some u)).set q (some w)).set j (some (.ref a))) σ2 → ∃ S B env mss, SRx T S B env mss σ2 H2 ∧ Pin pin σ0 σ2 ∧ σ2[i]? = some (some (.ref A)) ∧ PS' T W pin σ0 S B De (atGo K i p q j m n (k + 1) env) := fun env2 hz2 S2 B2 mss2 σ2 H2 g Rb hp2 => by
              simp only [finA] at hz2
              split at hz2
              · rename_i d2 x2 h2 hx2
                split at hz2
                · rename_i b hq2
                  split at hz2
                  · rename_i eb
                    cases hz2
                    subst eb
                    have sj : σ2[j]? = some (some (.ref b)) := by rw [hp2.2 j hpj, List.getElem?_set_self hj2]
                    have si : σ2[i]? = some (some (.ref A)) := by rw [hp2.2 i hpi, List.getElem?_set_ne (fun z => hij z.symm), hA2]
                    obtain ⟨mss3, R3⟩ := merge hij Rb h2 hq2 hx2 sj
                    refine ⟨S2, B2, _, _, R3.kp (K := K), ⟨hp2.1.trans (by rw [List.length_set, List.length_set, List.length_set]; exact hpn.1), fun k hk => ?_⟩, si, PS'.gw hq g⟩
                    have hkj : k ≠ j := fun e => by rw [e, hnj] at hk; cases hk
                    have hkq : k ≠ q := fun e => by rw [e, hnq] at hk; cases hk
                    have hkp : k ≠ p := fun e => by rw [e, hnp] at hk; cases hk
                    rw [hp2.2 k (hpp k hk), List.getElem?_set_ne (fun z => hkj z.symm), List.getElem?_set_ne (fun z => hkq z.symm), List.getElem?_set_ne (fun z => hkp z.symm), hpn.2 k hk]
                  · cases hz2
                · cases hz2
              · cases hz2
            cases hr : m (lentT i p q j k (.lst items) x u w a env) with
            | nx env2 => rw [hr] at hz2; simp only [lentT, lentA] at hr; rw [hr]; exact fin env2 hz2
            | ct env2 => rw [hr] at hz2; simp only [lentT, lentA] at hr; rw [hr]; exact fin env2 hz2
            | rt d env => rw [hr] at hz2; cases hz2
            | bk env => rw [hr] at hz2; cases hz2
            | ex c env => rw [hr] at hz2; cases hz2
            | er => rw [hr] at hz2; cases hz2
          · exact hq.elim
        · exact hq.elim
      · exact hq.elim
    · exact hq.elim
end
end Tr
namespace Tr
open PySem L2
end Tr
namespace Tr
open PySem L2
end Tr
namespace Ty
open PySem L2 Tr
/-- what is known of a frame: none = nothing -/
abbrev Sp := List (Option Slot)
def Rel : Sp → En → Prop
  | [], [] => True
  | none :: sp, _ :: env => Rel sp env
  | some s :: sp, e :: env => e = some s ∧ Rel sp env
  | _, _ => False
def Sub : Sp → Sp → Prop
  | [], [] => True
  | _ :: a, none :: b => Sub a b
  | x :: a, some s :: b => x = some s ∧ Sub a b
  | _, _ => False
section
variable {sp sp' sp2 : Sp} {env : En}
theorem Rel.len : ∀ {sp : Sp} {env : En}, Rel sp env → env.length = sp.length
  | [], [], _ => rfl
  | none :: sp, _ :: env, h => by simp [Rel.len (sp := sp) (env := env) h]
  | some s :: sp, _ :: env, h => by simp [Rel.len (sp := sp) (env := env) h.2]
  | [], _ :: _, h => h.elim
  | none :: _, [], h => h.elim
  | some _ :: _, [], h => h.elim
theorem Rel.at_ : ∀ {sp : Sp} {env : En} {i : Nat} {s : Slot}, Rel sp env → sp[i]? = some (some s) → env[i]? = some (some s)
  | [], _, i, s, _, h => by simp at h
  | none :: sp, [], i, s, h, _ => h.elim
  | some _ :: sp, [], i, s, h, _ => h.elim
  | none :: sp, e :: env, 0, s, r, h => by simp at h
  | some t :: sp, e :: env, 0, s, r, h => by simp at h; subst h; simp [r.1]
  | none :: sp, e :: env, i + 1, s, r, h => by simpa using Rel.at_ (sp := sp) (env := env) r (by simpa using h)
  | some t :: sp, e :: env, i + 1, s, r, h => by simpa using Rel.at_ (sp := sp) (env := env) r.2 (by simpa using h)
theorem Rel.set : ∀ {sp : Sp} {env : En}, Rel sp env → ∀ (i : Nat) (s : Slot), Rel (sp.set i (some s)) (env.set i (some s))
  | [], [], _, i, s => by simp [Rel]
  | [], _ :: _, h, _, _ => h.elim
  | none :: sp, [], h, _, _ => h.elim
  | some _ :: sp, [], h, _, _ => h.elim
  | none :: sp, e :: env, r, 0, s => ⟨rfl, r⟩
  | some t :: sp, e :: env, r, 0, s => ⟨rfl, r.2⟩
  | none :: sp, e :: env, r, i + 1, s => by simpa using! Rel.set (sp := sp) (env := env) r i s
  | some t :: sp, e :: env, r, i + 1, s => ⟨r.1, Rel.set (sp := sp) (env := env) r.2 i s⟩
theorem Rel.wipe : ∀ {sp : Sp} {env : En}, Rel sp env → ∀ (i : Nat) (x : Option Slot), Rel (sp.set i none) (env.set i x)
  | [], [], _, i, s => by simp [Rel]
  | [], _ :: _, h, _, _ => h.elim
  | none :: sp, [], h, _, _ => h.elim
  | some _ :: sp, [], h, _, _ => h.elim
  | none :: sp, e :: env, r, 0, s => r
  | some t :: sp, e :: env, r, 0, s => r.2
  | none :: sp, e :: env, r, i + 1, s => Rel.wipe (sp := sp) (env := env) r i s
  | some t :: sp, e :: env, r, i + 1, s => ⟨r.1, Rel.wipe (sp := sp) (env := env) r.2 i s⟩
theorem Rel.sub : ∀ {sp sp' : Sp} {env : En}, Rel sp env → Sub sp sp' → Rel sp' env
  | [], [], [], _, _ => trivial
  | [], [], _ :: _, h, _ => h.elim
  | [], _ :: _, _, _, h => h.elim
  | none :: _, _, [], h, _ => h.elim
  | some _ :: _, _, [], h, _ => h.elim
  | _ :: _, [], _ :: _, _, h => h.elim
  | none :: sp, none :: sp', e :: env, r, s => Rel.sub (sp := sp) (sp' := sp') r s
  | some t :: sp, none :: sp', e :: env, r, s => Rel.sub (sp := sp) (sp' := sp') r.2 s
  | none :: sp, some t :: sp', e :: env, r, s => absurd s.1 (by simp)
  | some t :: sp, some t' :: sp', e :: env, r, s => ⟨by rw [r.1, s.1], Rel.sub (sp := sp) (sp' := sp') r.2 s.2⟩
/-- what stands still: what is owned is read -/
def roP : Sp → Sp := List.map fun o => o.map fun s => match s with | .own d => .ro d | s => s
theorem Rel.ro : ∀ {sp : Sp} {env : En}, Rel sp env → Rel (roP sp) (roE env)
  | [], [], _ => trivial
  | [], _ :: _, h => h.elim
  | none :: _, [], h => h.elim
  | some _ :: _, [], h => h.elim
  | none :: sp, e :: env, r => Rel.ro (sp := sp) (env := env) r
  | some t :: sp, e :: env, r => ⟨by rw [r.1]; cases t <;> rfl, Rel.ro (sp := sp) (env := env) r.2⟩
theorem Rel.of : ∀ (ss : List Slot) (n : Nat), Rel (ss.map some ++ List.replicate n none) (ss.map some ++ List.replicate n none)
  | [], 0 => trivial
  | [], n + 1 => by
    have := Rel.of [] n
    rw [List.replicate_succ]; exact this
  | s :: ss, n => ⟨rfl, Rel.of ss n⟩
end
inductive R (α : Type) where
  | ok (a : α)
  | ex (x : Exn)
  | er
inductive RF (α κ ζ : Type) where
  | ok (a : α) (k : κ)
  | ex (x : Exn) (k : ζ)
  | er
inductive SR (σ ρ κ l ξ : Type) where
  | nx (s : σ)
  | rt (r : ρ) (k : κ)
  | bk (b : l)
  | ct (b : l)
  | ex (x : Exn) (k : ξ)
  | er
section
variable {α β γ κ κ' σ σ' ρ l l' ξ ξ' ζ ζ' : Type}
def R.bind : R α → (α → R β) → R β
  | .ok a, f => f a
  | .ex x, _ => .ex x
  | .er, _ => .er
def R.lift (k : κ) (kx : ζ) : R α → RF α κ ζ
  | .ok a => .ok a k
  | .ex x => .ex x kx
  | .er => .er
def R.bindF (k : ζ) : R α → (α → RF β κ ζ) → RF β κ ζ
  | .ok a, f => f a
  | .ex x, _ => .ex x k
  | .er, _ => .er
def R.bindE (k : ξ) : R α → (α → SR σ ρ κ l ξ) → SR σ ρ κ l ξ
  | .ok a, f => f a
  | .ex x, _ => .ex x k
  | .er, _ => .er
def RF.r : RF α κ ζ → R α
  | .ok a _ => .ok a
  | .ex x _ => .ex x
  | .er => .er
/-- what a new object's making leaves -/
def RF.mk : RF Unit κ ζ → R κ
  | .ok _ k => .ok k
  | .ex x _ => .ex x
  | .er => .er
def RF.map (g : κ → κ') (gx : ζ → ζ') : RF α κ ζ → RF α κ' ζ'
  | .ok a k => .ok a (g k)
  | .ex x k => .ex x (gx k)
  | .er => .er
def RF.bindF (kx : ζ → ξ) : RF α κ ζ → (α → κ → SR σ ρ κ' l ξ) → SR σ ρ κ' l ξ
  | .ok a k, f => f a k
  | .ex x k, _ => .ex x (kx k)
  | .er, _ => .er
def SR.bind : SR σ ρ κ l ξ → (σ → SR σ' ρ κ l ξ) → SR σ' ρ κ l ξ
  | .nx s, f => f s
  | .rt r k, _ => .rt r k
  | .bk b, _ => .bk b
  | .ct b, _ => .ct b
  | .ex x k, _ => .ex x k
  | .er, _ => .er
def SR.fn (nx : κ → RF ρ κ ξ) : SR κ ρ κ Empty ξ → RF ρ κ ξ
  | .nx k => nx k
  | .rt r k => .ok r k
  | .ex x k => .ex x k
  | _ => .er
def lt (v : α) (f : α → β) : β := f v
def R.ofO : Option α → R α
  | some a => .ok a
  | none => .er
@[irreducible] def R.gd (c : Prop) [Decidable c] (a : α) : R α := if c then .ok a else .er
def forR (B : α → σ → SR σ ρ κ σ ξ) : List α → σ → SR σ ρ κ l ξ
  | [], s => .nx s
  | a :: as, s => match B a s with
    | .nx s => forR B as s
    | .ct s => forR B as s
    | .bk s => .nx s
    | .rt r k => .rt r k
    | .ex x k => .ex x k
    | .er => .er
def whR (C : σ → R Bool) (kx : σ → ξ) (B : σ → SR σ ρ κ σ ξ) : Nat → σ → SR σ ρ κ l ξ
  | 0, _ => .er
  | n + 1, s => match C s with
    | .ok true => match B s with
      | .nx s => whR C kx B n s
      | .ct s => whR C kx B n s
      | .bk s => .nx s
      | .rt r k => .rt r k
      | .ex x k => .ex x k
      | .er => .er
    | .ok false => .nx s
    | .ex x => .ex x (kx s)
    | .er => .er
def lcR (t : α → R Bool) (e : α → R β) : List α → R (List β)
  | [] => .ok []
  | a :: as => match t a with
    | .ok true => match e a with
      | .ok b => match lcR t e as with
        | .ok bs => .ok (b :: bs)
        | _ => .er
      | _ => .er
    | .ok false => lcR t e as
    | _ => .er
end
section
variable {sp sp' sp1 sp2 : Sp} {env : En} {α β γ κ κ' σ σ' ρ l l' ξ ξ' ζ ζ' : Type}
def EP (sp : Sp) (m : ME) (r : Rs) : Prop := ∀ env, Rel sp env → m env = .ok r
def RzR {β : Type} (z : Rz β) (A : R α) (f : α → β) : Prop := match A with
  | .ok a => z = .ok (f a)
  | .ex x => z = .ex x
  | .er => True
def EF (sp : Sp) (m : ME) (A : R α) (f : α → Rs) : Prop := ∀ env, Rel sp env → RzR (m env) A f
def CP (sp : Sp) (ms : List ME) (g : List Rs → Rz Rs) (r : Rs) : Prop := ∀ env, Rel sp env → (mAs ms env).bind g = .ok r
def CK (sp : Sp) (ms : List ME) (g : List Rs → Rz Rs) (A : R γ) (f : γ → Rs) : Prop := ∀ env, Rel sp env → RzR ((mAs ms env).bind g) A f
theorem ef_p {m : ME} {f : α → Rs} {a : α} (h : EP sp m (f a)) : EF sp m (.ok a) f := fun env r => h env r
theorem cp_n {g : List Rs → Rz Rs} {r : Rs} (h : g [] = .ok r) : CP sp [] g r := fun env _ => h
theorem cp_c {m : ME} {ms : List ME} {g : List Rs → Rz Rs} {r r' : Rs} (h : EP sp m r') (t : CP sp ms (fun rs => g (r' :: rs)) r) : CP sp (m :: ms) g r := fun env hr => by
  have := t env hr
  simp only [mAs, h env hr]
  cases hm : mAs ms env with
  | ok rs => rw [hm] at this; exact this
  | ex x => rw [hm] at this; exact this
  | er => rw [hm] at this; exact this
theorem ck_n {g : List Rs → Rz Rs} {A : R γ} {f : γ → Rs} (h : RzR (g []) A f) : CK sp [] g A f := fun env _ => h
theorem ck_p {m : ME} {ms : List ME} {g : List Rs → Rz Rs} {A : R γ} {f : γ → Rs} {r : Rs} (h : EP sp m r) (t : CK sp ms (fun rs => g (r :: rs)) A f) : CK sp (m :: ms) g A f := fun env hr => by
  have := t env hr
  simp only [mAs, h env hr]
  cases hm : mAs ms env with
  | ok rs => rw [hm] at this; exact this
  | ex x => rw [hm] at this; exact this
  | er => rw [hm] at this; exact this
theorem ck_f {m : ME} {ms : List ME} {g : List Rs → Rz Rs} {B : R β} {A : β → R γ} {fb : β → Rs} {f : γ → Rs} (h : EF sp m B fb) (t : ∀ x, CK sp ms (fun rs => g (fb x :: rs)) (A x) f) : CK sp (m :: ms) g (B.bind A) f := fun env hr => by
  have hb := h env hr
  cases B with
  | ok x =>
    have := t x env hr
    simp only [RzR] at hb
    simp only [mAs, hb, R.bind]
    cases hm : mAs ms env with
    | ok rs => rw [hm] at this; exact this
    | ex x => rw [hm] at this; exact this
    | er => rw [hm] at this; exact this
  | ex x => simp only [RzR] at hb; simp only [mAs, hb, R.bind, RzR, Rz.bind]
  | er => exact trivial
/-- how words with parts in a row end -/
def gN (f : List D → Option D) (rs : List Rs) : Rz Rs := Zo (f (rs.map Rs.d))
def gC (mf : List Slot → FR) (rs : List Rs) : Rz Rs := frR (mf (rs.map fun r => .ro r.d))
def gK (c : Nat) (mf : List Slot → FR) (rs : List Rs) : Rz Rs := mkR (mf (.own (.obj c []) :: (rs.map Rs.d).map Slot.ro))
def gD (k : List D → D) (rs : List Rs) : Rz Rs := Zdsp (.ok rs) k
def gI (rs : List Rs) : Rz Rs := match rs with
  | [r, s] => ixR r s
  | _ => .er
def gF (t : List (Nat × Nat)) (rs : List Rs) : Rz Rs := match rs with
  | [r] => subR r (fldT t)
  | _ => .er
def gZ (rs : List Rs) : Rz Rs := match rs with
  | [r] => Zf (.ok r)
  | _ => .er
theorem eq_1 (f : List D → Option D) (a : ME) (env : En) : m1 f a env = (mAs [a] env).bind (gN f) := by
  rw [EV2.2.2.2.1]; simp only [mAs]; cases a env <;> rfl
theorem eq_2 (f : List D → Option D) (a b : ME) (env : En) : m2 f a b env = (mAs [a, b] env).bind (gN f) := by
  rw [EV2.2.2.2.2.1]; simp only [mAs]; cases a env with
  | ok r => cases b env <;> rfl
  | _ => rfl
theorem eq_N (f : List D → Option D) (ms : List ME) (env : En) : mN f ms env = (mAs ms env).bind (gN f) := by
  rw [EV2.2.2.2.2.2.1]; rfl
theorem eq_C (mf : List Slot → FR) (ms : List ME) (env : En) : mCall mf ms env = (mAs ms env).bind (gC mf) := by
  unfold mCall gC; cases mAs ms env with
  | ok rs => simp only [Rz.bind]; cases mf (rs.map fun r => .ro r.d) <;> rfl
  | _ => rfl
theorem eq_K (c : Nat) (mf : List Slot → FR) (ms : List ME) (env : En) : mMake c mf ms env = (mAs ms env).bind (gK c mf) := by
  unfold mMake gK; cases mAs ms env <;> rfl
theorem eq_D (k : List D → D) (ms : List ME) (env : En) : mDsp k ms env = (mAs ms env).bind (gD k) := by
  unfold mDsp gD Zdsp; cases mAs ms env <;> rfl
theorem eq_F (t : List (Nat × Nat)) (m : ME) (env : En) : mFd t m env = (mAs [m] env).bind (gF t) := by
  unfold mFd; simp only [mAs]; cases m env <;> rfl
theorem eq_Z (m : ME) (env : En) : mFz m env = (mAs [m] env).bind gZ := by
  unfold mFz; simp only [mAs]; cases m env with
  | ok r => cases r <;> rfl
  | _ => rfl
theorem ep_1 {f : List D → Option D} {a : ME} {r : Rs} (h : CP sp [a] (gN f) r) : EP sp (m1 f a) r := fun env hr => by rw [eq_1]; exact h env hr
theorem ep_2 {f : List D → Option D} {a b : ME} {r : Rs} (h : CP sp [a, b] (gN f) r) : EP sp (m2 f a b) r := fun env hr => by rw [eq_2]; exact h env hr
theorem ep_N {f : List D → Option D} {ms : List ME} {r : Rs} (h : CP sp ms (gN f) r) : EP sp (mN f ms) r := fun env hr => by rw [eq_N]; exact h env hr
theorem ep_D {k : List D → D} {ms : List ME} {r : Rs} (h : CP sp ms (gD k) r) : EP sp (mDsp k ms) r := fun env hr => by rw [eq_D]; exact h env hr
theorem ep_F {t : List (Nat × Nat)} {m : ME} {r : Rs} (h : CP sp [m] (gF t) r) : EP sp (mFd t m) r := fun env hr => by rw [eq_F]; exact h env hr
theorem ep_Z {m : ME} {r : Rs} (h : CP sp [m] gZ r) : EP sp (mFz m) r := fun env hr => by rw [eq_Z]; exact h env hr
theorem ef_1 {f : List D → Option D} {a : ME} {A : R γ} {fr : γ → Rs} (h : CK sp [a] (gN f) A fr) : EF sp (m1 f a) A fr := fun env hr => by rw [eq_1]; exact h env hr
theorem ef_2 {f : List D → Option D} {a b : ME} {A : R γ} {fr : γ → Rs} (h : CK sp [a, b] (gN f) A fr) : EF sp (m2 f a b) A fr := fun env hr => by rw [eq_2]; exact h env hr
theorem ef_N {f : List D → Option D} {ms : List ME} {A : R γ} {fr : γ → Rs} (h : CK sp ms (gN f) A fr) : EF sp (mN f ms) A fr := fun env hr => by rw [eq_N]; exact h env hr
theorem ef_C {mf : List Slot → FR} {ms : List ME} {A : R γ} {fr : γ → Rs} (h : CK sp ms (gC mf) A fr) : EF sp (mCall mf ms) A fr := fun env hr => by rw [eq_C]; exact h env hr
theorem ef_K {c : Nat} {mf : List Slot → FR} {ms : List ME} {A : R γ} {fr : γ → Rs} (h : CK sp ms (gK c mf) A fr) : EF sp (mMake c mf ms) A fr := fun env hr => by rw [eq_K]; exact h env hr
theorem ef_Z {m : ME} {A : R γ} {fr : γ → Rs} (h : CK sp [m] gZ A fr) : EF sp (mFz m) A fr := fun env hr => by rw [eq_Z]; exact h env hr
/-- an index -/
theorem ep_I {a b : ME} {r : Rs} (h : CP sp [a, b] gI r) : EP sp (mIx a b) r := fun env hr => by
  have := h env hr
  cases ha : a env with
  | ok ra => rw [ix_e ha]; simp only [mAs, ha] at this; cases hb : b env with
    | ok rb => rw [hb] at this; exact this
    | ex x => rw [hb] at this; exact this
    | er => rw [hb] at this; exact this
  | ex x => simp [mAs, ha] at this
  | er => simp [mAs, ha] at this
theorem ef_I {a b : ME} {A : R γ} {fr : γ → Rs} (h : CK sp [a, b] gI A fr) : EF sp (mIx a b) A fr := fun env hr => by
  have := h env hr
  cases ha : a env with
  | ok ra => rw [ix_e ha]; simp only [mAs, ha] at this; cases hb : b env with
    | ok rb => rw [hb] at this; exact this
    | ex x => rw [hb] at this; exact this
    | er => rw [hb] at this; exact this
  | ex x =>
    have e : mIx a b env = .ex x := by simp [mIx, ha]
    rw [e]; simp only [mAs, ha] at this; exact this
  | er =>
    have e : mIx a b env = .er := by simp [mIx, ha]
    rw [e]; simp only [mAs, ha] at this; exact this
/-- variables, constants -/
theorem ep_vc {i : Nat} {s : Slot} {d : D} (h : sp[i]? = some (some s)) (hs : s = .own d ∨ s = .ro d) (c : copyD d = true) : EP sp (mVar i) (.own d) := fun env hr => by
  have := hr.at_ h
  rcases hs with rfl | rfl <;> simp [this, c]
theorem ep_vo {i : Nat} {d : D} (h : sp[i]? = some (some (.own d))) (c : copyD d = false) : EP sp (mVar i) (.bor i d) := fun env hr => by
  simp [hr.at_ h, c]
theorem ep_vr {i : Nat} {d : D} (h : sp[i]? = some (some (.ro d))) (c : copyD d = false) : EP sp (mVar i) (.ro d) := fun env hr => by
  simp [hr.at_ h, c]
theorem ep_k {v : V} : EP sp (mC v) (.own (.im v)) := fun _ _ => rfl
theorem ep_nd : EP sp mNewD (.own (.dct [] [])) := fun _ _ => rfl
theorem zo {f : List D → Option D} {rs : List Rs} {z : D} (h : f (rs.map Rs.d) = some z) : gN f rs = .ok (.own z) := by rw [gN, h]; rfl
/-- an operation that may have no answer -/
def OpR (o : Option D) (A : R γ) (e : γ → D) : Prop := match A with
  | .ok c => o = some (e c)
  | .ex _ => False
  | .er => True
theorem zof {f : List D → Option D} {rs : List Rs} {A : R γ} {e : γ → D} (h : OpR (f (rs.map Rs.d)) A e) : RzR (gN f rs) A (fun c => .own (e c)) := by
  cases A with
  | ok c => simp only [OpR] at h; simp only [RzR, gN, h, Zo]
  | ex x => exact h.elim
  | er => trivial
theorem opr_gd {o : Option D} {c : Prop} [Decidable c] {a : γ} {e : γ → D} (h : c → o = some (e a)) : OpR o (R.gd c a) e := by
  unfold R.gd; split
  · rename_i hc; exact h hc
  · trivial
theorem opr_o {o : Option D} {a : Option γ} {e : γ → D} (h : o = a.map e) : OpR o (R.ofO a) e := by
  cases a with
  | some x => exact h
  | none => trivial
def FSim (z : FR) (A : RF ρ κ ζ) (e : ρ → D) (pk : κ → Sp) (pe : ζ → Sp) : Prop := match A with
  | .ok r k => ∃ as, z = .ok (e r) as ∧ Rel (pk k) as
  | .ex x k => ∃ as, z = .ex x as ∧ Rel (pe k) as
  | .er => True
theorem fsim_r {z : FR} {A : RF ρ κ ζ} {e : ρ → D} {pk : κ → Sp} {pe : ζ → Sp} (h : FSim z A e pk pe) : RzR (frR z) A.r (fun r => .own (e r)) := by
  cases A with
  | ok r k => obtain ⟨as, h, _⟩ := h; simp only [RF.r, RzR, h, frR]
  | ex x k => obtain ⟨as, h, _⟩ := h; simp only [RF.r, RzR, h, frR]
  | er => trivial
theorem fsim_mk {z : FR} {A : RF Unit κ ζ} {pk : κ → Sp} {pe : ζ → Sp} {e : κ → D} {sp : Sp} (h : FSim z A (fun _ => .im .non) pk pe) (hp : ∀ k, ∃ t, pk k = some (.own (e k)) :: t) : RzR (mkR z) A.mk (fun k => .own (e k)) := by
  cases A with
  | ok r k =>
    obtain ⟨as, h, h2⟩ := h
    obtain ⟨t, ht⟩ := hp k
    rw [ht] at h2
    cases as with
    | nil => exact h2.elim
    | cons a as => obtain ⟨rfl, _⟩ := h2; simp only [RF.mk, RzR, h, mkR]
  | ex x k => obtain ⟨as, h, _⟩ := h; simp only [RF.mk, RzR, h, mkR]
  | er => trivial
theorem gc_f {mf : List Slot → FR} {rs : List Rs} {ss : List Slot} {A : RF ρ κ ζ} {e : ρ → D} {pk : κ → Sp} {pe : ζ → Sp} (h : FSim (mf ss) A e pk pe) (hs : (rs.map fun r => Slot.ro r.d) = ss) : RzR (gC mf rs) A.r (fun r => .own (e r)) := by
  rw [gC, hs]; exact fsim_r h
theorem gk_f {c : Nat} {mf : List Slot → FR} {rs : List Rs} {ss : List Slot} {A : RF Unit κ ζ} {pk : κ → Sp} {pe : ζ → Sp} {e : κ → D} (h : FSim (mf (.own (.obj c []) :: ss)) A (fun _ => .im .non) pk pe) (hs : (rs.map Rs.d).map Slot.ro = ss) (hp : ∀ k, ∃ t, pk k = some (.own (e k)) :: t) : RzR (gK c mf rs) A.mk (fun k => .own (e k)) := by
  rw [gK, hs]; exact fsim_mk (sp := []) h hp
theorem ef_M {c : Nat} {mf : List Slot → FR} {mo : ME} {ms : List ME} {r : Rs} {ds : List D} {A : R γ} {fr : γ → Rs} (ho : EP sp mo r) (hd : unfz r.d = .obj c ds) (h : CK sp ms (fun rs => frR (mf ((r.d :: rs.map Rs.d).map Slot.ro))) A fr) : EF sp (mMeth c mf mo ms) A fr := fun env hr => by
  have := h env hr
  unfold mMeth
  rw [ho env hr]
  simp only [hd, reduceIte]
  cases hm : mAs ms env with
  | ok rs => rw [hm] at this; exact this
  | ex x => rw [hm] at this; exact this
  | er => rw [hm] at this; exact this
theorem gm_f {mf : List Slot → FR} {d : D} {rs : List Rs} {ss : List Slot} {A : RF ρ κ ζ} {e : ρ → D} {pk : κ → Sp} {pe : ζ → Sp} (h : FSim (mf ss) A e pk pe) (hs : (d :: rs.map Rs.d).map Slot.ro = ss) : RzR (frR (mf ((d :: rs.map Rs.d).map Slot.ro))) A.r (fun r => .own (e r)) := by
  rw [hs]; exact fsim_r h
theorem ep_and {a b : ME} {x y : Bool} {ra rb : Rs} (ha : EP sp a ra) (hx : ra.d = .im (.bl x)) (hb : EP sp b (.own (.im (.bl y)))) : EP sp (mAnd a b) (.own (.im (.bl (x && y)))) := fun env hr => by
  simp only [mAnd, ha env hr, hx, hb env hr]; cases x <;> rfl
theorem ep_or {a b : ME} {x y : Bool} {ra : Rs} (ha : EP sp a ra) (hx : ra.d = .im (.bl x)) (hb : EP sp b (.own (.im (.bl y)))) : EP sp (mOr a b) (.own (.im (.bl (x || y)))) := fun env hr => by
  simp only [mOr, ha env hr, hx, hb env hr]; cases x <;> rfl
def R.andF (A : R Bool) (B : R Bool) : R Bool := A.bind fun x => if x = true then B else .ok false
def R.orF (A : R Bool) (B : R Bool) : R Bool := A.bind fun x => if x = true then .ok true else B
abbrev eB (b : Bool) : D := .im (.bl b)
end
end Ty
namespace Ty
open PySem L2 Tr
section
variable {sp sp' sp1 sp2 : Sp} {env : En} {α β γ κ κ' σ σ' ρ l l' ξ ξ' ζ ζ' : Type}
def XR (z : EO) (A : RF α κ ζ) (f : α → Rs) (po : κ → Sp) (px : ζ → Sp) : Prop := match A with
  | .ok a k => ∃ e, z = .ok (f a) e ∧ Rel (po k) e
  | .ex x k => ∃ e, z = .ex x e ∧ Rel (px k) e
  | .er => True
def XP (sp : Sp) (m : EE) (r : Rs) (sp' : Sp) : Prop := ∀ env, Rel sp env → ∃ e, m env = .ok r e ∧ Rel sp' e
def XF (sp : Sp) (m : EE) (A : RF α κ ζ) (f : α → Rs) (po : κ → Sp) (px : ζ → Sp) : Prop := ∀ env, Rel sp env → XR (m env) A f po px
theorem xp_l {m : ME} {r : Rs} (h : EP sp m r) : XP sp (liftE m) r sp := fun env hr => ⟨env, by simp [h env hr], hr⟩
theorem xp_mv {i : Nat} {d : D} (h : sp[i]? = some (some (.own d))) (c : copyD d = false) : XP sp (eMv i) (.own d) (sp.set i none) := fun env hr =>
  ⟨env.set i none, by simp [hr.at_ h, c], hr.wipe i none⟩
theorem xp_mvc {i : Nat} {s : Slot} {d : D} (h : sp[i]? = some (some s)) (hs : s = .own d ∨ s = .ro d) (c : copyD d = true) : XP sp (eMv i) (.own d) sp := fun env hr => by
  have := hr.at_ h
  rcases hs with rfl | rfl <;> exact ⟨env, by simp [this, c], hr⟩
def TA (sp : Sp) (avs : List AV) (ds : List D) (sp' : Sp) : Prop := ∀ env, Rel sp env → ∃ e, takeAll avs env = some (ds, e) ∧ Rel sp' e
theorem ta_n : TA sp [] [] sp := fun env hr => ⟨env, rfl, hr⟩
theorem ta_r {d : D} {avs : List AV} {ds : List D} (t : TA sp avs ds sp') : TA sp (.r (.own d) :: avs) (d :: ds) sp' := fun env hr => by
  obtain ⟨e, h1, h2⟩ := t env hr
  exact ⟨e, by simp [h1], h2⟩
theorem ta_m {i : Nat} {d : D} {avs : List AV} {ds : List D} (h : sp[i]? = some (some (.own d))) (t : TA (sp.set i none) avs ds sp') : TA sp (.mv i :: avs) (d :: ds) sp' := fun env hr => by
  obtain ⟨e, h1, h2⟩ := t (env.set i none) (hr.wipe i none)
  exact ⟨e, by simp [hr.at_ h, h1], h2⟩
def RwR (z : Rz (List AV)) (pre : List AV) (env : En) (A : R γ) (f : γ → List D) (sp' : Sp) : Prop := match A with
  | .ok c => ∃ avs e, z = .ok avs ∧ takeAll (pre ++ avs) env = some (f c, e) ∧ Rel sp' e
  | .ex x => z = .ex x
  | .er => True
def RwF (sp : Sp) (ks : List AK) (pre : List AV) (A : R γ) (f : γ → List D) (sp' : Sp) : Prop := ∀ env, Rel sp env → RwR (aKs ks env) pre env A f sp'
theorem rw_n {pre : List AV} {c : γ} {f : γ → List D} (h : TA sp pre (f c) sp') : RwF sp [] pre (.ok c) f sp' := fun env hr => by
  obtain ⟨e, h1, h2⟩ := h env hr
  exact ⟨[], e, rfl, by rw [List.append_nil]; exact h1, h2⟩
theorem rw_av {k : AK} {ks : List AK} {pre : List AV} {a : AV} {A : R γ} {f : γ → List D} (hk : ∀ env, Rel sp env → aKs (k :: ks) env = (aKs ks env).bind fun rs => .ok (a :: rs)) (t : RwF sp ks (pre ++ [a]) A f sp') : RwF sp (k :: ks) pre A f sp' := fun env hr => by
  have := t env hr
  cases A with
  | ok c =>
    obtain ⟨avs, e, h1, h2, h3⟩ := this
    exact ⟨a :: avs, e, by rw [hk env hr, h1]; rfl, by rw [← h2, List.append_assoc]; rfl, h3⟩
  | ex x =>
    have : aKs ks env = .ex x := this
    show aKs (k :: ks) env = _
    rw [hk env hr, this]; rfl
  | er => trivial
theorem rw_p {m : ME} {ks : List AK} {pre : List AV} {r : Rs} {A : R γ} {f : γ → List D} (h : EP sp m r) (t : RwF sp ks (pre ++ [.r r]) A f sp') : RwF sp (.p m :: ks) pre A f sp' :=
  rw_av (fun env hr => by simp only [aKs, h env hr]; cases aKs ks env <;> rfl) t
theorem rw_f {m : ME} {ks : List AK} {pre : List AV} {B : R β} {fb : β → Rs} {A : β → R γ} {f : γ → List D} (h : EF sp m B fb) (t : ∀ x, RwF sp ks (pre ++ [.r (fb x)]) (A x) f sp') : RwF sp (.p m :: ks) pre (B.bind A) f sp' := fun env hr => by
  have hb := h env hr
  cases B with
  | ok x =>
    simp only [RzR] at hb
    have := t x env hr
    simp only [R.bind]
    cases hA : A x with
    | ok c =>
      rw [hA] at this
      obtain ⟨avs, e, h1, h2, h3⟩ := this
      exact ⟨.r (fb x) :: avs, e, by simp only [aKs, hb, h1], by rw [← h2, List.append_assoc]; rfl, h3⟩
    | ex y =>
      rw [hA] at this
      have h1 : aKs ks env = .ex y := this
      show aKs (.p m :: ks) env = _
      simp only [aKs, hb, h1]
    | er => trivial
  | ex x =>
    simp only [RzR] at hb
    show aKs (.p m :: ks) env = _
    simp only [aKs, hb]
  | er => trivial
theorem rw_mc {i : Nat} {s : Slot} {d : D} {ks : List AK} {pre : List AV} {A : R γ} {f : γ → List D} (h : sp[i]? = some (some s)) (hs : s = .own d ∨ s = .ro d) (c : copyD d = true) (t : RwF sp ks (pre ++ [.r (.own d)]) A f sp') : RwF sp (.mv i :: ks) pre A f sp' :=
  rw_av (fun env hr => by
    have := hr.at_ h
    rcases hs with rfl | rfl <;> simp only [aKs, smv, this, c, reduceIte] <;> cases aKs ks env <;> rfl) t
theorem rw_mo {i : Nat} {d : D} {ks : List AK} {pre : List AV} {A : R γ} {f : γ → List D} (h : sp[i]? = some (some (.own d))) (c : copyD d = false) (t : RwF sp ks (pre ++ [.mv i]) A f sp') : RwF sp (.mv i :: ks) pre A f sp' :=
  rw_av (fun env hr => by simp only [aKs, smv, hr.at_ h, c, Bool.false_eq_true, reduceIte]; cases aKs ks env <;> rfl) t
theorem ix_row {ks : List AK} {A : R γ} {f : γ → List D} (h : RwF sp ks [] A f sp') (env : En) (hr : Rel sp env) : match A with
    | .ok c => ∃ e, eRow ks env = .ok (f c) e ∧ Rel sp' e
    | .ex x => eRow ks env = .ex x env
    | .er => True := by
  have := h env hr
  cases A with
  | ok c =>
    obtain ⟨avs, e, h1, h2, h3⟩ := this
    exact ⟨e, by simp only [List.nil_append] at h2; simp only [eRow, h1, h2], h3⟩
  | ex x => have h1 : aKs ks env = .ex x := this; simp only [eRow, h1]
  | er => trivial
theorem xp_lst {ks : List AK} {c : γ} {f : γ → List D} (h : RwF sp ks [] (.ok c) f sp') (hl : (f c).length ≤ 1000000) : XP sp (eLst (eRow ks)) (.own (.lst (f c))) sp' := fun env hr => by
  obtain ⟨e, h1, h2⟩ := ix_row h env hr
  exact ⟨e, by simp only [eLst, h1, hl, reduceIte], h2⟩
theorem xp_tup {ks : List AK} {c : γ} {f : γ → List D} (h : RwF sp ks [] (.ok c) f sp') (hl : (f c).length ≤ 1000000) : XP sp (eTup (eRow ks)) (.own (.tup (f c))) sp' := fun env hr => by
  obtain ⟨e, h1, h2⟩ := ix_row h env hr
  exact ⟨e, by simp only [eTup, h1, hl, reduceIte], h2⟩
def PlP (sp : Sp) (ml : ML) (i : Nat) (p : List Nat) : Prop := ∀ env, Rel sp env → ml env = .ok i p
theorem pl_v {i : Nat} {d : D} (h : sp[i]? = some (some (.own d))) : PlP sp (lVar i) i [] := fun env hr => by simp [hr.at_ h]
theorem pl_f {t : List (Nat × Nat)} {ml : ML} {i : Nat} {p : List Nat} {d : D} {c k : Nat} {ds : List D} (hl : PlP sp ml i p) (h : sp[i]? = some (some (.own d))) (hg : getP p d = some (.obj c ds)) (ht : t.lookup c = some k) (hk : Nat.blt k ds.length = true) : PlP sp (lFd t ml) i (p ++ [k]) := fun env hr => by
  have hk : k < ds.length := by simpa using hk
  simp only [lFd, hl env hr, atP, hr.at_ h, hg, ht, hk, reduceIte]
def CS (sp : Sp) (cvs : List CV) (ss : List Slot) (sp' : Sp) : Prop := ∀ env, Rel sp env → ∃ e, cSl cvs env = some (ss, e) ∧ Rel sp' e
theorem cs_n : CS sp [] [] sp := fun env hr => ⟨env, rfl, hr⟩
theorem cs_r {r : Rs} {cvs : List CV} {ss : List Slot} (hb : ∀ env, Rel sp' env → okB r env = true) (t : CS sp cvs ss sp') : CS sp (.rd r :: cvs) (.ro r.d :: ss) sp' := fun env hr => by
  obtain ⟨e, h1, h2⟩ := t env hr
  exact ⟨e, by simp only [cSl, h1, hb e h2, reduceIte], h2⟩
theorem okb_o {d : D} (env : En) (h : Rel sp env) : okB (.own d) env = true := rfl
theorem okb_r {d : D} (env : En) (h : Rel sp env) : okB (.ro d) env = true := rfl
theorem cs_p {i : Nat} {p : List Nat} {d x : D} {cvs : List CV} {ss : List Slot} (h : sp[i]? = some (some (.own d))) (hg : getP p d = some x) (t : CS (sp.set i none) cvs ss sp') : CS sp (.pl i p :: cvs) (.own x :: ss) sp' := fun env hr => by
  obtain ⟨e, h1, h2⟩ := t (env.set i none) (hr.wipe i none)
  exact ⟨e, by simp only [cSl, hr.at_ h, hg, h1], h2⟩
def BK (sp : Sp) (cvs : List CV) (asp spx sp2 : Sp) : Prop := ∀ old as env, Rel sp old → Rel asp as → Rel spx env → ∃ e, cBk cvs old as env = some e ∧ Rel sp2 e
theorem bk_n {spx : Sp} : BK sp [] [] spx spx := fun old as env _ ha he => ⟨env, rfl, he⟩
theorem bk_p {i : Nat} {p : List Nat} {d x' : D} {cvs : List CV} {asp spx : Sp} (h : sp[i]? = some (some (.own d))) (t : BK sp cvs asp (spx.set i (some (.own (setP p d x')))) sp2) : BK sp (.pl i p :: cvs) (some (.own x') :: asp) spx sp2 := fun old as env ho ha he => by
  cases as with
  | nil => exact ha.elim
  | cons a as =>
    obtain ⟨rfl, ha⟩ := ha
    obtain ⟨e, h1, h2⟩ := t old as (env.set i (some (.own (setP p d x')))) ho ha (he.set i _)
    exact ⟨e, by simp only [cBk, ho.at_ h, h1], h2⟩
theorem bk_r {r : Rs} {a : Option Slot} {cvs : List CV} {asp spx : Sp} (t : BK sp cvs asp spx sp2) : BK sp (.rd r :: cvs) (a :: asp) spx sp2 := fun old as env ho ha he => by
  cases as with
  | nil => cases a <;> exact ha.elim
  | cons b as =>
    obtain ⟨e, h1, h2⟩ := t old as env ho (by cases a with | none => exact ha | some s => exact ha.2) he
    exact ⟨e, by simp only [cBk, h1], h2⟩
theorem xc_1 {mf : List Slot → FR} {cvs : List CV} {ss : List Slot} {A : RF ρ κ ζ} {e : ρ → D} {pk po : κ → Sp} {pe px : ζ → Sp} (hs : CS sp cvs ss sp1) (hf : FSim (mf ss) A e pk pe) (hb : ∀ k, BK sp cvs (pk k) sp1 (po k)) (hx : ∀ k, BK sp cvs (pe k) sp1 (px k)) (env : En) (hr : Rel sp env) : XR (eC1 mf cvs env) A (fun r => .own (e r)) po px := by
  obtain ⟨e1, h1, h2⟩ := hs env hr
  cases A with
  | ok r k =>
    obtain ⟨as, h3, h4⟩ := hf
    obtain ⟨e2, h5, h6⟩ := hb k env as e1 hr h4 h2
    exact ⟨e2, by simp only [eC1, h1, h3, h5], h6⟩
  | ex x k =>
    obtain ⟨as, h3, h4⟩ := hf
    obtain ⟨e2, h5, h6⟩ := hx k env as e1 hr h4 h2
    exact ⟨e2, by simp only [eC1, h1, h3, h5], h6⟩
  | er => trivial
/-- the arguments, one by one -/
def CaX (sp : Sp) (cs : List CA) (pre : List CV) (G : List CV → En → EO) (A : RF α κ ζ) (f : α → Rs) (po : κ → Sp) (px : ζ → Sp) : Prop := ∀ env, Rel sp env → XR (match aCA cs env with
  | .ok cvs => G (pre ++ cvs) env
  | .ex x => .ex x env
  | .er => .er) A f po px
theorem ca_n {pre : List CV} {G : List CV → En → EO} {A : RF α κ ζ} {f : α → Rs} {po : κ → Sp} {px : ζ → Sp} (h : ∀ env, Rel sp env → XR (G pre env) A f po px) : CaX sp [] pre G A f po px := fun env hr => by
  simp only [aCA, List.append_nil]; exact h env hr
theorem ca_cv {c : CA} {cs : List CA} {pre : List CV} {v : CV} {G : List CV → En → EO} {A : RF α κ ζ} {f : α → Rs} {po : κ → Sp} {px : ζ → Sp} (env : En) (hr : Rel sp env) (hc : aCA (c :: cs) env = (aCA cs env).bind fun l => .ok (v :: l)) (t : CaX sp cs (pre ++ [v]) G A f po px) : XR (match aCA (c :: cs) env with
  | .ok cvs => G (pre ++ cvs) env
  | .ex x => .ex x env
  | .er => .er) A f po px := by
  have := t env hr
  rw [hc]
  cases hz : aCA cs env with
  | ok l => rw [hz] at this; simp only [List.append_assoc, List.singleton_append] at this; exact this
  | ex x => rw [hz] at this; exact this
  | er => rw [hz] at this; exact this
theorem ca_r {m : ME} {cs : List CA} {pre : List CV} {r : Rs} {G : List CV → En → EO} {A : RF α κ ζ} {f : α → Rs} {po : κ → Sp} {px : ζ → Sp} (h : EP sp m r) (t : CaX sp cs (pre ++ [.rd r]) G A f po px) : CaX sp (.rd m :: cs) pre G A f po px :=
  fun env hr => ca_cv env hr (by simp only [aCA, h env hr]; cases aCA cs env <;> rfl) t
theorem ca_p {m : ML} {i : Nat} {p : List Nat} {cs : List CA} {pre : List CV} {G : List CV → En → EO} {A : RF α κ ζ} {f : α → Rs} {po : κ → Sp} {px : ζ → Sp} (h : PlP sp m i p) (t : CaX sp cs (pre ++ [.pl i p]) G A f po px) : CaX sp (.pl m :: cs) pre G A f po px :=
  fun env hr => ca_cv env hr (by simp only [aCA, h env hr]; cases aCA cs env <;> rfl) t
theorem ca_rf {m : ME} {cs : List CA} {pre : List CV} {B : R β} {fb : β → Rs} {G : List CV → En → EO} {A : β → RF α κ ζ} {f : α → Rs} {po : κ → Sp} {px : ζ → Sp} {k : ζ} (h : EF sp m B fb) (hx : Sub sp (px k)) (t : ∀ x, CaX sp cs (pre ++ [.rd (fb x)]) G (A x) f po px) : CaX sp (.rd m :: cs) pre G (B.bindF k A) f po px := fun env hr => by
  have hb := h env hr
  cases B with
  | ok x =>
    simp only [RzR] at hb
    exact ca_cv env hr (by simp only [aCA, hb]; cases aCA cs env <;> rfl) (t x)
  | ex x =>
    simp only [RzR] at hb
    refine ⟨env, ?_, hr.sub hx⟩
    simp only [aCA, hb]
  | er => trivial
theorem xf_call {mf : List Slot → FR} {cs : List CA} {A : RF α κ ζ} {f : α → Rs} {po : κ → Sp} {px : ζ → Sp} (h : CaX sp cs [] (eC1 mf) A f po px) : XF sp (eCall mf cs) A f po px := fun env hr => by
  have := h env hr
  unfold eCall
  cases hz : aCA cs env with
  | ok l => rw [hz] at this; exact this
  | ex x => rw [hz] at this; exact this
  | er => rw [hz] at this; exact this
/-- a method: the object comes first -/
theorem xf_meth {c : Nat} {mf : List Slot → FR} {ch : CA} {cs : List CA} {v : CV} {A : RF α κ ζ} {f : α → Rs} {po : κ → Sp} {px : ζ → Sp} (hv : ∀ env, Rel sp env → aCA [ch] env = .ok [v] ∧ hdIs c [v] env = true) (h : CaX sp (ch :: cs) [] (eC1 mf) A f po px) : XF sp (eMeth c mf ch cs) A f po px := fun env hr => by
  have := h env hr
  obtain ⟨h1, h2⟩ := hv env hr
  unfold eMeth
  simp only [h1, h2, reduceIte]
  cases hz : aCA (ch :: cs) env with
  | ok l => rw [hz] at this; exact this
  | ex x => rw [hz] at this; exact this
  | er => rw [hz] at this; exact this
theorem hv_p {ml : ML} {i : Nat} {p : List Nat} {d : D} {c : Nat} {ds : List D} (hl : PlP sp ml i p) (h : sp[i]? = some (some (.own d))) (hg : getP p d = some (.obj c ds)) (env : En) (hr : Rel sp env) : aCA [.pl ml] env = .ok [.pl i p] ∧ hdIs c [.pl i p] env = true :=
  ⟨by simp [aCA, hl env hr], by simp [hdIs, atP, hr.at_ h, hg]⟩
end
end Ty
namespace Ty
open PySem L2 Tr
structure Xt (ρ κ l ξ : Type) where
  er : ρ → D
  k : κ → Sp
  l : l → Sp
  x : ξ → Sp
def Xt.lp {ρ κ l ξ σ : Type} (X : Xt ρ κ l ξ) (J : σ → Sp) : Xt ρ κ σ ξ := ⟨X.er, X.k, J, X.x⟩
section
variable {sp sp' sp1 sp2 xsp : Sp} {env : En} {α β γ κ κ' σ σ' ρ l l' ξ ξ' ζ ζ' : Type} {X : Xt ρ κ l ξ}
def SimR (X : Xt ρ κ l ξ) (z : SS) (M : SR σ ρ κ l ξ) (post : σ → Sp) : Prop := match M with
  | .nx s => ∃ e, z = .nx e ∧ Rel (post s) e
  | .rt r k => ∃ e, z = .rt (X.er r) e ∧ Rel (X.k k) e
  | .bk b => ∃ e, z = .bk e ∧ Rel (X.l b) e
  | .ct b => ∃ e, z = .ct e ∧ Rel (X.l b) e
  | .ex x k => ∃ e, z = .ex x e ∧ Rel (X.x k) e
  | .er => True
def SimS (X : Xt ρ κ l ξ) (sp : Sp) (m : MS) (M : SR σ ρ κ l ξ) (post : σ → Sp) : Prop := ∀ env, Rel sp env → SimR X (m env) M post
theorem ts_assoc {a b c : MS} {M : SR σ ρ κ l ξ} {post : σ → Sp} (h : SimS X sp (sSeq a (sSeq b c)) M post) : SimS X sp (sSeq (sSeq a b) c) M post := fun env hr => by
  have e : sSeq (sSeq a b) c env = sSeq a (sSeq b c) env := by
    simp only [sSeq]; cases a env <;> rfl
  rw [e]; exact h env hr
theorem ts_pad {m : MS} {M : SR σ ρ κ l ξ} {post : σ → Sp} (h : SimS X sp (sSeq m sSkip) M post) : SimS X sp m M post := fun env hr => by
  have e : sSeq m sSkip env = m env := by simp only [sSeq]; cases m env <;> rfl
  have := h env hr
  rw [e] at this; exact this
theorem ts_skip {n : MS} {M : SR σ ρ κ l ξ} {post : σ → Sp} (h : SimS X sp n M post) : SimS X sp (sSeq sSkip n) M post := fun env hr => h env hr
theorem ts_end {s : σ} {post : σ → Sp} (h : Sub sp (post s)) : SimS X sp sSkip (.nx s) post := fun env hr => ⟨env, rfl, hr.sub h⟩
theorem ts_sub {m : MS} {M : SR σ ρ κ l ξ} {post : σ → Sp} (h : SimS X sp' m M post) (s : Sub sp sp') : SimS X sp m M post := fun env hr => h env (hr.sub s)
theorem ts_seq {a b : MS} {A : SR σ ρ κ l ξ} {F : σ → SR σ' ρ κ l ξ} {J : σ → Sp} {post : σ' → Sp} (h : SimS X sp a A J) (t : ∀ s, SimS X (J s) b (F s) post) : SimS X sp (sSeq a b) (A.bind F) post := fun env hr => by
  have := h env hr
  cases A with
  | nx s => obtain ⟨e, h1, h2⟩ := this; have := t s e h2; simp only [sSeq, h1, SR.bind]; exact this
  | rt r k => obtain ⟨e, h1, h2⟩ := this; exact ⟨e, by simp only [sSeq, h1], h2⟩
  | bk r => obtain ⟨e, h1, h2⟩ := this; exact ⟨e, by simp only [sSeq, h1], h2⟩
  | ct r => obtain ⟨e, h1, h2⟩ := this; exact ⟨e, by simp only [sSeq, h1], h2⟩
  | ex r k => obtain ⟨e, h1, h2⟩ := this; exact ⟨e, by simp only [sSeq, h1], h2⟩
  | er => trivial
def DP (sp : Sp) (m : MS) (sp' : Sp) : Prop := ∀ env, Rel sp env → ∃ e, m env = .nx e ∧ Rel sp' e
def DF (xsp sp : Sp) (m : MS) (A : R α) (po : α → Sp) : Prop := ∀ env, Rel sp env → match A with
  | .ok a => ∃ e, m env = .nx e ∧ Rel (po a) e
  | .ex x => ∃ e, m env = .ex x e ∧ Rel xsp e
  | .er => True
def DX (sp : Sp) (m : MS) (A : RF α κ ζ) (po : α → κ → Sp) (px : ζ → Sp) : Prop := ∀ env, Rel sp env → match A with
  | .ok a k => ∃ e, m env = .nx e ∧ Rel (po a k) e
  | .ex x k => ∃ e, m env = .ex x e ∧ Rel (px k) e
  | .er => True
theorem ts_dp {m n : MS} {M : SR σ ρ κ l ξ} {post : σ → Sp} (h : DP sp m sp') (t : SimS X sp' n M post) : SimS X sp (sSeq m n) M post := fun env hr => by
  obtain ⟨e, h1, h2⟩ := h env hr
  simp only [sSeq, h1]; exact t e h2
theorem ts_lt {m n : MS} {v : α} {F : α → SR σ ρ κ l ξ} {po : α → Sp} {post : σ → Sp} (h : DP sp m (po v)) (t : ∀ x, SimS X (po x) n (F x) post) : SimS X sp (sSeq m n) (lt v F) post := ts_dp h (t v)
theorem ts_df {m n : MS} {A : R α} {k : ξ} {F : α → SR σ ρ κ l ξ} {po : α → Sp} {post : σ → Sp} (h : DF (X.x k) sp m A po) (t : ∀ a, SimS X (po a) n (F a) post) : SimS X sp (sSeq m n) (A.bindE k F) post := fun env hr => by
  have := h env hr
  cases A with
  | ok a => obtain ⟨e, h1, h2⟩ := this; have := t a e h2; simp only [sSeq, h1, R.bindE]; exact this
  | ex x => obtain ⟨e, h1, h2⟩ := this; exact ⟨e, by simp only [sSeq, h1], h2⟩
  | er => trivial
theorem ts_dx {m n : MS} {A : RF α κ' ζ} {kx : ζ → ξ} {F : α → κ' → SR σ ρ κ l ξ} {po : α → κ' → Sp} {px : ζ → Sp} {post : σ → Sp} (h : DX sp m A po px) (hx : ∀ k, Sub (px k) (X.x (kx k))) (t : ∀ a k, SimS X (po a k) n (F a k) post) : SimS X sp (sSeq m n) (A.bindF kx F) post := fun env hr => by
  have := h env hr
  cases A with
  | ok a k => obtain ⟨e, h1, h2⟩ := this; have := t a k e h2; simp only [sSeq, h1, RF.bindF]; exact this
  | ex x k => obtain ⟨e, h1, h2⟩ := this; exact ⟨e, by simp only [sSeq, h1], h2.sub (hx k)⟩
  | er => trivial
theorem dp_set {i : Nat} {m : EE} {d : D} (h : XP sp m (.own d) sp1) : DP sp (sSet i m) (sp1.set i (some (.own d))) := fun env hr => by
  obtain ⟨e, h1, h2⟩ := h env hr
  exact ⟨_, by simp only [sSet, h1, setS], h2.set i _⟩
theorem dp_sto {op : D → List D → Option (D × D)} {me : EE} {ml : ML} {i : Nat} {p : List Nat} {dv d x x' r : D} (h : XP sp me (.own dv) sp1) (hl : PlP sp1 ml i p) (h1 : sp1[i]? = some (some (.own d))) (hg : getP p d = some x) (ho : op x [dv] = some (x', r)) : DP sp (sSto op me ml) (sp1.set i (some (.own (setP p d x')))) := fun env hr => by
  obtain ⟨e, h2, h3⟩ := h env hr
  exact ⟨_, by simp only [sSto, h2, hl e h3, h3.at_ h1, hg, ho], h3.set i _⟩
theorem df_set {i : Nat} {m : ME} {A : R α} {f : α → D} (h : EF sp m A (fun a => .own (f a))) (hx : Sub sp xsp) : DF xsp sp (sSet i (liftE m)) A (fun a => sp.set i (some (.own (f a)))) := fun env hr => by
  have := h env hr
  cases A with
  | ok a => simp only [RzR] at this; exact ⟨_, by simp only [sSet, liftE, this, setS], hr.set i _⟩
  | ex x => simp only [RzR] at this; exact ⟨env, by simp only [sSet, liftE, this], hr.sub hx⟩
  | er => trivial
theorem df_ex {m : ME} {A : R α} {f : α → Rs} (h : EF sp m A f) (hx : Sub sp xsp) : DF xsp sp (sEx (liftE m)) A (fun _ => sp) := fun env hr => by
  have := h env hr
  cases A with
  | ok a => simp only [RzR] at this; exact ⟨_, by simp only [sEx, liftE, this], hr⟩
  | ex x => simp only [RzR] at this; exact ⟨env, by simp only [sEx, liftE, this], hr.sub hx⟩
  | er => trivial
theorem df_sto {op : D → List D → Option (D × D)} {m : ME} {ml : ML} {i : Nat} {p : List Nat} {d x : D} {A : R α} {f : α → D} {x' r : α → D} (h : EF sp m A (fun a => .own (f a))) (hx : Sub sp xsp) (hl : PlP sp ml i p) (h1 : sp[i]? = some (some (.own d))) (hg : getP p d = some x) (ho : ∀ a, op x [f a] = some (x' a, r a)) : DF xsp sp (sSto op (liftE m) ml) A (fun a => sp.set i (some (.own (setP p d (x' a))))) := fun env hr => by
  have := h env hr
  cases A with
  | ok a => simp only [RzR] at this; exact ⟨_, by simp only [sSto, liftE, this, hl env hr, hr.at_ h1, hg, ho], hr.set i _⟩
  | ex x => simp only [RzR] at this; exact ⟨env, by simp only [sSto, liftE, this], hr.sub hx⟩
  | er => trivial
theorem dx_set {i : Nat} {m : EE} {A : RF α κ' ζ} {f : α → D} {po : κ' → Sp} {px : ζ → Sp} (h : XF sp m A (fun a => .own (f a)) po px) : DX sp (sSet i m) A (fun a k => (po k).set i (some (.own (f a)))) px := fun env hr => by
  have := h env hr
  cases A with
  | ok a k => obtain ⟨e, h1, h2⟩ := this; exact ⟨_, by simp only [sSet, h1, setS], h2.set i _⟩
  | ex x k => obtain ⟨e, h1, h2⟩ := this; exact ⟨e, by simp only [sSet, h1], h2⟩
  | er => trivial
theorem dx_ex {m : EE} {A : RF α κ' ζ} {f : α → Rs} {po : κ' → Sp} {px : ζ → Sp} (h : XF sp m A f po px) : DX sp (sEx m) A (fun _ k => po k) px := fun env hr => by
  have := h env hr
  cases A with
  | ok a k => obtain ⟨e, h1, h2⟩ := this; exact ⟨_, by simp only [sEx, h1], h2⟩
  | ex x k => obtain ⟨e, h1, h2⟩ := this; exact ⟨e, by simp only [sEx, h1], h2⟩
  | er => trivial
/-- a mutation whose answer is dropped: arguments A, then G tells the root's new value -/
theorem df_mut {ky : D → Bool} {op : D → List D → Option (D × D)} {ml : ML} {ks : List AK} {i : Nat} {p : List Nat} {d x0 : D} {A : R γ} {fd : γ → List D} {G : γ → R β} {f : β → D}
    (hl : PlP sp ml i p) (h : sp[i]? = some (some (.own d))) (hg : getP p d = some x0) (hk : ky x0 = true) (hr : RwF sp ks [] A fd sp1) (h1 : sp1[i]? = some (some (.own d)))
    (hG : ∀ c, match G c with
      | .ok b => ∃ x' r, op x0 (fd c) = some (x', r) ∧ setP p d x' = f b
      | .ex _ => False
      | .er => True) (hx : Sub sp xsp) : DF xsp sp (sEx (eMut ky op ml ks)) (A.bind G) (fun b => sp1.set i (some (.own (f b)))) := fun env hrel => by
  have hrow := ix_row hr env hrel
  cases A with
  | ok c =>
    obtain ⟨e, h2, h3⟩ := hrow
    have g := hG c
    simp only [R.bind]
    cases hc : G c with
    | ok b =>
      rw [hc] at g
      obtain ⟨x', r, g1, g2⟩ := g
      refine ⟨e.set i (some (.own (setP p d x'))), ?_, by rw [g2]; exact h3.set i _⟩
      simp only [sEx, eMut, hl env hrel, atP, hrel.at_ h, hg, hk, reduceIte, h2, h3.at_ h1, g1]
    | ex x => rw [hc] at g; exact g.elim
    | er => trivial
  | ex x =>
    refine ⟨env, ?_, hrel.sub hx⟩
    simp only [sEx, eMut, hl env hrel, atP, hrel.at_ h, hg, hk, reduceIte, hrow]
  | er => trivial
/-- the same, the arguments are there -/
theorem df_mutp {ky : D → Bool} {op : D → List D → Option (D × D)} {ml : ML} {ks : List AK} {i : Nat} {p : List Nat} {d x0 : D} {c : γ} {fd : γ → List D} {G : R β} {f : β → D}
    (hl : PlP sp ml i p) (h : sp[i]? = some (some (.own d))) (hg : getP p d = some x0) (hk : ky x0 = true) (hr : RwF sp ks [] (.ok c) fd sp1) (h1 : sp1[i]? = some (some (.own d)))
    (hG : match G with
      | .ok b => ∃ x' r, op x0 (fd c) = some (x', r) ∧ setP p d x' = f b
      | .ex _ => False
      | .er => True) (hx : Sub sp xsp) : DF xsp sp (sEx (eMut ky op ml ks)) G (fun b => sp1.set i (some (.own (f b)))) := fun env hrel => by
  obtain ⟨e, h2, h3⟩ := ix_row hr env hrel
  cases G with
  | ok b =>
    obtain ⟨x', r, g1, g2⟩ := hG
    refine ⟨e.set i (some (.own (setP p d x'))), ?_, by rw [g2]; exact h3.set i _⟩
    simp only [sEx, eMut, hl env hrel, atP, hrel.at_ h, hg, hk, reduceIte, h2, h3.at_ h1, g1]
  | ex x => exact hG.elim
  | er => trivial
/-- an item or an entry is set -/
theorem df_sub {op : D → List D → Option (D × D)} {me : EE} {ml : ML} {mi : ME} {i : Nat} {p : List Nat} {dv d x : D} {kk : V} {r : Rs} {G : R β} {f : β → D} (hv : XP sp me (.own dv) sp1) (hl : PlP sp1 ml i p) (hk : EP sp1 mi r) (hkd : r.d = .im kk) (h1 : sp1[i]? = some (some (.own d))) (hg : getP p d = some x)
    (hG : match G with
      | .ok b => ∃ x' r, op x [.im kk, dv] = some (x', r) ∧ setP p d x' = f b
      | .ex _ => False
      | .er => True) : DF xsp sp (sSub op me ml mi) G (fun b => sp1.set i (some (.own (f b)))) := fun env hr => by
  obtain ⟨e, h2, h3⟩ := hv env hr
  cases G with
  | ok b =>
    obtain ⟨x', r, g1, g2⟩ := hG
    refine ⟨e.set i (some (.own (setP p d x'))), ?_, by rw [g2]; exact h3.set i _⟩
    simp only [sSub, h2, hl e h3, hk e h3, hkd, h3.at_ h1, hg, g1]
  | ex x => exact hG.elim
  | er => trivial
theorem df_subf {op : D → List D → Option (D × D)} {m : ME} {ml : ML} {mi : ME} {i : Nat} {p : List Nat} {d x : D} {B : R β} {fb : β → D} {C : R γ} {fc : γ → V} {G : β → γ → R α} {f : α → D} (hv : EF sp m B (fun b => .own (fb b))) (hl : PlP sp ml i p) (hk : EF sp mi C (fun c => .own (.im (fc c)))) (hx : Sub sp xsp) (h1 : sp[i]? = some (some (.own d))) (hg : getP p d = some x)
    (hG : ∀ b c, match G b c with
      | .ok a => ∃ x' r, op x [.im (fc c), fb b] = some (x', r) ∧ setP p d x' = f a
      | .ex _ => False
      | .er => True) : DF xsp sp (sSub op (liftE m) ml mi) (B.bind fun b => C.bind fun c => G b c) (fun b => sp.set i (some (.own (f b)))) := fun env hr => by
  have hb := hv env hr
  have hc := hk env hr
  cases B with
  | ok b =>
    simp only [RzR] at hb
    cases C with
    | ok c =>
      simp only [RzR] at hc
      have g := hG b c
      simp only [R.bind]
      cases hgg : G b c with
      | ok a =>
        rw [hgg] at g
        obtain ⟨x', r, g1, g2⟩ := g
        refine ⟨env.set i (some (.own (setP p d x'))), ?_, by rw [g2]; exact hr.set i _⟩
        simp only [sSub, liftE, hb, hl env hr, hc, Rs.d, hr.at_ h1, hg, g1]
      | ex x => rw [hgg] at g; exact g.elim
      | er => trivial
    | ex x => simp only [RzR] at hc; exact ⟨env, by simp only [sSub, liftE, hb, hl env hr, hc], hr.sub hx⟩
    | er => trivial
  | ex x => simp only [RzR] at hb; exact ⟨env, by simp only [sSub, liftE, hb], hr.sub hx⟩
  | er => trivial
def TgOk (f : TgF) (d : D) (sp sp' : Sp) : Prop := ∀ env, Rel sp env → ∃ e, f d env = some e ∧ Rel sp' e
def TgsOk (f : TgsF) (ds : List D) (sp sp' : Sp) : Prop := ∀ env, Rel sp env → ∃ e, f ds env = some e ∧ Rel sp' e
theorem tg_c {j : Nat} {d : D} (c : copyD d = true) : TgOk (tgN j) d sp (sp.set j (some (.own d))) := fun env hr => ⟨_, by simp [c], hr.set j _⟩
theorem tg_r {j : Nat} {d : D} (c : copyD d = false) : TgOk (tgN j) d sp (sp.set j (some (.ro d))) := fun env hr => ⟨_, by simp [c], hr.set j _⟩
theorem tgs_n : TgsOk tsNil [] sp sp := fun env hr => ⟨env, rfl, hr⟩
theorem tgs_c {f : TgF} {fs : TgsF} {d : D} {ds : List D} (h : TgOk f d sp sp1) (t : TgsOk fs ds sp1 sp') : TgsOk (tsCons f fs) (d :: ds) sp sp' := fun env hr => by
  obtain ⟨e, h1, h2⟩ := h env hr
  obtain ⟨e2, h3, h4⟩ := t e h2
  exact ⟨e2, by simp only [tsCons, h1, h3], h4⟩
theorem tg_t {fs : TgsF} {xs : List D} (t : TgsOk fs xs sp sp') : TgOk (tgT fs) (.tup xs) sp sp' := fun env hr => by
  obtain ⟨e, h1, h2⟩ := t env hr
  exact ⟨e, by simp only [tgT, h1], h2⟩
theorem ts_retp {m : EE} {n : MS} {v : ρ} {k : κ} {post : σ → Sp} (h : XP sp m (.own (X.er v)) sp1) (hk : Sub sp1 (X.k k)) : SimS X sp (sSeq (sRet m) n) (.rt v k) post := fun env hr => by
  obtain ⟨e, h1, h2⟩ := h env hr
  exact ⟨e, by simp only [sSeq, sRet, h1], h2.sub hk⟩
theorem ts_retf {m : ME} {n : MS} {A : R α} {f : α → Rs} {g : α → ρ} {k : κ} {kx : ξ} {post : σ → Sp} (h : EF sp m A f) (hf : ∀ a, f a = .own (X.er (g a))) (hk : Sub sp (X.k k)) (hx : Sub sp (X.x kx)) : SimS X sp (sSeq (sRet (liftE m)) n) (A.bindE kx fun a => .rt (g a) k) post := fun env hr => by
  have := h env hr
  cases A with
  | ok a => simp only [RzR] at this; exact ⟨env, by simp only [sSeq, sRet, liftE, this, hf], hr.sub hk⟩
  | ex x => simp only [RzR] at this; exact ⟨env, by simp only [sSeq, sRet, liftE, this], hr.sub hx⟩
  | er => trivial
theorem ts_retn {n : MS} {v : ρ} {k : κ} {post : σ → Sp} (hv : X.er v = .im .non) (hk : Sub sp (X.k k)) : SimS X sp (sSeq sRetN n) (.rt v k) post := fun env hr => ⟨env, by simp only [sSeq, sRetN, hv], hr.sub hk⟩
theorem ts_raise {c : Nat} {n : MS} {k : ξ} {post : σ → Sp} (h : Sub sp (X.x k)) : SimS X sp (sSeq (sRaise c) n) (.ex ⟨c, []⟩ k) post := fun env hr => ⟨env, rfl, hr.sub h⟩
theorem ts_raisex {c : Nat} {ms : List ME} {n : MS} {k : ξ} {rs : List Rs} {vs : List V} {post : σ → Sp} (hm : ∀ env, Rel sp env → mAs ms env = .ok rs) (hv : allIm (rs.map Rs.d) = some vs) (h : Sub sp (X.x k)) : SimS X sp (sSeq (sRaiseX c ms) n) (.ex ⟨c, vs.reverse⟩ k) post := fun env hr => ⟨env, by simp only [sSeq, sRaiseX, hm env hr, hv], hr.sub h⟩
theorem mas_n (env : En) (hr : Rel sp env) : mAs [] env = .ok [] := rfl
theorem mas_c {m : ME} {ms : List ME} {r : Rs} {rs : List Rs} (h : EP sp m r) (t : ∀ env, Rel sp env → mAs ms env = .ok rs) (env : En) (hr : Rel sp env) : mAs (m :: ms) env = .ok (r :: rs) := by
  simp only [mAs, h env hr, t env hr]
def TP (sp : Sp) (c : MT) (b : Bool) : Prop := ∀ env, Rel sp env → ∃ e, c env = .ok b e ∧ Rel sp e
def TF (sp : Sp) (c : MT) (A : R Bool) : Prop := ∀ env, Rel sp env → match A with
  | .ok b => ∃ e, c env = .ok b e ∧ Rel sp e
  | .ex x => ∃ e, c env = .ex x e ∧ Rel sp e
  | .er => True
theorem tp_b {m : EE} {b : Bool} (h : XP sp m (.own (.im (.bl b))) sp) : TP sp (tBl m) b := fun env hr => by
  obtain ⟨e, h1, h2⟩ := h env hr
  exact ⟨e, by simp only [tBl, h1], h2⟩
theorem tp_no {c : MT} {b : Bool} (h : TP sp c b) : TP sp (tNo c) (!b) := fun env hr => by
  obtain ⟨e, h1, h2⟩ := h env hr
  exact ⟨e, by simp only [tNo, h1], h2⟩
theorem tp_an {c d : MT} {a b : Bool} (h : TP sp c a) (h' : TP sp d b) : TP sp (tAn c d) (a && b) := fun env hr => by
  obtain ⟨e, h1, h2⟩ := h env hr
  cases a with
  | true => obtain ⟨e', h3, h4⟩ := h' e h2; exact ⟨e', by simp only [tAn, h1, h3, Bool.true_and], h4⟩
  | false => exact ⟨e, by simp only [tAn, h1, Bool.false_and], h2⟩
theorem tp_or {c d : MT} {a b : Bool} (h : TP sp c a) (h' : TP sp d b) : TP sp (tO c d) (a || b) := fun env hr => by
  obtain ⟨e, h1, h2⟩ := h env hr
  cases a with
  | false => obtain ⟨e', h3, h4⟩ := h' e h2; exact ⟨e', by simp only [tO, h1, h3, Bool.false_or], h4⟩
  | true => exact ⟨e, by simp only [tO, h1, Bool.true_or], h2⟩
theorem tp_orf {c d : MT} {b : Bool} (h : TP sp c false) (h' : TP sp d b) : TP sp (tO c d) b := fun env hr => by
  have := tp_or h h' env hr
  rwa [Bool.false_or] at this
theorem tf_p {c : MT} {b : Bool} (h : TP sp c b) : TF sp c (.ok b) := h
theorem tf_b {m : ME} {A : R Bool} (h : EF sp m A (fun b => .own (eB b))) : TF sp (tBl (liftE m)) A := fun env hr => by
  have := h env hr
  cases A with
  | ok a => simp only [RzR] at this; exact ⟨env, by simp only [tBl, liftE, this], hr⟩
  | ex x => simp only [RzR] at this; exact ⟨env, by simp only [tBl, liftE, this], hr⟩
  | er => trivial
def R.notF (A : R Bool) : R Bool := A.bind fun b => .ok (!b)
theorem tf_no {c : MT} {A : R Bool} (h : TF sp c A) : TF sp (tNo c) A.notF := fun env hr => by
  have := h env hr
  cases A with
  | ok a => obtain ⟨e, h1, h2⟩ := this; exact ⟨e, by simp only [tNo, h1], h2⟩
  | ex x => obtain ⟨e, h1, h2⟩ := this; exact ⟨e, by simp only [tNo, h1], h2⟩
  | er => trivial
theorem tf_an {c d : MT} {A B : R Bool} (h : TF sp c A) (h' : TF sp d B) : TF sp (tAn c d) (A.andF B) := fun env hr => by
  have := h env hr
  cases A with
  | ok a =>
    obtain ⟨e, h1, h2⟩ := this
    cases a with
    | false => exact ⟨e, by simp only [tAn, h1], h2⟩
    | true =>
      have q : tAn c d env = d e := by simp only [tAn, h1]
      have this := h' e h2
      rw [← q] at this
      cases B <;> exact this
  | ex x => obtain ⟨e, h1, h2⟩ := this; exact ⟨e, by simp only [tAn, h1], h2⟩
  | er => trivial
theorem tf_or {c d : MT} {A B : R Bool} (h : TF sp c A) (h' : TF sp d B) : TF sp (tO c d) (A.orF B) := fun env hr => by
  have := h env hr
  cases A with
  | ok a =>
    obtain ⟨e, h1, h2⟩ := this
    cases a with
    | true => exact ⟨e, by simp only [tO, h1], h2⟩
    | false =>
      have q : tO c d env = d e := by simp only [tO, h1]
      have this := h' e h2
      rw [← q] at this
      cases B <;> exact this
  | ex x => obtain ⟨e, h1, h2⟩ := this; exact ⟨e, by simp only [tO, h1], h2⟩
  | er => trivial
def RF.notF (A : RF Bool κ ζ) : RF Bool κ ζ := match A with
  | .ok b k => .ok (!b) k
  | .ex x k => .ex x k
  | .er => .er
theorem s_if {c : MT} {m n : MS} {b : Bool} {A B : SR σ ρ κ l ξ} {post : σ → Sp} (h : TP sp c b) (hm : SimS X sp m A post) (hn : SimS X sp n B post) : SimS X sp (sIf c m n) (if b = true then A else B) post := fun env hr => by
  obtain ⟨e, h1, h2⟩ := h env hr
  cases b with
  | true => have := hm e h2; simp only [sIf, h1, reduceIte]; exact this
  | false => have := hn e h2; simp only [sIf, h1, Bool.false_eq_true, reduceIte]; exact this
theorem s_iff {c : MT} {m n : MS} {C : R Bool} {k : ξ} {A B : SR σ ρ κ l ξ} {post : σ → Sp} (h : TF sp c C) (hx : Sub sp (X.x k)) (hm : SimS X sp m A post) (hn : SimS X sp n B post) : SimS X sp (sIf c m n) (C.bindE k fun b => if b = true then A else B) post := fun env hr => by
  have := h env hr
  cases C with
  | ok b =>
    obtain ⟨e, h1, h2⟩ := this
    cases b with
    | true => have := hm e h2; simp only [sIf, h1, R.bindE, reduceIte]; exact this
    | false => have := hn e h2; simp only [sIf, h1, R.bindE, Bool.false_eq_true, reduceIte]; exact this
  | ex x => obtain ⟨e, h1, h2⟩ := this; exact ⟨e, by simp only [sIf, h1], h2.sub hx⟩
  | er => trivial
theorem ts_dist {c : MT} {m n r : MS} {M : SR σ ρ κ l ξ} {post : σ → Sp} (h : SimS X sp (sIf c (sSeq m r) (sSeq n r)) M post) : SimS X sp (sSeq (sIf c m n) r) M post := fun env hr => by
  have e : sSeq (sIf c m n) r env = sIf c (sSeq m r) (sSeq n r) env := by
    simp only [sSeq, sIf]; cases c env with
    | ok b e => cases b <;> rfl
    | _ => rfl
  rw [e]; exact h env hr
theorem lp {f : TgF} {b : MS} {B : α → σ → SR σ ρ κ σ ξ} {e : α → D} {J : σ → Sp} {sp1 : α → σ → Sp} (ht : ∀ a s, TgOk f (e a) (J s) (sp1 a s)) (hb : ∀ a s, SimS (X.lp J) (sp1 a s) b (B a s) J) : ∀ (xs : List α) (s : σ), SimS X (J s) (loopF f b (xs.map e)) (forR B xs s) J
  | [], s => fun env hr => ⟨env, rfl, hr⟩
  | a :: xs, s => fun env hr => by
    obtain ⟨e1, h1, h2⟩ := ht a s env hr
    have hb' := hb a s e1 h2
    have hL : loopF f b ((a :: xs).map e) env = (match b e1 with
      | .nx env => loopF f b (xs.map e) env
      | .ct env => loopF f b (xs.map e) env
      | .bk env => .nx env
      | z => z) := by simp only [List.map_cons, loopF, h1] <;> rfl
    rw [hL]
    cases hB : B a s with
    | nx s' => rw [hB] at hb'; obtain ⟨e2, h3, h4⟩ := hb'; have := lp ht hb xs s' e2 h4; simp only [forR, hB, h3]; exact this
    | ct s' => rw [hB] at hb'; obtain ⟨e2, h3, h4⟩ := hb'; have := lp ht hb xs s' e2 h4; simp only [forR, hB, h3]; exact this
    | bk s' => rw [hB] at hb'; obtain ⟨e2, h3, h4⟩ := hb'; simp only [forR, hB, h3]; exact ⟨e2, rfl, h4⟩
    | rt r k => rw [hB] at hb'; obtain ⟨e2, h3, h4⟩ := hb'; simp only [forR, hB, h3]; exact ⟨e2, rfl, h4⟩
    | ex x k => rw [hB] at hb'; obtain ⟨e2, h3, h4⟩ := hb'; simp only [forR, hB, h3]; exact ⟨e2, rfl, h4⟩
    | er => simp only [forR, hB]; trivial
theorem wlp {c : MT} {b : MS} {C : σ → R Bool} {kx : σ → ξ} {B : σ → SR σ ρ κ σ ξ} {J : σ → Sp} (hc : ∀ s, TF (J s) c (C s)) (hx : ∀ s, Sub (J s) (X.x (kx s))) (hb : ∀ s, SimS (X.lp J) (J s) b (B s) J) : ∀ (n : Nat) (s : σ), SimS X (J s) (wh c b n) (whR C kx B n s) J
  | 0, s => fun env hr => trivial
  | n + 1, s => fun env hr => by
    have h1 := hc s env hr
    cases hC : C s with
    | ok q =>
      rw [hC] at h1
      obtain ⟨e, h2, h3⟩ := h1
      cases q with
      | false => simp only [whR, hC, wh, h2]; exact ⟨e, rfl, h3⟩
      | true =>
        have hb' := hb s e h3
        cases hB : B s with
        | nx s' => rw [hB] at hb'; obtain ⟨e2, h4, h5⟩ := hb'; have := wlp hc hx hb n s' e2 h5; simp only [whR, hC, hB, wh, h2, h4]; exact this
        | ct s' => rw [hB] at hb'; obtain ⟨e2, h4, h5⟩ := hb'; have := wlp hc hx hb n s' e2 h5; simp only [whR, hC, hB, wh, h2, h4]; exact this
        | bk s' => rw [hB] at hb'; obtain ⟨e2, h4, h5⟩ := hb'; simp only [whR, hC, hB, wh, h2, h4]; exact ⟨e2, rfl, h5⟩
        | rt r k => rw [hB] at hb'; obtain ⟨e2, h4, h5⟩ := hb'; simp only [whR, hC, hB, wh, h2, h4]; exact ⟨e2, rfl, h5⟩
        | ex x k => rw [hB] at hb'; obtain ⟨e2, h4, h5⟩ := hb'; simp only [whR, hC, hB, wh, h2, h4]; exact ⟨e2, rfl, h5⟩
        | er => simp only [whR, hC, hB]; trivial
    | ex x => rw [hC] at h1; obtain ⟨e, h2, h3⟩ := h1; simp only [whR, hC, wh, h2]; exact ⟨e, rfl, h3.sub (hx s)⟩
    | er => simp only [whR, hC]; trivial
theorem s_while {c : MT} {b : MS} {C : σ → R Bool} {kx : σ → ξ} {B : σ → SR σ ρ κ σ ξ} {J : σ → Sp} {s : σ} (hs : Sub sp (J s)) (hc : ∀ s, TF (J s) c (C s)) (hx : ∀ s, Sub (J s) (X.x (kx s))) (hb : ∀ s, SimS (X.lp J) (J s) b (B s) J) : SimS X sp (sWhile c b) (whR C kx B FUEL s) J :=
  ts_sub (wlp hc hx hb FUEL s) hs
def IP (sp : Sp) (mi : MI) (items : List D) (fz : List Nat) : Prop := ∀ env, Rel sp env → mi env = .ok items fz
def IF (sp : Sp) (mi : MI) (A : R α) (it : α → List D) (fz : List Nat) : Prop := ∀ env, Rel sp env → match A with
  | .ok a => mi env = .ok (it a) fz
  | .ex x => mi env = .ex x
  | .er => True
def anyI (r : Rs) : IR := match r.d with
  | .im (.str z) => .ok (stD z) []
  | _ => match itemsOf r.d with
    | some items => .ok items (rootOf r)
    | none => .er
theorem ip_any {m : ME} {r : Rs} {items : List D} {fz : List Nat} (h : EP sp m r) (hi : anyI r = .ok items fz) : IP sp (iAny m) items fz := fun env hr => by
  rw [← hi]
  simp only [iAny, iLs, h env hr, anyI] <;> (cases r.d <;> rfl)
theorem ip_en {m : ME} {r : Rs} {items : List D} (h : EP sp m r) (hi : itemsOf r.d = some items) : IP sp (iEn m) (enD items) (rootOf r) := fun env hr => by
  simp only [iEn, h env hr, hi]
theorem ip_zp {m n : ME} {r s : Rs} {xs ys : List D} (h : EP sp m r) (h' : EP sp n s) (ho : noOwn r = true) (ho' : noOwn s = true) (hi : itemsOf r.d = some xs) (hj : itemsOf s.d = some ys) : IP sp (iZp m n) (zpD xs ys) (rootOf r ++ rootOf s) := fun env hr => by
  simp only [iZp, h env hr, h' env hr, ho, ho', hi, hj, Bool.and_true, reduceIte]
/-- the numbers of range -/
def rgL (lo : Int) (n : Nat) : List Int := (List.range n).map fun i : Nat => lo + (i : Nat)
abbrev eI (i : Int) : D := .im (.int i)
theorem rgD_L (lo : Int) (n : Nat) : rgD lo n = (rgL lo n).map eI := by simp [rgL]
def rg1R (n : Int) : R (List Int) := R.gd (rgOk n = true) (rgL 0 n.toNat)
theorem if_r1 {m : ME} {r : Rs} {n : Int} (h : EP sp m r) (hd : r.d = .im (.int n)) : IF sp (iRg1 m) (rg1R n) (fun xs => xs.map eI) [] := fun env hr => by
  unfold rg1R R.gd
  by_cases hk : rgOk n = true
  · rw [if_pos hk]; simp only [iRg1, mAs, h env hr, hd, hk, reduceIte, rgD_L]
  · rw [if_neg hk]; trivial
theorem s_forp {pin pin' : Pins} {mi : MI} {f : TgF} {b : MS} {items : List D} {fz : List Nat} {M : SR σ ρ κ l ξ} {J : σ → Sp} (hi : IP sp mi items fz) (h : SimS X sp (frL pin pin' (loopF f b items) fz) M J) : SimS X sp (sFor pin pin' mi f b) M J := fun env hr => by
  have := h env hr
  simp only [sFor, hi env hr]; exact this
theorem s_forf {pin pin' : Pins} {mi : MI} {f : TgF} {b : MS} {A : R α} {it : α → List D} {fz : List Nat} {k : ξ} {M : α → SR σ ρ κ l ξ} {J : σ → Sp} (hi : IF sp mi A it fz) (hx : Sub sp (X.x k)) (h : ∀ a, SimS X sp (frL pin pin' (loopF f b (it a)) fz) (M a) J) : SimS X sp (sFor pin pin' mi f b) (A.bindE k M) J := fun env hr => by
  have hi := hi env hr
  cases A with
  | ok a => have := h a env hr; simp only [sFor, hi, R.bindE]; exact this
  | ex x => exact ⟨env, by simp only [sFor, hi], hr.sub hx⟩
  | er => trivial
theorem fr_0 {pin pin' : Pins} {m : MS} {M : SR σ ρ κ l ξ} {J : σ → Sp} (h : SimS X sp m M J) : SimS X sp (frL pin pin' m []) M J := h
/-- behind a loop over a variable's own row -/
def Th (pin : Pins) (i : Nat) : Nat → Sp → Sp → Sp → Prop
  | _, [], [], [] => True
  | k, _ :: a, _ :: f, none :: b => Th pin i (k + 1) a f b
  | k, x :: a, y :: f, some s :: b => (match k == i with
      | true => x = some s
      | false => match s with
        | .own _ => y = some s
        | .ro d => pin k = true ∧ x = some (.ro d) ∧ ∃ d', y = some (.ro d')) ∧ Th pin i (k + 1) a f b
  | _, _, _, _ => False
theorem th_rel (pin : Pins) (i : Nat) : ∀ {sp0 spf sp' : Sp} {env e : En} (k : Nat), Th pin i k sp0 spf sp' → Rel sp0 env → Rel spf e → Rel sp' (thGo pin i k env e)
  | [], [], [], [], [], _, _, _, _ => trivial
  | x :: a, y :: f, z :: b, u :: env, v :: e, k, t, h0, h1 => by
    have h0' : Rel a env := by cases x with | none => exact h0 | some s => exact h0.2
    have h1' : Rel f e := by cases y with | none => exact h1 | some s => exact h1.2
    cases z with
    | none => exact th_rel pin i (k + 1) t h0' h1'
    | some s =>
      obtain ⟨t1, t2⟩ := t
      refine ⟨?_, th_rel pin i (k + 1) t2 h0' h1'⟩
      by_cases hk : k = i
      · have hb : (k == i) = true := by simpa using hk
        rw [hb] at t1
        simp only at t1
        subst t1
        simp only [th1, if_pos hk]; exact h0.1
      · have hb : (k == i) = false := by simpa using hk
        rw [hb] at t1
        simp only at t1
        simp only [th1, if_neg hk]
        cases s with
        | own d => simp only at t1; subst t1; rw [h1.1]
        | ro d =>
          obtain ⟨p1, p2, d', p3⟩ := t1
          subst p2; subst p3
          rw [h1.1, h0.1]; simp only [p1, reduceIte]
  | [], _ :: _, _, _, _, _, h, _, _ => by simp [Th] at h
  | _ :: _, [], _, _, _, _, h, _, _ => by simp [Th] at h
  | [], [], _ :: _, _, _, _, h, _, _ => by simp [Th] at h
  | _ :: _, _ :: _, [], _, _, _, h, _, _ => by simp [Th] at h
  | x :: _, _ :: _, _ :: _, [], _, _, _, h, _ => by cases x <;> exact h.elim
  | _ :: _, y :: _, _ :: _, _ :: _, [], _, _, _, h => by cases y <;> exact h.elim
  | [], [], [], _ :: _, _, _, _, h, _ => h.elim
  | [], [], [], [], _ :: _, _, _, _, h => h.elim
theorem lc_go {sp1 : α → Sp} {e0 : α → D} {j : Nat} {mt : MT} {me : ME} {t : α → R Bool} {E : α → R β} {fr : β → Rs} {f : β → D} {env : En} (hs : ∀ a, Rel (sp1 a) ((env.set j none).set j (some (slotD (e0 a))))) (ht : ∀ a, TF (sp1 a) mt (t a)) (he : ∀ a, EF (sp1 a) me (E a) fr) (hf : ∀ b, (fr b).d = f b) (hc : ∀ b, copyD (f b) = true) : ∀ (xs : List α) (acc : List D), match lcR t E xs with
    | .ok bs => lcF j mt me env (xs.map e0) acc = .ok (acc ++ bs.map f)
    | _ => True
  | [], acc => by simp [lcR, lcF]
  | a :: xs, acc => by
    have h1 := ht a _ (hs a)
    simp only [lcR]
    cases hta : t a with
    | ok q =>
      rw [hta] at h1
      obtain ⟨e, h2, h3⟩ := h1
      cases q with
      | false =>
        have ih := lc_go hs ht he hf hc xs acc
        simp only
        cases hl : lcR t E xs with
        | ok bs => rw [hl] at ih; simp only [List.map_cons, lcF, h2]; exact ih
        | ex x => trivial
        | er => trivial
      | true =>
        have h4 := he a e h3
        simp only
        cases hE : E a with
        | ok b =>
          rw [hE] at h4
          simp only [RzR] at h4
          have ih := lc_go hs ht he hf hc xs (acc ++ [f b])
          simp only
          cases hl : lcR t E xs with
          | ok bs => rw [hl] at ih; simp only at ih ⊢; simp only [List.map_cons, lcF, h2, h4, hf, hc, reduceIte, ih, List.append_assoc, List.singleton_append]
          | ex x => trivial
          | er => trivial
        | ex x => trivial
        | er => trivial
    | ex x => trivial
    | er => trivial
@[irreducible] def lcG (xs : List α) (t : α → R Bool) (E : α → R β) : R (List β) := if xs.length ≤ 1000000 then lcR t E xs else .er
theorem lcR_noex (t : α → R Bool) (E : α → R β) : ∀ (xs : List α) (x : Exn), lcR t E xs ≠ .ex x
  | [], x => by simp [lcR]
  | a :: xs, x => by
    simp only [lcR]
    split
    · split
      · split <;> simp
      · simp
    · exact lcR_noex t E xs x
    · simp
theorem ef_lc {mi : MI} {xs : List α} {e0 : α → D} {fz : List Nat} {j : Nat} {mt : MT} {me : ME} {t : α → R Bool} {E : α → R β} {fr : β → Rs} {f : β → D} (hi : IP sp mi (xs.map e0) fz) (hz : fz.all (fun i => decide (i < sp.length)) = true) (ht : ∀ a, TF ((roP sp).set j (some (slotD (e0 a)))) mt (t a)) (he : ∀ a, EF ((roP sp).set j (some (slotD (e0 a)))) me (E a) fr) (hf : ∀ b, (fr b).d = f b) (hc : ∀ b, copyD (f b) = true) : EF sp (mLc mi j mt me) (lcG xs t E) (fun bs => .own (.lst (bs.map f))) := fun env hr => by
  unfold lcG
  by_cases hl : xs.length ≤ 1000000
  · rw [if_pos hl]
    have hz' : fz.all (fun i => decide (i < env.length)) = true := by rw [hr.len]; exact hz
    have go := lc_go (j := j) (env := roE env) (sp1 := fun a => (roP sp).set j (some (slotD (e0 a)))) (fun a => by
      have := (hr.ro.wipe j none).set j (slotD (e0 a))
      rwa [List.set_set] at this) ht he hf hc xs []
    cases h : lcR t E xs with
    | ok bs =>
      rw [h] at go
      simp only [List.nil_append] at go
      simp only [RzR, mLc, hi env hr, hz', List.length_map, hl, decide_true, Bool.and_true, reduceIte, go]
    | ex x => exact absurd h (lcR_noex t E xs x)
    | er => trivial
  · rw [if_neg hl]; trivial
def TrO : List Bool → Sp → Sp → Prop
  | [], _, [] => True
  | _ :: ps, _ :: a, none :: b => TrO ps a b
  | p :: ps, x :: a, some s :: b => p = true ∧ x = some s ∧ TrO ps a b
  | _, _, _ => False
theorem tr_rel : ∀ {ps : List Bool} {a b : Sp} {env : En}, TrO ps a b → Rel a env → Rel b (trunc ps env)
  | [], a, [], env, _, _ => by simp [trunc, Rel]
  | [], _, _ :: _, _, h, _ => by simp [TrO] at h
  | p :: ps, [], b, env, h, _ => by cases b <;> simp [TrO] at h
  | p :: ps, x :: a, [], env, h, _ => by simp [TrO] at h
  | p :: ps, x :: a, y :: b, [], h, hr => by cases x <;> exact hr.elim
  | p :: ps, x :: a, none :: b, e :: env, h, hr => by
    have hr' : Rel a env := by cases x with | none => exact hr | some s => exact hr.2
    have := tr_rel (ps := ps) (a := a) (b := b) (env := env) h hr'
    cases p <;> exact this
  | p :: ps, x :: a, some s :: b, e :: env, h, hr => by
    obtain ⟨rfl, rfl, h3⟩ := h
    exact ⟨hr.1, tr_rel (ps := ps) (a := a) (b := b) (env := env) h3 hr.2⟩
theorem fn_sim {X : Xt ρ κ Empty ξ} {n : Nat} {ps : List Bool} {b : MS} {ss : List Slot} {M : SR κ ρ κ Empty ξ} {nx : κ → RF ρ κ ξ} {pk : κ → Sp} {pe : ξ → Sp} (h : SimS X (ss.map some ++ List.replicate (n - ss.length) none) b M X.k) (hn : ∀ k, match nx k with
      | .ok r k' => X.er r = .im .non ∧ k' = k
      | .ex _ _ => False
      | .er => True) (hk : ∀ k, TrO ps (X.k k) (pk k)) (hx : ∀ k, TrO ps (X.x k) (pe k)) : FSim (mF n ps b ss) (M.fn nx) X.er pk pe := by
  have := h _ (Rel.of ss (n - ss.length))
  cases M with
  | nx k =>
    obtain ⟨e, h1, h2⟩ := this
    have q := hn k
    simp only [SR.fn]
    cases hk' : nx k with
    | ok r k' =>
      rw [hk'] at q
      obtain ⟨q1, rfl⟩ := q
      exact ⟨_, by simp only [mF, h1, fin, q1], tr_rel (hk k') h2⟩
    | ex x k => rw [hk'] at q; exact q.elim
    | er => trivial
  | rt r k => obtain ⟨e, h1, h2⟩ := this; exact ⟨_, by simp only [mF, h1, fin], tr_rel (hk k) h2⟩
  | ex x k =>
    obtain ⟨e, h1, h2⟩ := this
    exact ⟨_, by simp only [mF, h1, fin], tr_rel (hx k) h2⟩
  | bk b => exact b.elim
  | ct b => exact b.elim
  | er => trivial
end
end Ty
namespace Ty
open PySem L2 Tr
abbrev eS (z : Str) : D := .im (.str z)
abbrev eC (c : Nat) : D := .im (.str ⟨#[c]⟩)
abbrev eN (_ : Unit) : D := .im .non
abbrev eQ (ns : List Int) : D := .scr ns
abbrev eD (d : D) : D := d
section
variable {α β γ δ ε ζ η θ : Type}
abbrev eL (e : α → D) (xs : List α) : D := .lst (xs.map e)
abbrev eZ (e : α → D) (x : α) : D := .fz (e x)
abbrev eU2 (a : α → D) (b : β → D) (x : α × β) : D := .tup [a x.1, b x.2]
abbrev eU3 (a : α → D) (b : β → D) (c : γ → D) (x : α × β × γ) : D := .tup [a x.1, b x.2.1, c x.2.2]
abbrev eO0 (k : Nat) (_ : Unit) : D := .obj k []
abbrev eO1 (k : Nat) (a : α → D) (x : α) : D := .obj k [a x]
abbrev eO2 (k : Nat) (a : α → D) (b : β → D) (x : α × β) : D := .obj k [a x.1, b x.2]
abbrev eO3 (k : Nat) (a : α → D) (b : β → D) (c : γ → D) (x : α × β × γ) : D := .obj k [a x.1, b x.2.1, c x.2.2]
abbrev eO4 (k : Nat) (a : α → D) (b : β → D) (c : γ → D) (d : δ → D) (x : α × β × γ × δ) : D := .obj k [a x.1, b x.2.1, c x.2.2.1, d x.2.2.2]
/-- dicts: keys as they stand -/
abbrev eM (kf : γ → Key) (e : α → D) (ps : List (γ × α)) : D := .dct (ps.map fun p => kf p.1) (ps.map fun p => e p.2)
abbrev kS : Str → Key := Sum.inr
structure KeyE (kd : γ → D) (kf : γ → Key) : Prop where
  o : ∀ k, keyOf (kd k) = some (kf k)
  i : ∀ a b, kf a = kf b → a = b
theorem ke_s : KeyE eS kS := ⟨fun _ => rfl, fun a b h => Sum.inr.inj h⟩
theorem cps_map {e : α → D} (h : ∀ x, copyD (e x) = true) : ∀ xs : List α, copyDs (xs.map e) = true
  | [] => rfl
  | x :: xs => by simp [h x, cps_map h xs]
theorem cps_vals {e : α → D} {κ : Type} (h : ∀ x, copyD (e x) = true) (ps : List (κ × α)) : copyDs (ps.map fun p => e p.2) = true := by
  have := cps_map h (ps.map (·.2))
  rwa [List.map_map] at this
def mulR (a b : Int) : R Int := R.gd (cMul a b = true) (a * b)
def divR (a b : Int) : R Int := R.gd (cDiv a b = true) (fdv a b)
def modR (a b : Int) : R Int := R.gd (b ≠ 0) (fmd a b)
abbrev fMu : List D → Option D := orF fMul fMulS
theorem orL {f g : List D → Option D} {ds : List D} {z : D} (h : f ds = some z) : orF f g ds = some z := by unfold orF; rw [h]
theorem orR {f g : List D → Option D} {ds : List D} {z : Option D} (h : f ds = none) (h' : g ds = z) : orF f g ds = z := by unfold orF; rw [h]; exact h'
theorem o_mulr {a b : Int} (h : -(2 ^ 64) < b ∧ b < 2 ^ 64) : fMu [eI a, eI b] = some (eI (a * b)) := orL (r_mul (decide_eq_true (.inr (.inl h))))
theorem o_mull {a b : Int} (h : -(2 ^ 64) < a ∧ a < 2 ^ 64) : fMu [eI a, eI b] = some (eI (a * b)) := orL (r_mul (decide_eq_true (.inl h)))
theorem o_mul (a b : Int) : OpR (fMu [eI a, eI b]) (mulR a b) eI := opr_gd fun h => orL (r_mul h)
theorem o_div (a b : Int) : OpR (fDiv [eI a, eI b]) (divR a b) eI := opr_gd fun h => r_div h
theorem o_mod (a b : Int) : OpR (fMod [eI a, eI b]) (modR a b) eI := opr_gd fun h => r_mod h
theorem o_powp {a b : Int} {n : Nat} (h : cPow a b = true) (hn : b.toNat = n) : fPow [eI a, eI b] = some (eI (a ^ n)) := by
  subst hn
  show (if cPow a b = true then _ else _) = _
  rw [if_pos h]
theorem o_eqI (a b : Int) : fEq [eI a, eI b] = some (eB (decide (a = b))) := fEq_int a b
theorem o_neI (a b : Int) : fNe [eI a, eI b] = some (eB (!decide (a = b))) := by rw [fNe_int]; congr 3; simp
theorem o_neB (a b : Bool) : fNe [eB a, eB b] = some (eB (!decide (a = b))) := by rw [fNe_bl]; cases a <;> cases b <;> rfl
def mxI (i j : Int) : Int := if j > i then j else i
theorem o_mx (i j : Int) : fMax [eI i, eI j] = some (eI (mxI i j)) := rfl
theorem ints_map : ∀ xs : List Int, intsD (xs.map eI) = some xs
  | [] => rfl
  | x :: xs => by simp [intsD, ints_map xs]
def addS (a b : Str) : R Str := R.gd (a.length + b.length ≤ 1000000) (a ++ b)
theorem o_addS (a b : Str) : OpR (fAdd [eS a, eS b]) (addS a b) eS := opr_gd fun h => x_add h
def lenS (s : Str) : R Int := R.gd (s.length ≤ 1000000) (s.length : Int)
theorem o_lenS (s : Str) : OpR (fLen [eS s]) (lenS s) eI := opr_gd fun h => r_len_str h
theorem o_intB (b : Bool) : fInt [eB b] = some (eI (if b = true then 1 else 0)) := rfl
theorem strs_map : ∀ zs : List Str, strsD (zs.map eS) = some zs := x_strs
abbrev fInP : List D → Option D := orF (fInD false) fIn
abbrev fInN : List D → Option D := orF (fInD true) fNi
theorem o_inC (c : Nat) (y : Str) : fInP [eC c, eS y] = some (eB (decide (c ∈ y.cps.toList))) := by
  have hi : fIn [eC c, eS y] = some (eB (decide (c ∈ y.cps.toList))) := by simp [orF, fInR, fInS, rowOf, oneSign]
  exact orR rfl hi
theorem o_niC (c : Nat) (y : Str) : fInN [eC c, eS y] = some (eB (!decide (c ∈ y.cps.toList))) := by
  have hi : fNi [eC c, eS y] = some (eB (!decide (c ∈ y.cps.toList))) := by simp [orF, fInR, fInS, rowOf, oneSign]
  exact orR rfl hi
@[irreducible] def getS (z : Str) (i : Int) : R Nat := if z.length ≤ 1000000 then R.ofO (atI z.cps.toList i) else .er
theorem o_lenL {d : D} {e : α → D} {xs : List α} (hd : unfz d = eL e xs) (h0 : ∀ s, d ≠ .im (.str s)) : fLen [d] = some (eI xs.length) := by
  have : fLenS [d] = some (eI xs.length) := by
    unfold fLenS
    split
    · rename_i s h; cases h; exact absurd rfl (h0 _)
    · rename_i d' h1 h2; cases h2; rw [hd]; simp
    · rename_i h1 h2; simp at h2
  exact orL this
theorem o_lenQ (ns : List Int) : fLen [eQ ns] = some (eI ns.length) := rfl
theorem inV_strs (a : Str) : ∀ seen : List Str, inV (.str a) (seen.map V.str) = decide (a ∈ seen)
  | [] => by simp [inV]
  | b :: seen => by
    have ih := inV_strs a seen
    unfold inV at ih ⊢
    rw [List.map_cons, List.any_cons, ih]
    have e : eqV (.str b) (.str a) = decide (b = a) := by
      by_cases h : b = a <;> simp [eqV, h]
    rw [e]
    by_cases h : b = a
    · subst h; simp
    · have h' : ¬ a = b := fun z => h z.symm
      simp [h, h']
theorem ims_map (f : α → V) : ∀ seen : List α, ims (seen.map fun x => D.im (f x)) = some (seen.map f)
  | [] => rfl
  | b :: seen => by simp [ims, ims_map f seen]
theorem o_inR {neg : Bool} {v : V} {d : D} {f : α → V} {xs : List α} {b : Bool} (hd : rowOf (unfz d) = some (xs.map fun x => D.im (f x))) (hv : flatV v = true) (hf : ∀ x, flatV (f x) = true) (hb : inV v (xs.map f) = b) : fInR neg [.im v, d] = some (eB (if neg = true then !b else b)) := by
  have ha : (xs.map f).all flatV = true := by simp [hf]
  simp only [fInR, hd, ims_map, hv, ha, Bool.and_true, reduceIte, hb]
theorem o_inS (a : Str) {d : D} {xs : List Str} (hd : rowOf (unfz d) = some (xs.map eS)) (h0 : fInD false [eS a, d] = none) : fInP [eS a, d] = some (eB (decide (a ∈ xs))) := orR h0 (orL (o_inR (f := V.str) hd rfl (fun _ => rfl) (inV_strs a xs)))
theorem o_niS (a : Str) {d : D} {xs : List Str} (hd : rowOf (unfz d) = some (xs.map eS)) (h0 : fInD true [eS a, d] = none) : fInN [eS a, d] = some (eB (!decide (a ∈ xs))) := orR h0 (orL (o_inR (f := V.str) hd rfl (fun _ => rfl) (inV_strs a xs)))
section
variable [DecidableEq γ]
def dG (ps : List (γ × α)) (a : γ) : Option α := (ps.find? fun p => decide (p.1 = a)).map (·.2)
def dH (ps : List (γ × α)) (a : γ) : Bool := decide (a ∈ ps.map (·.1))
def dS (ps : List (γ × α)) (a : γ) (v : α) : List (γ × α) := if a ∈ ps.map (·.1) then ps.map fun p => if p.1 = a then (p.1, v) else p else ps ++ [(a, v)]
theorem dlook_map {kd : γ → D} {kf : γ → Key} (K : KeyE kd kf) (e : α → D) (a : γ) : ∀ ps : List (γ × α), dlook (ps.map fun p => kf p.1) (ps.map fun p => e p.2) (kf a) = (dG ps a).map e
  | [] => rfl
  | p :: ps => by
    have ih := dlook_map K e a ps
    simp only [List.map_cons, dlook, dG, List.find?_cons]
    by_cases h : p.1 = a
    · subst h; simp
    · have h' : ¬ (kf p.1 = kf a) := fun z => h (K.i _ _ z)
      rw [if_neg h']
      simp only [h, decide_false]
      exact ih
theorem dG_some (a : γ) : ∀ ps : List (γ × α), (dG ps a).isSome = dH ps a
  | [] => by simp [dG, dH]
  | p :: ps => by
    have ih := dG_some a ps
    simp only [dG, dH, List.find?_cons] at ih ⊢
    by_cases h : p.1 = a
    · subst h; simp
    · have h2 : ¬ a = p.1 := fun z => h z.symm
      simp only [h, decide_false]
      rw [ih]
      simp [h2]
theorem o_inD {kd : γ → D} {kf : γ → Key} (K : KeyE kd kf) {e : α → D} {d : D} {a : γ} {ps : List (γ × α)} (hd : unfz d = eM kf e ps) : fInP [kd a, d] = some (eB (dH ps a)) := by
  refine orL ?_
  simp only [fInD, K.o, hd, dlook_map K]
  rw [← dG_some]; cases dG ps a <;> rfl
theorem o_niD {kd : γ → D} {kf : γ → Key} (K : KeyE kd kf) {e : α → D} {d : D} {a : γ} {ps : List (γ × α)} (hd : unfz d = eM kf e ps) : fInN [kd a, d] = some (eB (!dH ps a)) := by
  refine orL ?_
  simp only [fInD, K.o, hd, dlook_map K]
  rw [← dG_some]; cases dG ps a <;> rfl
theorem dmap_map {kd : γ → D} {kf : γ → Key} (K : KeyE kd kf) (e : α → D) (a : γ) (v : α) : ∀ ps : List (γ × α), dmap (kf a) (e v) (ps.map fun p => kf p.1) (ps.map fun p => e p.2) = (ps.map fun p => if p.1 = a then (p.1, v) else p).map fun p => e p.2
  | [] => rfl
  | p :: ps => by
    simp only [List.map_cons, dmap, dmap_map K e a v ps]
    by_cases h : p.1 = a
    · subst h; simp
    · have h' : ¬ (kf p.1 = kf a) := fun z => h (K.i _ _ z)
      simp [h, h']
theorem any_map {kd : γ → D} {kf : γ → Key} (K : KeyE kd kf) (a : γ) : ∀ ps : List (γ × α), ((ps.map fun p => kf p.1).any fun k' => decide (k' = kf a)) = decide (a ∈ ps.map (·.1))
  | [] => by simp
  | p :: ps => by
    have ih := any_map K a ps
    simp only [List.map_cons, List.any_cons] at ih ⊢
    rw [ih]
    by_cases h : p.1 = a
    · subst h; simp
    · have h' : ¬ (kf p.1 = kf a) := fun z => h (K.i _ _ z)
      have h2 : ¬ a = p.1 := fun z => h z.symm
      simp [h', h2]
theorem dput_map {kd : γ → D} {kf : γ → Key} (K : KeyE kd kf) (e : α → D) (a : γ) (v : α) (ps : List (γ × α)) : dput (ps.map fun p => kf p.1) (ps.map fun p => e p.2) (kf a) (e v) = ((dS ps a v).map fun p => kf p.1, (dS ps a v).map fun p => e p.2) := by
  unfold dput dS
  rw [any_map K, dmap_map K]
  by_cases h : a ∈ ps.map (·.1)
  · rw [if_pos (by simpa using h), if_pos h]
    congr 1
    simp only [List.map_map]
    apply List.map_congr_left
    intro p _
    simp only [Function.comp]
    split <;> rfl
  · rw [if_neg (by simpa using h), if_neg h]
    simp
/-- an entry is put into a dict -/
theorem o_dset {kd : γ → D} {kf : γ → Key} (K : KeyE kd kf) {e : α → D} {kv : V} {dv : D} {a : γ} {v : α} {ps : List (γ × α)} (hk : kd a = .im kv) (hv : dv = e v) (hc : ∀ x, copyD (e x) = true) (hl : ps.length < 1000000) : opSetA (eM kf e ps) [.im kv, dv] = some (eM kf e (dS ps a v), .im .non) := by
  subst hv
  have h0 : opSetI (eM kf e ps) [.im kv, e v] = none := rfl
  have hk' : keyOf (.im kv) = some (kf a) := by rw [← hk]; exact K.o a
  show (match opSetI (eM kf e ps) [.im kv, e v] with | some z => some z | none => opSetD (eM kf e ps) [.im kv, e v]) = _
  rw [h0]
  simp only [opSetD, hk', cps_vals hc, hc, List.length_map, hl, decide_true, Bool.and_true, reduceIte, dput_map K]
end
end
def PyOk (n : Nat) (d : D) : Prop := ∃ p, toPy d = some p ∧ p.canLay0 = true ∧ p.depth ≤ n
section
variable {α β γ δ ε : Type}
structure EqE (e : α → D) : Prop where
  q : ∀ x y p r, toPy (e x) = some p → toPy (e y) = some r → (PyData.eqv p r = true ↔ x = y)
end
section
open Classical
variable {α β γ δ ε : Type}
@[irreducible] noncomputable def R.gc (c : Prop) (a : α) : R α := if c then .ok a else .er
theorem R.gc_ok {c : Prop} (h : c) (a : α) : R.gc c a = .ok a := by unfold R.gc; exact if_pos h
noncomputable def eqR [DecidableEq α] (e : α → D) (x y : α) : R Bool := R.gc (PyOk 60 (e x) ∧ PyOk 60 (e y)) (decide (x = y))
noncomputable def neR [DecidableEq α] (e : α → D) (x y : α) : R Bool := R.gc (PyOk 60 (e x) ∧ PyOk 60 (e y)) (!decide (x = y))
end
section
variable {α β γ δ ε : Type}
theorem shaped_of {p : PyData} (h2 : p.canLay0 = true) (h3 : p.depth ≤ 60) : PySem.SeqAt.shaped p = true := by simp [PySem.SeqAt.shaped, h2]; omega
theorem o_eq [d : DecidableEq α] {e : α → D} (E : EqE e) (x y : α) {a b : D} (ha : toPy a = toPy (e x)) (hb : toPy b = toPy (e y)) : OpR (fEq [a, b]) (eqR e x y) eB := by
  unfold eqR R.gc; split
  · rename_i h
    obtain ⟨⟨p, h1, h2, h3⟩, ⟨r, h4, h5, h6⟩⟩ := h
    have q : PyData.eqv p r = decide (x = y) := by
      have := E.q x y p r h1 h4
      by_cases h : x = y
      · rw [decide_eq_true h]; exact this.mpr h
      · rw [decide_eq_false h]; exact Bool.eq_false_iff.mpr fun z => h (this.mp z)
    show fEq [a, b] = _
    simp only [fEq, ha, hb, h1, h4, shaped_of h2 h3, shaped_of h5 h6, Bool.and_true, reduceIte, q]
  · trivial
theorem o_ne [d : DecidableEq α] {e : α → D} (E : EqE e) (x y : α) {a b : D} (ha : toPy a = toPy (e x)) (hb : toPy b = toPy (e y)) : OpR (fNe [a, b]) (neR e x y) eB := by
  unfold neR R.gc; split
  · rename_i h
    obtain ⟨⟨p, h1, h2, h3⟩, ⟨r, h4, h5, h6⟩⟩ := h
    have q : PyData.eqv p r = decide (x = y) := by
      have := E.q x y p r h1 h4
      by_cases h : x = y
      · rw [decide_eq_true h]; exact this.mpr h
      · rw [decide_eq_false h]; exact Bool.eq_false_iff.mpr fun z => h (this.mp z)
    show fNe [a, b] = _
    simp only [fNe, ha, hb, h1, h4, shaped_of h2 h3, shaped_of h5 h6, Bool.and_true, reduceIte, q]
  · trivial
theorem eqe_b : EqE eB := ⟨fun x y p r h1 h2 => by cases h1; cases h2; rw [eqv_bool, beq_iff_eq]⟩
theorem eqe_s : EqE eS := ⟨fun x y p r h1 h2 => by cases h1; cases h2; rw [eqv_str, beq_iff_eq]⟩
theorem toPys_cc {d : D} {ds : List D} {ps : List PyData} (h : toPys (d :: ds) = some ps) : ∃ q qs, toPy d = some q ∧ toPys ds = some qs ∧ ps = q :: qs := by
  simp only [toPys] at h
  cases hy : toPy d with
  | none => rw [hy] at h; simp at h
  | some q => cases hys : toPys ds with
    | none => rw [hy, hys] at h; simp at h
    | some qs => rw [hy, hys] at h; simp at h; exact ⟨q, qs, rfl, rfl, h.symm⟩
theorem eqe_all {e : α → D} (E : EqE e) : ∀ (xs ys : List α) (ps rs : List PyData), toPys (xs.map e) = some ps → toPys (ys.map e) = some rs → (PyData.eqvAll ps rs = true ↔ xs = ys)
  | [], [], ps, rs, h1, h2 => by simp [toPys] at h1 h2; subst h1; subst h2; simp [PyData.eqvAll]
  | [], y :: ys, ps, rs, h1, h2 => by
    obtain ⟨q, qs, _, _, rfl⟩ := toPys_cc h2
    simp [toPys] at h1; subst h1; simp [PyData.eqvAll]
  | x :: xs, [], ps, rs, h1, h2 => by
    obtain ⟨q, qs, _, _, rfl⟩ := toPys_cc h1
    simp [toPys] at h2; subst h2; simp [PyData.eqvAll]
  | x :: xs, y :: ys, ps, rs, h1, h2 => by
    obtain ⟨q, qs, a1, a2, rfl⟩ := toPys_cc h1
    obtain ⟨q2, qs2, b1, b2, rfl⟩ := toPys_cc h2
    simp only [PyData.eqvAll, Bool.and_eq_true, eqe_all E xs ys qs qs2 a2 b2, E.q x y q q2 a1 b1, List.cons.injEq]
theorem eqe_l {e : α → D} (E : EqE e) : EqE (eL e) := ⟨fun x y p r h1 h2 => by
  simp only [toPy, Option.map_eq_some_iff] at h1 h2
  obtain ⟨ps, h1, rfl⟩ := h1
  obtain ⟨rs, h2, rfl⟩ := h2
  simp only [PyData.eqv]
  exact eqe_all E x y ps rs h1 h2⟩
theorem toPys_c {d : D} {ds : List D} {ps : List PyData} (h : toPys (d :: ds) = some ps) : ∃ q qs, toPy d = some q ∧ toPys ds = some qs ∧ ps = q :: qs := by
  simp only [toPys] at h
  cases hy : toPy d with
  | none => rw [hy] at h; simp at h
  | some q => cases hys : toPys ds with
    | none => rw [hy, hys] at h; simp at h
    | some qs => rw [hy, hys] at h; simp at h; exact ⟨q, qs, rfl, rfl, h.symm⟩
theorem toPys_n {ps : List PyData} (h : toPys [] = some ps) : ps = [] := by simp [toPys] at h; exact h
theorem eqe_u3 {a : α → D} {b : β → D} {c : γ → D} (A : EqE a) (B : EqE b) (C : EqE c) : EqE (eU3 a b c) := ⟨fun x y p r h1 h2 => by
  simp only [toPy, Option.map_eq_some_iff] at h1 h2
  obtain ⟨ps, h1, rfl⟩ := h1
  obtain ⟨rs, h2, rfl⟩ := h2
  obtain ⟨q1, t1, a1, h1_1, rfl⟩ := toPys_c h1
  obtain ⟨r1, u1, b1, h2_1, rfl⟩ := toPys_c h2
  obtain ⟨q2, t2, a2, h1_2, rfl⟩ := toPys_c h1_1
  obtain ⟨r2, u2, b2, h2_2, rfl⟩ := toPys_c h2_1
  obtain ⟨q3, t3, a3, h1_3, rfl⟩ := toPys_c h1_2
  obtain ⟨r3, u3, b3, h2_3, rfl⟩ := toPys_c h2_2
  cases toPys_n h1_3; cases toPys_n h2_3
  simp only [PyData.eqv, PyData.eqvAll, Bool.and_true, Bool.and_eq_true, A.q _ _ _ _ a1 b1, B.q _ _ _ _ a2 b2, C.q _ _ _ _ a3 b3, Prod.ext_iff]⟩
theorem PyOk.mono {n m : Nat} {d : D} (h : PyOk n d) (k : n ≤ m) : PyOk m d := by
  obtain ⟨p, h1, h2, h3⟩ := h
  exact ⟨p, h1, h2, Nat.le_trans h3 k⟩
theorem py_b (n : Nat) (b : Bool) : PyOk n (eB b) := ⟨.bool b, rfl, rfl, by simp [PyData.depth]⟩
theorem py_s (n : Nat) {z : Str} (h : PyData.strOk z = true) : PyOk n (eS z) := ⟨.str z, rfl, h, by simp [PyData.depth]⟩
theorem py_all' {n : Nat} : ∀ ds : List D, (∀ d ∈ ds, PyOk n d) → ∃ ps, toPys ds = some ps ∧ PyData.canLayAll0 ps = true ∧ PyData.depthAll ps ≤ n
  | [], _ => ⟨[], by simp [toPys], rfl, by simp [PyData.depthAll]⟩
  | d :: ds, h => by
    obtain ⟨p, h1, h2, h3⟩ := h d List.mem_cons_self
    obtain ⟨ps, h4, h5, h6⟩ := py_all' ds fun e he => h e (List.mem_cons_of_mem _ he)
    refine ⟨p :: ps, by simp [toPys, h1, h4], by simp [PyData.canLayAll0, h2, h5], ?_⟩
    simp only [PyData.depthAll]
    omega
theorem py_l {n : Nat} {e : α → D} {xs : List α} (h : ∀ x ∈ xs, PyOk n (e x)) : PyOk (n + 1) (eL e xs) := by
  obtain ⟨ps, h1, h2, h3⟩ := py_all' (xs.map e) (fun d hd => by obtain ⟨x, hx, rfl⟩ := List.mem_map.mp hd; exact h x hx)
  refine ⟨.list ps, by simp [toPy, h1], h2, ?_⟩
  simp only [PyData.depth]
  omega
theorem py_u {n : Nat} {ds : List D} (h : ∀ d ∈ ds, PyOk n d) : PyOk (n + 1) (.tup ds) := by
  obtain ⟨ps, h1, h2, h3⟩ := py_all' ds h
  refine ⟨.tuple ps, by simp [toPy, h1], h2, ?_⟩
  simp only [PyData.depth]
  omega
theorem py_u3 {n : Nat} {a b c : D} (ha : PyOk n a) (hb : PyOk n b) (hc : PyOk n c) : PyOk (n + 1) (.tup [a, b, c]) := py_u fun d hd => by simp at hd; rcases hd with rfl | rfl | rfl <;> assumption
end
end Ty
namespace Ty
open PySem L2 Tr
section
variable {sp sp' sp1 sp2 xsp : Sp} {env : En} {α β γ δ κ κ' σ σ' ρ l l' ξ ξ' ζ ζ' : Type} {X : Xt ρ κ l ξ}
theorem atI_map {α β : Type} (f : α → β) (xs : List α) (i : Int) : atI (xs.map f) i = (atI xs i).map f := by
  unfold atI; rw [List.length_map]
  cases ixN xs.length i with
  | none => rfl
  | some j => simp
def getI (xs : List α) (i : Int) : R α := R.ofO (atI xs i)
theorem zp_c {r : Rs} {d : D} (h : copyD d = true) : Zp r (some d) = .ok (.own d) := by simp [Zp, h]
theorem zp_r {y d : D} (h : copyD d = false) : Zp (.ro y) (some d) = .ok (.ro d) := by simp [Zp, h]
theorem zp_b {i : Nat} {y d : D} (h : copyD d = false) : Zp (.bor i y) (some d) = .ok (.bor i d) := by simp [Zp, h]
theorem zq_c {d : D} (h : copyD d = true) : Zq (some d) = .ok (.own d) := by simp [Zq, h]
theorem subR_n {r : Rs} {g : D → Option D} (h : ∀ d, r.d ≠ .fz d) : subR r g = Zp r (g r.d) := by
  unfold subR Zp
  split
  · rename_i d e; exact absurd e (h d)
  · rfl
theorem subR_z {r : Rs} {g : D → Option D} {d : D} (h : r.d = .fz d) : subR r g = Zq (g d) := by
  unfold subR Zq; rw [h] <;> rfl
theorem ixR_0 {r s : Rs} {f : D → Option D} (h : ixKind r.d = 0) (hs : gIx s.d = some f) : ixR r s = subR r f := by
  unfold ixR; rw [if_neg (by omega), if_neg (by omega), hs]
theorem ixR_1 {r s : Rs} {f : D → Option D} (h : ixKind r.d = 1) (hs : gDk s.d = some f) : ixR r s = subR r f := by
  unfold ixR; rw [if_neg (by omega), if_pos h, hs]
theorem ixR_2 {r s : Rs} (h : ixKind r.d = 2) : ixR r s = Zo (fIxS [r.d, s.d]) := by
  unfold ixR; rw [if_pos h]
theorem ixl {r : Rs} {e : α → D} {xs : List α} {i : Int} {f : α → Rs} (hd : r.d = eL e xs) (hf : ∀ x, Zp r (some (e x)) = .ok (f x)) : RzR (gI [r, .own (eI i)]) (getI xs i) f := by
  have h1 : gI [r, .own (eI i)] = Zp r (atI (xs.map e) i) := by
    show ixR _ _ = _
    rw [ixR_0 (by rw [hd]; rfl) (s := .own (eI i)) rfl, subR_n (by rw [hd]; intro d h; cases h), hd]; rfl
  rw [h1, atI_map, getI]
  cases atI xs i with
  | none => trivial
  | some x => exact hf x
theorem ixz {r : Rs} {e : α → D} {xs : List α} {i : Int} {f : α → Rs} (hd : r.d = .fz (eL e xs)) (hf : ∀ x, Zq (some (e x)) = .ok (f x)) : RzR (gI [r, .own (eI i)]) (getI xs i) f := by
  have h1 : gI [r, .own (eI i)] = Zq (atI (xs.map e) i) := by
    show ixR _ _ = _
    rw [ixR_0 (by rw [hd]; rfl) (s := .own (eI i)) rfl, subR_z hd]; rfl
  rw [h1, atI_map, getI]
  cases atI xs i with
  | none => trivial
  | some x => exact hf x
theorem ixq {r : Rs} {ns : List Int} {i : Int} (hd : r.d = eQ ns) : RzR (gI [r, .own (eI i)]) (getI ns i) (fun x => .own (eI x)) := by
  have h1 : gI [r, .own (eI i)] = Zp r ((atI ns i).map eI) := by
    show ixR _ _ = _
    rw [ixR_0 (by rw [hd]; rfl) (s := .own (eI i)) rfl, subR_n (by rw [hd]; intro d h; cases h), hd]; rfl
  rw [h1, getI]
  cases atI ns i with
  | none => trivial
  | some x => exact zp_c rfl
theorem ixs {r : Rs} {z : Str} {i : Int} (hd : r.d = eS z) : RzR (gI [r, .own (eI i)]) (getS z i) (fun c => .own (eC c)) := by
  have h1 : gI [r, .own (eI i)] = Zo (fIxS [eS z, eI i]) := by
    show ixR _ _ = _
    rw [ixR_2 (by rw [hd]; rfl), hd]; rfl
  rw [h1, getS, fIxS]
  split
  · cases atI z.cps.toList i with
    | none => trivial
    | some x => rfl
  · trivial
theorem ixt {r r' : Rs} {ds : List D} {d : D} {i : Int} (hd : r.d = .tup ds) (h : atI ds i = some d) (hz : Zp r (some d) = .ok r') : gI [r, .own (eI i)] = .ok r' := by
  show ixR _ _ = _
  rw [ixR_0 (by rw [hd]; rfl) (s := .own (eI i)) rfl, subR_n (by rw [hd]; intro d h; cases h), hd, ← hz]
  show Zp r (atI ds i) = _
  rw [h]
section
variable [DecidableEq γ]
def getD (ps : List (γ × α)) (k : γ) : R α := R.ofO (dG ps k)
theorem ixd {kd : γ → D} {kf : γ → Key} (K : KeyE kd kf) {r s : Rs} {e : α → D} {ps : List (γ × α)} {a : γ} {f : α → Rs} (hd : r.d = eM kf e ps) (hs : s.d = kd a) (hf : ∀ x, Zp r (some (e x)) = .ok (f x)) : RzR (gI [r, s]) (getD ps a) f := by
  have h1 : gI [r, s] = Zp r ((dG ps a).map e) := by
    show ixR _ _ = _
    rw [ixR_1 (f := dkG (kf a)) (by rw [hd]; rfl) (by rw [hs, gDk, K.o]; rfl), subR_n (by rw [hd]; intro d h; cases h), hd]
    show Zp r (dlook _ _ _) = _
    rw [dlook_map K]
  rw [h1, getD]
  cases dG ps a with
  | none => trivial
  | some x => exact hf x
theorem ixdz {kd : γ → D} {kf : γ → Key} (K : KeyE kd kf) {r s : Rs} {e : α → D} {ps : List (γ × α)} {a : γ} {f : α → Rs} (hd : r.d = .fz (eM kf e ps)) (hs : s.d = kd a) (hf : ∀ x, Zq (some (e x)) = .ok (f x)) : RzR (gI [r, s]) (getD ps a) f := by
  have h1 : gI [r, s] = Zq ((dG ps a).map e) := by
    show ixR _ _ = _
    rw [ixR_1 (f := dkG (kf a)) (by rw [hd]; rfl) (by rw [hs, gDk, K.o]; rfl), subR_z hd]
    show Zq (dlook _ _ _) = _
    rw [dlook_map K]
  rw [h1, getD]
  cases dG ps a with
  | none => trivial
  | some x => exact hf x
end
def PoP (sp : Sp) (m : Option ME) (v : Option Int) : Prop := ∀ env, Rel sp env → mPo m env = .ok v
theorem po_s {m : ME} {r : Rs} {i : Int} (h : EP sp m r) (hd : r.d = eI i) : PoP sp (some m) (some i) := fun env hr => by simp only [mPo, h env hr, hd]
def cutL (xs : List α) (lo hi : Option Int) : List α := (xs.drop (HT.sIx xs.length 0 lo)).take (HT.sIx xs.length xs.length hi - HT.sIx xs.length 0 lo)
theorem o_slQ (ns : List Int) (lo hi : Option Int) : fSl (eQ ns) lo hi = some (eL eI (cutL ns lo hi)) := rfl
theorem ep_sl {ma : ME} {ml mh : Option ME} {r : Rs} {lo hi : Option Int} {z : D} (h : EP sp ma r) (h1 : PoP sp ml lo) (h2 : PoP sp mh hi) (hz : fSl r.d lo hi = some z) : EP sp (mSl ma ml mh) (.own z) := fun env hr => by
  simp only [mSl, h env hr, h1 env hr, h2 env hr, hz]
theorem o_listL {d : D} {e : α → D} {xs : List α} (hd : unfz d = eL e xs) (hc : ∀ x, copyD (e x) = true) : fListA [d] = some (eL e xs) := by
  refine orL ?_
  simp only [fListS, hd, cps_map hc, reduceIte]
abbrev MU (o : Option (D × D)) (p : List Nat) (d : D) (G : R β) (f : β → D) : Prop := match G with
      | .ok b => ∃ x' r, o = some (x', r) ∧ setP p d x' = f b
      | .ex _ => False
      | .er => True
theorem mu_gd {c : Prop} [Decidable c] {b : β} {p : List Nat} {d x' r : D} {o : Option (D × D)} {f : β → D} (h : c → o = some (x', r)) (hs : setP p d x' = f b) : MU o p d (R.gd c b) f := by
  unfold R.gd MU
  by_cases hc : c
  · simp only [if_pos hc]; exact ⟨x', r, h hc, hs⟩
  · simp only [if_neg hc]
theorem mu_ok {b : β} {p : List Nat} {d x' r : D} {o : Option (D × D)} {f : β → D} (h : o = some (x', r)) (hs : setP p d x' = f b) : MU o p d (.ok b) f := ⟨x', r, h, hs⟩
theorem mu_o {b : Option α} {g : α → β} {p : List Nat} {d : D} {x' : α → D} {r : D} {o : Option (D × D)} {f : β → D} (h : ∀ a, b = some a → o = some (x' a, r)) (hs : ∀ a, setP p d (x' a) = f (g a)) : MU o p d ((R.ofO b).bind fun a => .ok (g a)) f := by
  cases b with
  | none => trivial
  | some a => exact ⟨x' a, r, h a rfl, hs a⟩
theorem q_app {e : α → D} {xs : List α} {x : α} {dx : D} (hx : dx = e x) (h : xs.length < 1000000) : opAppend (eL e xs) [dx] = some (eL e (xs ++ [x]), .im .non) := by
  subst hx
  have : opAppend (.lst (xs.map e)) [e x] = some (.lst (xs.map e ++ [e x]), .im .non) := if_pos (by rw [List.length_map]; exact h)
  rw [eL, this]; simp
theorem q_clr {e : α → D} {xs : List α} : opClear (eL e xs) [] = some (eL e [], .im .non) := rfl
theorem q_rem {zs : List Str} {k : Str} (h : k ∈ zs) : opRemove (eL eS zs) [eS k] = some (eL eS (zs.erase k), .im .non) := by
  simp only [opRemove, strs_map, h, reduceIte]
def popI (xs : List α) (i : Int) : Option (α × List α) := if -(2 ^ 63) ≤ i ∧ i < 2 ^ 63 then (PySem.seqIndex? i xs.length).bind fun k => xs[k]?.map fun y => (y, xs.eraseIdx k) else none
theorem map_eraseIdx (e : α → D) (xs : List α) (k : Nat) : (xs.map e).eraseIdx k = (xs.eraseIdx k).map e := by
  induction xs generalizing k with
  | nil => rfl
  | cons x xs ih => cases k with
    | zero => rfl
    | succ k => simp only [List.map_cons, List.eraseIdx_cons_succ, ih]
theorem q_popI {e : α → D} {xs : List α} {i : Int} (hc : ∀ x, copyD (e x) = true) {y : α} {ys : List α} (h : popI xs i = some (y, ys)) : opPopAt (eL e xs) [eI i] = some (eL e ys, e y) := by
  unfold popI at h
  split at h
  · rename_i hb
    simp only [opPopAt, cps_map hc, hb, and_self, decide_true, Bool.and_true, reduceIte, List.length_map]
    cases hk : PySem.seqIndex? i xs.length with
    | none => rw [hk] at h; simp at h
    | some k =>
      rw [hk] at h
      simp only [Option.bind_some, Option.map_eq_some_iff] at h
      obtain ⟨z, h1, h2⟩ := h
      cases h2
      simp only [List.getElem?_map, h1, Option.map_some, map_eraseIdx]
  · simp at h
def setI (xs : List α) (i : Int) (v : α) : Option (List α) := (ixN xs.length i).map fun j => xs.set j v
theorem q_setI {e : α → D} {xs ys : List α} {i : Int} {v : α} {dv : D} (hv : dv = e v) (h : setI xs i v = some ys) : opSetA (eL e xs) [eI i, dv] = some (eL e ys, .im .non) := by
  subst hv
  unfold setI at h
  simp only [Option.map_eq_some_iff] at h
  obtain ⟨j, h1, h2⟩ := h
  have : opSetI (eL e xs) [eI i, e v] = some (eL e ys, .im .non) := by
    simp only [opSetI, List.length_map, h1]; rw [← h2, eL, List.map_set]
  show (match opSetI (eL e xs) [eI i, e v] with | some z => some z | none => opSetD (eL e xs) [eI i, e v]) = _
  rw [this]
def R.rf (k0 : ζ) : R (β × κ) → RF β κ ζ
  | .ok bk => .ok bk.1 bk.2
  | .ex x => .ex x k0
  | .er => .er
def RF.andF (A : RF Bool κ ζ) (B : κ → RF Bool κ ζ) : RF Bool κ ζ := match A with
  | .ok true k => B k
  | .ok false k => .ok false k
  | .ex x k => .ex x k
  | .er => .er
def RF.orF (A : RF Bool κ ζ) (B : κ → RF Bool κ ζ) : RF Bool κ ζ := match A with
  | .ok true k => .ok true k
  | .ok false k => B k
  | .ex x k => .ex x k
  | .er => .er
def SR.ne : SR σ ρ κ l ξ' → SR σ ρ κ l ξ
  | .nx s => .nx s
  | .rt r k => .rt r k
  | .bk b => .bk b
  | .ct b => .ct b
  | _ => .er
def pick1 (o : Option Bool) (A B : SR σ ρ κ l ξ) : SR σ ρ κ l ξ := match o with
  | some true => A
  | some false => B
  | none => .er
def PkS (X : Xt ρ κ l ξ) (sp : Sp) (hs : List HT1) (x : Exn) (H : SR σ ρ κ l ξ) (post : σ → Sp) : Prop := ∀ env, Rel sp env → SimR X (pickX hs x env) H post
theorem pk_p {sub : Nat → Option Bool} {ms : Exn → MS} {r : List HT1} {x : Exn} {X2 : Xt ρ κ l ξ'} {A : SR σ ρ κ l ξ'} {B : SR σ ρ κ l ξ} {post : σ → Sp} (h : SimS X2 sp (ms x) A post) (t : PkS X sp r x B post) (he : X2.er = X.er) (hk : X2.k = X.k) (hl : X2.l = X.l) : PkS X sp ((sub, none, ms) :: r) x (pick1 (sub x.c) A.ne B) post := fun env hr => by
  simp only [pickX]
  cases hs : sub x.c with
  | none => trivial
  | some b => cases b with
    | false => exact t env hr
    | true =>
      have := h env hr
      simp only [pick1]
      cases A with
      | nx s => obtain ⟨e, h1, h2⟩ := this; exact ⟨e, by simp only [h1], h2⟩
      | rt r k => obtain ⟨e, h1, h2⟩ := this; exact ⟨e, by simp only [h1, he], by rw [← hk]; exact h2⟩
      | bk b => obtain ⟨e, h1, h2⟩ := this; exact ⟨e, by simp only [h1], by rw [← hl]; exact h2⟩
      | ct b => obtain ⟨e, h1, h2⟩ := this; exact ⟨e, by simp only [h1], by rw [← hl]; exact h2⟩
      | ex x k => trivial
      | er => trivial
theorem en_map (e : α → D) (xs : List α) : enD (xs.map e) = (xs.zipIdx.map fun p => ((p.2 : Int), p.1)).map (eU2 eI e) := by
  apply List.ext_getElem?
  intro i
  by_cases h : i < xs.length
  · simp [enD, h]
  · simp [enD, h]
def enL (xs : List α) : List (Int × α) := xs.zipIdx.map fun p => ((p.2 : Int), p.1)
theorem zp_map (e : α → D) (f : β → D) (xs : List α) (ys : List β) : zpD (xs.map e) (ys.map f) = (xs.zip ys).map (eU2 e f) := by
  unfold zpD
  rw [List.zip_map]
  simp only [List.map_map]; rfl
end
end Ty
namespace Ty
open PySem L2 Tr
section
variable {sp sp' sp1 sp2 xsp : Sp} {env : En} {α β γ δ κ κ' σ σ' ρ l l' ξ ξ' ζ ζ' : Type} {X : Xt ρ κ l ξ}
theorem sN : Sub [] [] := trivial
theorem sZ {x : Option Slot} {a b : Sp} (h : Sub a b) : Sub (x :: a) (none :: b) := by cases x <;> exact h
theorem sS {s : Slot} {a b : Sp} (h : Sub a b) : Sub (some s :: a) (some s :: b) := ⟨rfl, h⟩
theorem tN {pin : Pins} {i k : Nat} : Th pin i k [] [] [] := by unfold Th; trivial
theorem tZ {pin : Pins} {i k : Nat} {x y : Option Slot} {a f b : Sp} (h : Th pin i (k + 1) a f b) : Th pin i k (x :: a) (y :: f) (none :: b) := by unfold Th; exact h
theorem tI {pin : Pins} {i k : Nat} {s : Slot} {y : Option Slot} {a f b : Sp} (hk : (k == i) = true) (h : Th pin i (k + 1) a f b) : Th pin i k (some s :: a) (y :: f) (some s :: b) := by unfold Th; rw [hk]; exact ⟨rfl, h⟩
theorem tW {pin : Pins} {i k : Nat} {d : D} {x : Option Slot} {a f b : Sp} (hk : (k == i) = false) (h : Th pin i (k + 1) a f b) : Th pin i k (x :: a) (some (.own d) :: f) (some (.own d) :: b) := by unfold Th; rw [hk]; exact ⟨rfl, h⟩
theorem tR {pin : Pins} {i k : Nat} {d d' : D} {a f b : Sp} (hk : (k == i) = false) (hp : pin k = true) (h : Th pin i (k + 1) a f b) : Th pin i k (some (.ro d) :: a) (some (.ro d') :: f) (some (.ro d) :: b) := by unfold Th; rw [hk]; exact ⟨⟨hp, rfl, d', rfl⟩, h⟩
theorem pN {a : Sp} : TrO [] a [] := by unfold TrO; trivial
theorem pZ {p : Bool} {ps : List Bool} {x : Option Slot} {a b : Sp} (h : TrO ps a b) : TrO (p :: ps) (x :: a) (none :: b) := by unfold TrO; exact h
theorem pS {ps : List Bool} {s : Slot} {a b : Sp} (h : TrO ps a b) : TrO (true :: ps) (some s :: a) (some s :: b) := by unfold TrO; exact ⟨rfl, rfl, h⟩
theorem tf_true : TF sp tTrue (.ok true) := fun env hr => ⟨env, rfl, hr⟩
theorem gd_ok {k : List D → D} {rs : List Rs} {ds : List D} (h : ownAll rs = some ds) (hl : Nat.ble ds.length 1000000 = true) : gD k rs = .ok (.own (k ds)) := by
  have hl : ds.length ≤ 1000000 := by simpa using hl
  simp only [gD, Zdsp, h, hl, reduceIte]
theorem ix_k {ds : List D} {d : D} (k : Nat) (h : ds[k]? = some d) : atI ds (k : Int) = some d := by rw [Tr.atI_nat]; exact h
theorem len_ok {n : Nat} (h : Nat.ble n 1000000 = true) : n ≤ 1000000 := by simpa using h
abbrev chS (c : Nat) : Str := ⟨#[c]⟩
theorem forR_nb {B : α → σ → SR σ ρ κ σ ξ} : ∀ (xs : List α) (s : σ) (b : l), (forR B xs s : SR σ ρ κ l ξ) ≠ .bk b ∧ (forR B xs s : SR σ ρ κ l ξ) ≠ .ct b
  | [], s, b => by simp [forR]
  | a :: xs, s, b => by
    simp only [forR]
    cases B a s with
    | nx s' => exact forR_nb xs s' b
    | ct s' => exact forR_nb xs s' b
    | bk s' => simp
    | rt r k => simp
    | ex x k => simp
    | er => simp
theorem fr1 {pin pin' : Pins} {i : Nat} {is : List Nat} {d : D} {m : MS} {M : SR σ ρ κ l ξ} {J J' : σ → Sp} (h1 : sp[i]? = some (some (.own d))) (hp : pin' i = true) (h : SimS X (sp.set i (some (.ro d))) (frL pin pin' m is) M J) (hM : ∀ b, M ≠ .bk b ∧ M ≠ .ct b) (hJ : ∀ s, Th pin i 0 sp (J s) (J' s)) (hk : ∀ k, Th pin i 0 sp (X.k k) (X.k k)) (hx : ∀ k, Th pin i 0 sp (X.x k) (X.x k)) : SimS X sp (frL pin pin' m (i :: is)) M J' := fun env hr => by
  have := h _ (hr.set i (.ro d))
  simp only [frL, hr.at_ h1, hp, reduceIte]
  cases M with
  | nx s => obtain ⟨e, e1, e2⟩ := this; exact ⟨_, by simp only [e1, thS], th_rel pin i 0 (hJ s) hr e2⟩
  | rt r k => obtain ⟨e, e1, e2⟩ := this; exact ⟨_, by simp only [e1, thS], th_rel pin i 0 (hk k) hr e2⟩
  | bk s => exact absurd rfl (hM s).1
  | ct s => exact absurd rfl (hM s).2
  | ex r k => obtain ⟨e, e1, e2⟩ := this; exact ⟨_, by simp only [e1, thS], th_rel pin i 0 (hx k) hr e2⟩
  | er => trivial
theorem lp0 {f : TgF} {b : MS} {B : α → σ → SR σ ρ κ σ ξ} {e : α → D} {J : σ → Sp} {sp1 : α → σ → Sp} {xs : List α} {s : σ} (hs : Sub sp (J s)) (ht : ∀ a s, TgOk f (e a) (J s) (sp1 a s)) (hb : ∀ a s, SimS (X.lp J) (sp1 a s) b (B a s) J) : SimS X sp (loopF f b (xs.map e)) (forR B xs s) J := ts_sub (lp ht hb xs s) hs
@[simp] theorem lt_v (v : α) (f : α → β) : lt v f = f v := rfl
@[simp] theorem bind_ok (a : α) (f : α → R β) : (R.ok a).bind f = f a := rfl
@[simp] theorem bind_ex (x : Exn) (f : α → R β) : (R.ex x : R α).bind f = .ex x := rfl
@[simp] theorem bindE_ok (k : ξ) (a : α) (f : α → SR σ ρ κ l ξ) : (R.ok a).bindE k f = f a := rfl
@[simp] theorem bindE_ex (k : ξ) (x : Exn) (f : α → SR σ ρ κ l ξ) : (R.ex x : R α).bindE k f = .ex x k := rfl
@[simp] theorem bindFF_ok (k : ζ) (a : α) (f : α → RF β κ ζ) : (R.ok a).bindF k f = f a := rfl
@[simp] theorem bindF_ok (kx : ζ → ξ) (a : α) (k : κ) (f : α → κ → SR σ ρ κ' l ξ) : (RF.ok a k : RF α κ ζ).bindF kx f = f a k := rfl
@[simp] theorem bindF_ex (kx : ζ → ξ) (x : Exn) (k : ζ) (f : α → κ → SR σ ρ κ' l ξ) : (RF.ex x k : RF α κ ζ).bindF kx f = .ex x (kx k) := rfl
@[simp] theorem sbind_nx (s : σ) (f : σ → SR σ' ρ κ l ξ) : (SR.nx s).bind f = f s := rfl
@[simp] theorem sbind_rt (r : ρ) (k : κ) (f : σ → SR σ' ρ κ l ξ) : (SR.rt r k).bind f = .rt r k := rfl
@[simp] theorem sbind_ex (x : Exn) (k : ξ) (f : σ → SR σ' ρ κ l ξ) : (SR.ex x k).bind f = .ex x k := rfl
@[simp] theorem fn_nx (nx : κ → RF ρ κ ξ) (k : κ) : SR.fn nx (.nx k) = nx k := rfl
@[simp] theorem fn_rt (nx : κ → RF ρ κ ξ) (r : ρ) (k : κ) : SR.fn nx (.rt r k) = .ok r k := rfl
@[simp] theorem fn_ex (nx : κ → RF ρ κ ξ) (x : Exn) (k : ξ) : SR.fn nx (.ex x k) = .ex x k := rfl
@[simp] theorem rf_ok (a : α) (k : κ) : (RF.ok a k : RF α κ ζ).r = .ok a := rfl
@[simp] theorem rf_ex (x : Exn) (k : ζ) : (RF.ex x k : RF α κ ζ).r = .ex x := rfl
@[simp] theorem mk_ok (k : κ) : (RF.ok () k : RF Unit κ ζ).mk = .ok k := rfl
@[simp] theorem mk_ex (x : Exn) (k : ζ) : (RF.ex x k : RF Unit κ ζ).mk = .ex x := rfl
@[simp] theorem lift_ok (k : κ) (kx : ζ) (a : α) : (R.ok a).lift k kx = .ok a k := rfl
theorem gd_t {c : Prop} [Decidable c] (h : c) (a : α) : R.gd c a = .ok a := by unfold R.gd; exact if_pos h
end
end Ty
namespace Ty
open PySem L2 Tr
section
variable {sp sp' sp1 sp2 xsp : Sp} {env : En} {α β γ δ κ κ' σ σ' ρ l l' ξ ξ' ζ ζ' : Type} {X : Xt ρ κ l ξ}
theorem ep_andt {a b : ME} {y : Bool} {ra : Rs} (ha : EP sp a ra) (hx : ra.d = .im (.bl true)) (hb : EP sp b (.own (.im (.bl y)))) : EP sp (mAnd a b) (.own (.im (.bl y))) := fun env hr => by
  simp only [mAnd, ha env hr, hx, hb env hr]
theorem ck_np {g : List Rs → Rz Rs} {a : γ} {f : γ → Rs} (h : g [] = .ok (f a)) : CK sp [] g (.ok a) f := fun _ _ => h
theorem ip_enL {m : ME} {r : Rs} {e : α → D} {xs : List α} (h : EP sp m r) (hi : itemsOf r.d = some (xs.map e) := by rfl) : IP sp (iEn m) ((enL xs).map (eU2 eI e)) (rootOf r) := by
  have := ip_en h hi
  rw [en_map] at this
  exact this
theorem ip_zpL {m n : ME} {r s : Rs} {e : α → D} {f : β → D} {xs : List α} {ys : List β} (h : EP sp m r) (h' : EP sp n s) (ho : noOwn r = true) (ho' : noOwn s = true) (hi : itemsOf r.d = some (xs.map e) := by rfl) (hj : itemsOf s.d = some (ys.map f) := by rfl) : IP sp (iZp m n) ((List.zip xs ys).map (eU2 e f)) (rootOf r ++ rootOf s) := by
  have := ip_zp h h' ho ho' hi hj
  rw [zp_map] at this
  exact this
def RF.thG (A : RF α κ ζ) (G : α → κ → R β) : RF β κ ζ := match A with
  | .ok a k => match G a k with
    | .ok b => .ok b k
    | _ => .er
  | .ex x k => .ex x k
  | .er => .er
@[simp] theorem thG_ok (a : α) (k : κ) (G : α → κ → R β) : RF.thG (.ok a k : RF α κ ζ) G = match G a k with
    | .ok b => .ok b k
    | _ => .er := rfl
theorem df_mutEp {ky : D → Bool} {op : D → List D → Option (D × D)} {i : Nat} {me : EE} {r : Rs} {d dv : D} {G : R β} {f : β → D} (h : sp[i]? = some (some (.own d))) (hk : ky d = true) (hm : XP sp me r sp1) (hd : rOwn r = some dv) (h1 : sp1[i]? = some (some (.own d))) (hG : MU (op d [dv]) [] d G f) : DF xsp sp (sEx (eMutE ky op i me)) G (fun b => sp1.set i (some (.own (f b)))) := fun env hr => by
  obtain ⟨e, h2, h3⟩ := hm env hr
  cases G with
  | ok b =>
    obtain ⟨x', r', g1, g2⟩ := hG
    simp only [setP] at g2
    subst g2
    exact ⟨_, by simp only [sEx, eMutE, hr.at_ h, hk, reduceIte, h2, hd, h3.at_ h1, g1], h3.set i _⟩
  | ex x => exact hG.elim
  | er => trivial
end
end Ty
namespace Ty
open PySem L2 Tr
section
variable {sp sp' sp1 sp2 xsp : Sp} {env : En} {α β γ δ κ κ' σ σ' ρ l l' ξ ξ' ζ ζ' : Type} {X : Xt ρ κ l ξ}
theorem tgo_n {j : Nat} {d : D} : TgOk (toN j) d sp (sp.set j (some (.own d))) := fun env hr => ⟨_, rfl, hr.set j _⟩
theorem tgos_n : TgsOk tosNil [] sp sp := fun env hr => ⟨env, rfl, hr⟩
theorem tgos_c {f : TgF} {fs : TgsF} {d : D} {ds : List D} (h : TgOk f d sp sp1) (t : TgsOk fs ds sp1 sp') : TgsOk (tosCons f fs) (d :: ds) sp sp' := fun env hr => by
  obtain ⟨e, h1, h2⟩ := h env hr
  obtain ⟨e2, h3, h4⟩ := t e h2
  exact ⟨e2, by simp only [tosCons, h1, h3], h4⟩
theorem tgo_t {fs : TgsF} {xs : List D} (t : TgsOk fs xs sp sp') : TgOk (toT fs) (.tup xs) sp sp' := fun env hr => by
  obtain ⟨e, h1, h2⟩ := t env hr
  exact ⟨e, by simp only [toT, h1], h2⟩
theorem df_uno {f : TgF} {m : ME} {A : R α} {fa : α → D} {po : α → Sp} (h : EF sp m A (fun a => .own (fa a))) (hx : Sub sp xsp) (ht : ∀ a, TgOk f (fa a) sp (po a)) : DF xsp sp (sUnO f m) A po := fun env hr => by
  have := h env hr
  cases A with
  | ok a =>
    simp only [RzR] at this
    obtain ⟨e, h1, h2⟩ := ht a env hr
    exact ⟨e, by simp only [sUnO, this, h1], h2⟩
  | ex x => simp only [RzR] at this; exact ⟨env, by simp only [sUnO, this], hr.sub hx⟩
  | er => trivial
@[simp] theorem map_ok (a : α) (k : κ) (g : κ → κ') (gx : ζ → ζ') : (RF.ok a k : RF α κ ζ).map g gx = .ok a (g k) := rfl
@[simp] theorem map_ex (x : Exn) (k : ζ) (g : κ → κ') (gx : ζ → ζ') : (RF.ex x k : RF α κ ζ).map g gx = .ex x (gx k) := rfl
end
end Ty
namespace Ty
open PySem L2 Tr
section
variable {α β γ : Type}
theorem ints_snd {kf : γ → Key} : ∀ ps : List (γ × Int), intsD (ps.map fun p => eI p.2) = some (ps.map (·.2)) := fun ps => by
  have := ints_map (ps.map (·.2))
  rwa [List.map_map] at this
theorem o_vals {g : List Int → Option Int} {d : D} {kf : γ → Key} {ps : List (γ × Int)} (hd : unfz d = eM kf eI ps) : OpR (fVals g [d]) (R.ofO (g (ps.map (·.2)))) eI := opr_o (by
  unfold fVals
  simp only [hd]
  rw [ints_snd (kf := kf)])
def wipeP (sp : Sp) : List Nat → Sp
  | [] => sp
  | j :: js => (wipeP sp js).set j none
theorem wipe_rel {sp : Sp} {env : En} (h : Rel sp env) : ∀ js : List Nat, Rel (wipeP sp js) (wipeE env js)
  | [] => h
  | j :: js => (wipe_rel h js).wipe j none
theorem lcG_go {sp : Sp} {sp1 : α → Sp} {e0 : α → D} {js : List Nat} {tf : TgF} {mt : MT} {me : ME} {t : α → R Bool} {E : α → R β} {fr : β → Rs} {f : β → D} {env : En} (hr : Rel (wipeP sp js) (wipeE env js)) (hg : ∀ a, TgOk tf (e0 a) (wipeP sp js) (sp1 a)) (ht : ∀ a, TF (sp1 a) mt (t a)) (he : ∀ a, EF (sp1 a) me (E a) fr) (hf : ∀ b, (fr b).d = f b) (hc : ∀ b, copyD (f b) = true) : ∀ (xs : List α) (acc : List D), match lcR t E xs with
    | .ok bs => Tr.lcG js tf mt me env (xs.map e0) acc = .ok (acc ++ bs.map f)
    | _ => True
  | [], acc => by simp [lcR, Tr.lcG]
  | a :: xs, acc => by
    obtain ⟨e0', g1, g2⟩ := hg a _ hr
    have h1 := ht a _ g2
    simp only [lcR]
    cases hta : t a with
    | ok q =>
      rw [hta] at h1
      obtain ⟨e, h2, h3⟩ := h1
      cases q with
      | false =>
        have ih := lcG_go hr hg ht he hf hc xs acc
        simp only
        cases hl : lcR t E xs with
        | ok bs => rw [hl] at ih; simp only [List.map_cons, Tr.lcG, g1, h2]; exact ih
        | ex x => trivial
        | er => trivial
      | true =>
        have h4 := he a e h3
        simp only
        cases hE : E a with
        | ok b =>
          rw [hE] at h4
          simp only [RzR] at h4
          have ih := lcG_go hr hg ht he hf hc xs (acc ++ [f b])
          simp only
          cases hl : lcR t E xs with
          | ok bs => rw [hl] at ih; simp only at ih ⊢; simp only [List.map_cons, Tr.lcG, g1, h2, h4, hf, hc, reduceIte, ih, List.append_assoc, List.singleton_append]
          | ex x => trivial
          | er => trivial
        | ex x => trivial
        | er => trivial
    | ex x => trivial
    | er => trivial
theorem itD_map {kf : γ → Key} {e : α → D} {ek : γ → D} (hk : ∀ x, D.im (kV (kf x)) = ek x) : ∀ ps : List (γ × α), itD (ps.map fun p => kf p.1) (ps.map fun p => e p.2) = ps.map fun a => .tup [ek a.1, e a.2]
  | [] => rfl
  | p :: ps => by
    have ih := itD_map (e := e) hk ps
    unfold itD at ih ⊢
    simp only [List.map_cons, List.zip_cons_cons, hk, ih]
theorem ef_lcI {sp : Sp} {i : Nat} {ps : List (γ × α)} {kf : γ → Key} {e : α → D} {ek : γ → D} {js : List Nat} {tf : TgF} {mt : MT} {me : ME} {t : γ × α → R Bool} {E : γ × α → R β} {fr : β → Rs} {f : β → D} {sp1 : γ × α → Sp} (hk : ∀ x, D.im (kV (kf x)) = ek x) (h : sp[i]? = some (some (.own (eM kf e ps)))) (hg : ∀ a : γ × α, TgOk tf (.tup [ek a.1, e a.2]) (wipeP (roP sp) js) (sp1 a)) (ht : ∀ a, TF (sp1 a) mt (t a)) (he : ∀ a, EF (sp1 a) me (E a) fr) (hf : ∀ b, (fr b).d = f b) (hc : ∀ b, copyD (f b) = true) : EF sp (mLcI i js tf mt me) (Ty.lcG ps t E) (fun bs => .own (.lst (bs.map f))) := fun env hr => by
  unfold Ty.lcG
  by_cases hl : ps.length ≤ 1000000
  · rw [if_pos hl]
    have go := lcG_go (env := roE env) (e0 := fun a : γ × α => .tup [ek a.1, e a.2]) (wipe_rel hr.ro js) hg ht he hf hc ps []
    cases h2 : lcR t E ps with
    | ok bs =>
      rw [h2] at go
      simp only [List.nil_append] at go
      simp only [RzR, mLcI, hr.at_ h, List.length_map, hl, decide_true, Bool.and_true, reduceIte, itD_map hk, go]
    | ex x => exact absurd h2 (lcR_noex t E ps x)
    | er => trivial
  · rw [if_neg hl]; trivial
/-- the answer in another form -/
def RF.mpv {κ ζ : Type} (h : γ → α) : RF γ κ ζ → RF α κ ζ
  | .ok c k => .ok (h c) k
  | .ex x k => .ex x k
  | .er => .er
@[simp] theorem mpv_lift {κ ζ : Type} (h : γ → α) (k : κ) (kx : ζ) (c : γ) : RF.mpv h ((R.ok c).lift k kx) = .ok (h c) k := rfl
@[simp] theorem mpv_ok {κ ζ : Type} (h : γ → α) (k : κ) (c : γ) : RF.mpv h (.ok c k : RF γ κ ζ) = .ok (h c) k := rfl
theorem xf_mutpf {β κ ζ : Type} {sp sp1 : Sp} {ky : D → Bool} {op : D → List D → Option (D × D)} {ml : ML} {ks : List AK} {i : Nat} {p : List Nat} {d x0 : D} {A : R γ} {fd : γ → List D} {G : γ → Option (β × κ)} {fr : β → Rs} {k0 : ζ} {po : κ → Sp} {px : ζ → Sp}
    (hl : PlP sp ml i p) (h : sp[i]? = some (some (.own d))) (hg : getP p d = some x0) (hk : ky x0 = true) (hr : RwF sp ks [] A fd sp1) (h1 : sp1[i]? = some (some (.own d)))
    (hG : ∀ c b k, G c = some (b, k) → ∃ x' r, op x0 (fd c) = some (x', r) ∧ fr b = .own r ∧ Sub (sp1.set i (some (.own (setP p d x')))) (po k)) (hx : Sub sp (px k0)) : XF sp (eMut ky op ml ks) ((A.bind fun c => R.ofO (G c)).rf k0) fr po px := fun env hrel => by
  have hrow := ix_row hr env hrel
  cases A with
  | ok c =>
    obtain ⟨e, h2, h3⟩ := hrow
    simp only [R.bind]
    cases hc : G c with
    | none => trivial
    | some bk =>
      obtain ⟨b, k⟩ := bk
      obtain ⟨x', r, g1, g2, g3⟩ := hG c b k hc
      refine ⟨e.set i (some (.own (setP p d x'))), ?_, (h3.set i _).sub g3⟩
      simp only [eMut, hl env hrel, atP, hrel.at_ h, hg, hk, reduceIte, h2, h3.at_ h1, g1, g2]
  | ex x =>
    refine ⟨env, ?_, hrel.sub hx⟩
    simp only [eMut, hl env hrel, atP, hrel.at_ h, hg, hk, reduceIte, hrow]
  | er => trivial
end
end Ty
namespace Ty
open PySem L2 Tr
section
variable {α β γ : Type}
variable {xsp sp : Sp}
def R.opt : R α → Option α
  | .ok a => some a
  | _ => none
@[simp] theorem opt_ok (a : α) : R.opt (.ok a : R α) = some a := rfl
/-- a word with the answer, that may fail -/
def RF.mpr {κ ζ : Type} (h : α → R β) : RF α κ ζ → RF β κ ζ
  | .ok a k => match h a with
    | .ok b => .ok b k
    | _ => .er
  | .ex x k => .ex x k
  | .er => .er
def still : Rs → Prop
  | .own d => copyD d = true
  | .ro _ => True
  | .bor _ _ => False
end
section
variable {α β γ : Type}
theorem lcO_go {sp : Sp} {sp1 : α → Sp} {e0 : α → D} {js : List Nat} {tf : TgF} {mt : MT} {me : ME} {t : α → R Bool} {E : α → R β} {fr : β → Rs} {f : β → D} {env : En} (hr : Rel (wipeP sp js) (wipeE env js)) (hg : ∀ a, TgOk tf (e0 a) (wipeP sp js) (sp1 a)) (ht : ∀ a, TF (sp1 a) mt (t a)) (he : ∀ a, EF (sp1 a) me (E a) fr) (hf : ∀ b, keepR (fr b) = some (f b)) : ∀ (xs : List α) (acc : List D), match lcR t E xs with
    | .ok bs => Tr.lcO js tf mt me env (xs.map e0) acc = .ok (acc ++ bs.map f)
    | _ => True
  | [], acc => by simp [lcR, Tr.lcO]
  | a :: xs, acc => by
    obtain ⟨e0', g1, g2⟩ := hg a _ hr
    have h1 := ht a _ g2
    simp only [lcR]
    cases hta : t a with
    | ok q =>
      rw [hta] at h1
      obtain ⟨e, h2, h3⟩ := h1
      cases q with
      | false =>
        have ih := lcO_go hr hg ht he hf xs acc
        simp only
        cases hl : lcR t E xs with
        | ok bs => rw [hl] at ih; simp only [List.map_cons, Tr.lcO, g1, h2]; exact ih
        | ex x => trivial
        | er => trivial
      | true =>
        have h4 := he a e h3
        simp only
        cases hE : E a with
        | ok b =>
          rw [hE] at h4
          simp only [RzR] at h4
          have ih := lcO_go hr hg ht he hf xs (acc ++ [f b])
          simp only
          cases hl : lcR t E xs with
          | ok bs => rw [hl] at ih; simp only at ih ⊢; simp only [List.map_cons, Tr.lcO, g1, h2, h4, hf, ih, List.append_assoc, List.singleton_append]
          | ex x => trivial
          | er => trivial
        | ex x => trivial
        | er => trivial
    | ex x => trivial
    | er => trivial
theorem ef_lcO {sp : Sp} {mi : MI} {xs : List α} {e0 : α → D} {fz : List Nat} {js : List Nat} {tf : TgF} {mt : MT} {me : ME} {t : α → R Bool} {E : α → R β} {fr : β → Rs} {f : β → D} {sp1 : α → Sp} (hi : IP sp mi (xs.map e0) fz) (hz : fz.all (fun i => decide (i < sp.length)) = true) (hg : ∀ a, TgOk tf (e0 a) (wipeP (roP sp) js) (sp1 a)) (ht : ∀ a, TF (sp1 a) mt (t a)) (he : ∀ a, EF (sp1 a) me (E a) fr) (hf : ∀ b, keepR (fr b) = some (f b)) : EF sp (mLcO mi js tf mt me) (Ty.lcG xs t E) (fun bs => .own (.lst (bs.map f))) := fun env hr => by
  unfold Ty.lcG
  by_cases hl : xs.length ≤ 1000000
  · rw [if_pos hl]
    have hz' : fz.all (fun i => decide (i < env.length)) = true := by rw [hr.len]; exact hz
    have go := lcO_go (env := roE env) (wipe_rel hr.ro js) hg ht he hf xs []
    cases h : lcR t E xs with
    | ok bs =>
      rw [h] at go
      simp only [List.nil_append] at go
      simp only [RzR, mLcO, hi env hr, hz', List.length_map, hl, decide_true, Bool.and_true, reduceIte, go]
    | ex x => exact absurd h (lcR_noex t E xs x)
    | er => trivial
  · rw [if_neg hl]; trivial
theorem ef_lcOf {sp : Sp} {mi : MI} {A : R γ} {g : γ → List α} {e0 : α → D} {fz : List Nat} {js : List Nat} {tf : TgF} {mt : MT} {me : ME} {t : α → R Bool} {E : α → R β} {fr : β → Rs} {f : β → D} {sp1 : α → Sp} (hi : IF sp mi A (fun c => (g c).map e0) fz) (hz : fz.all (fun i => decide (i < sp.length)) = true) (hg : ∀ a, TgOk tf (e0 a) (wipeP (roP sp) js) (sp1 a)) (ht : ∀ a, TF (sp1 a) mt (t a)) (he : ∀ a, EF (sp1 a) me (E a) fr) (hf : ∀ b, keepR (fr b) = some (f b)) : EF sp (mLcO mi js tf mt me) (A.bind fun c => Ty.lcG (g c) t E) (fun bs => .own (.lst (bs.map f))) := fun env hr => by
  have hh := hi env hr
  cases A with
  | ok c =>
    exact (show EF (sp) (mLcO (fun _ => .ok ((g c).map e0) fz) js tf mt me) (Ty.lcG (g c) t E) (fun bs => .own (.lst (bs.map f))) from ef_lcO (fun _ _ => rfl) hz hg ht he hf) env hr |> fun h => by
      have : mLcO mi js tf mt me env = mLcO (fun _ => .ok ((g c).map e0) fz) js tf mt me env := by simp only [mLcO, hh]
      rw [this]; exact h
  | ex x => simp only [R.bind, RzR, mLcO, hh]
  | er => trivial
end
end Ty
namespace Ty
open PySem L2 Tr
end Ty
namespace Ty
open PySem L2 Tr
end Ty
namespace Ty
open PySem L2 Tr
end Ty
namespace Ty
open PySem L2 Tr
end Ty
namespace Ty
open PySem L2 Tr
end Ty
namespace Ty
open PySem L2 Tr
end Ty
namespace Ty
open PySem L2 Tr
end Ty
namespace Ty
open PySem L2 Tr
section
variable {sp : Sp} {α σ ρ κ l ξ ρ2 κ2 l2 ξ2 : Type} {X : Xt ρ κ l ξ} {X2 : Xt ρ2 κ2 l2 ξ2}
abbrev eW : List D → D := fun ds => .lst ds
@[simp] def kpOk (K : List Nat) : Nat → Sp → Bool
  | k, e :: sp => (if k ∈ K then e.isSome else true) && kpOk K (k + 1) sp
  | _, [] => true
theorem kp2_rel {K : List Nat} : ∀ {k : Nat} {sp : Sp} {env : En}, kpOk K k sp = true → Rel sp env → kp2 K k env = kp2 K k sp
  | _, [], [], _, _ => rfl
  | k, none :: sp, e :: env, h, r => by
    simp only [kpOk, Bool.and_eq_true] at h
    have hk : ¬ k ∈ K := fun hk => by have := h.1; rw [if_pos hk] at this; cases this
    simp only [kp2, if_neg hk, kp2_rel h.2 (show Rel sp env from r)]
  | k, some s :: sp, e :: env, h, r => by
    simp only [kpOk, Bool.and_eq_true] at h
    obtain ⟨he, r2⟩ := (show e = some s ∧ Rel sp env from r)
    subst he
    simp only [kp2, kp2_rel h.2 r2]
  | _, [], _ :: _, _, r => r.elim
  | _, none :: _, [], _, r => r.elim
  | _, some _ :: _, [], _, r => r.elim
theorem rel_refl : ∀ sp : Sp, Rel sp sp
  | [] => trivial
  | none :: sp => rel_refl sp
  | some _ :: sp => ⟨rfl, rel_refl sp⟩
end
end Ty
namespace Ty
open PySem L2 Tr
end Ty
namespace Ty
open PySem L2 Tr
end Ty
namespace Ty
open PySem L2 Tr
end Ty
namespace Ty
open PySem L2 Tr
end Ty
namespace Ty
open PySem L2 Tr
end Ty
namespace Ty
open PySem L2 Tr
end Ty
namespace Ty
open PySem L2 Tr
end Ty
namespace Ty
open PySem L2 Tr
section
variable {sp : Sp} {α β γ σ ρ κ l ξ ρ2 κ2 l2 ξ2 : Type} {X : Xt ρ κ l ξ} {X2 : Xt ρ2 κ2 l2 ξ2}
/-- a list one of whose items is lent -/
abbrev eMkL (a : Addr) (e : α → D) (p : List α × List α) : D := .lst (p.1.map e ++ .im (.ref a) :: p.2.map e)
def mkO (a : Addr) (e : α → D) : Option α → D
  | some y => e y
  | none => .im (.ref a)
theorem mk_map (a : Addr) (e : α → D) (p : List α × List α) : p.1.map e ++ .im (.ref a) :: p.2.map e = (p.1.map some ++ none :: p.2.map some).map (mkO a e) := by
  simp [Function.comp_def, mkO]
def getMk (p : List α × List α) (i : Int) : R α := match atI (p.1.map some ++ none :: p.2.map some) i with
  | some (some x) => .ok x
  | _ => .er
theorem o_lenK {a : Addr} {e : α → D} {p : List α × List α} {d : D} (hd : d = eMkL a e p) : fLen [d] = some (eI ((p.1.length : Int) + 1 + (p.2.length : Int))) := by
  subst hd
  have h := o_lenL (d := eMkL a e p) (e := fun d => d) (xs := p.1.map e ++ .im (.ref a) :: p.2.map e) (by show D.lst _ = D.lst _; rw [List.map_id']) (fun s h => by cases h)
  rw [h]
  congr 3
  simp; omega
theorem ixk {r : Rs} {a : Addr} {e : α → D} {p : List α × List α} {i : Int} {f : α → Rs} (hd : r.d = eMkL a e p) (hf : ∀ x, Zp r (some (e x)) = .ok (f x)) : RzR (gI [r, .own (eI i)]) (getMk p i) f := by
  have h1 : gI [r, .own (eI i)] = Zp r (atI (p.1.map e ++ .im (.ref a) :: p.2.map e) i) := by
    show ixR _ _ = _
    rw [ixR_0 (by rw [hd]; rfl) (s := .own (eI i)) rfl, subR_n (by rw [hd]; intro d h; cases h), hd]; rfl
  rw [h1, mk_map, atI_map, getMk]
  cases atI (p.1.map some ++ none :: p.2.map some) i with
  | none => trivial
  | some o => cases o with
    | none => trivial
    | some x => exact hf x
def alE (B : List α × List α → Int → α → σ → SR (α × σ) ρ2 κ2 (α × σ) ξ2) : List α → List α → σ → SR (List α × σ) ρ κ l ξ
  | done, [], s => .nx (done, s)
  | done, a :: as, s => match B (done, as) (done.length : Int) a s with
    | .nx q => alE B (done ++ [q.1]) as q.2
    | .ct q => alE B (done ++ [q.1]) as q.2
    | _ => .er
theorem ae_go {K : List Nat} {i q0 j : Nat} {b : MS} {e : α → D} {B : List α × List α → Int → α → σ → SR (α × σ) ρ2 κ2 (α × σ) ξ2} {J : σ → Sp} (hij : i ≠ j) (hiq : i ≠ q0) (he : ∀ x, isRf (e x) = true) (hJl : ∀ s, i < (J s).length ∧ j < (J s).length)
    (hb : ∀ (a : Addr) (p : List α × List α) (n : Int) (x : α) (s : σ), SimS (X2.lp fun q : α × σ => ((J q.2).set i (some (.own (eMkL a e p)))).set j (some (.own (e q.1)))) ((((J s).set q0 (some (.own (eI n)))).set i (some (.own (eMkL a e p)))).set j (some (.own (e x)))) b (B p n x s) (fun q => ((J q.2).set i (some (.own (eMkL a e p)))).set j (some (.own (e q.1)))))
    (hJj : ∀ s, (J s).set j none = J s) (hO : ∀ s d, kpOk K 0 ((J s).set i (some (.own d))) = true) (hE : ∀ s d, kp2 K 0 ((J s).set i (some (.own d))) = (J s).set i (some (.own d))) :
    ∀ (rest : List α) (done : List α) (s : σ) (env : En) (r : Nat), rest.length < r → Rel ((J s).set i (some (.own (eL e (done ++ rest))))) env →
      SimR X (aeGo K i q0 j b r done.length env) (alE B done rest s : SR (List α × σ) ρ κ l ξ) (fun q => (J q.2).set i (some (.own (eL e q.1))))
  | [], done, s, env, r, hr, hR => by
    have at_ : env[i]? = some (some (.own (eL e (done ++ [])))) := hR.at_ (by rw [List.getElem?_set_self (hJl s).1])
    rw [List.append_nil] at at_ hR
    have res : aeGo K i q0 j b r done.length env = .nx env := by
      cases r with
      | zero => omega
      | succ r =>
        unfold aeGo
        rw [at_]
        simp only [eL]
        rw [List.getElem?_eq_none (by simp)]
    exact ⟨env, res, hR⟩
  | x :: rest, done, s, env, r, hr, hR => by
    have at_ : env[i]? = some (some (.own (eL e (done ++ x :: rest)))) := hR.at_ (by rw [List.getElem?_set_self (hJl s).1])
    cases r with
    | zero => omega
    | succ r =>
      simp only [List.length_cons] at hr
      have gx : ((done ++ x :: rest).map e)[done.length]? = some (e x) := by simp
      have run : ∀ q : α × σ, (B (done, rest) (done.length : Int) x s = .nx q ∨ B (done, rest) (done.length : Int) x s = .ct q) → ∀ a, finA K i j [done.length] a (b (lentE i q0 j done.length (.lst ((done ++ x :: rest).map e)) (e x) a env)) = some ((J q.2).set i (some (.own (eL e (done ++ q.1 :: rest))))) := fun q hq a => by
        have hds : setP [done.length] (.lst ((done ++ x :: rest).map e)) (.im (.ref a)) = eMkL a e (done, rest) := by simp [setP, getP, kids, setKids]
        have h1 := hb a (done, rest) (done.length : Int) x s (((env.set q0 (some (.own (eI (done.length : Int))))).set i (some (.own (eMkL a e (done, rest))))).set j (some (.own (e x)))) (by
          have r1 := ((hR.set q0 (.own (eI (done.length : Int)))).set i (.own (eMkL a e (done, rest)))).set j (.own (e x))
          rw [List.set_comm _ _ hiq, List.set_set] at r1
          exact r1)
        have key : ∃ env2, (b (((env.set q0 (some (.own (eI (done.length : Int))))).set i (some (.own (eMkL a e (done, rest))))).set j (some (.own (e x)))) = .nx env2 ∨ b (((env.set q0 (some (.own (eI (done.length : Int))))).set i (some (.own (eMkL a e (done, rest))))).set j (some (.own (e x)))) = .ct env2) ∧ Rel (((J q.2).set i (some (.own (eMkL a e (done, rest))))).set j (some (.own (e q.1)))) env2 := by
          rcases hq with hq | hq
          · rw [hq] at h1
            obtain ⟨env2, z, r2⟩ := h1
            exact ⟨env2, .inl z, r2⟩
          · rw [hq] at h1
            obtain ⟨env2, z, r2⟩ := h1
            exact ⟨env2, .inr z, r2⟩
        obtain ⟨env2, hz, r2⟩ := key
        have a1 : env2[i]? = some (some (.own (eMkL a e (done, rest)))) := r2.at_ (by rw [List.getElem?_set_ne (fun z => hij z.symm), List.getElem?_set_self (hJl q.2).1])
        have a2 : env2[j]? = some (some (.own (e q.1))) := r2.at_ (by rw [List.getElem?_set_self (by rw [List.length_set]; exact (hJl q.2).2)])
        have gm : getP [done.length] (eMkL a e (done, rest)) = some (.im (.ref a)) := by simp [getP, kids]
        have sm : setP [done.length] (eMkL a e (done, rest)) (e q.1) = eL e (done ++ q.1 :: rest) := by
          simp [setP, getP, kids, setKids, eL]
        have kk : kp2 K 0 ((env2.set j none).set i (some (.own (eL e (done ++ q.1 :: rest))))) = (J q.2).set i (some (.own (eL e (done ++ q.1 :: rest)))) := by
          have r3 := (r2.wipe j none).set i (.own (eL e (done ++ q.1 :: rest)))
          rw [List.set_set, List.set_comm _ _ hij, hJj, List.set_set] at r3
          rw [kp2_rel (hO q.2 _) r3, hE]
        unfold lentE lentA
        rw [hds]
        rcases hz with hz | hz
        · rw [hz]
          simp only [finA, a1, a2, gm, if_true, sm, kk]
        · rw [hz]
          simp only [finA, a1, a2, gm, if_true, sm, kk]
      have step : ∀ q : α × σ, (B (done, rest) (done.length : Int) x s = .nx q ∨ B (done, rest) (done.length : Int) x s = .ct q) → SimR X (aeGo K i q0 j b (r + 1) done.length env) (alE B (done ++ [q.1]) rest q.2 : SR (List α × σ) ρ κ l ξ) (fun q => (J q.2).set i (some (.own (eL e q.1)))) := fun q hq => by
        have z := decO_of (run q hq)
        have u : aeGo K i q0 j b (r + 1) done.length env = aeGo K i q0 j b r (done.length + 1) ((J q.2).set i (some (.own (eL e (done ++ q.1 :: rest))))) := by
          conv => lhs; unfold aeGo
          rw [at_]
          simp only [eL] at z ⊢
          rw [gx]
          simp only [he x, if_true]
          rw [z]
        rw [u]
        have := ae_go hij hiq he hJl hb hJj hO hE rest (done ++ [q.1]) q.2 ((J q.2).set i (some (.own (eL e (done ++ q.1 :: rest))))) r (by omega) (by
          rw [List.append_assoc]; exact rel_refl _)
        rw [List.length_append, List.length_singleton] at this
        exact this
      simp only [alE]
      cases hB : B (done, rest) (done.length : Int) x s with
      | nx q => exact step q (.inl hB)
      | ct q => exact step q (.inr hB)
      | rt _ _ => trivial
      | bk _ => trivial
      | ex _ _ => trivial
      | er => trivial
theorem s_forE2 {K : List Nat} {i q0 j : Nat} {b : MS} {e : α → D} {B : List α × List α → Int → α → σ → SR (α × σ) ρ2 κ2 (α × σ) ξ2} {J : σ → Sp} {Jb : Addr → List α × List α → Int → α → σ → Sp} {Jc : Addr → List α × List α → α → σ → Sp} {Jf : List α × σ → Sp} {xs : List α} {s0 : σ} (hij : i ≠ j) (hiq : i ≠ q0) (he : ∀ x, isRf (e x) = true) (hJl : ∀ s, i < (J s).length ∧ j < (J s).length ∧ q0 < (J s).length)
    (hJb : ∀ a p n x s, (((J s).set q0 (some (.own (eI n)))).set i (some (.own (eMkL a e p)))).set j (some (.own (e x))) = Jb a p n x s) (hJc : ∀ a p x s, ((J s).set i (some (.own (eMkL a e p)))).set j (some (.own (e x))) = Jc a p x s) (hJf : ∀ q, (J q.2).set i (some (.own (eL e q.1))) = Jf q) (h0 : Sub sp (Jf (xs, s0)))
    (hb : ∀ (a : Addr) (p : List α × List α) (n : Int) (x : α) (s : σ), SimS (X2.lp fun q : α × σ => Jc a p q.1 q.2) (Jb a p n x s) b (B p n x s) (fun q => Jc a p q.1 q.2))
    (hJj : ∀ s, (J s).set j none = J s) (hO : ∀ s d, kpOk K 0 ((J s).set i (some (.own d))) = true) (hE : ∀ s d, kp2 K 0 ((J s).set i (some (.own d))) = (J s).set i (some (.own d))) : SimS X sp (sForE K i q0 j b) (alE B [] xs s0) Jf := by
  have e1 : (fun q : List α × σ => (J q.2).set i (some (.own (eL e q.1)))) = Jf := funext hJf
  rw [← e1]
  rw [← hJf] at h0
  intro env hr
  have hR := hr.sub h0
  have at_ : env[i]? = some (some (.own (eL e xs))) := hR.at_ (by rw [List.getElem?_set_self (hJl s0).1])
  have hl : j < env.length ∧ q0 < env.length := by rw [hR.len, List.length_set]; exact ⟨(hJl s0).2.1, (hJl s0).2.2⟩
  have := ae_go (X := X) (X2 := X2) (K := K) (b := b) (B := B) hij hiq he (fun s => ⟨(hJl s).1, (hJl s).2.1⟩) (fun a p n x s => by
    have e2 : (fun q : α × σ => ((J q.2).set i (some (.own (eMkL a e p)))).set j (some (.own (e q.1)))) = fun q => Jc a p q.1 q.2 := funext fun q => hJc a p q.1 q.2
    rw [e2, hJb]
    exact hb a p n x s) hJj hO hE xs [] s0 env (xs.length + 1) (by omega) hR
  unfold sForE
  rw [at_]
  simp only [eL, hl, and_self, if_true, List.length_map]
  exact this
def alT (B : β × γ × α → σ → SR (α × σ) ρ2 κ2 (α × σ) ξ2) : List (β × γ × α) → List (β × γ × α) → σ → SR (List (β × γ × α) × σ) ρ κ l ξ
  | done, [], s => .nx (done, s)
  | done, a :: as, s => match B a s with
    | .nx q => alT B (done ++ [(a.1, a.2.1, q.1)]) as q.2
    | .ct q => alT B (done ++ [(a.1, a.2.1, q.1)]) as q.2
    | _ => .er
theorem at_go {K : List Nat} {i p0 q0 j : Nat} {b : MS} {e1 : β → D} {e2 : γ → D} {e : α → D} {B : β × γ × α → σ → SR (α × σ) ρ2 κ2 (α × σ) ξ2} {J : σ → Sp} (hij : i ≠ j) (hiq : i ≠ q0) (hip : i ≠ p0) (he : ∀ x, isRf (e x) = true) (h1 : ∀ x, ∃ u, e1 x = .im u) (h2 : ∀ x, ∃ u, e2 x = .im u) (hJl : ∀ s, i < (J s).length ∧ j < (J s).length)
    (hb : ∀ (ds : List D) (x : β × γ × α) (s : σ), SimS (X2.lp fun q : α × σ => ((J q.2).set i (some (.own (.lst ds)))).set j (some (.own (e q.1)))) (((((J s).set p0 (some (.own (e1 x.1)))).set q0 (some (.own (e2 x.2.1)))).set i (some (.own (.lst ds)))).set j (some (.own (e x.2.2)))) b (B x s) (fun q => ((J q.2).set i (some (.own (.lst ds)))).set j (some (.own (e q.1)))))
    (hJj : ∀ s, (J s).set j none = J s) (hO : ∀ s d, kpOk K 0 ((J s).set i (some (.own d))) = true) (hE : ∀ s d, kp2 K 0 ((J s).set i (some (.own d))) = (J s).set i (some (.own d))) :
    ∀ (rest : List (β × γ × α)) (done : List (β × γ × α)) (s : σ) (env : En) (r : Nat), rest.length < r → Rel ((J s).set i (some (.own (eL (eU3 e1 e2 e) (done ++ rest))))) env →
      SimR X (atGo K i p0 q0 j b r done.length env) (alT B done rest s : SR (List (β × γ × α) × σ) ρ κ l ξ) (fun q => (J q.2).set i (some (.own (eL (eU3 e1 e2 e) q.1))))
  | [], done, s, env, r, hr, hR => by
    have at_ : env[i]? = some (some (.own (eL (eU3 e1 e2 e) (done ++ [])))) := hR.at_ (by rw [List.getElem?_set_self (hJl s).1])
    rw [List.append_nil] at at_ hR
    have res : atGo K i p0 q0 j b r done.length env = .nx env := by
      cases r with
      | zero => omega
      | succ r =>
        unfold atGo
        rw [at_]
        simp only [eL]
        rw [List.getElem?_eq_none (by simp)]
    exact ⟨env, res, hR⟩
  | x :: rest, done, s, env, r, hr, hR => by
    have at_ : env[i]? = some (some (.own (eL (eU3 e1 e2 e) (done ++ x :: rest)))) := hR.at_ (by rw [List.getElem?_set_self (hJl s).1])
    obtain ⟨u, hu⟩ := h1 x.1
    obtain ⟨v, hv⟩ := h2 x.2.1
    cases r with
    | zero => omega
    | succ r =>
      simp only [List.length_cons] at hr
      have gx : ((done ++ x :: rest).map (eU3 e1 e2 e))[done.length]? = some (.tup [.im u, .im v, e x.2.2]) := by simp [hu, hv]
      have run : ∀ q : α × σ, (B x s = .nx q ∨ B x s = .ct q) → ∀ a, finA K i j [done.length, 2] a (b (lentT i p0 q0 j done.length (.lst ((done ++ x :: rest).map (eU3 e1 e2 e))) (e x.2.2) u v a env)) = some ((J q.2).set i (some (.own (eL (eU3 e1 e2 e) (done ++ (x.1, x.2.1, q.1) :: rest))))) := fun q hq a => by
        obtain ⟨ds, hds0⟩ : ∃ ds, ds = done.map (eU3 e1 e2 e) ++ .tup [.im u, .im v, .im (.ref a)] :: rest.map (eU3 e1 e2 e) := ⟨_, rfl⟩
        have hds : setP [done.length, 2] (.lst ((done ++ x :: rest).map (eU3 e1 e2 e))) (.im (.ref a)) = .lst ds := by rw [hds0]; simp [setP, getP, kids, setKids, hu, hv]
        have h1 := hb ds x s ((((env.set p0 (some (.own (.im u)))).set q0 (some (.own (.im v)))).set i (some (.own (.lst ds)))).set j (some (.own (e x.2.2)))) (by
          have r1 := (((hR.set p0 (.own (.im u))).set q0 (.own (.im v))).set i (.own (.lst ds))).set j (.own (e x.2.2))
          rw [List.set_comm _ _ hip, List.set_comm _ _ hiq, List.set_set] at r1
          rw [hu, hv]
          exact r1)
        have key : ∃ env2, (b ((((env.set p0 (some (.own (.im u)))).set q0 (some (.own (.im v)))).set i (some (.own (.lst ds)))).set j (some (.own (e x.2.2)))) = .nx env2 ∨ b ((((env.set p0 (some (.own (.im u)))).set q0 (some (.own (.im v)))).set i (some (.own (.lst ds)))).set j (some (.own (e x.2.2)))) = .ct env2) ∧ Rel (((J q.2).set i (some (.own (.lst ds)))).set j (some (.own (e q.1)))) env2 := by
          rcases hq with hq | hq
          · rw [hq] at h1
            obtain ⟨env2, z, r2⟩ := h1
            exact ⟨env2, .inl z, r2⟩
          · rw [hq] at h1
            obtain ⟨env2, z, r2⟩ := h1
            exact ⟨env2, .inr z, r2⟩
        obtain ⟨env2, hz, r2⟩ := key
        have a1 : env2[i]? = some (some (.own (.lst ds))) := r2.at_ (by rw [List.getElem?_set_ne (fun z => hij z.symm), List.getElem?_set_self (hJl q.2).1])
        have a2 : env2[j]? = some (some (.own (e q.1))) := r2.at_ (by rw [List.getElem?_set_self (by rw [List.length_set]; exact (hJl q.2).2)])
        have gm : getP [done.length, 2] (.lst ds) = some (.im (.ref a)) := by rw [hds0]; simp [getP, kids]
        have sm : setP [done.length, 2] (.lst ds) (e q.1) = eL (eU3 e1 e2 e) (done ++ (x.1, x.2.1, q.1) :: rest) := by
          rw [hds0]; simp [setP, getP, kids, setKids, eL, hu, hv]
        have kk : kp2 K 0 ((env2.set j none).set i (some (.own (eL (eU3 e1 e2 e) (done ++ (x.1, x.2.1, q.1) :: rest))))) = (J q.2).set i (some (.own (eL (eU3 e1 e2 e) (done ++ (x.1, x.2.1, q.1) :: rest)))) := by
          have r3 := (r2.wipe j none).set i (.own (eL (eU3 e1 e2 e) (done ++ (x.1, x.2.1, q.1) :: rest)))
          rw [List.set_set, List.set_comm _ _ hij, hJj, List.set_set] at r3
          rw [kp2_rel (hO q.2 _) r3, hE]
        unfold lentT lentA
        rw [hds]
        rcases hz with hz | hz
        · rw [hz]
          simp only [finA, a1, a2, gm, if_true, sm, kk]
        · rw [hz]
          simp only [finA, a1, a2, gm, if_true, sm, kk]
      have step : ∀ q : α × σ, (B x s = .nx q ∨ B x s = .ct q) → SimR X (atGo K i p0 q0 j b (r + 1) done.length env) (alT B (done ++ [(x.1, x.2.1, q.1)]) rest q.2 : SR (List (β × γ × α) × σ) ρ κ l ξ) (fun q => (J q.2).set i (some (.own (eL (eU3 e1 e2 e) q.1)))) := fun q hq => by
        have z := decO_of (run q hq)
        have uu : atGo K i p0 q0 j b (r + 1) done.length env = atGo K i p0 q0 j b r (done.length + 1) ((J q.2).set i (some (.own (eL (eU3 e1 e2 e) (done ++ (x.1, x.2.1, q.1) :: rest))))) := by
          conv => lhs; unfold atGo
          rw [at_]
          simp only [eL] at z ⊢
          rw [gx]
          simp only [he x.2.2, if_true]
          rw [z]
        rw [uu]
        have := at_go hij hiq hip he h1 h2 hJl hb hJj hO hE rest (done ++ [(x.1, x.2.1, q.1)]) q.2 ((J q.2).set i (some (.own (eL (eU3 e1 e2 e) (done ++ (x.1, x.2.1, q.1) :: rest))))) r (by omega) (by
          rw [List.append_assoc]; exact rel_refl _)
        rw [List.length_append, List.length_singleton] at this
        exact this
      simp only [alT]
      cases hB : B x s with
      | nx q => exact step q (.inl hB)
      | ct q => exact step q (.inr hB)
      | rt _ _ => trivial
      | bk _ => trivial
      | ex _ _ => trivial
      | er => trivial
theorem s_forT2 {K : List Nat} {i p0 q0 j : Nat} {b : MS} {e1 : β → D} {e2 : γ → D} {e : α → D} {B : β × γ × α → σ → SR (α × σ) ρ2 κ2 (α × σ) ξ2} {J : σ → Sp} {Jb : List D → β × γ × α → σ → Sp} {Jc : List D → α → σ → Sp} {Jf : List (β × γ × α) × σ → Sp} {xs : List (β × γ × α)} {s0 : σ} (hij : i ≠ j) (hiq : i ≠ q0) (hip : i ≠ p0) (he : ∀ x, isRf (e x) = true) (h1 : ∀ x, ∃ u, e1 x = .im u) (h2 : ∀ x, ∃ u, e2 x = .im u) (hJl : ∀ s, i < (J s).length ∧ j < (J s).length ∧ q0 < (J s).length ∧ p0 < (J s).length)
    (hJb : ∀ ds x s, ((((J s).set p0 (some (.own (e1 x.1)))).set q0 (some (.own (e2 x.2.1)))).set i (some (.own (.lst ds)))).set j (some (.own (e x.2.2))) = Jb ds x s) (hJc : ∀ ds x s, ((J s).set i (some (.own (.lst ds)))).set j (some (.own (e x))) = Jc ds x s) (hJf : ∀ q, (J q.2).set i (some (.own (eL (eU3 e1 e2 e) q.1))) = Jf q) (h0 : Sub sp (Jf (xs, s0)))
    (hb : ∀ (ds : List D) (x : β × γ × α) (s : σ), SimS (X2.lp fun q : α × σ => Jc ds q.1 q.2) (Jb ds x s) b (B x s) (fun q => Jc ds q.1 q.2))
    (hJj : ∀ s, (J s).set j none = J s) (hO : ∀ s d, kpOk K 0 ((J s).set i (some (.own d))) = true) (hE : ∀ s d, kp2 K 0 ((J s).set i (some (.own d))) = (J s).set i (some (.own d))) : SimS X sp (sForT K i p0 q0 j b) (alT B [] xs s0) Jf := by
  have e1' : (fun q : List (β × γ × α) × σ => (J q.2).set i (some (.own (eL (eU3 e1 e2 e) q.1)))) = Jf := funext hJf
  rw [← e1']
  rw [← hJf] at h0
  intro env hr
  have hR := hr.sub h0
  have at_ : env[i]? = some (some (.own (eL (eU3 e1 e2 e) xs))) := hR.at_ (by rw [List.getElem?_set_self (hJl s0).1])
  have hl : j < env.length ∧ q0 < env.length ∧ p0 < env.length := by rw [hR.len, List.length_set]; exact ⟨(hJl s0).2.1, (hJl s0).2.2.1, (hJl s0).2.2.2⟩
  have := at_go (X := X) (X2 := X2) (K := K) (b := b) (B := B) hij hiq hip he h1 h2 (fun s => ⟨(hJl s).1, (hJl s).2.1⟩) (fun ds x s => by
    have e3 : (fun q : α × σ => ((J q.2).set i (some (.own (.lst ds)))).set j (some (.own (e q.1)))) = fun q => Jc ds q.1 q.2 := funext fun q => hJc ds q.1 q.2
    rw [e3, hJb]
    exact hb ds x s) hJj hO hE xs [] s0 env (xs.length + 1) (by omega) hR
  unfold sForT
  rw [at_]
  simp only [eL, hl, and_self, if_true, List.length_map]
  exact this
end
end Ty
namespace G
open PySem L2 Tr
def top (i : Nat) : Stmt := PySem.Challenge.pw_castoff_k14_lawful_books.main.body.getD i (.Pass ⟨0, 0, 0, 0⟩)
abbrev c_Shelf : Nat := 0
abbrev c_Stock : Nat := 1
abbrev x_NoName : Nat := 1
abbrev x_NoNumber : Nat := 2
abbrev x_Twice : Nat := 3
abbrev x_TooMany : Nat := 4
abbrev x_Unknown : Nat := 5
abbrev x_TooWide : Nat := 6
abbrev x_There : Nat := 7
abbrev x_NotThere : Nat := 8
abbrev x_Full : Nat := 9
abbrev x_BadBook : Nat := 10
abbrev ft_costs : List (Nat × Nat) := [(c_Stock, 0)]
abbrev ft_places : List (Nat × Nat) := [(c_Shelf, 1)]
abbrev ft_rooms : List (Nat × Nat) := [(c_Stock, 1)]
abbrev ft_stock : List (Nat × Nat) := [(c_Shelf, 0)]
abbrev ft_there : List (Nat × Nat) := [(c_Shelf, 2)]
abbrev ft_used : List (Nat × Nat) := [(c_Shelf, 3)]
abbrev s9 : Stmt := top 33
noncomputable def mL_names_b0 : MS := (sSeq (sSet 9 (eMv 2))
 (sSeq (sIf (tBl (liftE (m2 fGt (mVar 8) (mC (.int 0)))))
 (sSet 9 (liftE (m2 fAdd (mVar 2) (mC (.str "0123456789")))))
 sSkip)
 (sSeq (sSet 10 (liftE (m2 fAdd (m2 fDiv (mVar 0) (m2 fAdd (mC (.int 64)) (m2 (orF fMul fMulS) (mC (.int 7)) (mVar 8)))) (m2 (orF fMul fMulS) (mN fInt [(m2 fEq (mVar 8) (mVar 4))]) (mVar 6)))))
 (sSet 7 (liftE (m2 fAdd (mVar 7) (mIx (mVar 9) (m2 fMod (mVar 10) (mN fLen [(mVar 9)])))))))))
noncomputable def mL_names_b1 : MS := (sSeq (sSet 7 (liftE (mC (.str ""))))
 (sSeq (sFor (pinL [true, true]) (pinL [true, true]) (iRg1 (mVar 3)) (tgN 8)
 mL_names_b0)
 (sEx (eMut isLst opAppend (lVar 5) [.mv 7]))))
noncomputable def mL_names_t6 : MS := (sRet (eMv 5))
noncomputable def mL_names_t5 : MS := (sSeq (sIf (tAn (tBl (liftE (m2 fGt (mVar 1) (mC (.int 1))))) (tAn (tBl (liftE (m2 fLt (mVar 3) (mC (.int 8))))) (tBl (liftE (m2 fEq (m2 fMod (m2 fDiv (mVar 0) (mC (.int 5))) (mC (.int 2))) (mC (.int 1)))))))
 (sSub opSetA (liftE (m2 fAdd (mIx (mVar 5) (mC (.int 0))) (mC (.str "7")))) (lVar 5) (m2 fSub (mVar 1) (mC (.int 1))))
 sSkip)
 mL_names_t6)
noncomputable def mL_names_t4 : MS := (sSeq (sFor (pinL [true, true]) (pinL [true, true]) (iRg1 (mVar 1)) (tgN 6)
 mL_names_b1)
 mL_names_t5)
noncomputable def mL_names_t3 : MS := (sSeq (sSet 5 (eLst (eRow [])))
 mL_names_t4)
noncomputable def mL_names_t2 : MS := (sSeq (sSet 4 (liftE (m2 fMod (m2 fDiv (mVar 0) (mC (.int 8))) (mVar 3))))
 mL_names_t3)
noncomputable def mL_names_t1 : MS := (sSeq (sSet 3 (liftE (m2 fAdd (mC (.int 1)) (m2 fMod (mVar 0) (mC (.int 8))))))
 mL_names_t2)
noncomputable def mL_names : List Slot → FR := mF 11 [true, true] (sSeq (sSet 2 (liftE (mC (.str "abcdefghijklmnopqrstuvwxyz"))))
 mL_names_t1)
abbrev s6 : Stmt := top 28
noncomputable def m_is_name_b0 : MS := (sIf (tAn (tBl (liftE (m2 (orF (fInD true) fNi) (mVar 1) (mC (.str "abcdefghijklmnopqrstuvwxyz"))))) (tBl (liftE (m2 (orF (fInD true) fNi) (mVar 1) (mC (.str "0123456789"))))))
 (sRet (liftE (mC (.bl false))))
 sSkip)
noncomputable def m_is_name : List Slot → FR := mF 2 [true] (sSeq (sIf (tO (tNo (tBl (liftE (mN fIsi [(mVar 0), (mC (.ty "str"))])))) (tO (tBl (liftE (m2 fLt (mN fLen [(mVar 0)]) (mC (.int 1))))) (tBl (liftE (m2 fGt (mN fLen [(mVar 0)]) (mC (.int 8)))))))
 (sRet (liftE (mC (.bl false))))
 sSkip)
 (sSeq (sFor (pinL [true]) ((fun k => pinL [true] k || k == 0)) (iAny (mVar 0)) (tgN 1)
 m_is_name_b0)
 (sRet (liftE (m2 (orF (fInD false) fIn) (mIx (mVar 0) (mC (.int 0))) (mC (.str "abcdefghijklmnopqrstuvwxyz")))))))
abbrev s0 : Stmt := top 14
noncomputable def m_is_whole : List Slot → FR := mF 1 [true] (sRet (liftE (mAnd (mN fIsi [(mVar 0), (mC (.ty "int"))]) (m1 fNot (mN fIsi [(mVar 0), (mC (.ty "bool"))])))))
abbrev s35 : Stmt := inClass (top 29) 0
noncomputable def m_Stock_init_b0 : MS := (sSeq (sIf (tNo (tBl (liftE (mCall m_is_name [(mVar 2)]))))
 (sRaise x_NoName)
 sSkip)
 (sSeq (sIf (tBl (liftE (m2 (orF (fInD false) fIn) (mVar 2) (mFd ft_costs (mVar 0)))))
 (sRaise x_Twice)
 sSkip)
 (sSeq (sIf (tO (tNo (tBl (liftE (mCall m_is_whole [(mVar 3)])))) (tO (tBl (liftE (m2 fLt (mVar 3) (mC (.int 0))))) (tBl (liftE (m2 fGt (mVar 3) (m2 fPow (mC (.int 10)) (mC (.int 30))))))))
 (sRaise x_NoNumber)
 sSkip)
 (sSeq (sIf (tO (tNo (tBl (liftE (mCall m_is_whole [(mVar 4)])))) (tO (tBl (liftE (m2 fLt (mVar 4) (mC (.int 1))))) (tBl (liftE (m2 fGt (mVar 4) (mC (.int 1000)))))))
 (sRaise x_NoNumber)
 sSkip)
 (sSeq (sSub opSetA (eMv 3) (lFd ft_costs (lVar 0)) (mVar 2))
 (sSub opSetA (eMv 4) (lFd ft_rooms (lVar 0)) (mVar 2)))))))
noncomputable def m_Stock_init_t3 : MS := (sFor (pinL [true, true]) ((fun k => pinL [true, true] k || k == 1)) (iAny (mVar 1)) (tgT (tsCons (tgN 2) (tsCons (tgN 3) (tsCons (tgN 4) tsNil))))
 m_Stock_init_b0)
noncomputable def m_Stock_init_t2 : MS := (sSeq (sSto (opFd ft_rooms) (liftE mNewD) (lVar 0))
 m_Stock_init_t3)
noncomputable def m_Stock_init_t1 : MS := (sSeq (sSto (opFd ft_costs) (liftE mNewD) (lVar 0))
 m_Stock_init_t2)
noncomputable def m_Stock_init : List Slot → FR := mF 5 [true, true] (sSeq (sIf (tBl (liftE (m2 fGt (mN fLen [(mVar 1)]) (mC (.int 60)))))
 (sRaise x_TooMany)
 sSkip)
 m_Stock_init_t1)
abbrev s10 : Stmt := top 34
abbrev N10 : List Str := ["_law_lying", "_law_rooms", "_law_name", "_law_left", "_law_cell", "_law_others", "_law_more", "_law_lacks", "_law_gone_here", "_law_pick", "_law_other"]
noncomputable def mL_gone_e0 : ME := (mVar 10)
noncomputable def mL_gone_b1 : MS := (sSeq (sSet 10 (eMut isLst opPopAt (lVar 5) [.p (m2 fMod (mVar 9) (mN fLen [(mVar 5)]))]))
 (sSeq (sEx (eMut isLst opAppend (lVar 8) [.mv 10]))
 (sSeq (sSet 7 (liftE (m2 fSub (mVar 7) (mIx (mVar 1) (mVar 10)))))
 (sSet 9 (liftE (m2 fDiv (mVar 9) (mC (.int 5))))))))
noncomputable def mL_gone_c1 : MT := (tAn (tBl (liftE (m2 fGt (mN fLen [(mVar 5)]) (mC (.int 0))))) (tO (tBl (liftE (m2 fLt (mN fLen [(mVar 8)]) (mVar 6)))) (tBl (liftE (m2 fGt (mVar 7) (mC (.int 0)))))))
noncomputable def mL_gone_t7 : MS := (sRet (eMv 8))
noncomputable def mL_gone_t6 : MS := (sSeq (sWhile mL_gone_c1
 mL_gone_b1)
 mL_gone_t7)
noncomputable def mL_gone_t5 : MS := (sSeq (sSet 9 (liftE (m2 fDiv (mVar 4) (mC (.int 80)))))
 mL_gone_t6)
noncomputable def mL_gone_t4 : MS := (sSeq (sSet 8 (eLst (eRow [])))
 mL_gone_t5)
noncomputable def mL_gone_t3 : MS := (sSeq (sIf (tBl (liftE (m2 (orF (fInD true) fNi) (mVar 2) (mVar 0))))
 (sSet 7 (liftE (m2 fSub (mIx (mVar 1) (mVar 2)) (mVar 3))))
 sSkip)
 mL_gone_t4)
noncomputable def mL_gone_t2 : MS := (sSeq (sSet 7 (liftE (mC (.int 0))))
 mL_gone_t3)
noncomputable def mL_gone_t1 : MS := (sSeq (sSet 6 (liftE (mN fMax [(mC (.int 0)), (m2 fSub (m2 fMod (m2 fDiv (mVar 4) (mC (.int 16))) (mC (.int 5))) (mC (.int 2)))])))
 mL_gone_t2)
noncomputable def mL_gone : List Slot → FR := mF 11 [true, true, true, true, true] (sSeq (sSet 5 (liftE (mLc (iAny (mVar 0)) 10 (tBl (liftE (m2 fNe (mVar 10) (mVar 2)))) mL_gone_e0)))
 mL_gone_t1)
abbrev s11 : Stmt := top 35
noncomputable def mL_run_b0 : MS := (sSeq (sEx (eMut isLst opRemove (lVar 6) [.mv 12]))
 (sSet 7 (liftE (m2 fAdd (mVar 7) (mIx (mVar 2) (mVar 12))))))
noncomputable def mL_run_b1 : MS := (sSeq (sSet 10 (liftE (m2 (orF (fInD false) fIn) (mVar 8) (mVar 6))))
 (sSeq (sSet 11 (liftE (mCall mL_gone [(mVar 6), (mVar 2), (mVar 8), (mVar 7), (mVar 9)])))
 (sSeq (sFor ((fun k => pinL [true, true, true, true] k || k == 0 || k == 1)) ((fun k => (fun k => pinL [true, true, true, true] k || k == 0 || k == 1) k || k == 11)) (iAny (mVar 11)) (tgN 12)
 mL_run_b0)
 (sSeq (sIf (tNo (tBl (eMv 10)))
 (sSeq (sEx (eMut isLst opAppend (lVar 6) [.mv 8]))
 (sSet 7 (liftE (m2 fSub (mVar 7) (mIx (mVar 2) (mVar 8))))))
 sSkip)
 (sSeq (sEx (eMutE isLst opAppend 4 (eTup (eRow [.mv 8, .mv 10, .mv 11]))))
 (sEx (eMut isLst opAppend (lVar 5) [.p (mN fListA [(mVar 6)])])))))))
noncomputable def mL_run_t5 : MS := (sRet (eTup (eRow [.mv 4, .mv 5])))
noncomputable def mL_run_t4 : MS := (sSeq (sFor (pinL [true, true, true, true]) ((fun k => pinL [true, true, true, true] k || k == 0 || k == 1)) (iZp (mVar 0) (mVar 1)) (tgT (tsCons (tgN 8) (tsCons (tgN 9) tsNil)))
 mL_run_b1)
 mL_run_t5)
noncomputable def mL_run_t3 : MS := (sSeq (sSet 7 (eMv 3))
 mL_run_t4)
noncomputable def mL_run_t2 : MS := (sSeq (sSet 6 (eLst (eRow [])))
 mL_run_t3)
noncomputable def mL_run_t1 : MS := (sSeq (sSet 5 (eLst (eRow [])))
 mL_run_t2)
noncomputable def mL_run : List Slot → FR := mF 13 [true, true, true, true] (sSeq (sSet 4 (eLst (eRow [])))
 mL_run_t1)
abbrev s12 : Stmt := top 36
abbrev N12 : List Str := ["_law_book", "_law_name", "_law_there", "_law_gone_here"]
noncomputable def mL_copy_e0 : ME := (mDsp D.tup [(mVar 1), (mVar 2), (mN fListA [(mVar 3)])])
noncomputable def mL_copy : List Slot → FR := mF 4 [true] (sRet (liftE (mLcO (iAny (mVar 0)) [1, 2, 3] (tgT (tsCons (tgN 1) (tsCons (tgN 2) (tsCons (tgN 3) tsNil)))) tTrue mL_copy_e0)))
abbrev s1 : Stmt := top 17
noncomputable def m_need_places : List Slot → FR := mF 1 [true] (sSeq (sIf (tO (tNo (tBl (liftE (mCall m_is_whole [(mVar 0)])))) (tO (tBl (liftE (m2 fLt (mVar 0) (mC (.int 1))))) (tBl (liftE (m2 fGt (mVar 0) (mC (.int 1000000)))))))
 (sRaise x_NoNumber)
 sSkip)
 (sRet (eMv 0)))
abbrev s37 : Stmt := inClass (top 29) 2
noncomputable def m_Stock_has : List Slot → FR := mF 2 [true, true] (sRet (liftE (m2 (orF (fInD false) fIn) (mVar 1) (mFd ft_costs (mVar 0)))))
abbrev s40 : Stmt := inClass (top 29) 5
noncomputable def m_Stock_room_of : List Slot → FR := mF 2 [true, true] (sSeq (sIf (tBl (liftE (m2 (orF (fInD true) fNi) (mVar 1) (mFd ft_rooms (mVar 0)))))
 (sRaiseX x_Unknown [(mVar 1), (m1 fNeg (mC (.int 1)))])
 sSkip)
 (sRet (liftE (mIx (mFd ft_rooms (mVar 0)) (mVar 1)))))
abbrev s2 : Stmt := top 21
noncomputable def m_check_asks_b0 : MS := (sSeq (sIf (tNo (tBl (liftE (mMeth c_Stock m_Stock_has (mVar 0) [(mVar 4)]))))
 (sRaiseX x_Unknown [(mVar 4), (mVar 3)])
 sSkip)
 (sIf (tBl (liftE (m2 fGt (mMeth c_Stock m_Stock_room_of (mVar 0) [(mVar 4)]) (mVar 2))))
 (sRaiseX x_TooWide [(mVar 4), (mVar 3)])
 sSkip))
noncomputable def m_check_asks_t3 : MS := (sRet (liftE (mC (.bl true))))
noncomputable def m_check_asks_t2 : MS := (sSeq (sFor (pinL [true, true, true]) ((fun k => pinL [true, true, true] k || k == 1)) (iEn (mVar 1)) (tgT (tsCons (tgN 3) (tsCons (tgN 4) tsNil)))
 m_check_asks_b0)
 m_check_asks_t3)
noncomputable def m_check_asks_t1 : MS := (sSeq (sIf (tBl (liftE (m2 fGt (mN fLen [(mVar 1)]) (mC (.int 200)))))
 (sRaise x_TooMany)
 sSkip)
 m_check_asks_t2)
noncomputable def m_check_asks : List Slot → FR := mF 5 [true, true, true] (sSeq (sEx (liftE (mCall m_need_places [(mVar 2)])))
 m_check_asks_t1)
abbrev s29 : Stmt := inClass (top 18) 0
noncomputable def m_Shelf_init_t3 : MS := (sSto (opFd ft_used) (liftE (mC (.int 0))) (lVar 0))
noncomputable def m_Shelf_init_t2 : MS := (sSeq (sSto (opFd ft_there) (eLst (eRow [])) (lVar 0))
 m_Shelf_init_t3)
noncomputable def m_Shelf_init_t1 : MS := (sSeq (sSto (opFd ft_places) (liftE (mCall m_need_places [(mVar 2)])) (lVar 0))
 m_Shelf_init_t2)
noncomputable def m_Shelf_init : List Slot → FR := mF 3 [true, true, true] (sSeq (sSto (opFd ft_stock) (eMv 1) (lVar 0))
 m_Shelf_init_t1)
abbrev s34 : Stmt := inClass (top 18) 5
noncomputable def m_Shelf_cast : List Slot → FR := mF 2 [true, true] (sSeq (sIf (tBl (liftE (m2 (orF (fInD true) fNi) (mVar 1) (mFd ft_there (mVar 0)))))
 (sRaise x_NotThere)
 sSkip)
 (sSeq (sEx (eMut isLst opRemove (lFd ft_there (lVar 0)) [.mv 1]))
 (sSto (opFd ft_used) (liftE (m2 fSub (mFd ft_used (mVar 0)) (mMeth c_Stock m_Stock_room_of (mFd ft_stock (mVar 0)) [(mVar 1)]))) (lVar 0))))
abbrev s31 : Stmt := inClass (top 18) 2
noncomputable def m_Shelf_holds : List Slot → FR := mF 2 [true, true] (sRet (liftE (m2 (orF (fInD false) fIn) (mVar 1) (mFd ft_there (mVar 0)))))
abbrev s3 : Stmt := top 22
noncomputable def m_cast_all_b0 : MS := (sSeq (sIf (tO (tBl (liftE (m2 fEq (mVar 4) (mVar 1)))) (tNo (tBl (liftE (mMeth c_Shelf m_Shelf_holds (mVar 0) [(mVar 4)])))))
 (sRaiseX x_BadBook [(mVar 3)])
 sSkip)
 (sEx (eMeth c_Shelf m_Shelf_cast (.pl (lVar 0)) [.rd (mVar 4)])))
noncomputable def m_cast_all : List Slot → FR := mF 5 [true, true, true, true] (sFor (pinL [true, true, true, true]) ((fun k => pinL [true, true, true, true] k || k == 2)) (iAny (mVar 2)) (tgN 4)
 m_cast_all_b0)
abbrev s32 : Stmt := inClass (top 18) 3
noncomputable def m_Shelf_room_left : List Slot → FR := mF 1 [true] (sRet (liftE (m2 fSub (mFd ft_places (mVar 0)) (mFd ft_used (mVar 0)))))
abbrev s33 : Stmt := inClass (top 18) 4
noncomputable def m_Shelf_put_t4 : MS := (sSto (opFd ft_used) (liftE (m2 fAdd (mFd ft_used (mVar 0)) (mVar 2))) (lVar 0))
noncomputable def m_Shelf_put_t3 : MS := (sSeq (sEx (eMut isLst opAppend (lFd ft_there (lVar 0)) [.mv 1]))
 m_Shelf_put_t4)
noncomputable def m_Shelf_put_t2 : MS := (sSeq (sIf (tBl (liftE (m2 fGt (mVar 2) (mMeth c_Shelf m_Shelf_room_left (mVar 0) []))))
 (sRaise x_Full)
 sSkip)
 m_Shelf_put_t3)
noncomputable def m_Shelf_put_t1 : MS := (sSeq (sIf (tBl (liftE (m2 (orF (fInD false) fIn) (mVar 1) (mFd ft_there (mVar 0)))))
 (sRaise x_There)
 sSkip)
 m_Shelf_put_t2)
noncomputable def m_Shelf_put : List Slot → FR := mF 3 [true, true] (sSeq (sSet 2 (liftE (mMeth c_Stock m_Stock_room_of (mFd ft_stock (mVar 0)) [(mVar 1)])))
 m_Shelf_put_t1)
abbrev s4 : Stmt := top 23
noncomputable def m_serve_t4 : MS := (sEx (eMeth c_Shelf m_Shelf_put (.pl (lVar 0)) [.rd (mVar 1)]))
noncomputable def m_serve_t3 : MS := (sSeq (sIf (tBl (liftE (m2 fGt (mMeth c_Stock m_Stock_room_of (mFd ft_stock (mVar 0)) [(mVar 1)]) (mMeth c_Shelf m_Shelf_room_left (mVar 0) []))))
 (sRaiseX x_BadBook [(mVar 3)])
 sSkip)
 m_serve_t4)
noncomputable def m_serve_t2 : MS := (sSeq (sIf (tBl (liftE (mIx (mVar 2) (mC (.int 1)))))
 sRetN
 sSkip)
 m_serve_t3)
noncomputable def m_serve_t1 : MS := (sSeq (sEx (eCall m_cast_all [.pl (lVar 0), .rd (mVar 1), .rd (mIx (mVar 2) (mC (.int 2))), .rd (mVar 3)]))
 m_serve_t2)
noncomputable def m_serve : List Slot → FR := mF 4 [true, true, true, true] (sSeq (sIf (tO (tBl (liftE (m2 fNe (mIx (mVar 2) (mC (.int 0))) (mVar 1)))) (tBl (liftE (m2 fNe (mIx (mVar 2) (mC (.int 1))) (mMeth c_Shelf m_Shelf_holds (mVar 0) [(mVar 1)])))))
 (sRaiseX x_BadBook [(mVar 3)])
 sSkip)
 m_serve_t1)
abbrev s30 : Stmt := inClass (top 18) 1
noncomputable def m_Shelf_lying : List Slot → FR := mF 1 [true] (sRet (liftE (mN fListA [(mFd ft_there (mVar 0))])))
abbrev s5 : Stmt := top 24
noncomputable def m_lying_after_b0 : MS := (sSeq (sIf (tBl (liftE (m2 fGe (mVar 6) (mN fLen [(mVar 3)]))))
 (sRaiseX x_BadBook [(mVar 6)])
 sSkip)
 (sSeq (sEx (eCall m_serve [.pl (lVar 4), .rd (mVar 7), .rd (mIx (mVar 3) (mVar 6)), .rd (mVar 6)]))
 (sEx (eMut isLst opAppend (lVar 5) [.p (mMeth c_Shelf m_Shelf_lying (mVar 4) [])]))))
noncomputable def m_lying_after_t5 : MS := (sRet (eMv 5))
noncomputable def m_lying_after_t4 : MS := (sSeq (sIf (tBl (liftE (m2 fGt (mN fLen [(mVar 3)]) (mN fLen [(mVar 1)]))))
 (sRaiseX x_BadBook [(mN fLen [(mVar 1)])])
 sSkip)
 m_lying_after_t5)
noncomputable def m_lying_after_t3 : MS := (sSeq (sFor (pinL [true, true, true, true]) ((fun k => pinL [true, true, true, true] k || k == 1)) (iEn (mVar 1)) (tgT (tsCons (tgN 6) (tsCons (tgN 7) tsNil)))
 m_lying_after_b0)
 m_lying_after_t4)
noncomputable def m_lying_after_t2 : MS := (sSeq (sSet 5 (eLst (eRow [])))
 m_lying_after_t3)
noncomputable def m_lying_after_t1 : MS := (sSeq (sSet 4 (liftE (mMake c_Shelf m_Shelf_init [(mVar 0), (mVar 2)])))
 m_lying_after_t2)
noncomputable def m_lying_after : List Slot → FR := mF 8 [true, true, true, true] (sSeq (sEx (liftE (mCall m_check_asks [(mVar 0), (mVar 1), (mVar 2)])))
 m_lying_after_t1)
abbrev s13 : Stmt := top 37
noncomputable def mL_lists_b0 : MS := (sIf (tO (tNo (tBl (liftE (mN fIsi [(mVar 2), (mC (.ty "list"))])))) (tBl (liftE (m2 fNe (mVar 2) (mVar 3)))))
 (sRet (liftE (mC (.bl false))))
 sSkip)
noncomputable def mL_lists : List Slot → FR := mF 4 [true, true] (sSeq (sIf (tO (tNo (tBl (liftE (mN fIsi [(mVar 0), (mC (.ty "list"))])))) (tBl (liftE (m2 fNe (mN fLen [(mVar 0)]) (mN fLen [(mVar 1)])))))
 (sRet (liftE (mC (.bl false))))
 sSkip)
 (sSeq (sFor (pinL [true, true]) ((fun k => pinL [true, true] k || k == 0 || k == 1)) (iZp (mVar 0) (mVar 1)) (tgT (tsCons (tgN 2) (tsCons (tgN 3) tsNil)))
 mL_lists_b0)
 (sRet (liftE (mC (.bl true))))))
abbrev s7 : Stmt := top 31
noncomputable def mL_cell_at : List Slot → FR := mF 2 [true, true] (sSeq (sIf (tBl (liftE (m2 fLt (mVar 1) (mN fLen [(mVar 0)]))))
 (sRet (liftE (mIx (mVar 0) (mVar 1))))
 sSkip)
 (sRet (liftE (mC (.int 0)))))
abbrev s8 : Stmt := top 32
noncomputable def mL_mix : List Slot → FR := mF 3 [true, true] (sSeq (sSet 2 (liftE (m2 fAdd (m2 fAdd (m2 fMod (mVar 0) (mC (.int 1000000007))) (m2 (orF fMul fMulS) (mC (.int 7919)) (mVar 1))) (mC (.int 1)))))
 (sRet (liftE (m2 fMod (m2 (orF fMul fMulS) (m2 fMod (m2 (orF fMul fMulS) (mVar 2) (mVar 2)) (mC (.int 2147483647))) (mC (.int 48271))) (mC (.int 2147483629))))))
abbrev s14 : Stmt := top 38
abbrev N14 : List Str := ["_law_script", "_law_many", "_law_names_here", "_law_widest", "_law_rooms", "_law_k", "_law_places", "_law_cells", "_law_asks", "_law_stock", "_law_book", "_law_behind", "_law_handed", "_law_row", "_law_found", "_law_at", "_law_one", "_law_again", "_law_name", "_law_there", "_law_gone_here", "_law_cell", "_law_room"]
noncomputable def m_law_b0 : MS := (sSub opSetA (liftE (m2 fAdd (mC (.int 1)) (m2 fMod (mCall mL_mix [(m2 fDiv (mCall mL_cell_at [(mVar 0), (mC (.int 2))]) (mC (.int 4))), (mVar 5)]) (mVar 3)))) (lVar 4) (mIx (mVar 2) (mVar 5)))
noncomputable def m_law_e1 : ME := (mCall mL_mix [(mCall mL_cell_at [(mVar 0), (mC (.int 4))]), (mVar 5)])
noncomputable def m_law_e2 : ME := (mIx (mVar 2) (m2 fMod (mVar 21) (mVar 1)))
noncomputable def m_law_e3 : ME := (mDsp D.tup [(mVar 18), (mC (.int 3)), (mVar 22)])
noncomputable def m_law_b4 : MS := (sSeq (sEx (eMut isLst opAppend (lVar 16) [.p (mC (.str "zz"))]))
 (sIf (tAn (tBl (liftE (m2 fLt (m2 fAdd (mVar 15) (mC (.int 1))) (mN fLen [(mVar 14)])))) (tBl (liftE (m2 fNe (mIx (mVar 14) (m2 fAdd (mVar 15) (mC (.int 1)))) (mIx (mVar 11) (m2 fAdd (mVar 15) (mC (.int 1))))))))
 (sRet (liftE (mC (.bl false))))
 sSkip))
noncomputable def m_law_b5 : MS := (sEx (eMut isLst opAppend (lVar 20) [.p (mC (.str "zz"))]))
noncomputable def m_law_t21 : MS := (sRet (liftE (mCall mL_lists [(mVar 17), (mVar 11)])))
noncomputable def m_law_t20 : MS := (sSeq (sEx (eMut isLst opClear (lVar 13) []))
 m_law_t21)
noncomputable def m_law_t19 : MS := (sSeq (sEx (eMut isLst opClear (lVar 12) []))
 m_law_t20)
noncomputable def m_law_t18 : MS := (sSeq (sForT [12, 17, 11, 13] 12 18 19 20
 m_law_b5)
 m_law_t19)
noncomputable def m_law_t17 : MS := (sSeq (sSet 17 (liftE (mCall m_lying_after [(mVar 9), (mVar 13), (mVar 6), (mVar 12)])))
 m_law_t18)
noncomputable def m_law_t16 : MS := (sSeq (sEx (eMut isLst opClear (lVar 14) []))
 m_law_t17)
noncomputable def m_law_t15 : MS := (sSeq (sForE [14, 11, 9, 13, 6, 12] 14 15 16
 m_law_b4)
 m_law_t16)
noncomputable def m_law_t14 : MS := (sSeq (sIf (tO (tNo (tBl (liftE (mCall mL_lists [(mVar 14), (mVar 11)])))) (tO (tBl (liftE (m2 fNe (mVar 12) (mVar 10)))) (tBl (liftE (m2 fNe (mVar 13) (mVar 8))))))
 (sRet (liftE (mC (.bl false))))
 sSkip)
 m_law_t15)
noncomputable def m_law_t13 : MS := (sSeq (sSet 14 (liftE (mCall m_lying_after [(mVar 9), (mVar 13), (mVar 6), (mVar 12)])))
 m_law_t14)
noncomputable def m_law_t12 : MS := (sSeq (sSet 13 (liftE (mN fListA [(mVar 8)])))
 m_law_t13)
noncomputable def m_law_t11 : MS := (sSeq (sSet 12 (liftE (mCall mL_copy [(mVar 10)])))
 m_law_t12)
noncomputable def m_law_t10 : MS := (sSeq (sUnO (toT (tosCons (toN 10) (tosCons (toN 11) tosNil))) (mCall mL_run [(mVar 8), (mVar 7), (mVar 4), (mVar 6)]))
 m_law_t11)
noncomputable def m_law_t9 : MS := (sSeq (sSet 9 (liftE (mFz (mMake c_Stock m_Stock_init [(mLcI 4 [18, 22] (tgT (tsCons (tgN 18) (tsCons (tgN 22) tsNil))) tTrue m_law_e3)]))))
 m_law_t10)
noncomputable def m_law_t8 : MS := (sSeq (sSet 8 (liftE (mLc (iAny (mVar 7)) 21 tTrue m_law_e2)))
 m_law_t9)
noncomputable def m_law_t7 : MS := (sSeq (sIf (tBl (liftE (m2 fEq (m2 fMod (m2 fDiv (mCall mL_cell_at [(mVar 0), (mC (.int 0))]) (mC (.int 10))) (mC (.int 6))) (mC (.int 1)))))
 (sSet 7 (liftE (mLcO (iRg1 (mC (.int 200))) [5] (tgN 5) tTrue m_law_e1)))
 sSkip)
 m_law_t8)
noncomputable def m_law_t6 : MS := (sSeq (sSet 7 (liftE (mN fListA [(mSl (mVar 0) (some (mC (.int 4))) (some (mC (.int 204))))])))
 m_law_t7)
noncomputable def m_law_t5 : MS := (sSeq (sSet 6 (liftE (m2 fAdd (m1 (fVals gMaxV) (mVar 4)) (m2 fMod (mCall mL_cell_at [(mVar 0), (mC (.int 3))]) (mIx (mFz (mDsp D.lst [(mC (.int 31)), (mC (.int 31)), (mC (.int 2000)), (mC (.int 990001))])) (m2 fMod (m2 fDiv (mCall mL_cell_at [(mVar 0), (mC (.int 3))]) (mC (.int 31))) (mC (.int 4))))))))
 m_law_t6)
noncomputable def m_law_t4 : MS := (sSeq (sFor (pinL [true]) (pinL [true]) (iRg1 (mVar 1)) (tgN 5)
 m_law_b0)
 m_law_t5)
noncomputable def m_law_t3 : MS := (sSeq (sSet 4 (liftE mNewD))
 m_law_t4)
noncomputable def m_law_t2 : MS := (sSeq (sSet 3 (liftE (mIx (mFz (mDsp D.lst [(mC (.int 1)), (mC (.int 4)), (mC (.int 20)), (mC (.int 1000))])) (m2 fMod (mCall mL_cell_at [(mVar 0), (mC (.int 2))]) (mC (.int 4))))))
 m_law_t3)
noncomputable def m_law_t1 : MS := (sSeq (sSet 2 (liftE (mCall mL_names [(mCall mL_cell_at [(mVar 0), (mC (.int 1))]), (mVar 1)])))
 m_law_t2)
noncomputable def m_law : List Slot → FR := mF 23 [true] (sSeq (sSet 1 (liftE (m2 fAdd (mC (.int 1)) (m2 fMod (mCall mL_cell_at [(mVar 0), (mC (.int 0))]) (mC (.int 10))))))
 m_law_t1)
abbrev s20 : Stmt := inClass (top 7) 0
abbrev s22 : Stmt := inClass (top 8) 0
abbrev s27 : Stmt := inClass (top 12) 0
def tab (K : PySem.W.Frag) (x y : Nat → Addr) : Tab := ⟨K, [⟨y 0, ["stock", "places", "there", "used"]⟩, ⟨y 1, ["costs", "rooms"]⟩], [⟨x 0, []⟩, ⟨x 1, []⟩, ⟨x 2, []⟩, ⟨x 3, []⟩, ⟨x 4, []⟩, ⟨x 5, ["place", "name"]⟩, ⟨x 6, ["place", "name"]⟩, ⟨x 7, []⟩, ⟨x 8, []⟩, ⟨x 9, []⟩, ⟨x 10, ["place"]⟩], [], []⟩
structure Txt (K : PySem.W.Frag) (mg : Str → Option Value) (a x y : Nat → Addr) (fd : Nat → FuncData) : Prop where
  f9 : Fun K "_law_names" "_law_names" s9 (a 9) (fd 9)
  b9 : Binds K (fd 9) ["_law_cell", "_law_many"] []
  g9 : mg "_law_names" = some (.ref (a 9))
  f6 : Fun K "is_name" "is_name" s6 (a 6) (fd 6)
  b6 : Binds K (fd 6) ["thing"] []
  g6 : mg "is_name" = some (.ref (a 6))
  f0 : Fun K "is_whole" "is_whole" s0 (a 0) (fd 0)
  b0 : Binds K (fd 0) ["thing"] []
  g0 : mg "is_whole" = some (.ref (a 0))
  f35 : Fun K "__init__" "Stock.__init__" s35 (a 35) (fd 35)
  b35 : Binds K (fd 35) ["self", "rows"] []
  f10 : Fun K "_law_gone" "_law_gone" s10 (a 10) (fd 10)
  b10 : Binds K (fd 10) ["_law_lying", "_law_rooms", "_law_name", "_law_left", "_law_cell"] []
  g10 : mg "_law_gone" = some (.ref (a 10))
  f11 : Fun K "_law_run" "_law_run" s11 (a 11) (fd 11)
  b11 : Binds K (fd 11) ["_law_asks", "_law_cells", "_law_rooms", "_law_places"] []
  g11 : mg "_law_run" = some (.ref (a 11))
  f12 : Fun K "_law_copy" "_law_copy" s12 (a 12) (fd 12)
  b12 : Binds K (fd 12) ["_law_book"] []
  g12 : mg "_law_copy" = some (.ref (a 12))
  f1 : Fun K "need_places" "need_places" s1 (a 1) (fd 1)
  b1 : Binds K (fd 1) ["places"] []
  g1 : mg "need_places" = some (.ref (a 1))
  f37 : Fun K "has" "Stock.has" s37 (a 37) (fd 37)
  b37 : Binds K (fd 37) ["self", "name"] []
  f40 : Fun K "room_of" "Stock.room_of" s40 (a 40) (fd 40)
  b40 : Binds K (fd 40) ["self", "name"] []
  f2 : Fun K "check_asks" "check_asks" s2 (a 2) (fd 2)
  b2 : Binds K (fd 2) ["stock", "asks", "places"] []
  g2 : mg "check_asks" = some (.ref (a 2))
  f29 : Fun K "__init__" "Shelf.__init__" s29 (a 29) (fd 29)
  b29 : Binds K (fd 29) ["self", "stock", "places"] []
  f34 : Fun K "cast" "Shelf.cast" s34 (a 34) (fd 34)
  b34 : Binds K (fd 34) ["self", "name"] []
  f31 : Fun K "holds" "Shelf.holds" s31 (a 31) (fd 31)
  b31 : Binds K (fd 31) ["self", "name"] []
  f3 : Fun K "cast_all" "cast_all" s3 (a 3) (fd 3)
  b3 : Binds K (fd 3) ["shelf", "name", "gone", "at"] []
  g3 : mg "cast_all" = some (.ref (a 3))
  f32 : Fun K "room_left" "Shelf.room_left" s32 (a 32) (fd 32)
  b32 : Binds K (fd 32) ["self"] []
  f33 : Fun K "put" "Shelf.put" s33 (a 33) (fd 33)
  b33 : Binds K (fd 33) ["self", "name"] []
  f4 : Fun K "serve" "serve" s4 (a 4) (fd 4)
  b4 : Binds K (fd 4) ["shelf", "name", "line", "at"] []
  g4 : mg "serve" = some (.ref (a 4))
  f30 : Fun K "lying" "Shelf.lying" s30 (a 30) (fd 30)
  b30 : Binds K (fd 30) ["self"] []
  f5 : Fun K "lying_after" "lying_after" s5 (a 5) (fd 5)
  b5 : Binds K (fd 5) ["stock", "asks", "places", "book"] []
  g5 : mg "lying_after" = some (.ref (a 5))
  f13 : Fun K "_law_lists" "_law_lists" s13 (a 13) (fd 13)
  b13 : Binds K (fd 13) ["_law_found", "_law_due"] []
  g13 : mg "_law_lists" = some (.ref (a 13))
  f7 : Fun K "_law_cell_at" "_law_cell_at" s7 (a 7) (fd 7)
  b7 : Binds K (fd 7) ["_law_script", "_law_k"] []
  g7 : mg "_law_cell_at" = some (.ref (a 7))
  f8 : Fun K "_law_mix" "_law_mix" s8 (a 8) (fd 8)
  b8 : Binds K (fd 8) ["_law_cell", "_law_k"] []
  g8 : mg "_law_mix" = some (.ref (a 8))
  f14 : Fun K "law" "law" s14 (a 14) (fd 14)
  b14 : Binds K (fd 14) ["_law_script"] []
  g14 : mg "law" = some (.ref (a 14))
  f20 : Fun K "__init__" "Unknown.__init__" s20 (a 20) (fd 20)
  b20 : Binds K (fd 20) ["self", "name", "place"] []
  f22 : Fun K "__init__" "TooWide.__init__" s22 (a 22) (fd 22)
  b22 : Binds K (fd 22) ["self", "name", "place"] []
  f27 : Fun K "__init__" "BadBook.__init__" s27 (a 27) (fd 27)
  b27 : Binds K (fd 27) ["self", "place"] []
  z_bool : mg "bool" = none
  z_enumerate : mg "enumerate" = none
  z_int : mg "int" = none
  z_isinstance : mg "isinstance" = none
  z_len : mg "len" = none
  z_list : mg "list" = none
  z_max : mg "max" = none
  z_range : mg "range" = none
  z_str : mg "str" = none
  z_zip : mg "zip" = none
  c_FIGURES : ∃ t, mg "FIGURES" = some (.str "0123456789" t)
  c_LETTERS : ∃ t, mg "LETTERS" = some (.str "abcdefghijklmnopqrstuvwxyz" t)
  c_MOST_ASKS : ∃ t, mg "MOST_ASKS" = some (.int 200 t)
  c_MOST_PLACES : ∃ t, mg "MOST_PLACES" = some (.int 1000000 t)
  g_NoName : mg "NoName" = some (.ref (x 1))
  g_NoNumber : mg "NoNumber" = some (.ref (x 2))
  g_Twice : mg "Twice" = some (.ref (x 3))
  g_TooMany : mg "TooMany" = some (.ref (x 4))
  g_Unknown : mg "Unknown" = some (.ref (x 5))
  g_TooWide : mg "TooWide" = some (.ref (x 6))
  g_There : mg "There" = some (.ref (x 7))
  g_NotThere : mg "NotThere" = some (.ref (x 8))
  g_Full : mg "Full" = some (.ref (x 9))
  g_BadBook : mg "BadBook" = some (.ref (x 10))
  x1 : PySem.W.excIn K (x 1) [.type "ValueError", .type "Exception", .type "BaseException", .type "object"] "ValueError.__new__" = true
  k_NoName : PySem.W.keepIn K (.ref (x 1)) = true
  b_1 : PySem.W.subIn K (.ref (x 1)) (.type "BaseException") = some true
  t_1 : PySem.W.typeIn K (.ref (x 1)) = some (.type "type")
  x2 : PySem.W.excIn K (x 2) [.type "ValueError", .type "Exception", .type "BaseException", .type "object"] "ValueError.__new__" = true
  k_NoNumber : PySem.W.keepIn K (.ref (x 2)) = true
  b_2 : PySem.W.subIn K (.ref (x 2)) (.type "BaseException") = some true
  t_2 : PySem.W.typeIn K (.ref (x 2)) = some (.type "type")
  x3 : PySem.W.excIn K (x 3) [.type "ValueError", .type "Exception", .type "BaseException", .type "object"] "ValueError.__new__" = true
  k_Twice : PySem.W.keepIn K (.ref (x 3)) = true
  b_3 : PySem.W.subIn K (.ref (x 3)) (.type "BaseException") = some true
  t_3 : PySem.W.typeIn K (.ref (x 3)) = some (.type "type")
  x4 : PySem.W.excIn K (x 4) [.type "ValueError", .type "Exception", .type "BaseException", .type "object"] "ValueError.__new__" = true
  k_TooMany : PySem.W.keepIn K (.ref (x 4)) = true
  b_4 : PySem.W.subIn K (.ref (x 4)) (.type "BaseException") = some true
  t_4 : PySem.W.typeIn K (.ref (x 4)) = some (.type "type")
  b_5 : PySem.W.subIn K (.ref (x 5)) (.type "BaseException") = some true
  t_5 : PySem.W.typeIn K (.ref (x 5)) = some (.type "type")
  b_6 : PySem.W.subIn K (.ref (x 6)) (.type "BaseException") = some true
  t_6 : PySem.W.typeIn K (.ref (x 6)) = some (.type "type")
  x7 : PySem.W.excIn K (x 7) [.type "ValueError", .type "Exception", .type "BaseException", .type "object"] "ValueError.__new__" = true
  k_There : PySem.W.keepIn K (.ref (x 7)) = true
  b_7 : PySem.W.subIn K (.ref (x 7)) (.type "BaseException") = some true
  t_7 : PySem.W.typeIn K (.ref (x 7)) = some (.type "type")
  x8 : PySem.W.excIn K (x 8) [.type "ValueError", .type "Exception", .type "BaseException", .type "object"] "ValueError.__new__" = true
  k_NotThere : PySem.W.keepIn K (.ref (x 8)) = true
  b_8 : PySem.W.subIn K (.ref (x 8)) (.type "BaseException") = some true
  t_8 : PySem.W.typeIn K (.ref (x 8)) = some (.type "type")
  x9 : PySem.W.excIn K (x 9) [.type "ValueError", .type "Exception", .type "BaseException", .type "object"] "ValueError.__new__" = true
  k_Full : PySem.W.keepIn K (.ref (x 9)) = true
  b_9 : PySem.W.subIn K (.ref (x 9)) (.type "BaseException") = some true
  t_9 : PySem.W.typeIn K (.ref (x 9)) = some (.type "type")
  b_10 : PySem.W.subIn K (.ref (x 10)) (.type "BaseException") = some true
  t_10 : PySem.W.typeIn K (.ref (x 10)) = some (.type "type")
  ra5 : RaiseOk (tab K x y) x_Unknown (x 5) (a 20) ["name", "place"]
  xi5 : ∀ (P : Program) (w : World) (base : Heap), FnOk P w K mg base CX0 1 (a 20) (fd 20) ["self", "name", "place"] (spXI (tab K x y).K ["name", "place"])
  ra6 : RaiseOk (tab K x y) x_TooWide (x 6) (a 22) ["name", "place"]
  xi6 : ∀ (P : Program) (w : World) (base : Heap), FnOk P w K mg base CX0 1 (a 22) (fd 22) ["self", "name", "place"] (spXI (tab K x y).K ["name", "place"])
  ra10 : RaiseOk (tab K x y) x_BadBook (x 10) (a 27) ["place"]
  xi10 : ∀ (P : Program) (w : World) (base : Heap), FnOk P w K mg base CX0 1 (a 27) (fd 27) ["self", "place"] (spXI (tab K x y).K ["place"])
  mk0 : MakeOk (tab K x y) c_Shelf (y 0) (a 29)
  gc0 : mg "Shelf" = some (.ref (y 0))
  mk1 : MakeOk (tab K x y) c_Stock (y 1) (a 35)
  gc1 : mg "Stock" = some (.ref (y 1))
  mo_0_cast : MethOk (tab K x y) c_Shelf "cast" (a 34)
  mo_0_holds : MethOk (tab K x y) c_Shelf "holds" (a 31)
  mo_0_lying : MethOk (tab K x y) c_Shelf "lying" (a 30)
  mo_0_put : MethOk (tab K x y) c_Shelf "put" (a 33)
  mo_0_room_left : MethOk (tab K x y) c_Shelf "room_left" (a 32)
  mo_1_has : MethOk (tab K x y) c_Stock "has" (a 37)
  mo_1_room_of : MethOk (tab K x y) c_Stock "room_of" (a 40)
  ff_costs : FldT (tab K x y) ft_costs "costs"
  ff_places : FldT (tab K x y) ft_places "places"
  ff_rooms : FldT (tab K x y) ft_rooms "rooms"
  ff_stock : FldT (tab K x y) ft_stock "stock"
  ff_there : FldT (tab K x y) ft_there "there"
  ff_used : FldT (tab K x y) ft_used "used"
section
variable {P : Program} {w : World} {K : PySem.W.Frag} {mg : Str → Option Value} {base : Heap} {a x y : Nat → Addr} {fd : Nat → FuncData}
theorem sc9 : FnScope ["_law_cell", "_law_many", "_law_letters", "_law_long", "_law_at", "_law_names_here", "_law_k", "_law_name", "_law_j", "_law_signs", "_law_sign"] ["_law_cell", "_law_many"] (defScope s9) := ⟨rfl, rfl, rfl, by decide +kernel, rfl, by decide +kernel, by decide +kernel⟩
theorem ok9 (T : Txt K mg a x y fd)  : FnOk P w K mg base (L2.CX P w) 1 (a 9) (fd 9) ["_law_cell", "_law_many"] (spF (tab K x y) 2 mL_names) :=
  fn_ok T.f9 sc9 [true, true] rfl fun cdv A outer s H E σ0 hr => (ss_cons (ss_set (i := 2) sc9.nd rfl (by first | exact Or.inl rfl | exact Or.inr rfl) rfl (ee_p (ep_c pe_str)))
 (ss_cons (ss_set (i := 3) sc9.nd rfl (by first | exact Or.inl rfl | exact Or.inr rfl) rfl (ee_p (ep_2 vs_add (pe_op op_addP (ep_c pe_int) (ep_2 vs_mod (pe_op op_modX (ep_var (pv 0)) (ep_c pe_int)))))))
 (ss_cons (ss_set (i := 4) sc9.nd rfl (by first | exact Or.inl rfl | exact Or.inr rfl) rfl (ee_p (ep_2 vs_mod (pe_op op_modX (ep_2 vs_div (pe_op op_fdivX (ep_var (pv 0)) (ep_c pe_int))) (ep_var (pv 3))))))
 (ss_cons (ss_set (i := 5) sc9.nd rfl (by first | exact Or.inl rfl | exact Or.inr rfl) rfl (ee_lst (pd_row pk_nil')))
 (ss_cons (ss_for (passes_of rfl) rfl (ip_rg1 (pi_range1 rfl T.z_range (pr_cons (ep_var (pv 1)) pr_nil))) (pg_name (i := 6) sc9.nd rfl (by first | exact Or.inl rfl | exact Or.inr rfl)) (tg_name rfl) (fun _ h => h) (fun σ1 => (ss_cons (ss_set (i := 7) sc9.nd rfl (by first | exact Or.inl rfl | exact Or.inr rfl) rfl (ee_p (ep_c pe_str)))
 (ss_cons (ss_for (passes_of rfl) rfl (ip_rg1 (pi_range1 rfl T.z_range (pr_cons (ep_var (pv 3)) pr_nil))) (pg_name (i := 8) sc9.nd rfl (by first | exact Or.inl rfl | exact Or.inr rfl)) (tg_name rfl) (fun _ h => h) (fun σ1 => (ss_cons (ss_set (i := 9) sc9.nd rfl (by first | exact Or.inl rfl | exact Or.inr rfl) rfl (ee_mv (pv 2)))
 (ss_cons (ss_if (te_cmp vs_gt (pt_cmpR op_gt (ep_var (pv 8)) (ep_c pe_int) (nomark _)))
 (ss_one (ss_set (i := 9) sc9.nd rfl (by first | exact Or.inl rfl | exact Or.inr rfl) rfl (ee_p (ep_2 vs_add (pe_op op_addP (ep_var (pv 2)) (ep_c pe_str))))))
 ss_nil)
 (ss_cons (ss_set (i := 10) sc9.nd rfl (by first | exact Or.inl rfl | exact Or.inr rfl) rfl (ee_p (ep_2 vs_add (pe_op op_addP (ep_2 vs_div (pe_op op_fdivX (ep_var (pv 0)) (ep_2 vs_add (pe_op op_addP (ep_c pe_int) (ep_2 vs_mulPS (pe_op op_mulPS (ep_c pe_int) (ep_var (pv 8)))))))) (ep_2 vs_mulPS (pe_op op_mulPS (ep_N vs_int (pe_callTy call_intP (by rfl) T.z_int (by decide +kernel) (pr_cons (ep_2 vs_eq (pe_cmpR (op_eqD hr.units) (ep_var (pv 8)) (ep_var (pv 4)) (nomark _))) pr_nil))) (ep_var (pv 6))))))))
 (ss_one (ss_set (i := 7) sc9.nd rfl (by first | exact Or.inl rfl | exact Or.inr rfl) rfl (ee_p (ep_2 vs_add (pe_op op_addP (ep_var (pv 7)) (ep_ix rfl (hu_of hr) (ep_var (pv 9)) (ep_2 vs_mod (pe_op op_modX (ep_var (pv 10)) (ep_N vs_len (pe_callB call_lenP (by rfl) T.z_len (by decide +kernel) (pr_cons (ep_var (pv 9)) pr_nil))))) (fun _ _ => rfl) (fun _ _ => rfl))))))))))))
 (ss_one (ss_expr (ee_mut mu_append ty_lst (pe_bm PySem.F.plainAttrs_list PySem.F.slot_list_append PySem.F.type_list_append mt_append (el_var (pv 5)) (pk_mv (pv 7) pk_nil')))))))))
 (ss_cons (ss_if (PW.pt (tw_and (te_cmp vs_gt (pt_cmpR op_gt (ep_var (pv 1)) (ep_c pe_int) (nomark _))) (tw_and (te_cmp vs_lt (pt_cmpR op_lt (ep_var (pv 3)) (ep_c pe_int) (nomark _))) (pw_and1 (te_cmp vs_eq (pt_cmpR (op_eqD hr.units) (ep_2 vs_mod (pe_op op_modX (ep_2 vs_div (pe_op op_fdivX (ep_var (pv 0)) (ep_c pe_int))) (ep_c pe_int))) (ep_c pe_int) (nomark _)))))))
 (ss_one (ss_sub (r := rSetA) mu_setA (ps_setA (hu_of hr) ((ee_p (ep_2 vs_add (pe_op op_addP (ep_ix rfl (hu_of hr) (ep_var (pv 5)) (ep_c pe_int) (fun _ _ => rfl) (fun _ _ => rfl)) (ep_c pe_str))))) (el_var (pv 5)) (ep_2 vs_sub (pe_op op_sub (ep_var (pv 1)) (ep_c pe_int))))))
 ss_nil)
 (ss_one (ss_ret (ee_mv (pv 5))))))))))
theorem sc6 : FnScope ["thing", "sign"] ["thing"] (defScope s6) := ⟨rfl, rfl, rfl, by decide +kernel, rfl, by decide +kernel, by decide +kernel⟩
theorem ok6 (T : Txt K mg a x y fd)  : FnOk P w K mg base (L2.CX P w) 1 (a 6) (fd 6) ["thing"] (spF (tab K x y) 1 m_is_name) :=
  fn_ok T.f6 sc6 [true] rfl fun cdv A outer s H E σ0 hr => (ss_cons (ss_if (PW.pt (tw_or (te_not (te_bl (pt_val (ee_p (ep_N vs_isi (pe_callB call_isi (by rfl) T.z_isinstance (by decide +kernel) (pr_cons (ep_var (pv 0)) (pr_cons (ep_c (pe_bltn (v := .ty "str") (by rfl) T.z_str (by decide +kernel) rfl)) pr_nil)))))))) (tw_or (te_cmp vs_lt (pt_cmpR op_lt (ep_N vs_len (pe_callB call_lenP (by rfl) T.z_len (by decide +kernel) (pr_cons (ep_var (pv 0)) pr_nil))) (ep_c pe_int) (nomark _))) (pw_or1 (te_cmp vs_gt (pt_cmpR op_gt (ep_N vs_len (pe_callB call_lenP (by rfl) T.z_len (by decide +kernel) (pr_cons (ep_var (pv 0)) pr_nil))) (ep_c pe_int) (nomark _)))))))
 (ss_one (ss_ret (ee_p (ep_c pe_bl))))
 ss_nil)
 (ss_cons (ss_for (passes_of rfl) rfl (ip_any rfl (ep_var (pv 0))) (pg_name (i := 1) sc6.nd rfl (by first | exact Or.inl rfl | exact Or.inr rfl)) (tg_name rfl) (fun _ h => by simp [h]) (fun σ1 => (ss_one (ss_if (PW.pt (tw_and (te_ni rfl (hu_of hr) (ep_var (pv 1)) (ep_c (pe_glob rfl T.c_LETTERS.choose_spec ⟨_, rfl⟩)) rfl) (pw_and1 (te_ni rfl (hu_of hr) (ep_var (pv 1)) (ep_c (pe_glob rfl T.c_FIGURES.choose_spec ⟨_, rfl⟩)) rfl))))
 (ss_one (ss_ret (ee_p (ep_c pe_bl))))
 ss_nil))))
 (ss_one (ss_ret (ee_p (ep_in rfl (hu_of hr) (ep_ix rfl (hu_of hr) (ep_var (pv 0)) (ep_c pe_int) (fun _ _ => rfl) (fun _ _ => rfl)) (ep_c (pe_glob rfl T.c_LETTERS.choose_spec ⟨_, rfl⟩)) rfl))))))
theorem sc0 : FnScope ["thing"] ["thing"] (defScope s0) := ⟨rfl, rfl, rfl, by decide +kernel, rfl, by decide +kernel, by decide +kernel⟩
theorem ok0 (T : Txt K mg a x y fd)  : FnOk P w K mg base (L2.CX P w) 1 (a 0) (fd 0) ["thing"] (spF (tab K x y) 1 m_is_whole) :=
  fn_ok T.f0 sc0 [true] rfl fun cdv A outer s H E σ0 hr => (ss_one (ss_ret (ee_p (ep_and (ep_N vs_isi (pe_callB call_isi (by rfl) T.z_isinstance (by decide +kernel) (pr_cons (ep_var (pv 0)) (pr_cons (ep_c (pe_bltn (v := .ty "int") (by rfl) T.z_int (by decide +kernel) rfl)) pr_nil)))) (pe_one (ep_not (ep_N vs_isi (pe_callB call_isi (by rfl) T.z_isinstance (by decide +kernel) (pr_cons (ep_var (pv 0)) (pr_cons (ep_c (pe_bltn (v := .ty "bool") (by rfl) T.z_bool (by decide +kernel) rfl)) pr_nil))))))))))
theorem sc35 : FnScope ["self", "rows", "name", "cost", "room"] ["self", "rows"] (defScope s35) := ⟨rfl, rfl, rfl, by decide +kernel, rfl, by decide +kernel, by decide +kernel⟩
theorem ok35 (T : Txt K mg a x y fd)  : FnOk P w K mg base (L2.CX P w) 2 (a 35) (fd 35) ["self", "rows"] (spF (tab K x y) 2 m_Stock_init) :=
  fn_ok T.f35 sc35 [true, true] rfl fun cdv A outer s H E σ0 hr => (ss_cons (ss_if (te_cmp vs_gt (pt_cmpR op_gt (ep_N vs_len (pe_callB call_lenP (by rfl) T.z_len (by decide +kernel) (pr_cons (ep_var (pv 1)) pr_nil))) (ep_c pe_int) (nomark _)))
 (ss_one (ss_raise rfl (takes_of rfl rfl rfl rfl) (pmk_own PySem.F.excBase_ValueError T.x4 T.g_TooMany T.k_TooMany (raises_own T.b_4 T.t_4) rfl) rfl))
 ss_nil)
 (ss_cons (ss_sto (mu_fd T.ff_costs) (ps_fd (el_var (pv 0)) (ee_p ep_dnew)))
 (ss_cons (ss_sto (mu_fd T.ff_rooms) (ps_fd (el_var (pv 0)) (ee_p ep_dnew)))
 (ss_one (ss_for (passes_of rfl) rfl (ip_any rfl (ep_var (pv 1))) (pg_tup rfl (pgs_cons (pg_name (i := 2) sc35.nd rfl (by first | exact Or.inl rfl | exact Or.inr rfl)) (pgs_cons (pg_name (i := 3) sc35.nd rfl (by first | exact Or.inl rfl | exact Or.inr rfl)) (pgs_cons (pg_name (i := 4) sc35.nd rfl (by first | exact Or.inl rfl | exact Or.inr rfl)) pgs_nil)))) (tg_tup (tgs_cons (tg_name rfl) (tgs_cons (tg_name rfl) (tgs_cons (tg_name rfl) tgs_nil))) (tl_cons (tl_cons (tl_cons tl_nil)))) (fun _ h => by simp [h]) (fun σ1 => (ss_cons (ss_if (te_not (te_bl (pt_val (ee_p (ep_call (ok6 T) (hr.mono (by decide)) rfl T.g6 T.f6.kp T.b6 (takes_of rfl rfl rfl rfl) (pr_cons (ep_var (pv 2)) pr_nil))))))
 (ss_one (ss_raise rfl (takes_of rfl rfl rfl rfl) (pmk_own PySem.F.excBase_ValueError T.x1 T.g_NoName T.k_NoName (raises_own T.b_1 T.t_1) rfl) rfl))
 ss_nil)
 (ss_cons (ss_if (te_in rfl (hu_of hr) (ep_var (pv 2)) (ep_fd rfl T.ff_costs (ep_var (pv 0))) rfl)
 (ss_one (ss_raise rfl (takes_of rfl rfl rfl rfl) (pmk_own PySem.F.excBase_ValueError T.x3 T.g_Twice T.k_Twice (raises_own T.b_3 T.t_3) rfl) rfl))
 ss_nil)
 (ss_cons (ss_if (PW.pt (tw_or (te_not (te_bl (pt_val (ee_p (ep_call (ok0 T) (hr.mono (by decide)) rfl T.g0 T.f0.kp T.b0 (takes_of rfl rfl rfl rfl) (pr_cons (ep_var (pv 3)) pr_nil)))))) (tw_or (te_cmp vs_lt (pt_cmpR op_lt (ep_var (pv 3)) (ep_c pe_int) (nomark _))) (pw_or1 (te_cmp vs_gt (pt_cmpR op_gt (ep_var (pv 3)) (ep_2 vs_pow (pe_op op_pow (ep_c pe_int) (ep_c pe_int))) (nomark _)))))))
 (ss_one (ss_raise rfl (takes_of rfl rfl rfl rfl) (pmk_own PySem.F.excBase_ValueError T.x2 T.g_NoNumber T.k_NoNumber (raises_own T.b_2 T.t_2) rfl) rfl))
 ss_nil)
 (ss_cons (ss_if (PW.pt (tw_or (te_not (te_bl (pt_val (ee_p (ep_call (ok0 T) (hr.mono (by decide)) rfl T.g0 T.f0.kp T.b0 (takes_of rfl rfl rfl rfl) (pr_cons (ep_var (pv 4)) pr_nil)))))) (tw_or (te_cmp vs_lt (pt_cmpR op_lt (ep_var (pv 4)) (ep_c pe_int) (nomark _))) (pw_or1 (te_cmp vs_gt (pt_cmpR op_gt (ep_var (pv 4)) (ep_c pe_int) (nomark _)))))))
 (ss_one (ss_raise rfl (takes_of rfl rfl rfl rfl) (pmk_own PySem.F.excBase_ValueError T.x2 T.g_NoNumber T.k_NoNumber (raises_own T.b_2 T.t_2) rfl) rfl))
 ss_nil)
 (ss_cons (ss_sub (r := rSetA) mu_setA (ps_setA (hu_of hr) ((ee_mv (pv 3))) (el_fd rfl T.ff_costs (el_var (pv 0))) (ep_var (pv 2))))
 (ss_one (ss_sub (r := rSetA) mu_setA (ps_setA (hu_of hr) ((ee_mv (pv 4))) (el_fd rfl T.ff_rooms (el_var (pv 0))) (ep_var (pv 2))))))))))))))))
theorem sc10 : FnScope ["_law_lying", "_law_rooms", "_law_name", "_law_left", "_law_cell", "_law_others", "_law_more", "_law_lacks", "_law_gone_here", "_law_pick", "_law_other"] ["_law_lying", "_law_rooms", "_law_name", "_law_left", "_law_cell"] (defScope s10) := ⟨rfl, rfl, rfl, by decide +kernel, rfl, by decide +kernel, by decide +kernel⟩
theorem ok10 (T : Txt K mg a x y fd)  : FnOk P w K mg base (L2.CX P w) 1 (a 10) (fd 10) ["_law_lying", "_law_rooms", "_law_name", "_law_left", "_law_cell"] (spF (tab K x y) 5 mL_gone) :=
  fn_ok T.f10 sc10 [true, true, true, true, true] rfl fun cdv A outer s H E σ0 hr => (ss_cons (ss_setLc (i := 5) (x := "_law_other") (j := 10) (mt := (tBl (liftE (m2 fNe (mVar 10) (mVar 2))))) (me := mL_gone_e0) rfl sc10.nd rfl rfl rfl (sw_true rfl rfl rfl (by decide +kernel)) (ip_any rfl (ep_var (pv 0))) (blkOk_by (N := N10) (sc := defScope s10) (by decide +kernel)) (fun _ _ _ _ _ => pg_name (i := 10) sc10.nd rfl (by first | exact Or.inl rfl | exact Or.inr rfl)) (fun _ _ _ _ _ => pts_one (te_cmp vs_ne (pt_cmpR (op_neD hr.units) (ep_var (pv 10)) (ep_var (pv 2)) (nomark _)))) (fun _ _ _ _ _ => (ep_var (pv 10))))
 (ss_cons (ss_set (i := 6) sc10.nd rfl (by first | exact Or.inl rfl | exact Or.inr rfl) rfl (ee_p (ep_N vs_max (pe_callB (call_maxP rfl) (by rfl) T.z_max (by decide +kernel) (pr_cons (ep_c pe_int) (pr_cons (ep_2 vs_sub (pe_op op_sub (ep_2 vs_mod (pe_op op_modX (ep_2 vs_div (pe_op op_fdivX (ep_var (pv 4)) (ep_c pe_int))) (ep_c pe_int))) (ep_c pe_int))) pr_nil))))))
 (ss_cons (ss_set (i := 7) sc10.nd rfl (by first | exact Or.inl rfl | exact Or.inr rfl) rfl (ee_p (ep_c pe_int)))
 (ss_cons (ss_if (te_ni rfl (hu_of hr) (ep_var (pv 2)) (ep_var (pv 0)) rfl)
 (ss_one (ss_set (i := 7) sc10.nd rfl (by first | exact Or.inl rfl | exact Or.inr rfl) rfl (ee_p (ep_2 vs_sub (pe_op op_sub (ep_ix rfl (hu_of hr) (ep_var (pv 1)) (ep_var (pv 2)) (fun _ _ => rfl) (fun _ _ => rfl)) (ep_var (pv 3)))))))
 ss_nil)
 (ss_cons (ss_set (i := 8) sc10.nd rfl (by first | exact Or.inl rfl | exact Or.inr rfl) rfl (ee_lst (pd_row pk_nil')))
 (ss_cons (ss_set (i := 9) sc10.nd rfl (by first | exact Or.inl rfl | exact Or.inr rfl) rfl (ee_p (ep_2 vs_div (pe_op op_fdivX (ep_var (pv 4)) (ep_c pe_int)))))
 (ss_cons (ss_while (passes_of rfl) (PW.pt (tw_and (te_cmp vs_gt (pt_cmpR op_gt (ep_N vs_len (pe_callB call_lenP (by rfl) T.z_len (by decide +kernel) (pr_cons (ep_var (pv 5)) pr_nil))) (ep_c pe_int) (nomark _))) (pw_and1 (PW.pt (tw_or (te_cmp vs_lt (pt_cmpR op_lt (ep_N vs_len (pe_callB call_lenP (by rfl) T.z_len (by decide +kernel) (pr_cons (ep_var (pv 8)) pr_nil))) (ep_var (pv 6)) (nomark _))) (pw_or1 (te_cmp vs_gt (pt_cmpR op_gt (ep_var (pv 7)) (ep_c pe_int) (nomark _)))))))))
 (ss_cons (ss_set (i := 10) sc10.nd rfl (by first | exact Or.inl rfl | exact Or.inr rfl) rfl (ee_mut mu_popAt ty_lst (pe_bm PySem.F.plainAttrs_list PySem.F.slot_list_pop PySem.F.type_list_pop mt_popAt (el_var (pv 5)) (pk_p (ep_2 vs_mod (pe_op op_modX (ep_var (pv 9)) (ep_N vs_len (pe_callB call_lenP (by rfl) T.z_len (by decide +kernel) (pr_cons (ep_var (pv 5)) pr_nil))))) pk_nil'))))
 (ss_cons (ss_expr (ee_mut mu_append ty_lst (pe_bm PySem.F.plainAttrs_list PySem.F.slot_list_append PySem.F.type_list_append mt_append (el_var (pv 8)) (pk_mv (pv 10) pk_nil'))))
 (ss_cons (ss_set (i := 7) sc10.nd rfl (by first | exact Or.inl rfl | exact Or.inr rfl) rfl (ee_p (ep_2 vs_sub (pe_op op_sub (ep_var (pv 7)) (ep_ix rfl (hu_of hr) (ep_var (pv 1)) (ep_var (pv 10)) (fun _ _ => rfl) (fun _ _ => rfl))))))
 (ss_one (ss_set (i := 9) sc10.nd rfl (by first | exact Or.inl rfl | exact Or.inr rfl) rfl (ee_p (ep_2 vs_div (pe_op op_fdivX (ep_var (pv 9)) (ep_c pe_int))))))))))
 (ss_one (ss_ret (ee_mv (pv 8)))))))))))
theorem sc11 : FnScope ["_law_asks", "_law_cells", "_law_rooms", "_law_places", "_law_book", "_law_behind", "_law_lying", "_law_left", "_law_name", "_law_cell", "_law_there", "_law_gone_here", "_law_other"] ["_law_asks", "_law_cells", "_law_rooms", "_law_places"] (defScope s11) := ⟨rfl, rfl, rfl, by decide +kernel, rfl, by decide +kernel, by decide +kernel⟩
theorem ok11 (T : Txt K mg a x y fd)  : FnOk P w K mg base (L2.CX P w) 2 (a 11) (fd 11) ["_law_asks", "_law_cells", "_law_rooms", "_law_places"] (spF (tab K x y) 4 mL_run) :=
  fn_ok T.f11 sc11 [true, true, true, true] rfl fun cdv A outer s H E σ0 hr => (ss_cons (ss_set (i := 4) sc11.nd rfl (by first | exact Or.inl rfl | exact Or.inr rfl) rfl (ee_lst (pd_row pk_nil')))
 (ss_cons (ss_set (i := 5) sc11.nd rfl (by first | exact Or.inl rfl | exact Or.inr rfl) rfl (ee_lst (pd_row pk_nil')))
 (ss_cons (ss_set (i := 6) sc11.nd rfl (by first | exact Or.inl rfl | exact Or.inr rfl) rfl (ee_lst (pd_row pk_nil')))
 (ss_cons (ss_set (i := 7) sc11.nd rfl (by first | exact Or.inl rfl | exact Or.inr rfl) rfl (ee_mv (pv 3)))
 (ss_cons (ss_for (passes_of rfl) rfl (ip_zip rfl (pi_zip (by rfl) T.z_zip (pk_p (ep_var (pv 0)) (pk_p (ep_var (pv 1)) pk_nil')))) (pg_tup rfl (pgs_cons (pg_name (i := 8) sc11.nd rfl (by first | exact Or.inl rfl | exact Or.inr rfl)) (pgs_cons (pg_name (i := 9) sc11.nd rfl (by first | exact Or.inl rfl | exact Or.inr rfl)) pgs_nil))) (tg_tup (tgs_cons (tg_name rfl) (tgs_cons (tg_name rfl) tgs_nil)) (tl_cons (tl_cons tl_nil))) (fun _ h => by simp [h]) (fun σ1 => (ss_cons (ss_set (i := 10) sc11.nd rfl (by first | exact Or.inl rfl | exact Or.inr rfl) rfl (ee_p (ep_in rfl (hu_of hr) (ep_var (pv 8)) (ep_var (pv 6)) rfl)))
 (ss_cons (ss_set (i := 11) sc11.nd rfl (by first | exact Or.inl rfl | exact Or.inr rfl) rfl (ee_p (ep_call (ok10 T) (hr.mono (by decide)) rfl T.g10 T.f10.kp T.b10 (takes_of rfl rfl rfl rfl) (pr_cons (ep_var (pv 6)) (pr_cons (ep_var (pv 2)) (pr_cons (ep_var (pv 8)) (pr_cons (ep_var (pv 7)) (pr_cons (ep_var (pv 9)) pr_nil))))))))
 (ss_cons (ss_for (passes_of rfl) rfl (ip_any rfl (ep_var (pv 11))) (pg_name (i := 12) sc11.nd rfl (by first | exact Or.inl rfl | exact Or.inr rfl)) (tg_name rfl) (fun _ h => by simp [h]) (fun σ1 => (ss_cons (ss_expr (ee_mut mu_remove ty_lst (pe_bm PySem.F.plainAttrs_list PySem.F.slot_list_remove PySem.F.type_list_remove mt_removeT (el_var (pv 6)) (pk_mv (pv 12) pk_nil'))))
 (ss_one (ss_set (i := 7) sc11.nd rfl (by first | exact Or.inl rfl | exact Or.inr rfl) rfl (ee_p (ep_2 vs_add (pe_op op_addP (ep_var (pv 7)) (ep_ix rfl (hu_of hr) (ep_var (pv 2)) (ep_var (pv 12)) (fun _ _ => rfl) (fun _ _ => rfl))))))))))
 (ss_cons (ss_if (te_not (te_bl (pt_val (ee_mv (pv 10)))))
 (ss_cons (ss_expr (ee_mut mu_append ty_lst (pe_bm PySem.F.plainAttrs_list PySem.F.slot_list_append PySem.F.type_list_append mt_append (el_var (pv 6)) (pk_mv (pv 8) pk_nil'))))
 (ss_one (ss_set (i := 7) sc11.nd rfl (by first | exact Or.inl rfl | exact Or.inr rfl) rfl (ee_p (ep_2 vs_sub (pe_op op_sub (ep_var (pv 7)) (ep_ix rfl (hu_of hr) (ep_var (pv 2)) (ep_var (pv 8)) (fun _ _ => rfl) (fun _ _ => rfl))))))))
 ss_nil)
 (ss_cons (ss_expr (ee_mutE mu_append ty_lst (pe_bm PySem.F.plainAttrs_list PySem.F.slot_list_append PySem.F.type_list_append mt_append (el_var (pv 4)) (pa_1 (ee_tup (pd_row (pk_mv (pv 8) (pk_mv (pv 10) (pk_mv (pv 11) pk_nil')))))))))
 (ss_one (ss_expr (ee_mut mu_append ty_lst (pe_bm PySem.F.plainAttrs_list PySem.F.slot_list_append PySem.F.type_list_append mt_append (el_var (pv 5)) (pk_p (ep_N vs_listA (pe_callTy (call_listA rfl) (by rfl) T.z_list (by decide +kernel) (pr_cons (ep_var (pv 6)) pr_nil))) pk_nil'))))))))))))
 (ss_one (ss_ret (ee_tup (pd_row (pk_mv (pv 4) (pk_mv (pv 5) pk_nil')))))))))))
theorem sc12 : FnScope ["_law_book", "_law_name", "_law_there", "_law_gone_here"] ["_law_book"] (defScope s12) := ⟨rfl, rfl, rfl, by decide +kernel, rfl, by decide +kernel, by decide +kernel⟩
theorem ok12 (T : Txt K mg a x y fd)  : FnOk P w K mg base (L2.CX P w) 1 (a 12) (fd 12) ["_law_book"] (spF (tab K x y) 1 mL_copy) :=
  fn_ok T.f12 sc12 [true] rfl fun cdv A outer s H E σ0 hr => (ss_one (ss_ret (ee_p (ep_lcO (own := [("_law_name", 1), ("_law_there", 2), ("_law_gone_here", 3)]) (f := (tgT (tsCons (tgN 1) (tsCons (tgN 2) (tsCons (tgN 3) tsNil))))) (mt := tTrue) (me := mL_copy_e0) rfl sc12.nd (ip_any rfl (ep_var (pv 0))) (blkOk_by (N := N12) (sc := defScope s12) (by decide +kernel)) (tg_tup (tgs_cons (tg_name rfl) (tgs_cons (tg_name rfl) (tgs_cons (tg_name rfl) tgs_nil))) (tl_cons (tl_cons (tl_cons tl_nil)))) (fun _ _ _ _ _ => (pg_tup rfl (pgs_cons (pg_name (i := 1) sc12.nd rfl (by first | exact Or.inl rfl | exact Or.inr rfl)) (pgs_cons (pg_name (i := 2) sc12.nd rfl (by first | exact Or.inl rfl | exact Or.inr rfl)) (pgs_cons (pg_name (i := 3) sc12.nd rfl (by first | exact Or.inl rfl | exact Or.inr rfl)) pgs_nil))))) (fun _ _ _ _ _ => pts_true) (fun _ _ _ _ _ => (ep_tup (ms := [(mVar 1), (mVar 2), (mN fListA [(mVar 3)])]) (pk_p (ep_var (pv 1)) (pk_p (ep_var (pv 2)) (pk_p (ep_N vs_listA (pe_callTy (call_listA rfl) (by rfl) T.z_list (by decide +kernel) (pr_cons (ep_var (pv 3)) pr_nil))) pk_nil')))))))))
theorem sc1 : FnScope ["places"] ["places"] (defScope s1) := ⟨rfl, rfl, rfl, by decide +kernel, rfl, by decide +kernel, by decide +kernel⟩
theorem ok1 (T : Txt K mg a x y fd)  : FnOk P w K mg base (L2.CX P w) 2 (a 1) (fd 1) ["places"] (spF (tab K x y) 1 m_need_places) :=
  fn_ok T.f1 sc1 [true] rfl fun cdv A outer s H E σ0 hr => (ss_cons (ss_if (PW.pt (tw_or (te_not (te_bl (pt_val (ee_p (ep_call (ok0 T) (hr.mono (by decide)) rfl T.g0 T.f0.kp T.b0 (takes_of rfl rfl rfl rfl) (pr_cons (ep_var (pv 0)) pr_nil)))))) (tw_or (te_cmp vs_lt (pt_cmpR op_lt (ep_var (pv 0)) (ep_c pe_int) (nomark _))) (pw_or1 (te_cmp vs_gt (pt_cmpR op_gt (ep_var (pv 0)) (ep_c (pe_glob rfl T.c_MOST_PLACES.choose_spec ⟨_, rfl⟩)) (nomark _)))))))
 (ss_one (ss_raise rfl (takes_of rfl rfl rfl rfl) (pmk_own PySem.F.excBase_ValueError T.x2 T.g_NoNumber T.k_NoNumber (raises_own T.b_2 T.t_2) rfl) rfl))
 ss_nil)
 (ss_one (ss_ret (ee_mv (pv 0)))))
theorem sc37 : FnScope ["self", "name"] ["self", "name"] (defScope s37) := ⟨rfl, rfl, rfl, by decide +kernel, rfl, by decide +kernel, by decide +kernel⟩
theorem ok37 (T : Txt K mg a x y fd)  : FnOk P w K mg base (L2.CX P w) 1 (a 37) (fd 37) ["self", "name"] (spF (tab K x y) 2 m_Stock_has) :=
  fn_ok T.f37 sc37 [true, true] rfl fun cdv A outer s H E σ0 hr => (ss_one (ss_ret (ee_p (ep_in rfl (hu_of hr) (ep_var (pv 1)) (ep_fd rfl T.ff_costs (ep_var (pv 0))) rfl))))
theorem sc40 : FnScope ["self", "name"] ["self", "name"] (defScope s40) := ⟨rfl, rfl, rfl, by decide +kernel, rfl, by decide +kernel, by decide +kernel⟩
theorem ok40 (T : Txt K mg a x y fd)  : FnOk P w K mg base (L2.CX P w) 3 (a 40) (fd 40) ["self", "name"] (spF (tab K x y) 2 m_Stock_room_of) :=
  fn_ok T.f40 sc40 [true, true] rfl fun cdv A outer s H E σ0 hr => (ss_cons (ss_if (te_ni rfl (hu_of hr) (ep_var (pv 1)) (ep_fd rfl T.ff_rooms (ep_var (pv 0))) rfl)
 (ss_one (ss_raiseX rfl rfl (takes_of rfl rfl rfl rfl) T.ra5 (T.xi5 _ _ _) (hr.mono (by decide)) T.b20 rfl T.g_Unknown (pr_cons (ep_var (pv 1)) (pr_cons (ep_1 vs_neg (pe_un un_neg (ep_c pe_int))) pr_nil))))
 ss_nil)
 (ss_one (ss_ret (ee_p (ep_ix rfl (hu_of hr) (ep_fd rfl T.ff_rooms (ep_var (pv 0))) (ep_var (pv 1)) (fun _ _ => rfl) (fun _ _ => rfl))))))
theorem sc2 : FnScope ["stock", "asks", "places", "at", "name"] ["stock", "asks", "places"] (defScope s2) := ⟨rfl, rfl, rfl, by decide +kernel, rfl, by decide +kernel, by decide +kernel⟩
theorem ok2 (T : Txt K mg a x y fd)  : FnOk P w K mg base (L2.CX P w) 4 (a 2) (fd 2) ["stock", "asks", "places"] (spF (tab K x y) 3 m_check_asks) :=
  fn_ok T.f2 sc2 [true, true, true] rfl fun cdv A outer s H E σ0 hr => (ss_cons (ss_expr (ee_p (ep_call (ok1 T) (hr.mono (by decide)) rfl T.g1 T.f1.kp T.b1 (takes_of rfl rfl rfl rfl) (pr_cons (ep_var (pv 2)) pr_nil))))
 (ss_cons (ss_if (te_cmp vs_gt (pt_cmpR op_gt (ep_N vs_len (pe_callB call_lenP (by rfl) T.z_len (by decide +kernel) (pr_cons (ep_var (pv 1)) pr_nil))) (ep_c (pe_glob rfl T.c_MOST_ASKS.choose_spec ⟨_, rfl⟩)) (nomark _)))
 (ss_one (ss_raise rfl (takes_of rfl rfl rfl rfl) (pmk_own PySem.F.excBase_ValueError T.x4 T.g_TooMany T.k_TooMany (raises_own T.b_4 T.t_4) rfl) rfl))
 ss_nil)
 (ss_cons (ss_for (passes_of rfl) rfl (ip_enum rfl (pi_enum (by rfl) T.z_enumerate (pk_p (ep_var (pv 1)) pk_nil'))) (pg_tup rfl (pgs_cons (pg_name (i := 3) sc2.nd rfl (by first | exact Or.inl rfl | exact Or.inr rfl)) (pgs_cons (pg_name (i := 4) sc2.nd rfl (by first | exact Or.inl rfl | exact Or.inr rfl)) pgs_nil))) (tg_tup (tgs_cons (tg_name rfl) (tgs_cons (tg_name rfl) tgs_nil)) (tl_cons (tl_cons tl_nil))) (fun _ h => by simp [h]) (fun σ1 => (ss_cons (ss_if (te_not (te_bl (pt_val (ee_p (ep_meth rfl T.mo_1_has (ok37 T) (hr.mono (by decide)) T.b37 (takes_of rfl rfl rfl rfl) (ep_var (pv 0)) (pr_cons (ep_var (pv 4)) pr_nil))))))
 (ss_one (ss_raiseX rfl rfl (takes_of rfl rfl rfl rfl) T.ra5 (T.xi5 _ _ _) (hr.mono (by decide)) T.b20 rfl T.g_Unknown (pr_cons (ep_var (pv 4)) (pr_cons (ep_var (pv 3)) pr_nil))))
 ss_nil)
 (ss_one (ss_if (te_cmp vs_gt (pt_cmpR op_gt (ep_meth rfl T.mo_1_room_of (ok40 T) (hr.mono (by decide)) T.b40 (takes_of rfl rfl rfl rfl) (ep_var (pv 0)) (pr_cons (ep_var (pv 4)) pr_nil)) (ep_var (pv 2)) (nomark _)))
 (ss_one (ss_raiseX rfl rfl (takes_of rfl rfl rfl rfl) T.ra6 (T.xi6 _ _ _) (hr.mono (by decide)) T.b22 rfl T.g_TooWide (pr_cons (ep_var (pv 4)) (pr_cons (ep_var (pv 3)) pr_nil))))
 ss_nil)))))
 (ss_one (ss_ret (ee_p (ep_c pe_bl)))))))
theorem sc29 : FnScope ["self", "stock", "places"] ["self", "stock", "places"] (defScope s29) := ⟨rfl, rfl, rfl, by decide +kernel, rfl, by decide +kernel, by decide +kernel⟩
theorem ok29 (T : Txt K mg a x y fd)  : FnOk P w K mg base (L2.CX P w) 3 (a 29) (fd 29) ["self", "stock", "places"] (spF (tab K x y) 3 m_Shelf_init) :=
  fn_ok T.f29 sc29 [true, true, true] rfl fun cdv A outer s H E σ0 hr => (ss_cons (ss_sto (mu_fd T.ff_stock) (ps_fd (el_var (pv 0)) (ee_mv (pv 1))))
 (ss_cons (ss_sto (mu_fd T.ff_places) (ps_fd (el_var (pv 0)) (ee_p (ep_call (ok1 T) (hr.mono (by decide)) rfl T.g1 T.f1.kp T.b1 (takes_of rfl rfl rfl rfl) (pr_cons (ep_var (pv 2)) pr_nil)))))
 (ss_cons (ss_sto (mu_fd T.ff_there) (ps_fd (el_var (pv 0)) (ee_lst (pd_row pk_nil'))))
 (ss_one (ss_sto (mu_fd T.ff_used) (ps_fd (el_var (pv 0)) (ee_p (ep_c pe_int))))))))
theorem sc34 : FnScope ["self", "name"] ["self", "name"] (defScope s34) := ⟨rfl, rfl, rfl, by decide +kernel, rfl, by decide +kernel, by decide +kernel⟩
theorem ok34 (T : Txt K mg a x y fd)  : FnOk P w K mg base (L2.CX P w) 4 (a 34) (fd 34) ["self", "name"] (spF (tab K x y) 2 m_Shelf_cast) :=
  fn_ok T.f34 sc34 [true, true] rfl fun cdv A outer s H E σ0 hr => (ss_cons (ss_if (te_ni rfl (hu_of hr) (ep_var (pv 1)) (ep_fd rfl T.ff_there (ep_var (pv 0))) rfl)
 (ss_one (ss_raise rfl (takes_of rfl rfl rfl rfl) (pmk_own PySem.F.excBase_ValueError T.x8 T.g_NotThere T.k_NotThere (raises_own T.b_8 T.t_8) rfl) rfl))
 ss_nil)
 (ss_cons (ss_expr (ee_mut mu_remove ty_lst (pe_bm PySem.F.plainAttrs_list PySem.F.slot_list_remove PySem.F.type_list_remove mt_removeT (el_fd rfl T.ff_there (el_var (pv 0))) (pk_mv (pv 1) pk_nil'))))
 (ss_one (ss_sto (mu_fd T.ff_used) (ps_fd (el_var (pv 0)) (ee_p (ep_2 vs_sub (pe_op op_sub (ep_fd rfl T.ff_used (ep_var (pv 0))) (ep_meth rfl T.mo_1_room_of (ok40 T) (hr.mono (by decide)) T.b40 (takes_of rfl rfl rfl rfl) (ep_fd rfl T.ff_stock (ep_var (pv 0))) (pr_cons (ep_var (pv 1)) pr_nil))))))))))
theorem sc31 : FnScope ["self", "name"] ["self", "name"] (defScope s31) := ⟨rfl, rfl, rfl, by decide +kernel, rfl, by decide +kernel, by decide +kernel⟩
theorem ok31 (T : Txt K mg a x y fd)  : FnOk P w K mg base (L2.CX P w) 1 (a 31) (fd 31) ["self", "name"] (spF (tab K x y) 2 m_Shelf_holds) :=
  fn_ok T.f31 sc31 [true, true] rfl fun cdv A outer s H E σ0 hr => (ss_one (ss_ret (ee_p (ep_in rfl (hu_of hr) (ep_var (pv 1)) (ep_fd rfl T.ff_there (ep_var (pv 0))) rfl))))
theorem sc3 : FnScope ["shelf", "name", "gone", "at", "other"] ["shelf", "name", "gone", "at"] (defScope s3) := ⟨rfl, rfl, rfl, by decide +kernel, rfl, by decide +kernel, by decide +kernel⟩
theorem ok3 (T : Txt K mg a x y fd)  : FnOk P w K mg base (L2.CX P w) 5 (a 3) (fd 3) ["shelf", "name", "gone", "at"] (spF (tab K x y) 4 m_cast_all) :=
  fn_ok T.f3 sc3 [true, true, true, true] rfl fun cdv A outer s H E σ0 hr => (ss_one (ss_for (passes_of rfl) rfl (ip_any rfl (ep_var (pv 2))) (pg_name (i := 4) sc3.nd rfl (by first | exact Or.inl rfl | exact Or.inr rfl)) (tg_name rfl) (fun _ h => by simp [h]) (fun σ1 => (ss_cons (ss_if (PW.pt (tw_or (te_cmp vs_eq (pt_cmpR (op_eqD hr.units) (ep_var (pv 4)) (ep_var (pv 1)) (nomark _))) (pw_or1 (te_not (te_bl (pt_val (ee_p (ep_meth rfl T.mo_0_holds (ok31 T) (hr.mono (by decide)) T.b31 (takes_of rfl rfl rfl rfl) (ep_var (pv 0)) (pr_cons (ep_var (pv 4)) pr_nil)))))))))
 (ss_one (ss_raiseX rfl rfl (takes_of rfl rfl rfl rfl) T.ra10 (T.xi10 _ _ _) (hr.mono (by decide)) T.b27 rfl T.g_BadBook (pr_cons (ep_var (pv 3)) pr_nil)))
 ss_nil)
 (ss_one (ss_expr (ee_meth (c := .pl (lVar 0)) rfl T.mo_0_cast (ok34 T) (hr.mono (by decide)) T.b34 (takes_of rfl rfl rfl rfl) (el_var (pv 0)) (pca_cons (c := .rd (mVar 4)) (ep_var (pv 4)) pca_nil))))))))
theorem sc32 : FnScope ["self"] ["self"] (defScope s32) := ⟨rfl, rfl, rfl, by decide +kernel, rfl, by decide +kernel, by decide +kernel⟩
theorem ok32 (T : Txt K mg a x y fd)  : FnOk P w K mg base (L2.CX P w) 1 (a 32) (fd 32) ["self"] (spF (tab K x y) 1 m_Shelf_room_left) :=
  fn_ok T.f32 sc32 [true] rfl fun cdv A outer s H E σ0 hr => (ss_one (ss_ret (ee_p (ep_2 vs_sub (pe_op op_sub (ep_fd rfl T.ff_places (ep_var (pv 0))) (ep_fd rfl T.ff_used (ep_var (pv 0))))))))
theorem sc33 : FnScope ["self", "name", "room"] ["self", "name"] (defScope s33) := ⟨rfl, rfl, rfl, by decide +kernel, rfl, by decide +kernel, by decide +kernel⟩
theorem ok33 (T : Txt K mg a x y fd)  : FnOk P w K mg base (L2.CX P w) 4 (a 33) (fd 33) ["self", "name"] (spF (tab K x y) 2 m_Shelf_put) :=
  fn_ok T.f33 sc33 [true, true] rfl fun cdv A outer s H E σ0 hr => (ss_cons (ss_set (i := 2) sc33.nd rfl (by first | exact Or.inl rfl | exact Or.inr rfl) rfl (ee_p (ep_meth rfl T.mo_1_room_of (ok40 T) (hr.mono (by decide)) T.b40 (takes_of rfl rfl rfl rfl) (ep_fd rfl T.ff_stock (ep_var (pv 0))) (pr_cons (ep_var (pv 1)) pr_nil))))
 (ss_cons (ss_if (te_in rfl (hu_of hr) (ep_var (pv 1)) (ep_fd rfl T.ff_there (ep_var (pv 0))) rfl)
 (ss_one (ss_raise rfl (takes_of rfl rfl rfl rfl) (pmk_own PySem.F.excBase_ValueError T.x7 T.g_There T.k_There (raises_own T.b_7 T.t_7) rfl) rfl))
 ss_nil)
 (ss_cons (ss_if (te_cmp vs_gt (pt_cmpR op_gt (ep_var (pv 2)) (ep_meth0 rfl T.mo_0_room_left (ok32 T) (hr.mono (by decide)) T.b32 (takes_of rfl rfl rfl rfl) (ep_var (pv 0))) (nomark _)))
 (ss_one (ss_raise rfl (takes_of rfl rfl rfl rfl) (pmk_own PySem.F.excBase_ValueError T.x9 T.g_Full T.k_Full (raises_own T.b_9 T.t_9) rfl) rfl))
 ss_nil)
 (ss_cons (ss_expr (ee_mut mu_append ty_lst (pe_bm PySem.F.plainAttrs_list PySem.F.slot_list_append PySem.F.type_list_append mt_append (el_fd rfl T.ff_there (el_var (pv 0))) (pk_mv (pv 1) pk_nil'))))
 (ss_one (ss_sto (mu_fd T.ff_used) (ps_fd (el_var (pv 0)) (ee_p (ep_2 vs_add (pe_op op_addP (ep_fd rfl T.ff_used (ep_var (pv 0))) (ep_var (pv 2))))))))))))
theorem sc4 : FnScope ["shelf", "name", "line", "at"] ["shelf", "name", "line", "at"] (defScope s4) := ⟨rfl, rfl, rfl, by decide +kernel, rfl, by decide +kernel, by decide +kernel⟩
theorem ok4 (T : Txt K mg a x y fd)  : FnOk P w K mg base (L2.CX P w) 6 (a 4) (fd 4) ["shelf", "name", "line", "at"] (spF (tab K x y) 4 m_serve) :=
  fn_ok T.f4 sc4 [true, true, true, true] rfl fun cdv A outer s H E σ0 hr => (ss_cons (ss_if (PW.pt (tw_or (te_cmp vs_ne (pt_cmpR (op_neD hr.units) (ep_ix rfl (hu_of hr) (ep_var (pv 2)) (ep_c pe_int) (fun _ _ => rfl) (fun _ _ => rfl)) (ep_var (pv 1)) (nomark _))) (pw_or1 (te_cmp vs_ne (pt_cmpR (op_neD hr.units) (ep_ix rfl (hu_of hr) (ep_var (pv 2)) (ep_c pe_int) (fun _ _ => rfl) (fun _ _ => rfl)) (ep_meth rfl T.mo_0_holds (ok31 T) (hr.mono (by decide)) T.b31 (takes_of rfl rfl rfl rfl) (ep_var (pv 0)) (pr_cons (ep_var (pv 1)) pr_nil)) (nomark _))))))
 (ss_one (ss_raiseX rfl rfl (takes_of rfl rfl rfl rfl) T.ra10 (T.xi10 _ _ _) (hr.mono (by decide)) T.b27 rfl T.g_BadBook (pr_cons (ep_var (pv 3)) pr_nil)))
 ss_nil)
 (ss_cons (ss_expr (ee_call (ok3 T) (hr.mono (by decide)) rfl T.g3 T.f3.kp T.b3 (takes_of rfl rfl rfl rfl) (pca_cons (c := .pl (lVar 0)) (el_var (pv 0)) (pca_cons (c := .rd (mVar 1)) (ep_var (pv 1)) (pca_cons (c := .rd (mIx (mVar 2) (mC (.int 2)))) (ep_ix rfl (hu_of hr) (ep_var (pv 2)) (ep_c pe_int) (fun _ _ => rfl) (fun _ _ => rfl)) (pca_cons (c := .rd (mVar 3)) (ep_var (pv 3)) pca_nil))))))
 (ss_cons (ss_if (te_bl (pt_val (ee_p (ep_ix rfl (hu_of hr) (ep_var (pv 2)) (ep_c pe_int) (fun _ _ => rfl) (fun _ _ => rfl)))))
 (ss_one ss_retN)
 ss_nil)
 (ss_cons (ss_if (te_cmp vs_gt (pt_cmpR op_gt (ep_meth rfl T.mo_1_room_of (ok40 T) (hr.mono (by decide)) T.b40 (takes_of rfl rfl rfl rfl) (ep_fd rfl T.ff_stock (ep_var (pv 0))) (pr_cons (ep_var (pv 1)) pr_nil)) (ep_meth0 rfl T.mo_0_room_left (ok32 T) (hr.mono (by decide)) T.b32 (takes_of rfl rfl rfl rfl) (ep_var (pv 0))) (nomark _)))
 (ss_one (ss_raiseX rfl rfl (takes_of rfl rfl rfl rfl) T.ra10 (T.xi10 _ _ _) (hr.mono (by decide)) T.b27 rfl T.g_BadBook (pr_cons (ep_var (pv 3)) pr_nil)))
 ss_nil)
 (ss_one (ss_expr (ee_meth (c := .pl (lVar 0)) rfl T.mo_0_put (ok33 T) (hr.mono (by decide)) T.b33 (takes_of rfl rfl rfl rfl) (el_var (pv 0)) (pca_cons (c := .rd (mVar 1)) (ep_var (pv 1)) pca_nil))))))))
theorem sc30 : FnScope ["self"] ["self"] (defScope s30) := ⟨rfl, rfl, rfl, by decide +kernel, rfl, by decide +kernel, by decide +kernel⟩
theorem ok30 (T : Txt K mg a x y fd)  : FnOk P w K mg base (L2.CX P w) 1 (a 30) (fd 30) ["self"] (spF (tab K x y) 1 m_Shelf_lying) :=
  fn_ok T.f30 sc30 [true] rfl fun cdv A outer s H E σ0 hr => (ss_one (ss_ret (ee_p (ep_N vs_listA (pe_callTy (call_listA rfl) (by rfl) T.z_list (by decide +kernel) (pr_cons (ep_fd rfl T.ff_there (ep_var (pv 0))) pr_nil))))))
theorem sc5 : FnScope ["stock", "asks", "places", "book", "shelf", "found", "at", "name"] ["stock", "asks", "places", "book"] (defScope s5) := ⟨rfl, rfl, rfl, by decide +kernel, rfl, by decide +kernel, by decide +kernel⟩
theorem ok5 (T : Txt K mg a x y fd)  : FnOk P w K mg base (L2.CX P w) 7 (a 5) (fd 5) ["stock", "asks", "places", "book"] (spF (tab K x y) 4 m_lying_after) :=
  fn_ok T.f5 sc5 [true, true, true, true] rfl fun cdv A outer s H E σ0 hr => (ss_cons (ss_expr (ee_p (ep_call (ok2 T) (hr.mono (by decide)) rfl T.g2 T.f2.kp T.b2 (takes_of rfl rfl rfl rfl) (pr_cons (ep_var (pv 0)) (pr_cons (ep_var (pv 1)) (pr_cons (ep_var (pv 2)) pr_nil))))))
 (ss_cons (ss_set (i := 4) sc5.nd rfl (by first | exact Or.inl rfl | exact Or.inr rfl) rfl (ee_p (ep_make rfl T.mk0 (ok29 T) (hr.mono (by decide)) rfl T.gc0 T.b29 (takes_of rfl rfl rfl rfl) (pr_cons (ep_var (pv 0)) (pr_cons (ep_var (pv 2)) pr_nil)))))
 (ss_cons (ss_set (i := 5) sc5.nd rfl (by first | exact Or.inl rfl | exact Or.inr rfl) rfl (ee_lst (pd_row pk_nil')))
 (ss_cons (ss_for (passes_of rfl) rfl (ip_enum rfl (pi_enum (by rfl) T.z_enumerate (pk_p (ep_var (pv 1)) pk_nil'))) (pg_tup rfl (pgs_cons (pg_name (i := 6) sc5.nd rfl (by first | exact Or.inl rfl | exact Or.inr rfl)) (pgs_cons (pg_name (i := 7) sc5.nd rfl (by first | exact Or.inl rfl | exact Or.inr rfl)) pgs_nil))) (tg_tup (tgs_cons (tg_name rfl) (tgs_cons (tg_name rfl) tgs_nil)) (tl_cons (tl_cons tl_nil))) (fun _ h => by simp [h]) (fun σ1 => (ss_cons (ss_if (te_cmp vs_ge (pt_cmpR op_ge (ep_var (pv 6)) (ep_N vs_len (pe_callB call_lenP (by rfl) T.z_len (by decide +kernel) (pr_cons (ep_var (pv 3)) pr_nil))) (nomark _)))
 (ss_one (ss_raiseX rfl rfl (takes_of rfl rfl rfl rfl) T.ra10 (T.xi10 _ _ _) (hr.mono (by decide)) T.b27 rfl T.g_BadBook (pr_cons (ep_var (pv 6)) pr_nil)))
 ss_nil)
 (ss_cons (ss_expr (ee_call (ok4 T) (hr.mono (by decide)) rfl T.g4 T.f4.kp T.b4 (takes_of rfl rfl rfl rfl) (pca_cons (c := .pl (lVar 4)) (el_var (pv 4)) (pca_cons (c := .rd (mVar 7)) (ep_var (pv 7)) (pca_cons (c := .rd (mIx (mVar 3) (mVar 6))) (ep_ix rfl (hu_of hr) (ep_var (pv 3)) (ep_var (pv 6)) (fun _ _ => rfl) (fun _ _ => rfl)) (pca_cons (c := .rd (mVar 6)) (ep_var (pv 6)) pca_nil))))))
 (ss_one (ss_expr (ee_mut mu_append ty_lst (pe_bm PySem.F.plainAttrs_list PySem.F.slot_list_append PySem.F.type_list_append mt_append (el_var (pv 5)) (pk_p (ep_meth0 rfl T.mo_0_lying (ok30 T) (hr.mono (by decide)) T.b30 (takes_of rfl rfl rfl rfl) (ep_var (pv 4))) pk_nil')))))))))
 (ss_cons (ss_if (te_cmp vs_gt (pt_cmpR op_gt (ep_N vs_len (pe_callB call_lenP (by rfl) T.z_len (by decide +kernel) (pr_cons (ep_var (pv 3)) pr_nil))) (ep_N vs_len (pe_callB call_lenP (by rfl) T.z_len (by decide +kernel) (pr_cons (ep_var (pv 1)) pr_nil))) (nomark _)))
 (ss_one (ss_raiseX rfl rfl (takes_of rfl rfl rfl rfl) T.ra10 (T.xi10 _ _ _) (hr.mono (by decide)) T.b27 rfl T.g_BadBook (pr_cons (ep_N vs_len (pe_callB call_lenP (by rfl) T.z_len (by decide +kernel) (pr_cons (ep_var (pv 1)) pr_nil))) pr_nil)))
 ss_nil)
 (ss_one (ss_ret (ee_mv (pv 5)))))))))
theorem sc13 : FnScope ["_law_found", "_law_due", "_law_one", "_law_other"] ["_law_found", "_law_due"] (defScope s13) := ⟨rfl, rfl, rfl, by decide +kernel, rfl, by decide +kernel, by decide +kernel⟩
theorem ok13 (T : Txt K mg a x y fd)  : FnOk P w K mg base (L2.CX P w) 1 (a 13) (fd 13) ["_law_found", "_law_due"] (spF (tab K x y) 2 mL_lists) :=
  fn_ok T.f13 sc13 [true, true] rfl fun cdv A outer s H E σ0 hr => (ss_cons (ss_if (PW.pt (tw_or (te_not (te_bl (pt_val (ee_p (ep_N vs_isi (pe_callB call_isi (by rfl) T.z_isinstance (by decide +kernel) (pr_cons (ep_var (pv 0)) (pr_cons (ep_c (pe_bltn (v := .ty "list") (by rfl) T.z_list (by decide +kernel) rfl)) pr_nil)))))))) (pw_or1 (te_cmp vs_ne (pt_cmpR (op_neD hr.units) (ep_N vs_len (pe_callB call_lenP (by rfl) T.z_len (by decide +kernel) (pr_cons (ep_var (pv 0)) pr_nil))) (ep_N vs_len (pe_callB call_lenP (by rfl) T.z_len (by decide +kernel) (pr_cons (ep_var (pv 1)) pr_nil))) (nomark _))))))
 (ss_one (ss_ret (ee_p (ep_c pe_bl))))
 ss_nil)
 (ss_cons (ss_for (passes_of rfl) rfl (ip_zip rfl (pi_zip (by rfl) T.z_zip (pk_p (ep_var (pv 0)) (pk_p (ep_var (pv 1)) pk_nil')))) (pg_tup rfl (pgs_cons (pg_name (i := 2) sc13.nd rfl (by first | exact Or.inl rfl | exact Or.inr rfl)) (pgs_cons (pg_name (i := 3) sc13.nd rfl (by first | exact Or.inl rfl | exact Or.inr rfl)) pgs_nil))) (tg_tup (tgs_cons (tg_name rfl) (tgs_cons (tg_name rfl) tgs_nil)) (tl_cons (tl_cons tl_nil))) (fun _ h => by simp [h]) (fun σ1 => (ss_one (ss_if (PW.pt (tw_or (te_not (te_bl (pt_val (ee_p (ep_N vs_isi (pe_callB call_isi (by rfl) T.z_isinstance (by decide +kernel) (pr_cons (ep_var (pv 2)) (pr_cons (ep_c (pe_bltn (v := .ty "list") (by rfl) T.z_list (by decide +kernel) rfl)) pr_nil)))))))) (pw_or1 (te_cmp vs_ne (pt_cmpR (op_neD hr.units) (ep_var (pv 2)) (ep_var (pv 3)) (nomark _))))))
 (ss_one (ss_ret (ee_p (ep_c pe_bl))))
 ss_nil))))
 (ss_one (ss_ret (ee_p (ep_c pe_bl))))))
theorem sc7 : FnScope ["_law_script", "_law_k"] ["_law_script", "_law_k"] (defScope s7) := ⟨rfl, rfl, rfl, by decide +kernel, rfl, by decide +kernel, by decide +kernel⟩
theorem ok7 (T : Txt K mg a x y fd)  : FnOk P w K mg base (L2.CX P w) 1 (a 7) (fd 7) ["_law_script", "_law_k"] (spF (tab K x y) 2 mL_cell_at) :=
  fn_ok T.f7 sc7 [true, true] rfl fun cdv A outer s H E σ0 hr => (ss_cons (ss_if (te_cmp vs_lt (pt_cmpR op_lt (ep_var (pv 1)) (ep_N vs_len (pe_callB call_lenP (by rfl) T.z_len (by decide +kernel) (pr_cons (ep_var (pv 0)) pr_nil))) (nomark _)))
 (ss_one (ss_ret (ee_p (ep_ix rfl (hu_of hr) (ep_var (pv 0)) (ep_var (pv 1)) (fun _ _ => rfl) (fun _ _ => rfl)))))
 ss_nil)
 (ss_one (ss_ret (ee_p (ep_c pe_int)))))
theorem sc8 : FnScope ["_law_cell", "_law_k", "_law_number"] ["_law_cell", "_law_k"] (defScope s8) := ⟨rfl, rfl, rfl, by decide +kernel, rfl, by decide +kernel, by decide +kernel⟩
theorem ok8 (T : Txt K mg a x y fd)  : FnOk P w K mg base (L2.CX P w) 1 (a 8) (fd 8) ["_law_cell", "_law_k"] (spF (tab K x y) 2 mL_mix) :=
  fn_ok T.f8 sc8 [true, true] rfl fun cdv A outer s H E σ0 hr => (ss_cons (ss_set (i := 2) sc8.nd rfl (by first | exact Or.inl rfl | exact Or.inr rfl) rfl (ee_p (ep_2 vs_add (pe_op op_addP (ep_2 vs_add (pe_op op_addP (ep_2 vs_mod (pe_op op_modX (ep_var (pv 0)) (ep_c pe_int))) (ep_2 vs_mulPS (pe_op op_mulPS (ep_c pe_int) (ep_var (pv 1)))))) (ep_c pe_int)))))
 (ss_one (ss_ret (ee_p (ep_2 vs_mod (pe_op op_modX (ep_2 vs_mulPS (pe_op op_mulPS (ep_2 vs_mod (pe_op op_modX (ep_2 vs_mulPS (pe_op op_mulPS (ep_var (pv 2)) (ep_var (pv 2)))) (ep_c pe_int))) (ep_c pe_int))) (ep_c pe_int)))))))
theorem sc14 : FnScope ["_law_script", "_law_many", "_law_names_here", "_law_widest", "_law_rooms", "_law_k", "_law_places", "_law_cells", "_law_asks", "_law_stock", "_law_book", "_law_behind", "_law_handed", "_law_row", "_law_found", "_law_at", "_law_one", "_law_again", "_law_name", "_law_there", "_law_gone_here", "_law_cell", "_law_room"] ["_law_script"] (defScope s14) := ⟨rfl, rfl, rfl, by decide +kernel, rfl, by decide +kernel, by decide +kernel⟩
theorem ok14 (T : Txt K mg a x y fd)  : FnOk P w K mg base (L2.CX P w) 8 (a 14) (fd 14) ["_law_script"] (spF (tab K x y) 1 m_law) :=
  fn_ok T.f14 sc14 [true] rfl fun cdv A outer s H E σ0 hr => (ss_cons (ss_set (i := 1) sc14.nd rfl (by first | exact Or.inl rfl | exact Or.inr rfl) rfl (ee_p (ep_2 vs_add (pe_op op_addP (ep_c pe_int) (ep_2 vs_mod (pe_op op_modX (ep_call (ok7 T) (hr.mono (by decide)) rfl T.g7 T.f7.kp T.b7 (takes_of rfl rfl rfl rfl) (pr_cons (ep_var (pv 0)) (pr_cons (ep_c pe_int) pr_nil))) (ep_c pe_int)))))))
 (ss_cons (ss_set (i := 2) sc14.nd rfl (by first | exact Or.inl rfl | exact Or.inr rfl) rfl (ee_p (ep_call (ok9 T) (hr.mono (by decide)) rfl T.g9 T.f9.kp T.b9 (takes_of rfl rfl rfl rfl) (pr_cons (ep_call (ok7 T) (hr.mono (by decide)) rfl T.g7 T.f7.kp T.b7 (takes_of rfl rfl rfl rfl) (pr_cons (ep_var (pv 0)) (pr_cons (ep_c pe_int) pr_nil))) (pr_cons (ep_var (pv 1)) pr_nil)))))
 (ss_cons (ss_set (i := 3) sc14.nd rfl (by first | exact Or.inl rfl | exact Or.inr rfl) rfl (ee_p (ep_ix rfl (hu_of hr) (ep_fz (ep_lst (ms := [(mC (.int 1)), (mC (.int 4)), (mC (.int 20)), (mC (.int 1000))]) (pk_p (ep_c pe_int) (pk_p (ep_c pe_int) (pk_p (ep_c pe_int) (pk_p (ep_c pe_int) pk_nil')))))) (ep_2 vs_mod (pe_op op_modX (ep_call (ok7 T) (hr.mono (by decide)) rfl T.g7 T.f7.kp T.b7 (takes_of rfl rfl rfl rfl) (pr_cons (ep_var (pv 0)) (pr_cons (ep_c pe_int) pr_nil))) (ep_c pe_int))) (fun _ _ => rfl) (fun _ _ => rfl))))
 (ss_cons (ss_set (i := 4) sc14.nd rfl (by first | exact Or.inl rfl | exact Or.inr rfl) rfl (ee_p ep_dnew))
 (ss_cons (ss_for (passes_of rfl) rfl (ip_rg1 (pi_range1 rfl T.z_range (pr_cons (ep_var (pv 1)) pr_nil))) (pg_name (i := 5) sc14.nd rfl (by first | exact Or.inl rfl | exact Or.inr rfl)) (tg_name rfl) (fun _ h => h) (fun σ1 => (ss_one (ss_sub (r := rSetA) mu_setA (ps_setA (hu_of hr) ((ee_p (ep_2 vs_add (pe_op op_addP (ep_c pe_int) (ep_2 vs_mod (pe_op op_modX (ep_call (ok8 T) (hr.mono (by decide)) rfl T.g8 T.f8.kp T.b8 (takes_of rfl rfl rfl rfl) (pr_cons (ep_2 vs_div (pe_op op_fdivX (ep_call (ok7 T) (hr.mono (by decide)) rfl T.g7 T.f7.kp T.b7 (takes_of rfl rfl rfl rfl) (pr_cons (ep_var (pv 0)) (pr_cons (ep_c pe_int) pr_nil))) (ep_c pe_int))) (pr_cons (ep_var (pv 5)) pr_nil))) (ep_var (pv 3)))))))) (el_var (pv 4)) (ep_ix rfl (hu_of hr) (ep_var (pv 2)) (ep_var (pv 5)) (fun _ _ => rfl) (fun _ _ => rfl)))))))
 (ss_cons (ss_set (i := 6) sc14.nd rfl (by first | exact Or.inl rfl | exact Or.inr rfl) rfl (ee_p (ep_2 vs_add (pe_op op_addP (ep_maxV rfl rfl T.z_max (ep_var (pv 4))) (ep_2 vs_mod (pe_op op_modX (ep_call (ok7 T) (hr.mono (by decide)) rfl T.g7 T.f7.kp T.b7 (takes_of rfl rfl rfl rfl) (pr_cons (ep_var (pv 0)) (pr_cons (ep_c pe_int) pr_nil))) (ep_ix rfl (hu_of hr) (ep_fz (ep_lst (ms := [(mC (.int 31)), (mC (.int 31)), (mC (.int 2000)), (mC (.int 990001))]) (pk_p (ep_c pe_int) (pk_p (ep_c pe_int) (pk_p (ep_c pe_int) (pk_p (ep_c pe_int) pk_nil')))))) (ep_2 vs_mod (pe_op op_modX (ep_2 vs_div (pe_op op_fdivX (ep_call (ok7 T) (hr.mono (by decide)) rfl T.g7 T.f7.kp T.b7 (takes_of rfl rfl rfl rfl) (pr_cons (ep_var (pv 0)) (pr_cons (ep_c pe_int) pr_nil))) (ep_c pe_int))) (ep_c pe_int))) (fun _ _ => rfl) (fun _ _ => rfl))))))))
 (ss_cons (ss_set (i := 7) sc14.nd rfl (by first | exact Or.inl rfl | exact Or.inr rfl) rfl (ee_p (ep_N vs_listA (pe_callTy (call_listA rfl) (by rfl) T.z_list (by decide +kernel) (pr_cons (ep_sl (ml := (some (mC (.int 4)))) (mh := (some (mC (.int 204)))) rfl (ep_var (pv 0)) (po_some (ep_c pe_int)) (po_some (ep_c pe_int))) pr_nil)))))
 (ss_cons (ss_if (te_cmp vs_eq (pt_cmpR (op_eqD hr.units) (ep_2 vs_mod (pe_op op_modX (ep_2 vs_div (pe_op op_fdivX (ep_call (ok7 T) (hr.mono (by decide)) rfl T.g7 T.f7.kp T.b7 (takes_of rfl rfl rfl rfl) (pr_cons (ep_var (pv 0)) (pr_cons (ep_c pe_int) pr_nil))) (ep_c pe_int))) (ep_c pe_int))) (ep_c pe_int) (nomark _)))
 (ss_one (ss_setLcO (i := 7) (own := [("_law_k", 5)]) (f := (tgN 5)) (mt := tTrue) (me := m_law_e1) rfl sc14.nd rfl rfl rfl (sw_true rfl rfl rfl (by decide +kernel)) (ip_rg1 (pi_range1 rfl T.z_range (pr_cons (ep_c pe_int) pr_nil))) (blkOk_by (N := N14) (sc := defScope s14) (by decide +kernel)) (tg_name rfl) (fun _ _ _ _ _ => (pg_name (i := 5) sc14.nd rfl (by first | exact Or.inl rfl | exact Or.inr rfl))) (fun _ _ _ _ _ => pts_true) (fun _ _ _ _ _ => (ep_call (ok8 T) (hr.mono (by decide)) rfl T.g8 T.f8.kp T.b8 takes0 (pr_cons (ep_call (ok7 T) (hr.mono (by decide)) rfl T.g7 T.f7.kp T.b7 takes0 (pr_cons (ep_var (pv 0)) (pr_cons (ep_c pe_int) pr_nil))) (pr_cons (ep_var (pv 5)) pr_nil))))))
 ss_nil)
 (ss_cons (ss_setLc (i := 8) (x := "_law_cell") (j := 21) (mt := tTrue) (me := m_law_e2) rfl sc14.nd rfl rfl rfl (sw_true rfl rfl rfl (by decide +kernel)) (ip_any rfl (ep_var (pv 7))) (blkOk_by (N := N14) (sc := defScope s14) (by decide +kernel)) (fun _ _ _ _ _ => pg_name (i := 21) sc14.nd rfl (by first | exact Or.inl rfl | exact Or.inr rfl)) (fun _ _ _ _ _ => pts_true) (fun _ _ _ _ _ => (ep_ix rfl (hu_of hr) (ep_var (pv 2)) (ep_2 vs_mod (pe_op op_modX (ep_var (pv 21)) (ep_var (pv 1)))) (fun _ _ => rfl) (fun _ _ => rfl))))
 (ss_cons (ss_set (i := 9) sc14.nd rfl (by first | exact Or.inl rfl | exact Or.inr rfl) rfl (ee_p (ep_fz (ep_make rfl T.mk1 (ok35 T) (hr.mono (by decide)) rfl T.gc1 T.b35 (takes_of rfl rfl rfl rfl) (pr_cons (ep_lcI (own := [("_law_name", 18), ("_law_room", 22)]) (f := (tgT (tsCons (tgN 18) (tsCons (tgN 22) tsNil)))) (mt := tTrue) (me := m_law_e3) rfl sc14.nd (pv 4) (blkOk_by (N := N14) (sc := defScope s14) (by decide +kernel)) (tg_tup (tgs_cons (tg_name rfl) (tgs_cons (tg_name rfl) tgs_nil)) (tl_cons (tl_cons tl_nil))) (fun _ _ _ _ _ => (pg_tup rfl (pgs_cons (pg_name (i := 18) sc14.nd rfl (by first | exact Or.inl rfl | exact Or.inr rfl)) (pgs_cons (pg_name (i := 22) sc14.nd rfl (by first | exact Or.inl rfl | exact Or.inr rfl)) pgs_nil)))) (fun _ _ _ _ _ => pts_true) (fun _ _ _ _ _ => (ep_tup (ms := [(mVar 18), (mC (.int 3)), (mVar 22)]) (pk_p (ep_var (pv 18)) (pk_p (ep_c pe_int) (pk_p (ep_var (pv 22)) pk_nil')))))) pr_nil)))))
 (ss_cons (ss_uno (pg_tup rfl (pgs_cons (pg_name (i := 10) sc14.nd rfl (by first | exact Or.inl rfl | exact Or.inr rfl)) (pgs_cons (pg_name (i := 11) sc14.nd rfl (by first | exact Or.inl rfl | exact Or.inr rfl)) pgs_nil))) (to_tup (tos_cons (to_name rfl) (tos_cons (to_name rfl) tos_nil)) (tol_cons (tol_cons tol_nil))) (ep_call (ok11 T) (hr.mono (by decide)) rfl T.g11 T.f11.kp T.b11 (takes_of rfl rfl rfl rfl) (pr_cons (ep_var (pv 8)) (pr_cons (ep_var (pv 7)) (pr_cons (ep_var (pv 4)) (pr_cons (ep_var (pv 6)) pr_nil))))))
 (ss_cons (ss_set (i := 12) sc14.nd rfl (by first | exact Or.inl rfl | exact Or.inr rfl) rfl (ee_p (ep_call (ok12 T) (hr.mono (by decide)) rfl T.g12 T.f12.kp T.b12 (takes_of rfl rfl rfl rfl) (pr_cons (ep_var (pv 10)) pr_nil))))
 (ss_cons (ss_set (i := 13) sc14.nd rfl (by first | exact Or.inl rfl | exact Or.inr rfl) rfl (ee_p (ep_N vs_listA (pe_callTy (call_listA rfl) (by rfl) T.z_list (by decide +kernel) (pr_cons (ep_var (pv 8)) pr_nil)))))
 (ss_cons (ss_set (i := 14) sc14.nd rfl (by first | exact Or.inl rfl | exact Or.inr rfl) rfl (ee_p (ep_call (ok5 T) (hr.mono (by decide)) rfl T.g5 T.f5.kp T.b5 (takes_of rfl rfl rfl rfl) (pr_cons (ep_var (pv 9)) (pr_cons (ep_var (pv 13)) (pr_cons (ep_var (pv 6)) (pr_cons (ep_var (pv 12)) pr_nil)))))))
 (ss_cons (ss_if (PW.pt (tw_or (te_not (te_bl (pt_val (ee_p (ep_call (ok13 T) (hr.mono (by decide)) rfl T.g13 T.f13.kp T.b13 (takes_of rfl rfl rfl rfl) (pr_cons (ep_var (pv 14)) (pr_cons (ep_var (pv 11)) pr_nil))))))) (tw_or (te_cmp vs_ne (pt_cmpR (op_neD hr.units) (ep_var (pv 12)) (ep_var (pv 10)) (nomark _))) (pw_or1 (te_cmp vs_ne (pt_cmpR (op_neD hr.units) (ep_var (pv 13)) (ep_var (pv 8)) (nomark _)))))))
 (ss_one (ss_ret (ee_p (ep_c pe_bl))))
 ss_nil)
 (ss_cons (ss_forE (pin' := (fun k => pinL [true] k || k == 14 || k == 16)) rfl (passes_of rfl) rfl rfl T.z_enumerate (pv 14) (pg_tup rfl (pgs_cons (pg_name (i := 15) sc14.nd rfl (by first | exact Or.inl rfl | exact Or.inr rfl)) (pgs_cons (pg_name (i := 16) sc14.nd rfl (by first | exact Or.inl rfl | exact Or.inr rfl)) pgs_nil))) (by decide) (by decide) (by decide) (by simp) (by simp) rfl rfl (fun _ h => by simp [h]) (fun σ1 => (ss_cons (ss_expr (ee_mut mu_append ty_lst (pe_bm PySem.F.plainAttrs_list PySem.F.slot_list_append PySem.F.type_list_append mt_append (el_var (pv 16)) (pk_p (ep_c pe_str) pk_nil'))))
 (ss_one (ss_if (PW.pt (tw_and (te_cmp vs_lt (pt_cmpR op_lt (ep_2 vs_add (pe_op op_addP (ep_var (pv 15)) (ep_c pe_int))) (ep_N vs_len (pe_callB call_lenP (by rfl) T.z_len (by decide +kernel) (pr_cons (ep_var (pv 14)) pr_nil))) (nomark _))) (pw_and1 (te_cmp vs_ne (pt_cmpR (op_neD hr.units) (ep_ix rfl (hu_of hr) (ep_var (pv 14)) (ep_2 vs_add (pe_op op_addP (ep_var (pv 15)) (ep_c pe_int))) (fun _ _ => rfl) (fun _ _ => rfl)) (ep_ix rfl (hu_of hr) (ep_var (pv 11)) (ep_2 vs_add (pe_op op_addP (ep_var (pv 15)) (ep_c pe_int))) (fun _ _ => rfl) (fun _ _ => rfl)) (nomark _))))))
 (ss_one (ss_ret (ee_p (ep_c pe_bl))))
 ss_nil)))))
 (ss_cons (ss_expr (ee_mut0 mu_clear ty_lst (pe_bm0 PySem.F.plainAttrs_list PySem.F.slot_list_clear PySem.F.type_list_clear mt_clear (el_var (pv 14)))))
 (ss_cons (ss_set (i := 17) sc14.nd rfl (by first | exact Or.inl rfl | exact Or.inr rfl) rfl (ee_p (ep_call (ok5 T) (hr.mono (by decide)) rfl T.g5 T.f5.kp T.b5 (takes_of rfl rfl rfl rfl) (pr_cons (ep_var (pv 9)) (pr_cons (ep_var (pv 13)) (pr_cons (ep_var (pv 6)) (pr_cons (ep_var (pv 12)) pr_nil)))))))
 (ss_cons (ss_forT (pin' := (fun k => pinL [true] k || k == 12 || k == 20)) rfl (passes_of rfl) rfl (pv 12) (pg_tup rfl (pgs_cons (pg_name (i := 18) sc14.nd rfl (by first | exact Or.inl rfl | exact Or.inr rfl)) (pgs_cons (pg_name (i := 19) sc14.nd rfl (by first | exact Or.inl rfl | exact Or.inr rfl)) (pgs_cons (pg_name (i := 20) sc14.nd rfl (by first | exact Or.inl rfl | exact Or.inr rfl)) pgs_nil)))) (by decide) (by decide) (by decide) (by decide) (by simp) (by simp) rfl rfl rfl (fun _ h => by simp [h]) (fun σ1 => (ss_one (ss_expr (ee_mut mu_append ty_lst (pe_bm PySem.F.plainAttrs_list PySem.F.slot_list_append PySem.F.type_list_append mt_append (el_var (pv 20)) (pk_p (ep_c pe_str) pk_nil')))))))
 (ss_cons (ss_expr (ee_mut0 mu_clear ty_lst (pe_bm0 PySem.F.plainAttrs_list PySem.F.slot_list_clear PySem.F.type_list_clear mt_clear (el_var (pv 12)))))
 (ss_cons (ss_expr (ee_mut0 mu_clear ty_lst (pe_bm0 PySem.F.plainAttrs_list PySem.F.slot_list_clear PySem.F.type_list_clear mt_clear (el_var (pv 13)))))
 (ss_one (ss_ret (ee_p (ep_call (ok13 T) (hr.mono (by decide)) rfl T.g13 T.f13.kp T.b13 (takes_of rfl rfl rfl rfl) (pr_cons (ep_var (pv 17)) (pr_cons (ep_var (pv 11)) pr_nil)))))))))))))))))))))))))))
end
theorem all_mk {l : PySem.W.OpenLaw} {w : World} {K : PySem.W.Frag} {h : Heap} {mg : Str → Option Value} {fa : Addr} (X : K.In h) (G : h.Ns mainGlobals mg) (hfa : mg "law" = some (.ref fa))
    {y0 : Addr}
    {y1 : Addr}
    {x1 : Addr}
    {x2 : Addr}
    {x3 : Addr}
    {x4 : Addr}
    {x5 : Addr}
    {x6 : Addr}
    {x7 : Addr}
    {x8 : Addr}
    {x9 : Addr}
    {x10 : Addr}
    {f9 : Addr} {od9 an9 : Option Addr} {sl9 : Array (Option Value)} {oc9 kV9 dc9 pm9 cd9 ct9 : Value}
    {f6 : Addr} {od6 an6 : Option Addr} {sl6 : Array (Option Value)} {oc6 kV6 dc6 pm6 cd6 ct6 : Value}
    {f0 : Addr} {od0 an0 : Option Addr} {sl0 : Array (Option Value)} {oc0 kV0 dc0 pm0 cd0 ct0 : Value}
    {f35 : Addr} {od35 an35 : Option Addr} {sl35 : Array (Option Value)} {oc35 kV35 dc35 pm35 cd35 ct35 : Value}
    {f10 : Addr} {od10 an10 : Option Addr} {sl10 : Array (Option Value)} {oc10 kV10 dc10 pm10 cd10 ct10 : Value}
    {f11 : Addr} {od11 an11 : Option Addr} {sl11 : Array (Option Value)} {oc11 kV11 dc11 pm11 cd11 ct11 : Value}
    {f12 : Addr} {od12 an12 : Option Addr} {sl12 : Array (Option Value)} {oc12 kV12 dc12 pm12 cd12 ct12 : Value}
    {f1 : Addr} {od1 an1 : Option Addr} {sl1 : Array (Option Value)} {oc1 kV1 dc1 pm1 cd1 ct1 : Value}
    {f37 : Addr} {od37 an37 : Option Addr} {sl37 : Array (Option Value)} {oc37 kV37 dc37 pm37 cd37 ct37 : Value}
    {f40 : Addr} {od40 an40 : Option Addr} {sl40 : Array (Option Value)} {oc40 kV40 dc40 pm40 cd40 ct40 : Value}
    {f2 : Addr} {od2 an2 : Option Addr} {sl2 : Array (Option Value)} {oc2 kV2 dc2 pm2 cd2 ct2 : Value}
    {f29 : Addr} {od29 an29 : Option Addr} {sl29 : Array (Option Value)} {oc29 kV29 dc29 pm29 cd29 ct29 : Value}
    {f34 : Addr} {od34 an34 : Option Addr} {sl34 : Array (Option Value)} {oc34 kV34 dc34 pm34 cd34 ct34 : Value}
    {f31 : Addr} {od31 an31 : Option Addr} {sl31 : Array (Option Value)} {oc31 kV31 dc31 pm31 cd31 ct31 : Value}
    {f3 : Addr} {od3 an3 : Option Addr} {sl3 : Array (Option Value)} {oc3 kV3 dc3 pm3 cd3 ct3 : Value}
    {f32 : Addr} {od32 an32 : Option Addr} {sl32 : Array (Option Value)} {oc32 kV32 dc32 pm32 cd32 ct32 : Value}
    {f33 : Addr} {od33 an33 : Option Addr} {sl33 : Array (Option Value)} {oc33 kV33 dc33 pm33 cd33 ct33 : Value}
    {f4 : Addr} {od4 an4 : Option Addr} {sl4 : Array (Option Value)} {oc4 kV4 dc4 pm4 cd4 ct4 : Value}
    {f30 : Addr} {od30 an30 : Option Addr} {sl30 : Array (Option Value)} {oc30 kV30 dc30 pm30 cd30 ct30 : Value}
    {f5 : Addr} {od5 an5 : Option Addr} {sl5 : Array (Option Value)} {oc5 kV5 dc5 pm5 cd5 ct5 : Value}
    {f13 : Addr} {od13 an13 : Option Addr} {sl13 : Array (Option Value)} {oc13 kV13 dc13 pm13 cd13 ct13 : Value}
    {f7 : Addr} {od7 an7 : Option Addr} {sl7 : Array (Option Value)} {oc7 kV7 dc7 pm7 cd7 ct7 : Value}
    {f8 : Addr} {od8 an8 : Option Addr} {sl8 : Array (Option Value)} {oc8 kV8 dc8 pm8 cd8 ct8 : Value}
    {f14 : Addr} {od14 an14 : Option Addr} {sl14 : Array (Option Value)} {oc14 kV14 dc14 pm14 cd14 ct14 : Value}
    {f20 : Addr} {od20 an20 : Option Addr} {sl20 : Array (Option Value)} {oc20 kV20 dc20 pm20 cd20 ct20 : Value}
    {f22 : Addr} {od22 an22 : Option Addr} {sl22 : Array (Option Value)} {oc22 kV22 dc22 pm22 cd22 ct22 : Value}
    {f27 : Addr} {od27 an27 : Option Addr} {sl27 : Array (Option Value)} {oc27 kV27 dc27 pm27 cd27 ct27 : Value}
    {t_FIGURES : Tok}
    {t_LETTERS : Tok}
    {t_MOST_ASKS : Tok}
    {t_MOST_PLACES : Tok}
    (ac0 : PySem.W.nsIn K mainGlobals "Shelf" = some (some (.ref y0)))
    (pg0 : PySem.W.plainGet K y0 Str.empty = true)
    (hd0 : PySem.W.hasDictIn K y0 = true)
    (po0 : PySem.W.plainOver K y0 = true)
    (sa0 : PySem.W.findIn K (.ref y0) "__setattr__" = some (some (.builtin "object.__setattr__")))
    (mm0 : PySem.W.makesIn K y0 = true)
    (kc0 : PySem.W.keepIn K (.ref y0) = true)
    (nf0_stock : PySem.W.findIn K (.ref y0) "stock" = some none)
    (nf0_places : PySem.W.findIn K (.ref y0) "places" = some none)
    (nf0_there : PySem.W.findIn K (.ref y0) "there" = some none)
    (nf0_used : PySem.W.findIn K (.ref y0) "used" = some none)
    (ac1 : PySem.W.nsIn K mainGlobals "Stock" = some (some (.ref y1)))
    (pg1 : PySem.W.plainGet K y1 Str.empty = true)
    (hd1 : PySem.W.hasDictIn K y1 = true)
    (po1 : PySem.W.plainOver K y1 = true)
    (sa1 : PySem.W.findIn K (.ref y1) "__setattr__" = some (some (.builtin "object.__setattr__")))
    (mm1 : PySem.W.makesIn K y1 = true)
    (kc1 : PySem.W.keepIn K (.ref y1) = true)
    (nf1_costs : PySem.W.findIn K (.ref y1) "costs" = some none)
    (nf1_rooms : PySem.W.findIn K (.ref y1) "rooms" = some none)
    (g_NoName : PySem.W.nsIn K mainGlobals "NoName" = some (some (.ref x1)))
    (g_NoNumber : PySem.W.nsIn K mainGlobals "NoNumber" = some (some (.ref x2)))
    (g_Twice : PySem.W.nsIn K mainGlobals "Twice" = some (some (.ref x3)))
    (g_TooMany : PySem.W.nsIn K mainGlobals "TooMany" = some (some (.ref x4)))
    (g_Unknown : PySem.W.nsIn K mainGlobals "Unknown" = some (some (.ref x5)))
    (g_TooWide : PySem.W.nsIn K mainGlobals "TooWide" = some (some (.ref x6)))
    (g_There : PySem.W.nsIn K mainGlobals "There" = some (some (.ref x7)))
    (g_NotThere : PySem.W.nsIn K mainGlobals "NotThere" = some (some (.ref x8)))
    (g_Full : PySem.W.nsIn K mainGlobals "Full" = some (some (.ref x9)))
    (g_BadBook : PySem.W.nsIn K mainGlobals "BadBook" = some (some (.ref x10)))
    (xi5 : PySem.W.findIn K (.ref x5) "__init__" = some (some (.ref f20)))
    (xt5 : PySem.W.typeIn K (.ref f20) = some (.type "function"))
    (xi6 : PySem.W.findIn K (.ref x6) "__init__" = some (some (.ref f22)))
    (xt6 : PySem.W.typeIn K (.ref f22) = some (.type "function"))
    (xi10 : PySem.W.findIn K (.ref x10) "__init__" = some (some (.ref f27)))
    (xt10 : PySem.W.typeIn K (.ref f27) = some (.type "function"))
    (mi0 : PySem.W.findIn K (.ref y0) "__init__" = some (some (.ref f29)))
    (if29 : PySem.W.isFn K (.ref f29) = true)
    (mi1 : PySem.W.findIn K (.ref y1) "__init__" = some (some (.ref f35)))
    (if35 : PySem.W.isFn K (.ref f35) = true)
    (mf0_cast : PySem.W.findIn K (.ref y0) "cast" = some (some (.ref f34)))
    (if34 : PySem.W.isFn K (.ref f34) = true)
    (mf0_holds : PySem.W.findIn K (.ref y0) "holds" = some (some (.ref f31)))
    (if31 : PySem.W.isFn K (.ref f31) = true)
    (mf0_lying : PySem.W.findIn K (.ref y0) "lying" = some (some (.ref f30)))
    (if30 : PySem.W.isFn K (.ref f30) = true)
    (mf0_put : PySem.W.findIn K (.ref y0) "put" = some (some (.ref f33)))
    (if33 : PySem.W.isFn K (.ref f33) = true)
    (mf0_room_left : PySem.W.findIn K (.ref y0) "room_left" = some (some (.ref f32)))
    (if32 : PySem.W.isFn K (.ref f32) = true)
    (mf1_has : PySem.W.findIn K (.ref y1) "has" = some (some (.ref f37)))
    (if37 : PySem.W.isFn K (.ref f37) = true)
    (mf1_room_of : PySem.W.findIn K (.ref y1) "room_of" = some (some (.ref f40)))
    (if40 : PySem.W.isFn K (.ref f40) = true)
    (a9 : PySem.W.nsIn K mainGlobals "_law_names" = some (some (.ref f9)))
    (l9 : K.lookup f9 = some ⟨oc9, od9, .func (PySem.W.fnOf "_law_names" "_law_names" (defArgs s9) (defBody s9) (defScope s9) .none kV9 dc9 pm9 an9 cd9 ct9), sl9⟩)
    (c9 : PySem.W.codeIn K cd9 "_law_names" = true)
    (k9 : PySem.W.keepIn K (.ref f9) = true)
    (a6 : PySem.W.nsIn K mainGlobals "is_name" = some (some (.ref f6)))
    (l6 : K.lookup f6 = some ⟨oc6, od6, .func (PySem.W.fnOf "is_name" "is_name" (defArgs s6) (defBody s6) (defScope s6) .none kV6 dc6 pm6 an6 cd6 ct6), sl6⟩)
    (c6 : PySem.W.codeIn K cd6 "is_name" = true)
    (k6 : PySem.W.keepIn K (.ref f6) = true)
    (a0 : PySem.W.nsIn K mainGlobals "is_whole" = some (some (.ref f0)))
    (l0 : K.lookup f0 = some ⟨oc0, od0, .func (PySem.W.fnOf "is_whole" "is_whole" (defArgs s0) (defBody s0) (defScope s0) .none kV0 dc0 pm0 an0 cd0 ct0), sl0⟩)
    (c0 : PySem.W.codeIn K cd0 "is_whole" = true)
    (k0 : PySem.W.keepIn K (.ref f0) = true)
    (l35 : K.lookup f35 = some ⟨oc35, od35, .func (PySem.W.fnOf "__init__" "Stock.__init__" (defArgs s35) (defBody s35) (defScope s35) .none kV35 dc35 pm35 an35 cd35 ct35), sl35⟩)
    (c35 : PySem.W.codeIn K cd35 "Stock.__init__" = true)
    (k35 : PySem.W.keepIn K (.ref f35) = true)
    (a10 : PySem.W.nsIn K mainGlobals "_law_gone" = some (some (.ref f10)))
    (l10 : K.lookup f10 = some ⟨oc10, od10, .func (PySem.W.fnOf "_law_gone" "_law_gone" (defArgs s10) (defBody s10) (defScope s10) .none kV10 dc10 pm10 an10 cd10 ct10), sl10⟩)
    (c10 : PySem.W.codeIn K cd10 "_law_gone" = true)
    (k10 : PySem.W.keepIn K (.ref f10) = true)
    (a11 : PySem.W.nsIn K mainGlobals "_law_run" = some (some (.ref f11)))
    (l11 : K.lookup f11 = some ⟨oc11, od11, .func (PySem.W.fnOf "_law_run" "_law_run" (defArgs s11) (defBody s11) (defScope s11) .none kV11 dc11 pm11 an11 cd11 ct11), sl11⟩)
    (c11 : PySem.W.codeIn K cd11 "_law_run" = true)
    (k11 : PySem.W.keepIn K (.ref f11) = true)
    (a12 : PySem.W.nsIn K mainGlobals "_law_copy" = some (some (.ref f12)))
    (l12 : K.lookup f12 = some ⟨oc12, od12, .func (PySem.W.fnOf "_law_copy" "_law_copy" (defArgs s12) (defBody s12) (defScope s12) .none kV12 dc12 pm12 an12 cd12 ct12), sl12⟩)
    (c12 : PySem.W.codeIn K cd12 "_law_copy" = true)
    (k12 : PySem.W.keepIn K (.ref f12) = true)
    (a1 : PySem.W.nsIn K mainGlobals "need_places" = some (some (.ref f1)))
    (l1 : K.lookup f1 = some ⟨oc1, od1, .func (PySem.W.fnOf "need_places" "need_places" (defArgs s1) (defBody s1) (defScope s1) .none kV1 dc1 pm1 an1 cd1 ct1), sl1⟩)
    (c1 : PySem.W.codeIn K cd1 "need_places" = true)
    (k1 : PySem.W.keepIn K (.ref f1) = true)
    (l37 : K.lookup f37 = some ⟨oc37, od37, .func (PySem.W.fnOf "has" "Stock.has" (defArgs s37) (defBody s37) (defScope s37) .none kV37 dc37 pm37 an37 cd37 ct37), sl37⟩)
    (c37 : PySem.W.codeIn K cd37 "Stock.has" = true)
    (k37 : PySem.W.keepIn K (.ref f37) = true)
    (l40 : K.lookup f40 = some ⟨oc40, od40, .func (PySem.W.fnOf "room_of" "Stock.room_of" (defArgs s40) (defBody s40) (defScope s40) .none kV40 dc40 pm40 an40 cd40 ct40), sl40⟩)
    (c40 : PySem.W.codeIn K cd40 "Stock.room_of" = true)
    (k40 : PySem.W.keepIn K (.ref f40) = true)
    (a2 : PySem.W.nsIn K mainGlobals "check_asks" = some (some (.ref f2)))
    (l2 : K.lookup f2 = some ⟨oc2, od2, .func (PySem.W.fnOf "check_asks" "check_asks" (defArgs s2) (defBody s2) (defScope s2) .none kV2 dc2 pm2 an2 cd2 ct2), sl2⟩)
    (c2 : PySem.W.codeIn K cd2 "check_asks" = true)
    (k2 : PySem.W.keepIn K (.ref f2) = true)
    (l29 : K.lookup f29 = some ⟨oc29, od29, .func (PySem.W.fnOf "__init__" "Shelf.__init__" (defArgs s29) (defBody s29) (defScope s29) .none kV29 dc29 pm29 an29 cd29 ct29), sl29⟩)
    (c29 : PySem.W.codeIn K cd29 "Shelf.__init__" = true)
    (k29 : PySem.W.keepIn K (.ref f29) = true)
    (l34 : K.lookup f34 = some ⟨oc34, od34, .func (PySem.W.fnOf "cast" "Shelf.cast" (defArgs s34) (defBody s34) (defScope s34) .none kV34 dc34 pm34 an34 cd34 ct34), sl34⟩)
    (c34 : PySem.W.codeIn K cd34 "Shelf.cast" = true)
    (k34 : PySem.W.keepIn K (.ref f34) = true)
    (l31 : K.lookup f31 = some ⟨oc31, od31, .func (PySem.W.fnOf "holds" "Shelf.holds" (defArgs s31) (defBody s31) (defScope s31) .none kV31 dc31 pm31 an31 cd31 ct31), sl31⟩)
    (c31 : PySem.W.codeIn K cd31 "Shelf.holds" = true)
    (k31 : PySem.W.keepIn K (.ref f31) = true)
    (a3 : PySem.W.nsIn K mainGlobals "cast_all" = some (some (.ref f3)))
    (l3 : K.lookup f3 = some ⟨oc3, od3, .func (PySem.W.fnOf "cast_all" "cast_all" (defArgs s3) (defBody s3) (defScope s3) .none kV3 dc3 pm3 an3 cd3 ct3), sl3⟩)
    (c3 : PySem.W.codeIn K cd3 "cast_all" = true)
    (k3 : PySem.W.keepIn K (.ref f3) = true)
    (l32 : K.lookup f32 = some ⟨oc32, od32, .func (PySem.W.fnOf "room_left" "Shelf.room_left" (defArgs s32) (defBody s32) (defScope s32) .none kV32 dc32 pm32 an32 cd32 ct32), sl32⟩)
    (c32 : PySem.W.codeIn K cd32 "Shelf.room_left" = true)
    (k32 : PySem.W.keepIn K (.ref f32) = true)
    (l33 : K.lookup f33 = some ⟨oc33, od33, .func (PySem.W.fnOf "put" "Shelf.put" (defArgs s33) (defBody s33) (defScope s33) .none kV33 dc33 pm33 an33 cd33 ct33), sl33⟩)
    (c33 : PySem.W.codeIn K cd33 "Shelf.put" = true)
    (k33 : PySem.W.keepIn K (.ref f33) = true)
    (a4 : PySem.W.nsIn K mainGlobals "serve" = some (some (.ref f4)))
    (l4 : K.lookup f4 = some ⟨oc4, od4, .func (PySem.W.fnOf "serve" "serve" (defArgs s4) (defBody s4) (defScope s4) .none kV4 dc4 pm4 an4 cd4 ct4), sl4⟩)
    (c4 : PySem.W.codeIn K cd4 "serve" = true)
    (k4 : PySem.W.keepIn K (.ref f4) = true)
    (l30 : K.lookup f30 = some ⟨oc30, od30, .func (PySem.W.fnOf "lying" "Shelf.lying" (defArgs s30) (defBody s30) (defScope s30) .none kV30 dc30 pm30 an30 cd30 ct30), sl30⟩)
    (c30 : PySem.W.codeIn K cd30 "Shelf.lying" = true)
    (k30 : PySem.W.keepIn K (.ref f30) = true)
    (a5 : PySem.W.nsIn K mainGlobals "lying_after" = some (some (.ref f5)))
    (l5 : K.lookup f5 = some ⟨oc5, od5, .func (PySem.W.fnOf "lying_after" "lying_after" (defArgs s5) (defBody s5) (defScope s5) .none kV5 dc5 pm5 an5 cd5 ct5), sl5⟩)
    (c5 : PySem.W.codeIn K cd5 "lying_after" = true)
    (k5 : PySem.W.keepIn K (.ref f5) = true)
    (a13 : PySem.W.nsIn K mainGlobals "_law_lists" = some (some (.ref f13)))
    (l13 : K.lookup f13 = some ⟨oc13, od13, .func (PySem.W.fnOf "_law_lists" "_law_lists" (defArgs s13) (defBody s13) (defScope s13) .none kV13 dc13 pm13 an13 cd13 ct13), sl13⟩)
    (c13 : PySem.W.codeIn K cd13 "_law_lists" = true)
    (k13 : PySem.W.keepIn K (.ref f13) = true)
    (a7 : PySem.W.nsIn K mainGlobals "_law_cell_at" = some (some (.ref f7)))
    (l7 : K.lookup f7 = some ⟨oc7, od7, .func (PySem.W.fnOf "_law_cell_at" "_law_cell_at" (defArgs s7) (defBody s7) (defScope s7) .none kV7 dc7 pm7 an7 cd7 ct7), sl7⟩)
    (c7 : PySem.W.codeIn K cd7 "_law_cell_at" = true)
    (k7 : PySem.W.keepIn K (.ref f7) = true)
    (a8 : PySem.W.nsIn K mainGlobals "_law_mix" = some (some (.ref f8)))
    (l8 : K.lookup f8 = some ⟨oc8, od8, .func (PySem.W.fnOf "_law_mix" "_law_mix" (defArgs s8) (defBody s8) (defScope s8) .none kV8 dc8 pm8 an8 cd8 ct8), sl8⟩)
    (c8 : PySem.W.codeIn K cd8 "_law_mix" = true)
    (k8 : PySem.W.keepIn K (.ref f8) = true)
    (a14 : PySem.W.nsIn K mainGlobals "law" = some (some (.ref f14)))
    (l14 : K.lookup f14 = some ⟨oc14, od14, .func (PySem.W.fnOf "law" "law" (defArgs s14) (defBody s14) (defScope s14) .none kV14 dc14 pm14 an14 cd14 ct14), sl14⟩)
    (c14 : PySem.W.codeIn K cd14 "law" = true)
    (k14 : PySem.W.keepIn K (.ref f14) = true)
    (l20 : K.lookup f20 = some ⟨oc20, od20, .func (PySem.W.fnOf "__init__" "Unknown.__init__" (defArgs s20) (defBody s20) (defScope s20) .none kV20 dc20 pm20 an20 cd20 ct20), sl20⟩)
    (c20 : PySem.W.codeIn K cd20 "Unknown.__init__" = true)
    (k20 : PySem.W.keepIn K (.ref f20) = true)
    (l22 : K.lookup f22 = some ⟨oc22, od22, .func (PySem.W.fnOf "__init__" "TooWide.__init__" (defArgs s22) (defBody s22) (defScope s22) .none kV22 dc22 pm22 an22 cd22 ct22), sl22⟩)
    (c22 : PySem.W.codeIn K cd22 "TooWide.__init__" = true)
    (k22 : PySem.W.keepIn K (.ref f22) = true)
    (l27 : K.lookup f27 = some ⟨oc27, od27, .func (PySem.W.fnOf "__init__" "BadBook.__init__" (defArgs s27) (defBody s27) (defScope s27) .none kV27 dc27 pm27 an27 cd27 ct27), sl27⟩)
    (c27 : PySem.W.codeIn K cd27 "BadBook.__init__" = true)
    (k27 : PySem.W.keepIn K (.ref f27) = true)
    (z_bool : PySem.W.nsIn K mainGlobals "bool" = some none)
    (z_enumerate : PySem.W.nsIn K mainGlobals "enumerate" = some none)
    (z_int : PySem.W.nsIn K mainGlobals "int" = some none)
    (z_isinstance : PySem.W.nsIn K mainGlobals "isinstance" = some none)
    (z_len : PySem.W.nsIn K mainGlobals "len" = some none)
    (z_list : PySem.W.nsIn K mainGlobals "list" = some none)
    (z_max : PySem.W.nsIn K mainGlobals "max" = some none)
    (z_range : PySem.W.nsIn K mainGlobals "range" = some none)
    (z_str : PySem.W.nsIn K mainGlobals "str" = some none)
    (z_zip : PySem.W.nsIn K mainGlobals "zip" = some none)
    (c_FIGURES : PySem.W.nsIn K mainGlobals "FIGURES" = some (some (.str "0123456789" t_FIGURES)))
    (c_LETTERS : PySem.W.nsIn K mainGlobals "LETTERS" = some (some (.str "abcdefghijklmnopqrstuvwxyz" t_LETTERS)))
    (c_MOST_ASKS : PySem.W.nsIn K mainGlobals "MOST_ASKS" = some (some (.int 200 t_MOST_ASKS)))
    (c_MOST_PLACES : PySem.W.nsIn K mainGlobals "MOST_PLACES" = some (some (.int 1000000 t_MOST_PLACES)))
    (e1 : PySem.W.excIn K x1 [.type "ValueError", .type "Exception", .type "BaseException", .type "object"] "ValueError.__new__" = true)
    (k_NoName : PySem.W.keepIn K (.ref x1) = true)
    (b_1 : PySem.W.subIn K (.ref x1) (.type "BaseException") = some true)
    (t_1 : PySem.W.typeIn K (.ref x1) = some (.type "type"))
    (e2 : PySem.W.excIn K x2 [.type "ValueError", .type "Exception", .type "BaseException", .type "object"] "ValueError.__new__" = true)
    (k_NoNumber : PySem.W.keepIn K (.ref x2) = true)
    (b_2 : PySem.W.subIn K (.ref x2) (.type "BaseException") = some true)
    (t_2 : PySem.W.typeIn K (.ref x2) = some (.type "type"))
    (e3 : PySem.W.excIn K x3 [.type "ValueError", .type "Exception", .type "BaseException", .type "object"] "ValueError.__new__" = true)
    (k_Twice : PySem.W.keepIn K (.ref x3) = true)
    (b_3 : PySem.W.subIn K (.ref x3) (.type "BaseException") = some true)
    (t_3 : PySem.W.typeIn K (.ref x3) = some (.type "type"))
    (e4 : PySem.W.excIn K x4 [.type "ValueError", .type "Exception", .type "BaseException", .type "object"] "ValueError.__new__" = true)
    (k_TooMany : PySem.W.keepIn K (.ref x4) = true)
    (b_4 : PySem.W.subIn K (.ref x4) (.type "BaseException") = some true)
    (t_4 : PySem.W.typeIn K (.ref x4) = some (.type "type"))
    (b_5 : PySem.W.subIn K (.ref x5) (.type "BaseException") = some true)
    (t_5 : PySem.W.typeIn K (.ref x5) = some (.type "type"))
    (b_6 : PySem.W.subIn K (.ref x6) (.type "BaseException") = some true)
    (t_6 : PySem.W.typeIn K (.ref x6) = some (.type "type"))
    (e7 : PySem.W.excIn K x7 [.type "ValueError", .type "Exception", .type "BaseException", .type "object"] "ValueError.__new__" = true)
    (k_There : PySem.W.keepIn K (.ref x7) = true)
    (b_7 : PySem.W.subIn K (.ref x7) (.type "BaseException") = some true)
    (t_7 : PySem.W.typeIn K (.ref x7) = some (.type "type"))
    (e8 : PySem.W.excIn K x8 [.type "ValueError", .type "Exception", .type "BaseException", .type "object"] "ValueError.__new__" = true)
    (k_NotThere : PySem.W.keepIn K (.ref x8) = true)
    (b_8 : PySem.W.subIn K (.ref x8) (.type "BaseException") = some true)
    (t_8 : PySem.W.typeIn K (.ref x8) = some (.type "type"))
    (e9 : PySem.W.excIn K x9 [.type "ValueError", .type "Exception", .type "BaseException", .type "object"] "ValueError.__new__" = true)
    (k_Full : PySem.W.keepIn K (.ref x9) = true)
    (b_9 : PySem.W.subIn K (.ref x9) (.type "BaseException") = some true)
    (t_9 : PySem.W.typeIn K (.ref x9) = some (.type "type"))
    (b_10 : PySem.W.subIn K (.ref x10) (.type "BaseException") = some true)
    (t_10 : PySem.W.typeIn K (.ref x10) = some (.type "type"))
    (lx5 : ∃ nm qq N bs bm sn sb ab col dd k0 k1 k2 k3 k5, K.lookup x5 = some (excClassObj nm qq x5 N bs bm true sn sb ab col dd k0 k1 k2 k3 k5 "ValueError.__new__") ∧ PySem.HandSPX.refsVE bm = true)
    (xs5 : PySem.W.findIn K (.ref x5) "__setattr__" = some (some (.builtin "object.__setattr__")))
    (k_Unknown : PySem.W.keepIn K (.ref x5) = true)
    (xn5_name : PySem.W.findIn K (.ref x5) "name" = some none)
    (xn5_place : PySem.W.findIn K (.ref x5) "place" = some none)
    (lx6 : ∃ nm qq N bs bm sn sb ab col dd k0 k1 k2 k3 k5, K.lookup x6 = some (excClassObj nm qq x6 N bs bm true sn sb ab col dd k0 k1 k2 k3 k5 "ValueError.__new__") ∧ PySem.HandSPX.refsVE bm = true)
    (xs6 : PySem.W.findIn K (.ref x6) "__setattr__" = some (some (.builtin "object.__setattr__")))
    (k_TooWide : PySem.W.keepIn K (.ref x6) = true)
    (xn6_name : PySem.W.findIn K (.ref x6) "name" = some none)
    (xn6_place : PySem.W.findIn K (.ref x6) "place" = some none)
    (lx10 : ∃ nm qq N bs bm sn sb ab col dd k0 k1 k2 k3 k5, K.lookup x10 = some (excClassObj nm qq x10 N bs bm true sn sb ab col dd k0 k1 k2 k3 k5 "ValueError.__new__") ∧ PySem.HandSPX.refsVE bm = true)
    (xs10 : PySem.W.findIn K (.ref x10) "__setattr__" = some (some (.builtin "object.__setattr__")))
    (k_BadBook : PySem.W.keepIn K (.ref x10) = true)
    (xn10_place : PySem.W.findIn K (.ref x10) "place" = some none)
    : ∃ (x y : Nat → Addr) (fd : FuncData), (∀ (s : Shared) (v : Value), BindsTo s fd ⟨[v], []⟩ [("_law_script", v)]) ∧ ∀ base : Heap, K.In base → base.Ns mainGlobals mg → FnOk l.prog w K mg base (L2.CX l.prog w) 8 fa fd ["_law_script"] (spF (tab K x y) 1 m_law) := by
  have e := hfa.symm.trans (PySem.W.mg_of X G a14)
  cases e
  have F9 := fun_mk (st := s9) l9 c9 k9
  have B9 := F9.binds (ps := ["_law_cell", "_law_many"]) fun _ _ _ _ _ _ us hl => match us, hl with | [_, _], _ => rfl
  have F6 := fun_mk (st := s6) l6 c6 k6
  have B6 := F6.binds (ps := ["thing"]) fun _ _ _ _ _ _ us hl => match us, hl with | [_], _ => rfl
  have F0 := fun_mk (st := s0) l0 c0 k0
  have B0 := F0.binds (ps := ["thing"]) fun _ _ _ _ _ _ us hl => match us, hl with | [_], _ => rfl
  have F35 := fun_mk (st := s35) l35 c35 k35
  have B35 := F35.binds (ps := ["self", "rows"]) fun _ _ _ _ _ _ us hl => match us, hl with | [_, _], _ => rfl
  have F10 := fun_mk (st := s10) l10 c10 k10
  have B10 := F10.binds (ps := ["_law_lying", "_law_rooms", "_law_name", "_law_left", "_law_cell"]) fun _ _ _ _ _ _ us hl => match us, hl with | [_, _, _, _, _], _ => rfl
  have F11 := fun_mk (st := s11) l11 c11 k11
  have B11 := F11.binds (ps := ["_law_asks", "_law_cells", "_law_rooms", "_law_places"]) fun _ _ _ _ _ _ us hl => match us, hl with | [_, _, _, _], _ => rfl
  have F12 := fun_mk (st := s12) l12 c12 k12
  have B12 := F12.binds (ps := ["_law_book"]) fun _ _ _ _ _ _ us hl => match us, hl with | [_], _ => rfl
  have F1 := fun_mk (st := s1) l1 c1 k1
  have B1 := F1.binds (ps := ["places"]) fun _ _ _ _ _ _ us hl => match us, hl with | [_], _ => rfl
  have F37 := fun_mk (st := s37) l37 c37 k37
  have B37 := F37.binds (ps := ["self", "name"]) fun _ _ _ _ _ _ us hl => match us, hl with | [_, _], _ => rfl
  have F40 := fun_mk (st := s40) l40 c40 k40
  have B40 := F40.binds (ps := ["self", "name"]) fun _ _ _ _ _ _ us hl => match us, hl with | [_, _], _ => rfl
  have F2 := fun_mk (st := s2) l2 c2 k2
  have B2 := F2.binds (ps := ["stock", "asks", "places"]) fun _ _ _ _ _ _ us hl => match us, hl with | [_, _, _], _ => rfl
  have F29 := fun_mk (st := s29) l29 c29 k29
  have B29 := F29.binds (ps := ["self", "stock", "places"]) fun _ _ _ _ _ _ us hl => match us, hl with | [_, _, _], _ => rfl
  have F34 := fun_mk (st := s34) l34 c34 k34
  have B34 := F34.binds (ps := ["self", "name"]) fun _ _ _ _ _ _ us hl => match us, hl with | [_, _], _ => rfl
  have F31 := fun_mk (st := s31) l31 c31 k31
  have B31 := F31.binds (ps := ["self", "name"]) fun _ _ _ _ _ _ us hl => match us, hl with | [_, _], _ => rfl
  have F3 := fun_mk (st := s3) l3 c3 k3
  have B3 := F3.binds (ps := ["shelf", "name", "gone", "at"]) fun _ _ _ _ _ _ us hl => match us, hl with | [_, _, _, _], _ => rfl
  have F32 := fun_mk (st := s32) l32 c32 k32
  have B32 := F32.binds (ps := ["self"]) fun _ _ _ _ _ _ us hl => match us, hl with | [_], _ => rfl
  have F33 := fun_mk (st := s33) l33 c33 k33
  have B33 := F33.binds (ps := ["self", "name"]) fun _ _ _ _ _ _ us hl => match us, hl with | [_, _], _ => rfl
  have F4 := fun_mk (st := s4) l4 c4 k4
  have B4 := F4.binds (ps := ["shelf", "name", "line", "at"]) fun _ _ _ _ _ _ us hl => match us, hl with | [_, _, _, _], _ => rfl
  have F30 := fun_mk (st := s30) l30 c30 k30
  have B30 := F30.binds (ps := ["self"]) fun _ _ _ _ _ _ us hl => match us, hl with | [_], _ => rfl
  have F5 := fun_mk (st := s5) l5 c5 k5
  have B5 := F5.binds (ps := ["stock", "asks", "places", "book"]) fun _ _ _ _ _ _ us hl => match us, hl with | [_, _, _, _], _ => rfl
  have F13 := fun_mk (st := s13) l13 c13 k13
  have B13 := F13.binds (ps := ["_law_found", "_law_due"]) fun _ _ _ _ _ _ us hl => match us, hl with | [_, _], _ => rfl
  have F7 := fun_mk (st := s7) l7 c7 k7
  have B7 := F7.binds (ps := ["_law_script", "_law_k"]) fun _ _ _ _ _ _ us hl => match us, hl with | [_, _], _ => rfl
  have F8 := fun_mk (st := s8) l8 c8 k8
  have B8 := F8.binds (ps := ["_law_cell", "_law_k"]) fun _ _ _ _ _ _ us hl => match us, hl with | [_, _], _ => rfl
  have F14 := fun_mk (st := s14) l14 c14 k14
  have B14 := F14.binds (ps := ["_law_script"]) fun _ _ _ _ _ _ us hl => match us, hl with | [_], _ => rfl
  have F20 := fun_mk (st := s20) l20 c20 k20
  have B20 := F20.binds (ps := ["self", "name", "place"]) fun _ _ _ _ _ _ us hl => match us, hl with | [_, _, _], _ => rfl
  have F22 := fun_mk (st := s22) l22 c22 k22
  have B22 := F22.binds (ps := ["self", "name", "place"]) fun _ _ _ _ _ _ us hl => match us, hl with | [_, _, _], _ => rfl
  have F27 := fun_mk (st := s27) l27 c27 k27
  have B27 := F27.binds (ps := ["self", "place"]) fun _ _ _ _ _ _ us hl => match us, hl with | [_, _], _ => rfl
  have T : Txt K mg (fun n => match n with | 9 => f9 | 6 => f6 | 0 => f0 | 35 => f35 | 10 => f10 | 11 => f11 | 12 => f12 | 1 => f1 | 37 => f37 | 40 => f40 | 2 => f2 | 29 => f29 | 34 => f34 | 31 => f31 | 3 => f3 | 32 => f32 | 33 => f33 | 4 => f4 | 30 => f30 | 5 => f5 | 13 => f13 | 7 => f7 | 8 => f8 | 14 => fa | 20 => f20 | 22 => f22 | 27 => f27 | _ => 0) (fun n => match n with | 1 => x1 | 2 => x2 | 3 => x3 | 4 => x4 | 5 => x5 | 6 => x6 | 7 => x7 | 8 => x8 | 9 => x9 | 10 => x10 | _ => 0) (fun n => match n with | 0 => y0 | 1 => y1 | _ => 0) (fun n => match n with | 9 => PySem.W.fnOf "_law_names" "_law_names" (defArgs s9) (defBody s9) (defScope s9) .none kV9 dc9 pm9 an9 cd9 ct9 | 6 => PySem.W.fnOf "is_name" "is_name" (defArgs s6) (defBody s6) (defScope s6) .none kV6 dc6 pm6 an6 cd6 ct6 | 0 => PySem.W.fnOf "is_whole" "is_whole" (defArgs s0) (defBody s0) (defScope s0) .none kV0 dc0 pm0 an0 cd0 ct0 | 35 => PySem.W.fnOf "__init__" "Stock.__init__" (defArgs s35) (defBody s35) (defScope s35) .none kV35 dc35 pm35 an35 cd35 ct35 | 10 => PySem.W.fnOf "_law_gone" "_law_gone" (defArgs s10) (defBody s10) (defScope s10) .none kV10 dc10 pm10 an10 cd10 ct10 | 11 => PySem.W.fnOf "_law_run" "_law_run" (defArgs s11) (defBody s11) (defScope s11) .none kV11 dc11 pm11 an11 cd11 ct11 | 12 => PySem.W.fnOf "_law_copy" "_law_copy" (defArgs s12) (defBody s12) (defScope s12) .none kV12 dc12 pm12 an12 cd12 ct12 | 1 => PySem.W.fnOf "need_places" "need_places" (defArgs s1) (defBody s1) (defScope s1) .none kV1 dc1 pm1 an1 cd1 ct1 | 37 => PySem.W.fnOf "has" "Stock.has" (defArgs s37) (defBody s37) (defScope s37) .none kV37 dc37 pm37 an37 cd37 ct37 | 40 => PySem.W.fnOf "room_of" "Stock.room_of" (defArgs s40) (defBody s40) (defScope s40) .none kV40 dc40 pm40 an40 cd40 ct40 | 2 => PySem.W.fnOf "check_asks" "check_asks" (defArgs s2) (defBody s2) (defScope s2) .none kV2 dc2 pm2 an2 cd2 ct2 | 29 => PySem.W.fnOf "__init__" "Shelf.__init__" (defArgs s29) (defBody s29) (defScope s29) .none kV29 dc29 pm29 an29 cd29 ct29 | 34 => PySem.W.fnOf "cast" "Shelf.cast" (defArgs s34) (defBody s34) (defScope s34) .none kV34 dc34 pm34 an34 cd34 ct34 | 31 => PySem.W.fnOf "holds" "Shelf.holds" (defArgs s31) (defBody s31) (defScope s31) .none kV31 dc31 pm31 an31 cd31 ct31 | 3 => PySem.W.fnOf "cast_all" "cast_all" (defArgs s3) (defBody s3) (defScope s3) .none kV3 dc3 pm3 an3 cd3 ct3 | 32 => PySem.W.fnOf "room_left" "Shelf.room_left" (defArgs s32) (defBody s32) (defScope s32) .none kV32 dc32 pm32 an32 cd32 ct32 | 33 => PySem.W.fnOf "put" "Shelf.put" (defArgs s33) (defBody s33) (defScope s33) .none kV33 dc33 pm33 an33 cd33 ct33 | 4 => PySem.W.fnOf "serve" "serve" (defArgs s4) (defBody s4) (defScope s4) .none kV4 dc4 pm4 an4 cd4 ct4 | 30 => PySem.W.fnOf "lying" "Shelf.lying" (defArgs s30) (defBody s30) (defScope s30) .none kV30 dc30 pm30 an30 cd30 ct30 | 5 => PySem.W.fnOf "lying_after" "lying_after" (defArgs s5) (defBody s5) (defScope s5) .none kV5 dc5 pm5 an5 cd5 ct5 | 13 => PySem.W.fnOf "_law_lists" "_law_lists" (defArgs s13) (defBody s13) (defScope s13) .none kV13 dc13 pm13 an13 cd13 ct13 | 7 => PySem.W.fnOf "_law_cell_at" "_law_cell_at" (defArgs s7) (defBody s7) (defScope s7) .none kV7 dc7 pm7 an7 cd7 ct7 | 8 => PySem.W.fnOf "_law_mix" "_law_mix" (defArgs s8) (defBody s8) (defScope s8) .none kV8 dc8 pm8 an8 cd8 ct8 | 20 => PySem.W.fnOf "__init__" "Unknown.__init__" (defArgs s20) (defBody s20) (defScope s20) .none kV20 dc20 pm20 an20 cd20 ct20 | 22 => PySem.W.fnOf "__init__" "TooWide.__init__" (defArgs s22) (defBody s22) (defScope s22) .none kV22 dc22 pm22 an22 cd22 ct22 | 27 => PySem.W.fnOf "__init__" "BadBook.__init__" (defArgs s27) (defBody s27) (defScope s27) .none kV27 dc27 pm27 an27 cd27 ct27 | _ => PySem.W.fnOf "law" "law" (defArgs s14) (defBody s14) (defScope s14) .none kV14 dc14 pm14 an14 cd14 ct14) :=
    { f9 := F9,
      b9 := B9,
      g9 := PySem.W.mg_of X G a9,
      f6 := F6,
      b6 := B6,
      g6 := PySem.W.mg_of X G a6,
      f0 := F0,
      b0 := B0,
      g0 := PySem.W.mg_of X G a0,
      f35 := F35,
      b35 := B35,
      f10 := F10,
      b10 := B10,
      g10 := PySem.W.mg_of X G a10,
      f11 := F11,
      b11 := B11,
      g11 := PySem.W.mg_of X G a11,
      f12 := F12,
      b12 := B12,
      g12 := PySem.W.mg_of X G a12,
      f1 := F1,
      b1 := B1,
      g1 := PySem.W.mg_of X G a1,
      f37 := F37,
      b37 := B37,
      f40 := F40,
      b40 := B40,
      f2 := F2,
      b2 := B2,
      g2 := PySem.W.mg_of X G a2,
      f29 := F29,
      b29 := B29,
      f34 := F34,
      b34 := B34,
      f31 := F31,
      b31 := B31,
      f3 := F3,
      b3 := B3,
      g3 := PySem.W.mg_of X G a3,
      f32 := F32,
      b32 := B32,
      f33 := F33,
      b33 := B33,
      f4 := F4,
      b4 := B4,
      g4 := PySem.W.mg_of X G a4,
      f30 := F30,
      b30 := B30,
      f5 := F5,
      b5 := B5,
      g5 := PySem.W.mg_of X G a5,
      f13 := F13,
      b13 := B13,
      g13 := PySem.W.mg_of X G a13,
      f7 := F7,
      b7 := B7,
      g7 := PySem.W.mg_of X G a7,
      f8 := F8,
      b8 := B8,
      g8 := PySem.W.mg_of X G a8,
      f14 := F14,
      b14 := B14,
      g14 := PySem.W.mg_of X G a14,
      f20 := F20,
      b20 := B20,
      f22 := F22,
      b22 := B22,
      f27 := F27,
      b27 := B27,
      z_bool := PySem.W.mg_none_of X G z_bool,
      z_enumerate := PySem.W.mg_none_of X G z_enumerate,
      z_int := PySem.W.mg_none_of X G z_int,
      z_isinstance := PySem.W.mg_none_of X G z_isinstance,
      z_len := PySem.W.mg_none_of X G z_len,
      z_list := PySem.W.mg_none_of X G z_list,
      z_max := PySem.W.mg_none_of X G z_max,
      z_range := PySem.W.mg_none_of X G z_range,
      z_str := PySem.W.mg_none_of X G z_str,
      z_zip := PySem.W.mg_none_of X G z_zip,
      c_FIGURES := ⟨_, PySem.W.mg_of X G c_FIGURES⟩,
      c_LETTERS := ⟨_, PySem.W.mg_of X G c_LETTERS⟩,
      c_MOST_ASKS := ⟨_, PySem.W.mg_of X G c_MOST_ASKS⟩,
      c_MOST_PLACES := ⟨_, PySem.W.mg_of X G c_MOST_PLACES⟩,
      g_NoName := PySem.W.mg_of X G g_NoName,
      g_NoNumber := PySem.W.mg_of X G g_NoNumber,
      g_Twice := PySem.W.mg_of X G g_Twice,
      g_TooMany := PySem.W.mg_of X G g_TooMany,
      g_Unknown := PySem.W.mg_of X G g_Unknown,
      g_TooWide := PySem.W.mg_of X G g_TooWide,
      g_There := PySem.W.mg_of X G g_There,
      g_NotThere := PySem.W.mg_of X G g_NotThere,
      g_Full := PySem.W.mg_of X G g_Full,
      g_BadBook := PySem.W.mg_of X G g_BadBook,
      x1 := e1,
      k_NoName := k_NoName,
      b_1 := b_1,
      t_1 := t_1,
      x2 := e2,
      k_NoNumber := k_NoNumber,
      b_2 := b_2,
      t_2 := t_2,
      x3 := e3,
      k_Twice := k_Twice,
      b_3 := b_3,
      t_3 := t_3,
      x4 := e4,
      k_TooMany := k_TooMany,
      b_4 := b_4,
      t_4 := t_4,
      b_5 := b_5,
      t_5 := t_5,
      b_6 := b_6,
      t_6 := t_6,
      x7 := e7,
      k_There := k_There,
      b_7 := b_7,
      t_7 := t_7,
      x8 := e8,
      k_NotThere := k_NotThere,
      b_8 := b_8,
      t_8 := t_8,
      x9 := e9,
      k_Full := k_Full,
      b_9 := b_9,
      t_9 := t_9,
      b_10 := b_10,
      t_10 := t_10,
      ra5 := ⟨rfl, ⟨lx5, xs5, b_5, t_5, k_Unknown⟩, xi5, xt5, fun f hf => by simp at hf; rcases hf with rfl | rfl <;> assumption, by simp, by simp⟩,
      xi5 := fun P w base => xi2 F20 ⟨rfl, rfl, rfl, by decide +kernel, rfl, by decide +kernel, by decide +kernel⟩ rfl (by first | exact Or.inl rfl | exact Or.inr rfl) (by first | exact Or.inl rfl | exact Or.inr rfl) (by first | exact Or.inl rfl | exact Or.inr rfl) (by decide) (by decide) (by decide) (by decide) (by decide) (by decide) (fun _ => rfl) (fun _ => rfl),
      ra6 := ⟨rfl, ⟨lx6, xs6, b_6, t_6, k_TooWide⟩, xi6, xt6, fun f hf => by simp at hf; rcases hf with rfl | rfl <;> assumption, by simp, by simp⟩,
      xi6 := fun P w base => xi2 F22 ⟨rfl, rfl, rfl, by decide +kernel, rfl, by decide +kernel, by decide +kernel⟩ rfl (by first | exact Or.inl rfl | exact Or.inr rfl) (by first | exact Or.inl rfl | exact Or.inr rfl) (by first | exact Or.inl rfl | exact Or.inr rfl) (by decide) (by decide) (by decide) (by decide) (by decide) (by decide) (fun _ => rfl) (fun _ => rfl),
      ra10 := ⟨rfl, ⟨lx10, xs10, b_10, t_10, k_BadBook⟩, xi10, xt10, fun f hf => by simp at hf; rcases hf with rfl <;> assumption, by simp, by simp⟩,
      xi10 := fun P w base => xi1 F27 ⟨rfl, rfl, rfl, by decide +kernel, rfl, by decide +kernel, by decide +kernel⟩ rfl (by first | exact Or.inl rfl | exact Or.inr rfl) (by first | exact Or.inl rfl | exact Or.inr rfl) (by decide) (by decide) (by decide) (by decide) (fun _ => rfl),
      mk0 := ⟨_, rfl, ⟨mm0, mi0, if29, kc0⟩⟩,
      gc0 := PySem.W.mg_of X G ac0,
      mk1 := ⟨_, rfl, ⟨mm1, mi1, if35, kc1⟩⟩,
      gc1 := PySem.W.mg_of X G ac1,
      mo_0_cast := ⟨_, _, rfl, by decide +kernel, ⟨pg0, hd0, po0, sa0⟩, ⟨mf0_cast, if34, k34⟩⟩,
      mo_0_holds := ⟨_, _, rfl, by decide +kernel, ⟨pg0, hd0, po0, sa0⟩, ⟨mf0_holds, if31, k31⟩⟩,
      mo_0_lying := ⟨_, _, rfl, by decide +kernel, ⟨pg0, hd0, po0, sa0⟩, ⟨mf0_lying, if30, k30⟩⟩,
      mo_0_put := ⟨_, _, rfl, by decide +kernel, ⟨pg0, hd0, po0, sa0⟩, ⟨mf0_put, if33, k33⟩⟩,
      mo_0_room_left := ⟨_, _, rfl, by decide +kernel, ⟨pg0, hd0, po0, sa0⟩, ⟨mf0_room_left, if32, k32⟩⟩,
      mo_1_has := ⟨_, _, rfl, by decide +kernel, ⟨pg1, hd1, po1, sa1⟩, ⟨mf1_has, if37, k37⟩⟩,
      mo_1_room_of := ⟨_, _, rfl, by decide +kernel, ⟨pg1, hd1, po1, sa1⟩, ⟨mf1_room_of, if40, k40⟩⟩,
      ff_costs := (fldT_cons ⟨_, _, rfl, rfl, by decide +kernel, ⟨pg1, hd1, po1, sa1⟩, nf1_costs, by decide⟩ fldT_nil),
      ff_places := (fldT_cons ⟨_, _, rfl, rfl, by decide +kernel, ⟨pg0, hd0, po0, sa0⟩, nf0_places, by decide⟩ fldT_nil),
      ff_rooms := (fldT_cons ⟨_, _, rfl, rfl, by decide +kernel, ⟨pg1, hd1, po1, sa1⟩, nf1_rooms, by decide⟩ fldT_nil),
      ff_stock := (fldT_cons ⟨_, _, rfl, rfl, by decide +kernel, ⟨pg0, hd0, po0, sa0⟩, nf0_stock, by decide⟩ fldT_nil),
      ff_there := (fldT_cons ⟨_, _, rfl, rfl, by decide +kernel, ⟨pg0, hd0, po0, sa0⟩, nf0_there, by decide⟩ fldT_nil),
      ff_used := (fldT_cons ⟨_, _, rfl, rfl, by decide +kernel, ⟨pg0, hd0, po0, sa0⟩, nf0_used, by decide⟩ fldT_nil) }
  exact ⟨_, _, _, fun s v => .of_eq rfl, fun base _ _ => ok14 T⟩
end G
namespace G
open PySem L2 Tr Ty
noncomputable def tL_cell_at (v0 : (List Int)) (v1 : Int) : RF Int Unit Unit := SR.fn (fun _ => .er) (if (decide (v1 < (v0.length : Int))) = true then R.bindE () (getI v0 v1) fun (x1 : Int) => .rt x1 () else .rt (0 : Int) () : SR Unit Int Unit Empty Unit)
theorem tL_cell_at_ok (v0 : (List Int)) (v1 : Int) : FSim (mL_cell_at [.ro (eQ v0), .ro (eI v1)]) (tL_cell_at v0 v1) eI (fun (k : Unit) => [none, none]) (fun (k : Unit) => [none, none]) := fn_sim (X := ⟨eI, fun (k : Unit) => [none, none], Empty.elim, fun (k : Unit) => [none, none]⟩) (ts_sub (sp' := [some (.ro (eQ v0)), some (.ro (eI v1))]) (ts_pad (ts_assoc (ts_dist (s_if (tp_b (xp_l (Ty.ep_2 (cp_c (ep_vc rfl (.inr rfl) ((fun _ => rfl) v1)) (cp_c (Ty.ep_N (cp_c (ep_vr rfl rfl) (cp_n (zo (o_lenQ _))))) (cp_n (zo (r_lt _ _)))))))) (ts_retf (g := fun (x1 : Int) => x1) (Ty.ef_I (ck_p (ep_vr rfl rfl) (ck_p (ep_vc rfl (.inr rfl) ((fun _ => rfl) v1)) (ck_n (ixq rfl))))) (fun _ => rfl) (sZ (sZ sN)) (sZ (sZ sN))) (ts_skip (ts_retp (xp_l ep_k) (sZ (sZ sN)))))))) (sS (sS sN))) (fun _ => trivial) (fun _ => (pZ (pZ pN))) (fun _ => (pZ (pZ pN)))
noncomputable def tL_names_b0 (v0 : Int) (v2_1 : Str) (v4_3 : Int) (a81 : Int) (a106 : Int) (s105 : (Str)) : SR (Str) (List Str) Unit (Str) Unit := SR.bind (σ := (Str)) (if (decide ((0 : Int) < a106)) = true then R.bindE () (addS v2_1 ("0123456789" : Str)) fun (v9_109 : Str) => .nx v9_109 else .nx v2_1) fun (s108 : (Str)) => R.bindE () (R.bind (divR v0 ((64 : Int) + ((7 : Int) * a106))) fun (x110 : Int) => R.bind (mulR (if (decide (a106 = v4_3)) = true then (1 : Int) else 0) a81) fun (x111 : Int) => .ok (x110 + x111)) fun (v10_112 : Int) => R.bindE () (R.bind (R.bind (R.bind (lenS s108) fun (x113 : Int) => modR v10_112 x113) fun (x114 : Int) => getS s108 x114) fun (x115 : Nat) => addS s105 (chS x115)) fun (v7_116 : Str) => .nx v7_116
noncomputable def tL_names_b1 (v0 : Int) (v2_1 : Str) (v3_2 : Int) (v4_3 : Int) (a81 : Int) (s80 : ((List Str))) : SR ((List Str)) (List Str) Unit ((List Str)) Unit := lt ("" : Str) fun (v7_82 : Str) => SR.bind (σ := (Str)) (R.bindE () (rg1R v3_2) fun (x117 : List Int) => forR (tL_names_b0 v0 v2_1 v4_3 a81) x117 v7_82) fun (s105 : (Str)) => R.bindE () (R.gd (s80.length < 1000000) (s80 ++ [s105])) fun (v5_118 : (List Str)) => .nx v5_118
noncomputable def tL_names (v0 : Int) (v1 : Int) : RF (List Str) Unit Unit := SR.fn (fun _ => .er) (lt ("abcdefghijklmnopqrstuvwxyz" : Str) fun (v2_1 : Str) => lt ((1 : Int) + (v0 % (8 : Int))) fun (v3_2 : Int) => R.bindE () (modR (v0 / (8 : Int)) v3_2) fun (v4_3 : Int) => SR.bind (σ := ((List Str))) (R.bindE () (rg1R v1) fun (x119 : List Int) => forR (tL_names_b1 v0 v2_1 v3_2 v4_3) x119 ([])) fun (s80 : ((List Str))) => SR.bind (σ := ((List Str))) (if ((decide ((1 : Int) < v1)) && ((decide (v3_2 < (8 : Int))) && (decide (((v0 / (5 : Int)) % (2 : Int)) = (1 : Int))))) = true then R.bindE () (R.bind (R.bind (getI s80 (0 : Int)) fun (x126 : Str) => addS x126 ("7" : Str)) fun (x127 : Str) => R.bind (.ok (v1 - (1 : Int))) fun (x128 : Int) => R.bind (R.ofO (setI s80 x128 x127)) fun (x129 : (List Str)) => .ok x129) fun (v5_130 : (List Str)) => .nx v5_130 else .nx s80) fun (s125 : ((List Str))) => .rt s125 () : SR Unit (List Str) Unit Empty Unit)
theorem tL_names_ok (v0 : Int) (v1 : Int) : FSim (mL_names [.ro (eI v0), .ro (eI v1)]) (tL_names v0 v1) (eL eS) (fun (k : Unit) => [none, none]) (fun (k : Unit) => [none, none]) := fn_sim (X := ⟨(eL eS), fun (k : Unit) => [none, none, none, none, none, none, none, none, none, none, none], Empty.elim, fun (k : Unit) => [none, none, none, none, none, none, none, none, none, none, none]⟩) (ts_sub (sp' := [some (.ro (eI v0)), some (.ro (eI v1)), none, none, none, none, none, none, none, none, none]) (ts_pad (ts_assoc (ts_lt (po := fun (v2_1 : Str) => [some (.ro (eI v0)), some (.ro (eI v1)), some (.own (eS v2_1)), none, none, none, none, none, none, none, none]) (dp_set (xp_l ep_k)) (fun (v2_1 : Str) => (ts_assoc (ts_lt (po := fun (v3_2 : Int) => [some (.ro (eI v0)), some (.ro (eI v1)), some (.own (eS v2_1)), some (.own (eI v3_2)), none, none, none, none, none, none, none]) (dp_set (xp_l (Ty.ep_2 (cp_c ep_k (cp_c (Ty.ep_2 (cp_c (ep_vc rfl (.inr rfl) ((fun _ => rfl) v0)) (cp_c ep_k (cp_n (zo (r_modp (b := 8) (by decide))))))) (cp_n (zo (r_add _ _)))))))) (fun (v3_2 : Int) => (ts_assoc (ts_df (po := fun (v4_3 : Int) => [some (.ro (eI v0)), some (.ro (eI v1)), some (.own (eS v2_1)), some (.own (eI v3_2)), some (.own (eI v4_3)), none, none, none, none, none, none]) (df_set (Ty.ef_2 (ck_p (Ty.ep_2 (cp_c (ep_vc rfl (.inr rfl) ((fun _ => rfl) v0)) (cp_c ep_k (cp_n (zo (r_divp (b := 8) (by decide) (by decide))))))) (ck_p (ep_vc rfl (.inl rfl) ((fun _ => rfl) v3_2)) (ck_n (zof (o_mod _ _)))))) (sZ (sZ (sZ (sZ (sZ (sZ (sZ (sZ (sZ (sZ (sZ sN)))))))))))) (fun (v4_3 : Int) => (ts_assoc (ts_dp (sp' := [some (.ro (eI v0)), some (.ro (eI v1)), some (.own (eS v2_1)), some (.own (eI v3_2)), some (.own (eI v4_3)), some (.own ((eL eS) ([]))), none, none, none, none, none]) (dp_set (xp_lst (γ := Unit) (c := ()) (f := fun _ => []) (rw_n ta_n) (len_ok rfl))) (ts_assoc (ts_seq (J := fun (s80 : ((List Str))) => [some (.ro (eI v0)), some (.ro (eI v1)), some (.own (eS v2_1)), some (.own (eI v3_2)), some (.own (eI v4_3)), some (.own ((eL eS) s80)), none, none, none, none, none]) (s_forf (it := fun c => List.map eI c) (fz := []) (if_r1 (r := .own (eI v1)) (ep_vc rfl (.inr rfl) ((fun _ => rfl) v1)) rfl) (sZ (sZ (sZ (sZ (sZ (sZ (sZ (sZ (sZ (sZ (sZ sN))))))))))) (fun _ => (fr_0 (lp0 (e := eI) (J := fun (s80 : ((List Str))) => [some (.ro (eI v0)), some (.ro (eI v1)), some (.own (eS v2_1)), some (.own (eI v3_2)), some (.own (eI v4_3)), some (.own ((eL eS) s80)), none, none, none, none, none]) (sp1 := fun (a81 : Int) (s80 : ((List Str))) => [some (.ro (eI v0)), some (.ro (eI v1)), some (.own (eS v2_1)), some (.own (eI v3_2)), some (.own (eI v4_3)), some (.own ((eL eS) s80)), some (.own (eI a81)), none, none, none, none]) (sS (sS (sS (sS (sS (sS (sZ (sZ (sZ (sZ (sZ sN))))))))))) (fun (a81 : Int) (s80 : ((List Str))) => (tg_c ((fun _ => rfl) _))) (fun (a81 : Int) (s80 : ((List Str))) => ts_pad (ts_assoc (ts_lt (po := fun (v7_82 : Str) => [some (.ro (eI v0)), some (.ro (eI v1)), some (.own (eS v2_1)), some (.own (eI v3_2)), some (.own (eI v4_3)), some (.own ((eL eS) s80)), some (.own (eI a81)), some (.own (eS v7_82)), none, none, none]) (dp_set (xp_l ep_k)) (fun (v7_82 : Str) => (ts_assoc (ts_seq (J := fun (s105 : (Str)) => [some (.ro (eI v0)), some (.ro (eI v1)), some (.own (eS v2_1)), some (.own (eI v3_2)), some (.own (eI v4_3)), some (.own ((eL eS) s80)), some (.own (eI a81)), some (.own (eS s105)), none, none, none]) (s_forf (it := fun c => List.map eI c) (fz := []) (if_r1 (r := .own (eI v3_2)) (ep_vc rfl (.inl rfl) ((fun _ => rfl) v3_2)) rfl) (sZ (sZ (sZ (sZ (sZ (sZ (sZ (sZ (sZ (sZ (sZ sN))))))))))) (fun _ => (fr_0 (lp0 (e := eI) (J := fun (s105 : (Str)) => [some (.ro (eI v0)), some (.ro (eI v1)), some (.own (eS v2_1)), some (.own (eI v3_2)), some (.own (eI v4_3)), some (.own ((eL eS) s80)), some (.own (eI a81)), some (.own (eS s105)), none, none, none]) (sp1 := fun (a106 : Int) (s105 : (Str)) => [some (.ro (eI v0)), some (.ro (eI v1)), some (.own (eS v2_1)), some (.own (eI v3_2)), some (.own (eI v4_3)), some (.own ((eL eS) s80)), some (.own (eI a81)), some (.own (eS s105)), some (.own (eI a106)), none, none]) (sS (sS (sS (sS (sS (sS (sS (sS (sZ (sZ (sZ sN))))))))))) (fun (a106 : Int) (s105 : (Str)) => (tg_c ((fun _ => rfl) _))) (fun (a106 : Int) (s105 : (Str)) => ts_pad (ts_assoc (ts_dp (sp' := [some (.ro (eI v0)), some (.ro (eI v1)), some (.own (eS v2_1)), some (.own (eI v3_2)), some (.own (eI v4_3)), some (.own ((eL eS) s80)), some (.own (eI a81)), some (.own (eS s105)), some (.own (eI a106)), some (.own (eS v2_1)), none]) (dp_set (xp_mvc rfl (.inl rfl) ((fun _ => rfl) v2_1))) (ts_assoc (ts_seq (J := fun (s108 : (Str)) => [some (.ro (eI v0)), some (.ro (eI v1)), some (.own (eS v2_1)), some (.own (eI v3_2)), some (.own (eI v4_3)), some (.own ((eL eS) s80)), some (.own (eI a81)), some (.own (eS s105)), some (.own (eI a106)), some (.own (eS s108)), none]) (s_if (tp_b (xp_l (Ty.ep_2 (cp_c (ep_vc rfl (.inl rfl) ((fun _ => rfl) a106)) (cp_c ep_k (cp_n (zo (r_gt _ _)))))))) (ts_pad (ts_df (po := fun (v9_109 : Str) => [some (.ro (eI v0)), some (.ro (eI v1)), some (.own (eS v2_1)), some (.own (eI v3_2)), some (.own (eI v4_3)), some (.own ((eL eS) s80)), some (.own (eI a81)), some (.own (eS s105)), some (.own (eI a106)), some (.own (eS v9_109)), none]) (df_set (Ty.ef_2 (ck_p (ep_vc rfl (.inl rfl) ((fun _ => rfl) v2_1)) (ck_p ep_k (ck_n (zof (o_addS _ _)))))) (sZ (sZ (sZ (sZ (sZ (sZ (sZ (sZ (sZ (sZ (sZ sN)))))))))))) (fun (v9_109 : Str) => (ts_end (sS (sS (sS (sS (sS (sS (sS (sS (sS (sS (sZ sN))))))))))))))) (ts_pad (ts_skip (ts_end (sS (sS (sS (sS (sS (sS (sS (sS (sS (sS (sZ sN))))))))))))))) (fun (s108 : (Str)) => (ts_assoc (ts_df (po := fun (v10_112 : Int) => [some (.ro (eI v0)), some (.ro (eI v1)), some (.own (eS v2_1)), some (.own (eI v3_2)), some (.own (eI v4_3)), some (.own ((eL eS) s80)), some (.own (eI a81)), some (.own (eS s105)), some (.own (eI a106)), some (.own (eS s108)), some (.own (eI v10_112))]) (df_set (Ty.ef_2 (ck_f (Ty.ef_2 (ck_p (ep_vc rfl (.inr rfl) ((fun _ => rfl) v0)) (ck_p (Ty.ep_2 (cp_c ep_k (cp_c (Ty.ep_2 (cp_c ep_k (cp_c (ep_vc rfl (.inl rfl) ((fun _ => rfl) a106)) (cp_n (zo (o_mull (by decide))))))) (cp_n (zo (r_add _ _)))))) (ck_n (zof (o_div _ _)))))) (fun (x110 : Int) => (ck_f (Ty.ef_2 (ck_p (Ty.ep_N (cp_c (Ty.ep_2 (cp_c (ep_vc rfl (.inl rfl) ((fun _ => rfl) a106)) (cp_c (ep_vc rfl (.inl rfl) ((fun _ => rfl) v4_3)) (cp_n (zo (o_eqI _ _)))))) (cp_n (zo (o_intB _))))) (ck_p (ep_vc rfl (.inl rfl) ((fun _ => rfl) a81)) (ck_n (zof (o_mul _ _)))))) (fun (x111 : Int) => (ck_np (f := fun c => .own (eI c)) (zo (r_add _ _)))))))) (sZ (sZ (sZ (sZ (sZ (sZ (sZ (sZ (sZ (sZ (sZ sN)))))))))))) (fun (v10_112 : Int) => (ts_df (po := fun (v7_116 : Str) => [some (.ro (eI v0)), some (.ro (eI v1)), some (.own (eS v2_1)), some (.own (eI v3_2)), some (.own (eI v4_3)), some (.own ((eL eS) s80)), some (.own (eI a81)), some (.own (eS v7_116)), some (.own (eI a106)), some (.own (eS s108)), some (.own (eI v10_112))]) (df_set (Ty.ef_2 (ck_p (ep_vc rfl (.inl rfl) ((fun _ => rfl) s105)) (ck_f (Ty.ef_I (ck_p (ep_vc rfl (.inl rfl) ((fun _ => rfl) s108)) (ck_f (Ty.ef_2 (ck_p (ep_vc rfl (.inl rfl) ((fun _ => rfl) v10_112)) (ck_f (Ty.ef_N (ck_p (ep_vc rfl (.inl rfl) ((fun _ => rfl) s108)) (ck_n (zof (o_lenS _))))) (fun (x113 : Int) => (ck_n (zof (o_mod _ _))))))) (fun (x114 : Int) => (ck_n (ixs rfl)))))) (fun (x115 : Nat) => (ck_n (zof (o_addS _ _))))))) (sZ (sZ (sZ (sZ (sZ (sZ (sZ (sZ (sZ (sZ (sZ sN)))))))))))) (fun (v7_116 : Str) => (ts_end (sS (sS (sS (sS (sS (sS (sS (sS (sZ (sZ (sZ sN))))))))))))))))))))))))))) (fun (s105 : (Str)) => (ts_df (po := fun (v5_118 : (List Str)) => [some (.ro (eI v0)), some (.ro (eI v1)), some (.own (eS v2_1)), some (.own (eI v3_2)), some (.own (eI v4_3)), some (.own ((eL eS) v5_118)), some (.own (eI a81)), some (.own (eS s105)), none, none, none]) (df_mutp (γ := Unit) (c := ()) (fd := fun _ => [eS s105]) (f := (eL eS)) (pl_v rfl) rfl rfl rfl (rw_mc rfl (.inl rfl) ((fun _ => rfl) s105) (rw_n (ta_r ta_n))) rfl (mu_gd (fun h => (q_app (e := eS) rfl h)) rfl) (sZ (sZ (sZ (sZ (sZ (sZ (sZ (sZ (sZ (sZ (sZ sN)))))))))))) (fun (v5_118 : (List Str)) => (ts_end (sS (sS (sS (sS (sS (sS (sZ (sZ (sZ (sZ (sZ sN))))))))))))))))))))))))) (fun (s80 : ((List Str))) => (ts_assoc (ts_seq (J := fun (s125 : ((List Str))) => [some (.ro (eI v0)), some (.ro (eI v1)), some (.own (eS v2_1)), some (.own (eI v3_2)), some (.own (eI v4_3)), some (.own ((eL eS) s125)), none, none, none, none, none]) (s_if (tp_an (tp_b (xp_l (Ty.ep_2 (cp_c (ep_vc rfl (.inr rfl) ((fun _ => rfl) v1)) (cp_c ep_k (cp_n (zo (r_gt _ _)))))))) (tp_an (tp_b (xp_l (Ty.ep_2 (cp_c (ep_vc rfl (.inl rfl) ((fun _ => rfl) v3_2)) (cp_c ep_k (cp_n (zo (r_lt _ _)))))))) (tp_b (xp_l (Ty.ep_2 (cp_c (Ty.ep_2 (cp_c (Ty.ep_2 (cp_c (ep_vc rfl (.inr rfl) ((fun _ => rfl) v0)) (cp_c ep_k (cp_n (zo (r_divp (b := 5) (by decide) (by decide))))))) (cp_c ep_k (cp_n (zo (r_modp (b := 2) (by decide))))))) (cp_c ep_k (cp_n (zo (o_eqI _ _)))))))))) (ts_pad (ts_df (po := fun (v5_130 : (List Str)) => [some (.ro (eI v0)), some (.ro (eI v1)), some (.own (eS v2_1)), some (.own (eI v3_2)), some (.own (eI v4_3)), some (.own ((eL eS) v5_130)), none, none, none, none, none]) (df_subf (i := 5) (sp := [some (.ro (eI v0)), some (.ro (eI v1)), some (.own (eS v2_1)), some (.own (eI v3_2)), some (.own (eI v4_3)), some (.own ((eL eS) s80)), none, none, none, none, none]) (G := fun (x127 : Str) (x128 : Int) => R.bind (R.ofO (setI s80 x128 x127)) fun (x129 : (List Str)) => .ok x129) (fc := .int) (f := (eL eS)) (Ty.ef_2 (ck_f (Ty.ef_I (ck_p (ep_vo rfl rfl) (ck_p ep_k (ck_n (ixl (e := eS) rfl (fun x => zp_c ((fun _ => rfl) x))))))) (fun (x126 : Str) => (ck_p ep_k (ck_n (zof (o_addS _ _))))))) (pl_v rfl) (ef_p (f := fun c => .own (eI c)) (Ty.ep_2 (cp_c (ep_vc rfl (.inr rfl) ((fun _ => rfl) v1)) (cp_c ep_k (cp_n (zo (r_sub _ _))))))) (sZ (sZ (sZ (sZ (sZ (sZ (sZ (sZ (sZ (sZ (sZ sN))))))))))) rfl rfl (fun (x127 : Str) (x128 : Int) => (mu_o (fun a h => (q_setI (e := eS) rfl h)) (fun (x129 : (List Str)) => rfl)))) (fun (v5_130 : (List Str)) => (ts_end (sS (sS (sS (sS (sS (sS (sZ (sZ (sZ (sZ (sZ sN))))))))))))))) (ts_pad (ts_skip (ts_end (sS (sS (sS (sS (sS (sS (sZ (sZ (sZ (sZ (sZ sN))))))))))))))) (fun (s125 : ((List Str))) => (ts_retp (xp_mv rfl rfl) (sZ (sZ (sZ (sZ (sZ (sZ (sZ (sZ (sZ (sZ (sZ sN)))))))))))))))))))))))))))))) (sS (sS (sZ (sZ (sZ (sZ (sZ (sZ (sZ (sZ (sZ sN)))))))))))) (fun _ => trivial) (fun _ => (pZ (pZ pN))) (fun _ => (pZ (pZ pN)))
noncomputable def tL_mix (v0 : Int) (v1 : Int) : RF Int Unit Unit := SR.fn (fun _ => .er) (lt (((v0 % (1000000007 : Int)) + ((7919 : Int) * v1)) + (1 : Int)) fun (v2_1 : Int) => R.bindE () (R.bind (R.bind (R.bind (mulR v2_1 v2_1) fun (x2 : Int) => .ok (x2 % (2147483647 : Int))) fun (x3 : Int) => .ok (x3 * (48271 : Int))) fun (x4 : Int) => .ok (x4 % (2147483629 : Int))) fun (x5 : Int) => .rt x5 () : SR Unit Int Unit Empty Unit)
theorem tL_mix_ok (v0 : Int) (v1 : Int) : FSim (mL_mix [.ro (eI v0), .ro (eI v1)]) (tL_mix v0 v1) eI (fun (k : Unit) => [none, none]) (fun (k : Unit) => [none, none]) := fn_sim (X := ⟨eI, fun (k : Unit) => [none, none, none], Empty.elim, fun (k : Unit) => [none, none, none]⟩) (ts_sub (sp' := [some (.ro (eI v0)), some (.ro (eI v1)), none]) (ts_pad (ts_assoc (ts_lt (po := fun (v2_1 : Int) => [some (.ro (eI v0)), some (.ro (eI v1)), some (.own (eI v2_1))]) (dp_set (xp_l (Ty.ep_2 (cp_c (Ty.ep_2 (cp_c (Ty.ep_2 (cp_c (ep_vc rfl (.inr rfl) ((fun _ => rfl) v0)) (cp_c ep_k (cp_n (zo (r_modp (b := 1000000007) (by decide))))))) (cp_c (Ty.ep_2 (cp_c ep_k (cp_c (ep_vc rfl (.inr rfl) ((fun _ => rfl) v1)) (cp_n (zo (o_mull (by decide))))))) (cp_n (zo (r_add _ _)))))) (cp_c ep_k (cp_n (zo (r_add _ _)))))))) (fun (v2_1 : Int) => (ts_retf (g := fun (x5 : Int) => x5) (Ty.ef_2 (ck_f (Ty.ef_2 (ck_f (Ty.ef_2 (ck_f (Ty.ef_2 (ck_p (ep_vc rfl (.inl rfl) ((fun _ => rfl) v2_1)) (ck_p (ep_vc rfl (.inl rfl) ((fun _ => rfl) v2_1)) (ck_n (zof (o_mul _ _)))))) (fun (x2 : Int) => (ck_p ep_k (ck_np (f := fun c => .own (eI c)) (zo (r_modp (b := 2147483647) (by decide)))))))) (fun (x3 : Int) => (ck_p ep_k (ck_np (f := fun c => .own (eI c)) (zo (o_mulr (by decide)))))))) (fun (x4 : Int) => (ck_p ep_k (ck_np (f := fun c => .own (eI c)) (zo (r_modp (b := 2147483629) (by decide)))))))) (fun _ => rfl) (sZ (sZ (sZ sN))) (sZ (sZ (sZ sN)))))))) (sS (sS (sZ sN)))) (fun _ => trivial) (fun _ => (pZ (pZ pN))) (fun _ => (pZ (pZ pN)))
noncomputable def t_is_name_b0  (a13 : Nat) (s12 : Unit) : SR Unit Bool Unit Unit Unit := if ((!decide (a13 ∈ ("abcdefghijklmnopqrstuvwxyz" : Str).cps.toList)) && (!decide (a13 ∈ ("0123456789" : Str).cps.toList))) = true then .rt false () else .nx ()
noncomputable def t_is_name (v0 : Str) : RF Bool Unit Unit := SR.fn (fun _ => .er) (R.bindE () (R.orF (.ok false) (R.orF (R.bind (lenS v0) fun (x8 : Int) => .ok (decide (x8 < (1 : Int)))) (R.bind (lenS v0) fun (x10 : Int) => .ok (decide ((8 : Int) < x10))))) fun (x16 : Bool) => if x16 = true then .rt false () else SR.bind (σ := Unit) (forR t_is_name_b0 v0.cps.toList ()) fun (s12 : Unit) => R.bindE () (R.bind (getS v0 (0 : Int)) fun (x14 : Nat) => .ok (decide (x14 ∈ ("abcdefghijklmnopqrstuvwxyz" : Str).cps.toList))) fun (x15 : Bool) => .rt x15 () : SR Unit Bool Unit Empty Unit)
theorem t_is_name_ok (v0 : Str) : FSim (m_is_name [.ro (eS v0)]) (t_is_name v0) eB (fun (k : Unit) => [none]) (fun (k : Unit) => [none]) := fn_sim (X := ⟨eB, fun (k : Unit) => [none, none], Empty.elim, fun (k : Unit) => [none, none]⟩) (ts_sub (sp' := [some (.ro (eS v0)), none]) (ts_pad (ts_assoc (ts_dist (s_iff (tf_or (tf_p (tp_no (tp_b (xp_l (Ty.ep_N (cp_c (ep_vc rfl (.inr rfl) ((fun _ => rfl) v0)) (cp_c ep_k (cp_n (zo (fIsi_mk (t := "str") (u := "str") (b := true) rfl (by decide +kernel))))))))))) (tf_or (tf_b (Ty.ef_2 (ck_f (Ty.ef_N (ck_p (ep_vc rfl (.inr rfl) ((fun _ => rfl) v0)) (ck_n (zof (o_lenS _))))) (fun (x8 : Int) => (ck_p ep_k (ck_np (f := fun c => .own (eB c)) (zo (r_lt _ _)))))))) (tf_b (Ty.ef_2 (ck_f (Ty.ef_N (ck_p (ep_vc rfl (.inr rfl) ((fun _ => rfl) v0)) (ck_n (zof (o_lenS _))))) (fun (x10 : Int) => (ck_p ep_k (ck_np (f := fun c => .own (eB c)) (zo (r_gt _ _)))))))))) (sZ (sZ sN)) (ts_retp (xp_l ep_k) (sZ (sZ sN))) (ts_skip (ts_assoc (ts_seq (J := fun (s12 : Unit) => [some (.ro (eS v0)), none]) (s_forp (items := v0.cps.toList.map eC) (fz := []) (ip_any (ep_vc rfl (.inr rfl) ((fun _ => rfl) v0)) rfl) (fr_0 (lp0 (e := eC) (J := fun (s12 : Unit) => [some (.ro (eS v0)), none]) (sp1 := fun (a13 : Nat) (s12 : Unit) => [some (.ro (eS v0)), some (.own (eC a13))]) (sS (sZ sN)) (fun (a13 : Nat) (s12 : Unit) => (tg_c ((fun _ => rfl) _))) (fun (a13 : Nat) (s12 : Unit) => ts_pad (ts_dist (s_if (tp_an (tp_b (xp_l (Ty.ep_2 (cp_c (ep_vc rfl (.inl rfl) ((fun _ => rfl) a13)) (cp_c ep_k (cp_n (zo (o_niC _ _)))))))) (tp_b (xp_l (Ty.ep_2 (cp_c (ep_vc rfl (.inl rfl) ((fun _ => rfl) a13)) (cp_c ep_k (cp_n (zo (o_niC _ _))))))))) (ts_retp (xp_l ep_k) (sZ (sZ sN))) (ts_skip (ts_end (sS (sZ sN)))))))))) (fun (s12 : Unit) => (ts_retf (g := fun (x15 : Bool) => x15) (Ty.ef_2 (ck_f (Ty.ef_I (ck_p (ep_vc rfl (.inr rfl) ((fun _ => rfl) v0)) (ck_p ep_k (ck_n (ixs rfl))))) (fun (x14 : Nat) => (ck_p ep_k (ck_np (f := fun c => .own (eB c)) (zo (o_inC _ _))))))) (fun _ => rfl) (sZ (sZ sN)) (sZ (sZ sN))))))))))) (sS (sZ sN))) (fun _ => trivial) (fun _ => (pZ pN)) (fun _ => (pZ pN))
noncomputable def t_is_whole (v0 : Int) : RF Bool Unit Unit := SR.fn (fun _ => .er) (.rt true () : SR Unit Bool Unit Empty Unit)
theorem t_is_whole_ok (v0 : Int) : FSim (m_is_whole [.ro (eI v0)]) (t_is_whole v0) eB (fun (k : Unit) => [none]) (fun (k : Unit) => [none]) := fn_sim (X := ⟨eB, fun (k : Unit) => [none], Empty.elim, fun (k : Unit) => [none]⟩) (ts_sub (sp' := [some (.ro (eI v0))]) (ts_pad (ts_retp (xp_l (ep_andt (Ty.ep_N (cp_c (ep_vc rfl (.inr rfl) ((fun _ => rfl) v0)) (cp_c ep_k (cp_n (zo (fIsi_mk (t := "int") (u := "int") (b := true) rfl (by decide +kernel))))))) rfl (Ty.ep_1 (cp_c (Ty.ep_N (cp_c (ep_vc rfl (.inr rfl) ((fun _ => rfl) v0)) (cp_c ep_k (cp_n (zo (fIsi_mk (t := "int") (u := "bool") (b := false) rfl (by decide +kernel))))))) (cp_n (zo (r_not false))))))) (sZ sN))) (sS sN)) (fun _ => trivial) (fun _ => (pZ pN)) (fun _ => (pZ pN))
noncomputable def t_Stock_init_b0  (a14 : (Str × Int × Int)) (s13 : (((List (Str × Int)) × (List (Str × Int))))) : SR (((List (Str × Int)) × (List (Str × Int)))) Unit (((List (Str × Int)) × (List (Str × Int)))) (((List (Str × Int)) × (List (Str × Int)))) (D) := R.bindE ((eO2 c_Stock (eM kS eI) (eM kS eI)) s13) (R.notF ((t_is_name a14.1).r)) fun (x19 : Bool) => if x19 = true then .ex ⟨x_NoName, []⟩ ((eO2 c_Stock (eM kS eI) (eM kS eI)) s13) else if (dH s13.1 a14.1) = true then .ex ⟨x_Twice, []⟩ ((eO2 c_Stock (eM kS eI) (eM kS eI)) s13) else R.bindE ((eO2 c_Stock (eM kS eI) (eM kS eI)) s13) (R.orF (R.notF ((t_is_whole a14.2.1).r)) (.ok ((decide (a14.2.1 < (0 : Int))) || (decide ((10 ^ 30 : Int) < a14.2.1))))) fun (x18 : Bool) => if x18 = true then .ex ⟨x_NoNumber, []⟩ ((eO2 c_Stock (eM kS eI) (eM kS eI)) s13) else R.bindE ((eO2 c_Stock (eM kS eI) (eM kS eI)) s13) (R.orF (R.notF ((t_is_whole a14.2.2).r)) (.ok ((decide (a14.2.2 < (1 : Int))) || (decide ((1000 : Int) < a14.2.2))))) fun (x17 : Bool) => if x17 = true then .ex ⟨x_NoNumber, []⟩ ((eO2 c_Stock (eM kS eI) (eM kS eI)) s13) else R.bindE ((eO2 c_Stock (eM kS eI) (eM kS eI)) s13) (R.gd (s13.1.length < 1000000) ((dS s13.1 a14.1 a14.2.1), s13.2)) fun (v0_15 : ((List (Str × Int)) × (List (Str × Int)))) => R.bindE ((eO2 c_Stock (eM kS eI) (eM kS eI)) v0_15) (R.gd (v0_15.2.length < 1000000) (v0_15.1, (dS v0_15.2 a14.1 a14.2.2))) fun (v0_16 : ((List (Str × Int)) × (List (Str × Int)))) => .nx v0_16
noncomputable def t_Stock_init (v0 : Unit) (v1 : (List (Str × Int × Int))) : RF Unit (((List (Str × Int)) × (List (Str × Int)))) (D) := SR.fn (fun k => .ok () k) (if (decide ((60 : Int) < (v1.length : Int))) = true then .ex ⟨x_TooMany, []⟩ ((eO0 c_Stock ) v0) else SR.bind (σ := (((List (Str × Int)) × (List (Str × Int))))) (forR t_Stock_init_b0 v1 ([], [])) fun (s13 : (((List (Str × Int)) × (List (Str × Int))))) => .nx s13 : SR (((List (Str × Int)) × (List (Str × Int)))) Unit (((List (Str × Int)) × (List (Str × Int)))) Empty (D))
theorem t_Stock_init_ok (v0 : Unit) (v1 : (List (Str × Int × Int))) : FSim (m_Stock_init [.own ((eO0 c_Stock ) v0), .ro ((eL (eU3 eS eI eI)) v1)]) (t_Stock_init v0 v1) eN (fun (k : (((List (Str × Int)) × (List (Str × Int))))) => [some (.own ((eO2 c_Stock (eM kS eI) (eM kS eI)) k)), none]) (fun (k : (D)) => [some (.own (eD k)), none]) := fn_sim (X := ⟨eN, fun (k : (((List (Str × Int)) × (List (Str × Int))))) => [some (.own ((eO2 c_Stock (eM kS eI) (eM kS eI)) k)), none, none, none, none], Empty.elim, fun (k : (D)) => [some (.own (eD k)), none, none, none, none]⟩) (ts_sub (sp' := [some (.own ((eO0 c_Stock ) v0)), some (.ro ((eL (eU3 eS eI eI)) v1)), none, none, none]) (ts_pad (ts_assoc (ts_dist (s_if (tp_b (xp_l (Ty.ep_2 (cp_c (Ty.ep_N (cp_c (ep_vr rfl rfl) (cp_n (zo (o_lenL (e := (eU3 eS eI eI)) (xs := v1) rfl (by intro _ h; cases h)))))) (cp_c ep_k (cp_n (zo (r_gt _ _)))))))) (ts_raise (sS (sZ (sZ (sZ (sZ sN)))))) (ts_skip (ts_assoc (ts_dp (sp' := [some (.own ((eO1 c_Stock (eM kS eI)) ([]))), some (.ro ((eL (eU3 eS eI eI)) v1)), none, none, none]) (dp_sto (xp_l ep_nd) (pl_v rfl) rfl rfl rfl) (ts_assoc (ts_dp (sp' := [some (.own ((eO2 c_Stock (eM kS eI) (eM kS eI)) ([], []))), some (.ro ((eL (eU3 eS eI eI)) v1)), none, none, none]) (dp_sto (xp_l ep_nd) (pl_v rfl) rfl rfl rfl) (ts_seq (J := fun (s13 : (((List (Str × Int)) × (List (Str × Int))))) => [some (.own ((eO2 c_Stock (eM kS eI) (eM kS eI)) s13)), some (.ro ((eL (eU3 eS eI eI)) v1)), none, none, none]) (s_forp (items := v1.map (eU3 eS eI eI)) (fz := []) (ip_any (ep_vr rfl rfl) rfl) (fr_0 (lp0 (e := (eU3 eS eI eI)) (J := fun (s13 : (((List (Str × Int)) × (List (Str × Int))))) => [some (.own ((eO2 c_Stock (eM kS eI) (eM kS eI)) s13)), some (.ro ((eL (eU3 eS eI eI)) v1)), none, none, none]) (sp1 := fun (a14 : (Str × Int × Int)) (s13 : (((List (Str × Int)) × (List (Str × Int))))) => [some (.own ((eO2 c_Stock (eM kS eI) (eM kS eI)) s13)), some (.ro ((eL (eU3 eS eI eI)) v1)), some (.own (eS a14.1)), some (.own (eI a14.2.1)), some (.own (eI a14.2.2))]) (sS (sS (sZ (sZ (sZ sN))))) (fun (a14 : (Str × Int × Int)) (s13 : (((List (Str × Int)) × (List (Str × Int))))) => (tg_t (tgs_c (tg_c ((fun _ => rfl) _)) (tgs_c (tg_c ((fun _ => rfl) _)) (tgs_c (tg_c ((fun _ => rfl) _)) tgs_n))))) (fun (a14 : (Str × Int × Int)) (s13 : (((List (Str × Int)) × (List (Str × Int))))) => ts_pad (ts_assoc (ts_dist (s_iff (tf_no (tf_b (Ty.ef_C (ck_p (ep_vc rfl (.inl rfl) ((fun _ => rfl) a14.1)) (ck_n (gc_f (t_is_name_ok a14.1) rfl)))))) (sS (sZ (sZ (sZ (sZ sN))))) (ts_raise (sS (sZ (sZ (sZ (sZ sN)))))) (ts_skip (ts_assoc (ts_dist (s_if (tp_b (xp_l (Ty.ep_2 (cp_c (ep_vc rfl (.inl rfl) ((fun _ => rfl) a14.1)) (cp_c (Ty.ep_F (cp_c (ep_vo rfl rfl) (cp_n rfl))) (cp_n (zo (o_inD ke_s (e := eI) rfl)))))))) (ts_raise (sS (sZ (sZ (sZ (sZ sN)))))) (ts_skip (ts_assoc (ts_dist (s_iff (tf_or (tf_no (tf_b (Ty.ef_C (ck_p (ep_vc rfl (.inl rfl) ((fun _ => rfl) a14.2.1)) (ck_n (gc_f (t_is_whole_ok a14.2.1) rfl)))))) (tf_p (tp_or (tp_b (xp_l (Ty.ep_2 (cp_c (ep_vc rfl (.inl rfl) ((fun _ => rfl) a14.2.1)) (cp_c ep_k (cp_n (zo (r_lt _ _)))))))) (tp_b (xp_l (Ty.ep_2 (cp_c (ep_vc rfl (.inl rfl) ((fun _ => rfl) a14.2.1)) (cp_c (Ty.ep_2 (cp_c ep_k (cp_c ep_k (cp_n (zo (o_powp (by decide) rfl)))))) (cp_n (zo (r_gt _ _))))))))))) (sS (sZ (sZ (sZ (sZ sN))))) (ts_raise (sS (sZ (sZ (sZ (sZ sN)))))) (ts_skip (ts_assoc (ts_dist (s_iff (tf_or (tf_no (tf_b (Ty.ef_C (ck_p (ep_vc rfl (.inl rfl) ((fun _ => rfl) a14.2.2)) (ck_n (gc_f (t_is_whole_ok a14.2.2) rfl)))))) (tf_p (tp_or (tp_b (xp_l (Ty.ep_2 (cp_c (ep_vc rfl (.inl rfl) ((fun _ => rfl) a14.2.2)) (cp_c ep_k (cp_n (zo (r_lt _ _)))))))) (tp_b (xp_l (Ty.ep_2 (cp_c (ep_vc rfl (.inl rfl) ((fun _ => rfl) a14.2.2)) (cp_c ep_k (cp_n (zo (r_gt _ _))))))))))) (sS (sZ (sZ (sZ (sZ sN))))) (ts_raise (sS (sZ (sZ (sZ (sZ sN)))))) (ts_skip (ts_assoc (ts_df (po := fun (v0_15 : ((List (Str × Int)) × (List (Str × Int)))) => [some (.own ((eO2 c_Stock (eM kS eI) (eM kS eI)) v0_15)), some (.ro ((eL (eU3 eS eI eI)) v1)), some (.own (eS a14.1)), some (.own (eI a14.2.1)), some (.own (eI a14.2.2))]) (df_sub (f := (eO2 c_Stock (eM kS eI) (eM kS eI))) (xp_mvc rfl (.inl rfl) ((fun _ => rfl) a14.2.1)) (pl_f (pl_v rfl) rfl rfl rfl rfl) (ep_vc rfl (.inl rfl) ((fun _ => rfl) a14.1)) rfl rfl rfl (mu_gd (fun h => (o_dset ke_s (e := eI) rfl rfl (fun _ => rfl) h)) rfl)) (fun (v0_15 : ((List (Str × Int)) × (List (Str × Int)))) => (ts_df (po := fun (v0_16 : ((List (Str × Int)) × (List (Str × Int)))) => [some (.own ((eO2 c_Stock (eM kS eI) (eM kS eI)) v0_16)), some (.ro ((eL (eU3 eS eI eI)) v1)), some (.own (eS a14.1)), some (.own (eI a14.2.1)), some (.own (eI a14.2.2))]) (df_sub (f := (eO2 c_Stock (eM kS eI) (eM kS eI))) (xp_mvc rfl (.inl rfl) ((fun _ => rfl) a14.2.2)) (pl_f (pl_v rfl) rfl rfl rfl rfl) (ep_vc rfl (.inl rfl) ((fun _ => rfl) a14.1)) rfl rfl rfl (mu_gd (fun h => (o_dset ke_s (e := eI) rfl rfl (fun _ => rfl) h)) rfl)) (fun (v0_16 : ((List (Str × Int)) × (List (Str × Int)))) => (ts_end (sS (sS (sZ (sZ (sZ sN))))))))))))))))))))))))))))))) (fun (s13 : (((List (Str × Int)) × (List (Str × Int))))) => (ts_end (sS (sZ (sZ (sZ (sZ sN))))))))))))))))) (sS (sS (sZ (sZ (sZ sN)))))) (fun _ => ⟨rfl, rfl⟩) (fun _ => (pS (pZ pN))) (fun _ => (pS (pZ pN)))
noncomputable def tL_gone_c0 (v6_3 : Int) (s26 : ((List Str) × Int × (List Str) × Int)) : R Bool := .ok ((decide ((0 : Int) < (s26.1.length : Int))) && ((decide ((s26.2.2.1.length : Int) < v6_3)) || (decide ((0 : Int) < s26.2.1))))
noncomputable def tL_gone_w0 (v1 : (List (Str × Int))) (s26 : ((List Str) × Int × (List Str) × Int)) : SR ((List Str) × Int × (List Str) × Int) (List Str) Unit ((List Str) × Int × (List Str) × Int) Unit := RF.bindF (fun (k30 : Unit) => ()) (R.rf () (R.bind (R.bind (modR s26.2.2.2 (s26.1.length : Int)) fun (x27 : Int) => .ok x27) fun (x27 : Int) => R.ofO (popI s26.1 x27))) fun (v10_28 : Str) (k29 : (List Str)) => R.bindE () (R.gd (s26.2.2.1.length < 1000000) (s26.2.2.1 ++ [v10_28])) fun (v8_31 : (List Str)) => R.bindE () (R.bind (getD v1 v10_28) fun (x32 : Int) => .ok (s26.2.1 - x32)) fun (v7_33 : Int) => lt (s26.2.2.2 / (5 : Int)) fun (v9_34 : Int) => .nx (k29, v7_33, v8_31, v9_34)
noncomputable def tL_gone (v0 : (List Str)) (v1 : (List (Str × Int))) (v2 : Str) (v3 : Int) (v4 : Int) : RF (List Str) Unit Unit := SR.fn (fun _ => .er) (R.bindE () (Ty.lcG v0 (fun (a1 : Str) => neR eS a1 v2) (fun (a1 : Str) => .ok a1)) fun (v5_2 : (List Str)) => lt (mxI (0 : Int) (((v4 / (16 : Int)) % (5 : Int)) - (2 : Int))) fun (v6_3 : Int) => SR.bind (σ := (Int)) (if (!decide (v2 ∈ v0)) = true then R.bindE () (R.bind (getD v1 v2) fun (x7 : Int) => .ok (x7 - v3)) fun (v7_8 : Int) => .nx v7_8 else .nx (0 : Int)) fun (s6 : (Int)) => lt (v4 / (80 : Int)) fun (v9_9 : Int) => SR.bind (σ := ((List Str) × Int × (List Str) × Int)) (whR (tL_gone_c0 v6_3) (fun (s26 : ((List Str) × Int × (List Str) × Int)) => ()) (tL_gone_w0 v1) FUEL (v5_2, s6, [], v9_9)) fun (s26 : ((List Str) × Int × (List Str) × Int)) => .rt s26.2.2.1 () : SR Unit (List Str) Unit Empty Unit)
theorem tL_gone_ok (v0 : (List Str)) (v1 : (List (Str × Int))) (v2 : Str) (v3 : Int) (v4 : Int) : FSim (mL_gone [.ro ((eL eS) v0), .ro ((eM kS eI) v1), .ro (eS v2), .ro (eI v3), .ro (eI v4)]) (tL_gone v0 v1 v2 v3 v4) (eL eS) (fun (k : Unit) => [none, none, none, none, none]) (fun (k : Unit) => [none, none, none, none, none]) := fn_sim (X := ⟨(eL eS), fun (k : Unit) => [none, none, none, none, none, none, none, none, none, none, none], Empty.elim, fun (k : Unit) => [none, none, none, none, none, none, none, none, none, none, none]⟩) (ts_sub (sp' := [some (.ro ((eL eS) v0)), some (.ro ((eM kS eI) v1)), some (.ro (eS v2)), some (.ro (eI v3)), some (.ro (eI v4)), none, none, none, none, none, none]) (ts_pad (ts_assoc (ts_df (po := fun (v5_2 : (List Str)) => [some (.ro ((eL eS) v0)), some (.ro ((eM kS eI) v1)), some (.ro (eS v2)), some (.ro (eI v3)), some (.ro (eI v4)), some (.own ((eL eS) v5_2)), none, none, none, none, none]) (df_set (ef_lc (e0 := eS) (f := eS) (ip_any (ep_vr rfl rfl) rfl) rfl (fun (a1 : Str) => (tf_b (Ty.ef_2 (ck_p (ep_vc rfl (.inl rfl) ((fun _ => rfl) a1)) (ck_p (ep_vc rfl (.inr rfl) ((fun _ => rfl) v2)) (ck_n (zof (o_ne eqe_s _ _ rfl rfl)))))))) (fun (a1 : Str) => (ef_p (f := fun c => .own (eS c)) (ep_vc rfl (.inl rfl) ((fun _ => rfl) a1)))) (fun _ => rfl) (fun _ => rfl)) (sZ (sZ (sZ (sZ (sZ (sZ (sZ (sZ (sZ (sZ (sZ sN)))))))))))) (fun (v5_2 : (List Str)) => (ts_assoc (ts_lt (po := fun (v6_3 : Int) => [some (.ro ((eL eS) v0)), some (.ro ((eM kS eI) v1)), some (.ro (eS v2)), some (.ro (eI v3)), some (.ro (eI v4)), some (.own ((eL eS) v5_2)), some (.own (eI v6_3)), none, none, none, none]) (dp_set (xp_l (Ty.ep_N (cp_c ep_k (cp_c (Ty.ep_2 (cp_c (Ty.ep_2 (cp_c (Ty.ep_2 (cp_c (ep_vc rfl (.inr rfl) ((fun _ => rfl) v4)) (cp_c ep_k (cp_n (zo (r_divp (b := 16) (by decide) (by decide))))))) (cp_c ep_k (cp_n (zo (r_modp (b := 5) (by decide))))))) (cp_c ep_k (cp_n (zo (r_sub _ _)))))) (cp_n (zo (o_mx _ _)))))))) (fun (v6_3 : Int) => (ts_assoc (ts_dp (sp' := [some (.ro ((eL eS) v0)), some (.ro ((eM kS eI) v1)), some (.ro (eS v2)), some (.ro (eI v3)), some (.ro (eI v4)), some (.own ((eL eS) v5_2)), some (.own (eI v6_3)), some (.own (eI (0 : Int))), none, none, none]) (dp_set (xp_l ep_k)) (ts_assoc (ts_seq (J := fun (s6 : (Int)) => [some (.ro ((eL eS) v0)), some (.ro ((eM kS eI) v1)), some (.ro (eS v2)), some (.ro (eI v3)), some (.ro (eI v4)), some (.own ((eL eS) v5_2)), some (.own (eI v6_3)), some (.own (eI s6)), none, none, none]) (s_if (tp_b (xp_l (Ty.ep_2 (cp_c (ep_vc rfl (.inr rfl) ((fun _ => rfl) v2)) (cp_c (ep_vr rfl rfl) (cp_n (zo (o_niS _ rfl rfl)))))))) (ts_pad (ts_df (po := fun (v7_8 : Int) => [some (.ro ((eL eS) v0)), some (.ro ((eM kS eI) v1)), some (.ro (eS v2)), some (.ro (eI v3)), some (.ro (eI v4)), some (.own ((eL eS) v5_2)), some (.own (eI v6_3)), some (.own (eI v7_8)), none, none, none]) (df_set (Ty.ef_2 (ck_f (Ty.ef_I (ck_p (ep_vr rfl rfl) (ck_p (ep_vc rfl (.inr rfl) ((fun _ => rfl) v2)) (ck_n (ixd ke_s (e := eI) rfl rfl (fun x => zp_c ((fun _ => rfl) x))))))) (fun (x7 : Int) => (ck_p (ep_vc rfl (.inr rfl) ((fun _ => rfl) v3)) (ck_np (f := fun c => .own (eI c)) (zo (r_sub _ _))))))) (sZ (sZ (sZ (sZ (sZ (sZ (sZ (sZ (sZ (sZ (sZ sN)))))))))))) (fun (v7_8 : Int) => (ts_end (sS (sS (sS (sS (sS (sS (sS (sS (sZ (sZ (sZ sN))))))))))))))) (ts_pad (ts_skip (ts_end (sS (sS (sS (sS (sS (sS (sS (sS (sZ (sZ (sZ sN))))))))))))))) (fun (s6 : (Int)) => (ts_assoc (ts_dp (sp' := [some (.ro ((eL eS) v0)), some (.ro ((eM kS eI) v1)), some (.ro (eS v2)), some (.ro (eI v3)), some (.ro (eI v4)), some (.own ((eL eS) v5_2)), some (.own (eI v6_3)), some (.own (eI s6)), some (.own ((eL eS) ([]))), none, none]) (dp_set (xp_lst (γ := Unit) (c := ()) (f := fun _ => []) (rw_n ta_n) (len_ok rfl))) (ts_assoc (ts_lt (po := fun (v9_9 : Int) => [some (.ro ((eL eS) v0)), some (.ro ((eM kS eI) v1)), some (.ro (eS v2)), some (.ro (eI v3)), some (.ro (eI v4)), some (.own ((eL eS) v5_2)), some (.own (eI v6_3)), some (.own (eI s6)), some (.own ((eL eS) ([]))), some (.own (eI v9_9)), none]) (dp_set (xp_l (Ty.ep_2 (cp_c (ep_vc rfl (.inr rfl) ((fun _ => rfl) v4)) (cp_c ep_k (cp_n (zo (r_divp (b := 80) (by decide) (by decide))))))))) (fun (v9_9 : Int) => (ts_assoc (ts_seq (J := fun (s26 : ((List Str) × Int × (List Str) × Int)) => [some (.ro ((eL eS) v0)), some (.ro ((eM kS eI) v1)), some (.ro (eS v2)), some (.ro (eI v3)), some (.ro (eI v4)), some (.own ((eL eS) s26.1)), some (.own (eI v6_3)), some (.own (eI s26.2.1)), some (.own ((eL eS) s26.2.2.1)), some (.own (eI s26.2.2.2)), none]) (s_while (J := fun (s26 : ((List Str) × Int × (List Str) × Int)) => [some (.ro ((eL eS) v0)), some (.ro ((eM kS eI) v1)), some (.ro (eS v2)), some (.ro (eI v3)), some (.ro (eI v4)), some (.own ((eL eS) s26.1)), some (.own (eI v6_3)), some (.own (eI s26.2.1)), some (.own ((eL eS) s26.2.2.1)), some (.own (eI s26.2.2.2)), none]) (sS (sS (sS (sS (sS (sS (sS (sS (sS (sS (sZ sN))))))))))) (fun (s26 : ((List Str) × Int × (List Str) × Int)) => (tf_p (tp_an (tp_b (xp_l (Ty.ep_2 (cp_c (Ty.ep_N (cp_c (ep_vo rfl rfl) (cp_n (zo (o_lenL (e := eS) (xs := s26.1) rfl (by intro _ h; cases h)))))) (cp_c ep_k (cp_n (zo (r_gt _ _)))))))) (tp_or (tp_b (xp_l (Ty.ep_2 (cp_c (Ty.ep_N (cp_c (ep_vo rfl rfl) (cp_n (zo (o_lenL (e := eS) (xs := s26.2.2.1) rfl (by intro _ h; cases h)))))) (cp_c (ep_vc rfl (.inl rfl) ((fun _ => rfl) v6_3)) (cp_n (zo (r_lt _ _)))))))) (tp_b (xp_l (Ty.ep_2 (cp_c (ep_vc rfl (.inl rfl) ((fun _ => rfl) s26.2.1)) (cp_c ep_k (cp_n (zo (r_gt _ _)))))))))))) (fun (s26 : ((List Str) × Int × (List Str) × Int)) => (sZ (sZ (sZ (sZ (sZ (sZ (sZ (sZ (sZ (sZ (sZ sN)))))))))))) (fun (s26 : ((List Str) × Int × (List Str) × Int)) => ts_pad (ts_assoc (ts_dx (po := fun (v10_28 : Str) (k29 : (List Str)) => [some (.ro ((eL eS) v0)), some (.ro ((eM kS eI) v1)), some (.ro (eS v2)), some (.ro (eI v3)), some (.ro (eI v4)), some (.own ((eL eS) k29)), some (.own (eI v6_3)), some (.own (eI s26.2.1)), some (.own ((eL eS) s26.2.2.1)), some (.own (eI s26.2.2.2)), some (.own (eS v10_28))]) (dx_set (i := 10) (xf_mutpf (i := 5) (p := []) (sp1 := [some (.ro ((eL eS) v0)), some (.ro ((eM kS eI) v1)), some (.ro (eS v2)), some (.ro (eI v3)), some (.ro (eI v4)), some (.own ((eL eS) s26.1)), some (.own (eI v6_3)), some (.own (eI s26.2.1)), some (.own ((eL eS) s26.2.2.1)), some (.own (eI s26.2.2.2)), none]) (fd := fun (x27 : Int) => [eI x27]) (po := fun (k : (List Str)) => [some (.ro ((eL eS) v0)), some (.ro ((eM kS eI) v1)), some (.ro (eS v2)), some (.ro (eI v3)), some (.ro (eI v4)), some (.own ((eL eS) k)), some (.own (eI v6_3)), some (.own (eI s26.2.1)), some (.own ((eL eS) s26.2.2.1)), some (.own (eI s26.2.2.2)), none]) (px := fun _ => [some (.ro ((eL eS) v0)), some (.ro ((eM kS eI) v1)), some (.ro (eS v2)), some (.ro (eI v3)), some (.ro (eI v4)), some (.own ((eL eS) s26.1)), some (.own (eI v6_3)), some (.own (eI s26.2.1)), some (.own ((eL eS) s26.2.2.1)), some (.own (eI s26.2.2.2)), none]) (pl_v rfl) rfl rfl rfl (rw_f (Ty.ef_2 (ck_p (ep_vc rfl (.inl rfl) ((fun _ => rfl) s26.2.2.2)) (ck_p (Ty.ep_N (cp_c (ep_vo rfl rfl) (cp_n (zo (o_lenL (e := eS) (xs := s26.1) rfl (by intro _ h; cases h)))))) (ck_n (zof (o_mod _ _)))))) (fun (x27 : Int) => (rw_n (ta_r ta_n)))) rfl (fun (x27 : Int) b k h => ⟨_, _, q_popI (fun _ => rfl) h, rfl, (sS (sS (sS (sS (sS (sS (sS (sS (sS (sS (sZ sN)))))))))))⟩) (sS (sS (sS (sS (sS (sS (sS (sS (sS (sS (sZ sN))))))))))))) (fun (k30 : Unit) => (sZ (sZ (sZ (sZ (sZ (sZ (sZ (sZ (sZ (sZ (sZ sN)))))))))))) (fun (v10_28 : Str) (k29 : (List Str)) => (ts_assoc (ts_df (po := fun (v8_31 : (List Str)) => [some (.ro ((eL eS) v0)), some (.ro ((eM kS eI) v1)), some (.ro (eS v2)), some (.ro (eI v3)), some (.ro (eI v4)), some (.own ((eL eS) k29)), some (.own (eI v6_3)), some (.own (eI s26.2.1)), some (.own ((eL eS) v8_31)), some (.own (eI s26.2.2.2)), some (.own (eS v10_28))]) (df_mutp (γ := Unit) (c := ()) (fd := fun _ => [eS v10_28]) (f := (eL eS)) (pl_v rfl) rfl rfl rfl (rw_mc rfl (.inl rfl) ((fun _ => rfl) v10_28) (rw_n (ta_r ta_n))) rfl (mu_gd (fun h => (q_app (e := eS) rfl h)) rfl) (sZ (sZ (sZ (sZ (sZ (sZ (sZ (sZ (sZ (sZ (sZ sN)))))))))))) (fun (v8_31 : (List Str)) => (ts_assoc (ts_df (po := fun (v7_33 : Int) => [some (.ro ((eL eS) v0)), some (.ro ((eM kS eI) v1)), some (.ro (eS v2)), some (.ro (eI v3)), some (.ro (eI v4)), some (.own ((eL eS) k29)), some (.own (eI v6_3)), some (.own (eI v7_33)), some (.own ((eL eS) v8_31)), some (.own (eI s26.2.2.2)), some (.own (eS v10_28))]) (df_set (Ty.ef_2 (ck_p (ep_vc rfl (.inl rfl) ((fun _ => rfl) s26.2.1)) (ck_f (Ty.ef_I (ck_p (ep_vr rfl rfl) (ck_p (ep_vc rfl (.inl rfl) ((fun _ => rfl) v10_28)) (ck_n (ixd ke_s (e := eI) rfl rfl (fun x => zp_c ((fun _ => rfl) x))))))) (fun (x32 : Int) => (ck_np (f := fun c => .own (eI c)) (zo (r_sub _ _))))))) (sZ (sZ (sZ (sZ (sZ (sZ (sZ (sZ (sZ (sZ (sZ sN)))))))))))) (fun (v7_33 : Int) => (ts_lt (po := fun (v9_34 : Int) => [some (.ro ((eL eS) v0)), some (.ro ((eM kS eI) v1)), some (.ro (eS v2)), some (.ro (eI v3)), some (.ro (eI v4)), some (.own ((eL eS) k29)), some (.own (eI v6_3)), some (.own (eI v7_33)), some (.own ((eL eS) v8_31)), some (.own (eI v9_34)), some (.own (eS v10_28))]) (dp_set (xp_l (Ty.ep_2 (cp_c (ep_vc rfl (.inl rfl) ((fun _ => rfl) s26.2.2.2)) (cp_c ep_k (cp_n (zo (r_divp (b := 5) (by decide) (by decide))))))))) (fun (v9_34 : Int) => (ts_end (sS (sS (sS (sS (sS (sS (sS (sS (sS (sS (sZ sN))))))))))))))))))))))))) (fun (s26 : ((List Str) × Int × (List Str) × Int)) => (ts_retp (xp_mv rfl rfl) (sZ (sZ (sZ (sZ (sZ (sZ (sZ (sZ (sZ (sZ (sZ sN)))))))))))))))))))))))))))))))) (sS (sS (sS (sS (sS (sZ (sZ (sZ (sZ (sZ (sZ sN)))))))))))) (fun _ => trivial) (fun _ => (pZ (pZ (pZ (pZ (pZ pN)))))) (fun _ => (pZ (pZ (pZ (pZ (pZ pN))))))
noncomputable def tL_run_b0 (v2 : (List (Str × Int))) (a64 : Str) (s63 : ((List Str) × Int)) : SR ((List Str) × Int) ((List (Str × Bool × (List Str))) × (List (List Str))) Unit ((List Str) × Int) Unit := R.bindE () (R.gd (a64 ∈ s63.1) (s63.1.erase a64)) fun (v6_65 : (List Str)) => R.bindE () (R.bind (getD v2 a64) fun (x66 : Int) => .ok (s63.2 + x66)) fun (v7_67 : Int) => .nx (v6_65, v7_67)
noncomputable def tL_run_b1 (v2 : (List (Str × Int))) (a52 : (Str × Int)) (s51 : ((List (Str × Bool × (List Str))) × (List (List Str)) × (List Str) × Int)) : SR ((List (Str × Bool × (List Str))) × (List (List Str)) × (List Str) × Int) ((List (Str × Bool × (List Str))) × (List (List Str))) Unit ((List (Str × Bool × (List Str))) × (List (List Str)) × (List Str) × Int) Unit := lt (decide (a52.1 ∈ s51.2.2.1)) fun (v10_53 : Bool) => R.bindE () ((tL_gone s51.2.2.1 v2 a52.1 s51.2.2.2 a52.2).r) fun (v11_54 : (List Str)) => SR.bind (σ := ((List Str) × Int)) (forR (tL_run_b0 v2) v11_54 (s51.2.2.1, s51.2.2.2)) fun (s63 : ((List Str) × Int)) => SR.bind (σ := ((List Str) × Int)) (if (!v10_53) = true then R.bindE () (R.gd (s63.1.length < 1000000) (s63.1 ++ [a52.1])) fun (v6_72 : (List Str)) => R.bindE () (R.bind (getD v2 a52.1) fun (x73 : Int) => .ok (s63.2 - x73)) fun (v7_74 : Int) => .nx (v6_72, v7_74) else .nx (s63.1, s63.2)) fun (s71 : ((List Str) × Int)) => R.bindE () (R.gd (s51.1.length < 1000000) (s51.1 ++ [(a52.1, v10_53, v11_54)])) fun (v4_75 : (List (Str × Bool × (List Str)))) => R.bindE () (R.gd (s51.2.1.length < 1000000) (s51.2.1 ++ [s71.1])) fun (v5_76 : (List (List Str))) => .nx (v4_75, v5_76, s71.1, s71.2)
noncomputable def tL_run (v0 : (List Str)) (v1 : (List Int)) (v2 : (List (Str × Int))) (v3 : Int) : RF ((List (Str × Bool × (List Str))) × (List (List Str))) Unit Unit := SR.fn (fun _ => .er) (SR.bind (σ := ((List (Str × Bool × (List Str))) × (List (List Str)) × (List Str) × Int)) (forR (tL_run_b1 v2) (List.zip v0 v1) ([], [], [], v3)) fun (s51 : ((List (Str × Bool × (List Str))) × (List (List Str)) × (List Str) × Int)) => .rt (s51.1, s51.2.1) () : SR Unit ((List (Str × Bool × (List Str))) × (List (List Str))) Unit Empty Unit)
theorem tL_run_ok (v0 : (List Str)) (v1 : (List Int)) (v2 : (List (Str × Int))) (v3 : Int) : FSim (mL_run [.ro ((eL eS) v0), .ro ((eL eI) v1), .ro ((eM kS eI) v2), .ro (eI v3)]) (tL_run v0 v1 v2 v3) (eU2 (eL (eU3 eS eB (eL eS))) (eL (eL eS))) (fun (k : Unit) => [none, none, none, none]) (fun (k : Unit) => [none, none, none, none]) := fn_sim (X := ⟨(eU2 (eL (eU3 eS eB (eL eS))) (eL (eL eS))), fun (k : Unit) => [none, none, none, none, none, none, none, none, none, none, none, none, none], Empty.elim, fun (k : Unit) => [none, none, none, none, none, none, none, none, none, none, none, none, none]⟩) (ts_sub (sp' := [some (.ro ((eL eS) v0)), some (.ro ((eL eI) v1)), some (.ro ((eM kS eI) v2)), some (.ro (eI v3)), none, none, none, none, none, none, none, none, none]) (ts_pad (ts_assoc (ts_dp (sp' := [some (.ro ((eL eS) v0)), some (.ro ((eL eI) v1)), some (.ro ((eM kS eI) v2)), some (.ro (eI v3)), some (.own ((eL (eU3 eS eB (eL eS))) ([]))), none, none, none, none, none, none, none, none]) (dp_set (xp_lst (γ := Unit) (c := ()) (f := fun _ => []) (rw_n ta_n) (len_ok rfl))) (ts_assoc (ts_dp (sp' := [some (.ro ((eL eS) v0)), some (.ro ((eL eI) v1)), some (.ro ((eM kS eI) v2)), some (.ro (eI v3)), some (.own ((eL (eU3 eS eB (eL eS))) ([]))), some (.own ((eL (eL eS)) ([]))), none, none, none, none, none, none, none]) (dp_set (xp_lst (γ := Unit) (c := ()) (f := fun _ => []) (rw_n ta_n) (len_ok rfl))) (ts_assoc (ts_dp (sp' := [some (.ro ((eL eS) v0)), some (.ro ((eL eI) v1)), some (.ro ((eM kS eI) v2)), some (.ro (eI v3)), some (.own ((eL (eU3 eS eB (eL eS))) ([]))), some (.own ((eL (eL eS)) ([]))), some (.own ((eL eS) ([]))), none, none, none, none, none, none]) (dp_set (xp_lst (γ := Unit) (c := ()) (f := fun _ => []) (rw_n ta_n) (len_ok rfl))) (ts_assoc (ts_dp (sp' := [some (.ro ((eL eS) v0)), some (.ro ((eL eI) v1)), some (.ro ((eM kS eI) v2)), some (.ro (eI v3)), some (.own ((eL (eU3 eS eB (eL eS))) ([]))), some (.own ((eL (eL eS)) ([]))), some (.own ((eL eS) ([]))), some (.own (eI v3)), none, none, none, none, none]) (dp_set (xp_mvc rfl (.inr rfl) ((fun _ => rfl) v3))) (ts_assoc (ts_seq (J := fun (s51 : ((List (Str × Bool × (List Str))) × (List (List Str)) × (List Str) × Int)) => [some (.ro ((eL eS) v0)), some (.ro ((eL eI) v1)), some (.ro ((eM kS eI) v2)), some (.ro (eI v3)), some (.own ((eL (eU3 eS eB (eL eS))) s51.1)), some (.own ((eL (eL eS)) s51.2.1)), some (.own ((eL eS) s51.2.2.1)), some (.own (eI s51.2.2.2)), none, none, none, none, none]) (s_forp (items := (List.zip v0 v1).map (eU2 eS eI)) (fz := []) (ip_zpL (ep_vr rfl rfl) (ep_vr rfl rfl) rfl rfl) (fr_0 (lp0 (e := (eU2 eS eI)) (J := fun (s51 : ((List (Str × Bool × (List Str))) × (List (List Str)) × (List Str) × Int)) => [some (.ro ((eL eS) v0)), some (.ro ((eL eI) v1)), some (.ro ((eM kS eI) v2)), some (.ro (eI v3)), some (.own ((eL (eU3 eS eB (eL eS))) s51.1)), some (.own ((eL (eL eS)) s51.2.1)), some (.own ((eL eS) s51.2.2.1)), some (.own (eI s51.2.2.2)), none, none, none, none, none]) (sp1 := fun (a52 : (Str × Int)) (s51 : ((List (Str × Bool × (List Str))) × (List (List Str)) × (List Str) × Int)) => [some (.ro ((eL eS) v0)), some (.ro ((eL eI) v1)), some (.ro ((eM kS eI) v2)), some (.ro (eI v3)), some (.own ((eL (eU3 eS eB (eL eS))) s51.1)), some (.own ((eL (eL eS)) s51.2.1)), some (.own ((eL eS) s51.2.2.1)), some (.own (eI s51.2.2.2)), some (.own (eS a52.1)), some (.own (eI a52.2)), none, none, none]) (sS (sS (sS (sS (sS (sS (sS (sS (sZ (sZ (sZ (sZ (sZ sN))))))))))))) (fun (a52 : (Str × Int)) (s51 : ((List (Str × Bool × (List Str))) × (List (List Str)) × (List Str) × Int)) => (tg_t (tgs_c (tg_c ((fun _ => rfl) _)) (tgs_c (tg_c ((fun _ => rfl) _)) tgs_n)))) (fun (a52 : (Str × Int)) (s51 : ((List (Str × Bool × (List Str))) × (List (List Str)) × (List Str) × Int)) => ts_pad (ts_assoc (ts_lt (po := fun (v10_53 : Bool) => [some (.ro ((eL eS) v0)), some (.ro ((eL eI) v1)), some (.ro ((eM kS eI) v2)), some (.ro (eI v3)), some (.own ((eL (eU3 eS eB (eL eS))) s51.1)), some (.own ((eL (eL eS)) s51.2.1)), some (.own ((eL eS) s51.2.2.1)), some (.own (eI s51.2.2.2)), some (.own (eS a52.1)), some (.own (eI a52.2)), some (.own (eB v10_53)), none, none]) (dp_set (xp_l (Ty.ep_2 (cp_c (ep_vc rfl (.inl rfl) ((fun _ => rfl) a52.1)) (cp_c (ep_vo rfl rfl) (cp_n (zo (o_inS _ rfl rfl)))))))) (fun (v10_53 : Bool) => (ts_assoc (ts_df (po := fun (v11_54 : (List Str)) => [some (.ro ((eL eS) v0)), some (.ro ((eL eI) v1)), some (.ro ((eM kS eI) v2)), some (.ro (eI v3)), some (.own ((eL (eU3 eS eB (eL eS))) s51.1)), some (.own ((eL (eL eS)) s51.2.1)), some (.own ((eL eS) s51.2.2.1)), some (.own (eI s51.2.2.2)), some (.own (eS a52.1)), some (.own (eI a52.2)), some (.own (eB v10_53)), some (.own ((eL eS) v11_54)), none]) (df_set (Ty.ef_C (ck_p (ep_vo rfl rfl) (ck_p (ep_vr rfl rfl) (ck_p (ep_vc rfl (.inl rfl) ((fun _ => rfl) a52.1)) (ck_p (ep_vc rfl (.inl rfl) ((fun _ => rfl) s51.2.2.2)) (ck_p (ep_vc rfl (.inl rfl) ((fun _ => rfl) a52.2)) (ck_n (gc_f (tL_gone_ok s51.2.2.1 v2 a52.1 s51.2.2.2 a52.2) rfl)))))))) (sZ (sZ (sZ (sZ (sZ (sZ (sZ (sZ (sZ (sZ (sZ (sZ (sZ sN)))))))))))))) (fun (v11_54 : (List Str)) => (ts_assoc (ts_seq (J := fun (s63 : ((List Str) × Int)) => [some (.ro ((eL eS) v0)), some (.ro ((eL eI) v1)), some (.ro ((eM kS eI) v2)), some (.ro (eI v3)), some (.own ((eL (eU3 eS eB (eL eS))) s51.1)), some (.own ((eL (eL eS)) s51.2.1)), some (.own ((eL eS) s63.1)), some (.own (eI s63.2)), some (.own (eS a52.1)), some (.own (eI a52.2)), some (.own (eB v10_53)), some (.own ((eL eS) v11_54)), none]) (s_forp (items := v11_54.map eS) (fz := [11]) (ip_any (ep_vo rfl rfl) rfl) (fr1 (J := fun (s63 : ((List Str) × Int)) => [some (.ro ((eL eS) v0)), some (.ro ((eL eI) v1)), some (.ro ((eM kS eI) v2)), some (.ro (eI v3)), some (.own ((eL (eU3 eS eB (eL eS))) s51.1)), some (.own ((eL (eL eS)) s51.2.1)), some (.own ((eL eS) s63.1)), some (.own (eI s63.2)), some (.own (eS a52.1)), some (.own (eI a52.2)), some (.own (eB v10_53)), some (.ro ((eL eS) v11_54)), none]) rfl rfl (fr_0 (lp0 (e := eS) (J := fun (s63 : ((List Str) × Int)) => [some (.ro ((eL eS) v0)), some (.ro ((eL eI) v1)), some (.ro ((eM kS eI) v2)), some (.ro (eI v3)), some (.own ((eL (eU3 eS eB (eL eS))) s51.1)), some (.own ((eL (eL eS)) s51.2.1)), some (.own ((eL eS) s63.1)), some (.own (eI s63.2)), some (.own (eS a52.1)), some (.own (eI a52.2)), some (.own (eB v10_53)), some (.ro ((eL eS) v11_54)), none]) (sp1 := fun (a64 : Str) (s63 : ((List Str) × Int)) => [some (.ro ((eL eS) v0)), some (.ro ((eL eI) v1)), some (.ro ((eM kS eI) v2)), some (.ro (eI v3)), some (.own ((eL (eU3 eS eB (eL eS))) s51.1)), some (.own ((eL (eL eS)) s51.2.1)), some (.own ((eL eS) s63.1)), some (.own (eI s63.2)), some (.own (eS a52.1)), some (.own (eI a52.2)), some (.own (eB v10_53)), some (.ro ((eL eS) v11_54)), some (.own (eS a64))]) (sS (sS (sS (sS (sS (sS (sS (sS (sS (sS (sS (sS (sZ sN))))))))))))) (fun (a64 : Str) (s63 : ((List Str) × Int)) => (tg_c ((fun _ => rfl) _))) (fun (a64 : Str) (s63 : ((List Str) × Int)) => ts_pad (ts_assoc (ts_df (po := fun (v6_65 : (List Str)) => [some (.ro ((eL eS) v0)), some (.ro ((eL eI) v1)), some (.ro ((eM kS eI) v2)), some (.ro (eI v3)), some (.own ((eL (eU3 eS eB (eL eS))) s51.1)), some (.own ((eL (eL eS)) s51.2.1)), some (.own ((eL eS) v6_65)), some (.own (eI s63.2)), some (.own (eS a52.1)), some (.own (eI a52.2)), some (.own (eB v10_53)), some (.ro ((eL eS) v11_54)), some (.own (eS a64))]) (df_mutp (γ := Unit) (c := ()) (fd := fun _ => [eS a64]) (f := (eL eS)) (pl_v rfl) rfl rfl rfl (rw_mc rfl (.inl rfl) ((fun _ => rfl) a64) (rw_n (ta_r ta_n))) rfl (mu_gd (fun h => (q_rem h)) rfl) (sZ (sZ (sZ (sZ (sZ (sZ (sZ (sZ (sZ (sZ (sZ (sZ (sZ sN)))))))))))))) (fun (v6_65 : (List Str)) => (ts_df (po := fun (v7_67 : Int) => [some (.ro ((eL eS) v0)), some (.ro ((eL eI) v1)), some (.ro ((eM kS eI) v2)), some (.ro (eI v3)), some (.own ((eL (eU3 eS eB (eL eS))) s51.1)), some (.own ((eL (eL eS)) s51.2.1)), some (.own ((eL eS) v6_65)), some (.own (eI v7_67)), some (.own (eS a52.1)), some (.own (eI a52.2)), some (.own (eB v10_53)), some (.ro ((eL eS) v11_54)), some (.own (eS a64))]) (df_set (Ty.ef_2 (ck_p (ep_vc rfl (.inl rfl) ((fun _ => rfl) s63.2)) (ck_f (Ty.ef_I (ck_p (ep_vr rfl rfl) (ck_p (ep_vc rfl (.inl rfl) ((fun _ => rfl) a64)) (ck_n (ixd ke_s (e := eI) rfl rfl (fun x => zp_c ((fun _ => rfl) x))))))) (fun (x66 : Int) => (ck_np (f := fun c => .own (eI c)) (zo (r_add _ _))))))) (sZ (sZ (sZ (sZ (sZ (sZ (sZ (sZ (sZ (sZ (sZ (sZ (sZ sN)))))))))))))) (fun (v7_67 : Int) => (ts_end (sS (sS (sS (sS (sS (sS (sS (sS (sS (sS (sS (sS (sZ sN)))))))))))))))))))))) (forR_nb _ _) (fun (s63 : ((List Str) × Int)) => (tR rfl rfl (tR rfl rfl (tR rfl rfl (tR rfl rfl (tW rfl (tW rfl (tW rfl (tW rfl (tW rfl (tW rfl (tW rfl (tI rfl (tZ tN)))))))))))))) (fun _ => (tZ (tZ (tZ (tZ (tZ (tZ (tZ (tZ (tZ (tZ (tZ (tZ (tZ tN)))))))))))))) (fun _ => (tZ (tZ (tZ (tZ (tZ (tZ (tZ (tZ (tZ (tZ (tZ (tZ (tZ tN)))))))))))))))) (fun (s63 : ((List Str) × Int)) => (ts_assoc (ts_seq (J := fun (s71 : ((List Str) × Int)) => [some (.ro ((eL eS) v0)), some (.ro ((eL eI) v1)), some (.ro ((eM kS eI) v2)), some (.ro (eI v3)), some (.own ((eL (eU3 eS eB (eL eS))) s51.1)), some (.own ((eL (eL eS)) s51.2.1)), some (.own ((eL eS) s71.1)), some (.own (eI s71.2)), some (.own (eS a52.1)), some (.own (eI a52.2)), some (.own (eB v10_53)), some (.own ((eL eS) v11_54)), none]) (s_if (tp_no (tp_b (xp_mvc rfl (.inl rfl) rfl))) (ts_pad (ts_assoc (ts_df (po := fun (v6_72 : (List Str)) => [some (.ro ((eL eS) v0)), some (.ro ((eL eI) v1)), some (.ro ((eM kS eI) v2)), some (.ro (eI v3)), some (.own ((eL (eU3 eS eB (eL eS))) s51.1)), some (.own ((eL (eL eS)) s51.2.1)), some (.own ((eL eS) v6_72)), some (.own (eI s63.2)), some (.own (eS a52.1)), some (.own (eI a52.2)), some (.own (eB v10_53)), some (.own ((eL eS) v11_54)), none]) (df_mutp (γ := Unit) (c := ()) (fd := fun _ => [eS a52.1]) (f := (eL eS)) (pl_v rfl) rfl rfl rfl (rw_mc rfl (.inl rfl) ((fun _ => rfl) a52.1) (rw_n (ta_r ta_n))) rfl (mu_gd (fun h => (q_app (e := eS) rfl h)) rfl) (sZ (sZ (sZ (sZ (sZ (sZ (sZ (sZ (sZ (sZ (sZ (sZ (sZ sN)))))))))))))) (fun (v6_72 : (List Str)) => (ts_df (po := fun (v7_74 : Int) => [some (.ro ((eL eS) v0)), some (.ro ((eL eI) v1)), some (.ro ((eM kS eI) v2)), some (.ro (eI v3)), some (.own ((eL (eU3 eS eB (eL eS))) s51.1)), some (.own ((eL (eL eS)) s51.2.1)), some (.own ((eL eS) v6_72)), some (.own (eI v7_74)), some (.own (eS a52.1)), some (.own (eI a52.2)), some (.own (eB v10_53)), some (.own ((eL eS) v11_54)), none]) (df_set (Ty.ef_2 (ck_p (ep_vc rfl (.inl rfl) ((fun _ => rfl) s63.2)) (ck_f (Ty.ef_I (ck_p (ep_vr rfl rfl) (ck_p (ep_vc rfl (.inl rfl) ((fun _ => rfl) a52.1)) (ck_n (ixd ke_s (e := eI) rfl rfl (fun x => zp_c ((fun _ => rfl) x))))))) (fun (x73 : Int) => (ck_np (f := fun c => .own (eI c)) (zo (r_sub _ _))))))) (sZ (sZ (sZ (sZ (sZ (sZ (sZ (sZ (sZ (sZ (sZ (sZ (sZ sN)))))))))))))) (fun (v7_74 : Int) => (ts_end (sS (sS (sS (sS (sS (sS (sS (sS (sS (sS (sS (sS (sZ sN)))))))))))))))))))) (ts_pad (ts_skip (ts_end (sS (sS (sS (sS (sS (sS (sS (sS (sS (sS (sS (sS (sZ sN))))))))))))))))) (fun (s71 : ((List Str) × Int)) => (ts_assoc (ts_df (po := fun (v4_75 : (List (Str × Bool × (List Str)))) => [some (.ro ((eL eS) v0)), some (.ro ((eL eI) v1)), some (.ro ((eM kS eI) v2)), some (.ro (eI v3)), some (.own ((eL (eU3 eS eB (eL eS))) v4_75)), some (.own ((eL (eL eS)) s51.2.1)), some (.own ((eL eS) s71.1)), some (.own (eI s71.2)), some (.own (eS a52.1)), some (.own (eI a52.2)), some (.own (eB v10_53)), none, none]) (df_mutEp (dv := (eU3 eS eB (eL eS)) (a52.1, v10_53, v11_54)) (f := (eL (eU3 eS eB (eL eS)))) rfl rfl (xp_tup (γ := Unit) (c := ()) (f := fun _ => [eS a52.1, eB v10_53, (eL eS) v11_54]) (rw_mc rfl (.inl rfl) ((fun _ => rfl) a52.1) (rw_mc rfl (.inl rfl) ((fun _ => rfl) v10_53) (rw_mo rfl rfl (rw_n (ta_r (ta_r (ta_m rfl ta_n))))))) (len_ok rfl)) rfl rfl (mu_gd (fun h => (q_app (e := (eU3 eS eB (eL eS))) rfl h)) rfl)) (fun (v4_75 : (List (Str × Bool × (List Str)))) => (ts_df (po := fun (v5_76 : (List (List Str))) => [some (.ro ((eL eS) v0)), some (.ro ((eL eI) v1)), some (.ro ((eM kS eI) v2)), some (.ro (eI v3)), some (.own ((eL (eU3 eS eB (eL eS))) v4_75)), some (.own ((eL (eL eS)) v5_76)), some (.own ((eL eS) s71.1)), some (.own (eI s71.2)), some (.own (eS a52.1)), some (.own (eI a52.2)), some (.own (eB v10_53)), none, none]) (df_mutp (γ := Unit) (c := ()) (fd := fun _ => [(eL eS) s71.1]) (f := (eL (eL eS))) (pl_v rfl) rfl rfl rfl (rw_p (Ty.ep_N (cp_c (ep_vo rfl rfl) (cp_n (zo (o_listL (e := eS) rfl (fun _ => rfl)))))) (rw_n (ta_r ta_n))) rfl (mu_gd (fun h => (q_app (e := (eL eS)) rfl h)) rfl) (sZ (sZ (sZ (sZ (sZ (sZ (sZ (sZ (sZ (sZ (sZ (sZ (sZ sN)))))))))))))) (fun (v5_76 : (List (List Str))) => (ts_end (sS (sS (sS (sS (sS (sS (sS (sS (sZ (sZ (sZ (sZ (sZ sN))))))))))))))))))))))))))))))))))) (fun (s51 : ((List (Str × Bool × (List Str))) × (List (List Str)) × (List Str) × Int)) => (ts_retp (xp_tup (γ := Unit) (c := ()) (f := fun _ => [(eL (eU3 eS eB (eL eS))) s51.1, (eL (eL eS)) s51.2.1]) (rw_mo rfl rfl (rw_mo rfl rfl (rw_n (ta_m rfl (ta_m rfl ta_n))))) (len_ok rfl)) (sZ (sZ (sZ (sZ (sZ (sZ (sZ (sZ (sZ (sZ (sZ (sZ (sZ sN)))))))))))))))))))))))))) (sS (sS (sS (sS (sZ (sZ (sZ (sZ (sZ (sZ (sZ (sZ (sZ sN)))))))))))))) (fun _ => trivial) (fun _ => (pZ (pZ (pZ (pZ pN))))) (fun _ => (pZ (pZ (pZ (pZ pN)))))
noncomputable def tL_copy (v0 : (List (Str × Bool × (List Str)))) : RF (List (Str × Bool × (List Str))) Unit Unit := SR.fn (fun _ => .er) (R.bindE () (Ty.lcG v0 (fun (a1 : (Str × Bool × (List Str))) => .ok true) (fun (a1 : (Str × Bool × (List Str))) => .ok (a1.1, a1.2.1, a1.2.2))) fun (x2 : (List (Str × Bool × (List Str)))) => .rt x2 () : SR Unit (List (Str × Bool × (List Str))) Unit Empty Unit)
theorem tL_copy_ok (v0 : (List (Str × Bool × (List Str)))) : FSim (mL_copy [.ro ((eL (eU3 eS eB (eL eS))) v0)]) (tL_copy v0) (eL (eU3 eS eB (eL eS))) (fun (k : Unit) => [none]) (fun (k : Unit) => [none]) := fn_sim (X := ⟨(eL (eU3 eS eB (eL eS))), fun (k : Unit) => [none, none, none, none], Empty.elim, fun (k : Unit) => [none, none, none, none]⟩) (ts_sub (sp' := [some (.ro ((eL (eU3 eS eB (eL eS))) v0)), none, none, none]) (ts_pad (ts_retf (g := fun (x2 : (List (Str × Bool × (List Str)))) => x2) (ef_lcO (e0 := (eU3 eS eB (eL eS))) (f := (eU3 eS eB (eL eS))) (sp1 := fun (a1 : (Str × Bool × (List Str))) => [some (.ro ((eL (eU3 eS eB (eL eS))) v0)), some (.own (eS a1.1)), some (.own (eB a1.2.1)), some (.ro ((eL eS) a1.2.2))]) (ip_any (ep_vr rfl rfl) rfl) rfl (fun (a1 : (Str × Bool × (List Str))) => (tg_t (tgs_c (tg_c ((fun _ => rfl) _)) (tgs_c (tg_c ((fun _ => rfl) _)) (tgs_c (tg_r rfl) tgs_n))))) (fun (a1 : (Str × Bool × (List Str))) => tf_true) (fun (a1 : (Str × Bool × (List Str))) => (ef_p (f := fun c => .own ((eU3 eS eB (eL eS)) c)) (Ty.ep_D (cp_c (ep_vc rfl (.inl rfl) ((fun _ => rfl) a1.1)) (cp_c (ep_vc rfl (.inl rfl) ((fun _ => rfl) a1.2.1)) (cp_c (Ty.ep_N (cp_c (ep_vr rfl rfl) (cp_n (zo (o_listL (e := eS) rfl (fun _ => rfl)))))) (cp_n (gd_ok rfl rfl)))))))) (fun _ => rfl)) (fun _ => rfl) (sZ (sZ (sZ (sZ sN)))) (sZ (sZ (sZ (sZ sN)))))) (sS (sZ (sZ (sZ sN))))) (fun _ => trivial) (fun _ => (pZ pN)) (fun _ => (pZ pN))
noncomputable def t_need_places (v0 : Int) : RF Int Unit Unit := SR.fn (fun _ => .er) (R.bindE () (R.orF (R.notF ((t_is_whole v0).r)) (.ok ((decide (v0 < (1 : Int))) || (decide ((1000000 : Int) < v0))))) fun (x1 : Bool) => if x1 = true then .ex ⟨x_NoNumber, []⟩ () else .rt v0 () : SR Unit Int Unit Empty Unit)
theorem t_need_places_ok (v0 : Int) : FSim (m_need_places [.ro (eI v0)]) (t_need_places v0) eI (fun (k : Unit) => [none]) (fun (k : Unit) => [none]) := fn_sim (X := ⟨eI, fun (k : Unit) => [none], Empty.elim, fun (k : Unit) => [none]⟩) (ts_sub (sp' := [some (.ro (eI v0))]) (ts_pad (ts_assoc (ts_dist (s_iff (tf_or (tf_no (tf_b (Ty.ef_C (ck_p (ep_vc rfl (.inr rfl) ((fun _ => rfl) v0)) (ck_n (gc_f (t_is_whole_ok v0) rfl)))))) (tf_p (tp_or (tp_b (xp_l (Ty.ep_2 (cp_c (ep_vc rfl (.inr rfl) ((fun _ => rfl) v0)) (cp_c ep_k (cp_n (zo (r_lt _ _)))))))) (tp_b (xp_l (Ty.ep_2 (cp_c (ep_vc rfl (.inr rfl) ((fun _ => rfl) v0)) (cp_c ep_k (cp_n (zo (r_gt _ _))))))))))) (sZ sN) (ts_raise (sZ sN)) (ts_skip (ts_retp (xp_mvc rfl (.inr rfl) ((fun _ => rfl) v0)) (sZ sN))))))) (sS sN)) (fun _ => trivial) (fun _ => (pZ pN)) (fun _ => (pZ pN))
noncomputable def t_Stock_has (v0 : ((List (Str × Int)) × (List (Str × Int)))) (v1 : Str) : RF Bool Unit Unit := SR.fn (fun _ => .er) (.rt (dH v0.1 v1) () : SR Unit Bool Unit Empty Unit)
theorem t_Stock_has_ok (v0 : ((List (Str × Int)) × (List (Str × Int)))) (v1 : Str) : FSim (m_Stock_has [.ro ((eZ (eO2 c_Stock (eM kS eI) (eM kS eI))) v0), .ro (eS v1)]) (t_Stock_has v0 v1) eB (fun (k : Unit) => [none, none]) (fun (k : Unit) => [none, none]) := fn_sim (X := ⟨eB, fun (k : Unit) => [none, none], Empty.elim, fun (k : Unit) => [none, none]⟩) (ts_sub (sp' := [some (.ro ((eZ (eO2 c_Stock (eM kS eI) (eM kS eI))) v0)), some (.ro (eS v1))]) (ts_pad (ts_retp (xp_l (Ty.ep_2 (cp_c (ep_vc rfl (.inr rfl) ((fun _ => rfl) v1)) (cp_c (Ty.ep_F (cp_c (ep_vc rfl (.inr rfl) ((fun _ => rfl) v0)) (cp_n rfl))) (cp_n (zo (o_inD ke_s (e := eI) rfl))))))) (sZ (sZ sN)))) (sS (sS sN))) (fun _ => trivial) (fun _ => (pZ (pZ pN))) (fun _ => (pZ (pZ pN)))
noncomputable def t_Stock_room_of (v0 : ((List (Str × Int)) × (List (Str × Int)))) (v1 : Str) : RF Int Unit Unit := SR.fn (fun _ => .er) (if (!dH v0.2 v1) = true then .ex ⟨x_Unknown, [.int (-1 : Int), .str v1]⟩ () else R.bindE () (getD v0.2 v1) fun (x1 : Int) => .rt x1 () : SR Unit Int Unit Empty Unit)
theorem t_Stock_room_of_ok (v0 : ((List (Str × Int)) × (List (Str × Int)))) (v1 : Str) : FSim (m_Stock_room_of [.ro ((eZ (eO2 c_Stock (eM kS eI) (eM kS eI))) v0), .ro (eS v1)]) (t_Stock_room_of v0 v1) eI (fun (k : Unit) => [none, none]) (fun (k : Unit) => [none, none]) := fn_sim (X := ⟨eI, fun (k : Unit) => [none, none], Empty.elim, fun (k : Unit) => [none, none]⟩) (ts_sub (sp' := [some (.ro ((eZ (eO2 c_Stock (eM kS eI) (eM kS eI))) v0)), some (.ro (eS v1))]) (ts_pad (ts_assoc (ts_dist (s_if (tp_b (xp_l (Ty.ep_2 (cp_c (ep_vc rfl (.inr rfl) ((fun _ => rfl) v1)) (cp_c (Ty.ep_F (cp_c (ep_vc rfl (.inr rfl) ((fun _ => rfl) v0)) (cp_n rfl))) (cp_n (zo (o_niD ke_s (e := eI) rfl)))))))) (ts_raisex (vs := [.str v1, .int (-1 : Int)]) (mas_c (ep_vc rfl (.inr rfl) ((fun _ => rfl) v1)) (mas_c (Ty.ep_1 (cp_c ep_k (cp_n (zo (r_neg _))))) mas_n)) rfl (sZ (sZ sN))) (ts_skip (ts_retf (g := fun (x1 : Int) => x1) (Ty.ef_I (ck_p (Ty.ep_F (cp_c (ep_vc rfl (.inr rfl) ((fun _ => rfl) v0)) (cp_n rfl))) (ck_p (ep_vc rfl (.inr rfl) ((fun _ => rfl) v1)) (ck_n (ixdz ke_s (e := eI) rfl rfl (fun x => zq_c ((fun _ => rfl) x))))))) (fun _ => rfl) (sZ (sZ sN)) (sZ (sZ sN)))))))) (sS (sS sN))) (fun _ => trivial) (fun _ => (pZ (pZ pN))) (fun _ => (pZ (pZ pN)))
noncomputable def t_check_asks_b0 (v0 : ((List (Str × Int)) × (List (Str × Int)))) (v2 : Int) (a8 : (Int × Str)) (s7 : Unit) : SR Unit Bool Unit Unit Unit := R.bindE () (R.notF ((t_Stock_has v0 a8.2).r)) fun (x13 : Bool) => if x13 = true then .ex ⟨x_Unknown, [.int a8.1, .str a8.2]⟩ () else R.bindE () (R.bind ((t_Stock_room_of v0 a8.2).r) fun (x11 : Int) => .ok (decide (v2 < x11))) fun (x12 : Bool) => if x12 = true then .ex ⟨x_TooWide, [.int a8.1, .str a8.2]⟩ () else .nx ()
noncomputable def t_check_asks (v0 : ((List (Str × Int)) × (List (Str × Int)))) (v1 : (List Str)) (v2 : Int) : RF Bool Unit Unit := SR.fn (fun _ => .er) (R.bindE () ((t_need_places v2).r) fun (_ : Int) => if (decide ((200 : Int) < (v1.length : Int))) = true then .ex ⟨x_TooMany, []⟩ () else SR.bind (σ := Unit) (forR (t_check_asks_b0 v0 v2) (enL v1) ()) fun (s7 : Unit) => .rt true () : SR Unit Bool Unit Empty Unit)
theorem t_check_asks_ok (v0 : ((List (Str × Int)) × (List (Str × Int)))) (v1 : (List Str)) (v2 : Int) : FSim (m_check_asks [.ro ((eZ (eO2 c_Stock (eM kS eI) (eM kS eI))) v0), .ro ((eL eS) v1), .ro (eI v2)]) (t_check_asks v0 v1 v2) eB (fun (k : Unit) => [none, none, none]) (fun (k : Unit) => [none, none, none]) := fn_sim (X := ⟨eB, fun (k : Unit) => [none, none, none, none, none], Empty.elim, fun (k : Unit) => [none, none, none, none, none]⟩) (ts_sub (sp' := [some (.ro ((eZ (eO2 c_Stock (eM kS eI) (eM kS eI))) v0)), some (.ro ((eL eS) v1)), some (.ro (eI v2)), none, none]) (ts_pad (ts_assoc (ts_df (po := fun _ => [some (.ro ((eZ (eO2 c_Stock (eM kS eI) (eM kS eI))) v0)), some (.ro ((eL eS) v1)), some (.ro (eI v2)), none, none]) (df_ex (Ty.ef_C (ck_p (ep_vc rfl (.inr rfl) ((fun _ => rfl) v2)) (ck_n (gc_f (t_need_places_ok v2) rfl)))) (sZ (sZ (sZ (sZ (sZ sN)))))) (fun _ => (ts_assoc (ts_dist (s_if (tp_b (xp_l (Ty.ep_2 (cp_c (Ty.ep_N (cp_c (ep_vr rfl rfl) (cp_n (zo (o_lenL (e := eS) (xs := v1) rfl (by intro _ h; cases h)))))) (cp_c ep_k (cp_n (zo (r_gt _ _)))))))) (ts_raise (sZ (sZ (sZ (sZ (sZ sN)))))) (ts_skip (ts_assoc (ts_seq (J := fun (s7 : Unit) => [some (.ro ((eZ (eO2 c_Stock (eM kS eI) (eM kS eI))) v0)), some (.ro ((eL eS) v1)), some (.ro (eI v2)), none, none]) (s_forp (items := (enL v1).map (eU2 eI eS)) (fz := []) (ip_enL (r := .ro ((eL eS) v1)) (ep_vr rfl rfl)) (fr_0 (lp0 (e := (eU2 eI eS)) (J := fun (s7 : Unit) => [some (.ro ((eZ (eO2 c_Stock (eM kS eI) (eM kS eI))) v0)), some (.ro ((eL eS) v1)), some (.ro (eI v2)), none, none]) (sp1 := fun (a8 : (Int × Str)) (s7 : Unit) => [some (.ro ((eZ (eO2 c_Stock (eM kS eI) (eM kS eI))) v0)), some (.ro ((eL eS) v1)), some (.ro (eI v2)), some (.own (eI a8.1)), some (.own (eS a8.2))]) (sS (sS (sS (sZ (sZ sN))))) (fun (a8 : (Int × Str)) (s7 : Unit) => (tg_t (tgs_c (tg_c ((fun _ => rfl) _)) (tgs_c (tg_c ((fun _ => rfl) _)) tgs_n)))) (fun (a8 : (Int × Str)) (s7 : Unit) => ts_pad (ts_assoc (ts_dist (s_iff (tf_no (tf_b (ef_M (ep_vc rfl (.inr rfl) ((fun _ => rfl) v0)) rfl (ck_p (ep_vc rfl (.inl rfl) ((fun _ => rfl) a8.2)) (ck_n (gm_f (t_Stock_has_ok v0 a8.2) rfl)))))) (sZ (sZ (sZ (sZ (sZ sN))))) (ts_raisex (vs := [.str a8.2, .int a8.1]) (mas_c (ep_vc rfl (.inl rfl) ((fun _ => rfl) a8.2)) (mas_c (ep_vc rfl (.inl rfl) ((fun _ => rfl) a8.1)) mas_n)) rfl (sZ (sZ (sZ (sZ (sZ sN)))))) (ts_skip (ts_dist (s_iff (tf_b (Ty.ef_2 (ck_f (ef_M (ep_vc rfl (.inr rfl) ((fun _ => rfl) v0)) rfl (ck_p (ep_vc rfl (.inl rfl) ((fun _ => rfl) a8.2)) (ck_n (gm_f (t_Stock_room_of_ok v0 a8.2) rfl)))) (fun (x11 : Int) => (ck_p (ep_vc rfl (.inr rfl) ((fun _ => rfl) v2)) (ck_np (f := fun c => .own (eB c)) (zo (r_gt _ _)))))))) (sZ (sZ (sZ (sZ (sZ sN))))) (ts_raisex (vs := [.str a8.2, .int a8.1]) (mas_c (ep_vc rfl (.inl rfl) ((fun _ => rfl) a8.2)) (mas_c (ep_vc rfl (.inl rfl) ((fun _ => rfl) a8.1)) mas_n)) rfl (sZ (sZ (sZ (sZ (sZ sN)))))) (ts_skip (ts_end (sS (sS (sS (sZ (sZ sN))))))))))))))))) (fun (s7 : Unit) => (ts_retp (xp_l ep_k) (sZ (sZ (sZ (sZ (sZ sN))))))))))))))))) (sS (sS (sS (sZ (sZ sN)))))) (fun _ => trivial) (fun _ => (pZ (pZ (pZ pN)))) (fun _ => (pZ (pZ (pZ pN))))
noncomputable def t_Shelf_init (v0 : Unit) (v1 : ((List (Str × Int)) × (List (Str × Int)))) (v2 : Int) : RF Unit ((((List (Str × Int)) × (List (Str × Int))) × Int × (List Str) × Int)) (D) := SR.fn (fun k => .ok () k) (R.bindE ((eO1 c_Shelf (eZ (eO2 c_Stock (eM kS eI) (eM kS eI)))) v1) ((t_need_places v2).r) fun (x1 : Int) => .nx (v1, x1, [], (0 : Int)) : SR ((((List (Str × Int)) × (List (Str × Int))) × Int × (List Str) × Int)) Unit ((((List (Str × Int)) × (List (Str × Int))) × Int × (List Str) × Int)) Empty (D))
theorem t_Shelf_init_ok (v0 : Unit) (v1 : ((List (Str × Int)) × (List (Str × Int)))) (v2 : Int) : FSim (m_Shelf_init [.own ((eO0 c_Shelf ) v0), .ro ((eZ (eO2 c_Stock (eM kS eI) (eM kS eI))) v1), .ro (eI v2)]) (t_Shelf_init v0 v1 v2) eN (fun (k : ((((List (Str × Int)) × (List (Str × Int))) × Int × (List Str) × Int))) => [some (.own ((eO4 c_Shelf (eZ (eO2 c_Stock (eM kS eI) (eM kS eI))) eI (eL eS) eI) k)), none, none]) (fun (k : (D)) => [some (.own (eD k)), none, none]) := fn_sim (X := ⟨eN, fun (k : ((((List (Str × Int)) × (List (Str × Int))) × Int × (List Str) × Int))) => [some (.own ((eO4 c_Shelf (eZ (eO2 c_Stock (eM kS eI) (eM kS eI))) eI (eL eS) eI) k)), none, none], Empty.elim, fun (k : (D)) => [some (.own (eD k)), none, none]⟩) (ts_sub (sp' := [some (.own ((eO0 c_Shelf ) v0)), some (.ro ((eZ (eO2 c_Stock (eM kS eI) (eM kS eI))) v1)), some (.ro (eI v2))]) (ts_pad (ts_assoc (ts_dp (sp' := [some (.own ((eO1 c_Shelf (eZ (eO2 c_Stock (eM kS eI) (eM kS eI)))) v1)), some (.ro ((eZ (eO2 c_Stock (eM kS eI) (eM kS eI))) v1)), some (.ro (eI v2))]) (dp_sto (xp_mvc rfl (.inr rfl) ((fun _ => rfl) v1)) (pl_v rfl) rfl rfl rfl) (ts_assoc (ts_df (po := fun (x1 : Int) => [some (.own ((eO2 c_Shelf (eZ (eO2 c_Stock (eM kS eI) (eM kS eI))) eI) (v1, x1))), some (.ro ((eZ (eO2 c_Stock (eM kS eI) (eM kS eI))) v1)), some (.ro (eI v2))]) (df_sto (Ty.ef_C (ck_p (ep_vc rfl (.inr rfl) ((fun _ => rfl) v2)) (ck_n (gc_f (t_need_places_ok v2) rfl)))) (sS (sZ (sZ sN))) (pl_v rfl) rfl rfl (fun _ => rfl)) (fun (x1 : Int) => (ts_assoc (ts_dp (sp' := [some (.own ((eO3 c_Shelf (eZ (eO2 c_Stock (eM kS eI) (eM kS eI))) eI (eL eS)) (v1, x1, []))), some (.ro ((eZ (eO2 c_Stock (eM kS eI) (eM kS eI))) v1)), some (.ro (eI v2))]) (dp_sto (xp_lst (γ := Unit) (c := ()) (f := fun _ => []) (rw_n ta_n) (len_ok rfl)) (pl_v rfl) rfl rfl rfl) (ts_dp (sp' := [some (.own ((eO4 c_Shelf (eZ (eO2 c_Stock (eM kS eI) (eM kS eI))) eI (eL eS) eI) (v1, x1, [], (0 : Int)))), some (.ro ((eZ (eO2 c_Stock (eM kS eI) (eM kS eI))) v1)), some (.ro (eI v2))]) (dp_sto (xp_l ep_k) (pl_v rfl) rfl rfl rfl) (ts_end (sS (sZ (sZ sN))))))))))))) (sS (sS (sS sN)))) (fun _ => ⟨rfl, rfl⟩) (fun _ => (pS (pZ (pZ pN)))) (fun _ => (pS (pZ (pZ pN))))
noncomputable def t_Shelf_holds (v0 : (((List (Str × Int)) × (List (Str × Int))) × Int × (List Str) × Int)) (v1 : Str) : RF Bool Unit Unit := SR.fn (fun _ => .er) (.rt (decide (v1 ∈ v0.2.2.1)) () : SR Unit Bool Unit Empty Unit)
theorem t_Shelf_holds_ok (v0 : (((List (Str × Int)) × (List (Str × Int))) × Int × (List Str) × Int)) (v1 : Str) : FSim (m_Shelf_holds [.ro ((eO4 c_Shelf (eZ (eO2 c_Stock (eM kS eI) (eM kS eI))) eI (eL eS) eI) v0), .ro (eS v1)]) (t_Shelf_holds v0 v1) eB (fun (k : Unit) => [none, none]) (fun (k : Unit) => [none, none]) := fn_sim (X := ⟨eB, fun (k : Unit) => [none, none], Empty.elim, fun (k : Unit) => [none, none]⟩) (ts_sub (sp' := [some (.ro ((eO4 c_Shelf (eZ (eO2 c_Stock (eM kS eI) (eM kS eI))) eI (eL eS) eI) v0)), some (.ro (eS v1))]) (ts_pad (ts_retp (xp_l (Ty.ep_2 (cp_c (ep_vc rfl (.inr rfl) ((fun _ => rfl) v1)) (cp_c (Ty.ep_F (cp_c (ep_vr rfl rfl) (cp_n rfl))) (cp_n (zo (o_inS _ rfl rfl))))))) (sZ (sZ sN)))) (sS (sS sN))) (fun _ => trivial) (fun _ => (pZ (pZ pN))) (fun _ => (pZ (pZ pN)))
noncomputable def t_Shelf_cast (v0 : (((List (Str × Int)) × (List (Str × Int))) × Int × (List Str) × Int)) (v1 : Str) : RF Unit ((((List (Str × Int)) × (List (Str × Int))) × Int × (List Str) × Int)) ((((List (Str × Int)) × (List (Str × Int))) × Int × (List Str) × Int)) := SR.fn (fun k => .ok () k) (if (!decide (v1 ∈ v0.2.2.1)) = true then .ex ⟨x_NotThere, []⟩ v0 else R.bindE v0 (R.gd (v1 ∈ v0.2.2.1) (v0.1, v0.2.1, (v0.2.2.1.erase v1), v0.2.2.2)) fun (v0_1 : (((List (Str × Int)) × (List (Str × Int))) × Int × (List Str) × Int)) => R.bindE v0_1 (R.bind ((t_Stock_room_of v0_1.1 v1).r) fun (x2 : Int) => .ok (v0_1.2.2.2 - x2)) fun (x3 : Int) => .nx (v0_1.1, v0_1.2.1, v0_1.2.2.1, x3) : SR ((((List (Str × Int)) × (List (Str × Int))) × Int × (List Str) × Int)) Unit ((((List (Str × Int)) × (List (Str × Int))) × Int × (List Str) × Int)) Empty ((((List (Str × Int)) × (List (Str × Int))) × Int × (List Str) × Int)))
theorem t_Shelf_cast_ok (v0 : (((List (Str × Int)) × (List (Str × Int))) × Int × (List Str) × Int)) (v1 : Str) : FSim (m_Shelf_cast [.own ((eO4 c_Shelf (eZ (eO2 c_Stock (eM kS eI) (eM kS eI))) eI (eL eS) eI) v0), .ro (eS v1)]) (t_Shelf_cast v0 v1) eN (fun (k : ((((List (Str × Int)) × (List (Str × Int))) × Int × (List Str) × Int))) => [some (.own ((eO4 c_Shelf (eZ (eO2 c_Stock (eM kS eI) (eM kS eI))) eI (eL eS) eI) k)), none]) (fun (k : ((((List (Str × Int)) × (List (Str × Int))) × Int × (List Str) × Int))) => [some (.own ((eO4 c_Shelf (eZ (eO2 c_Stock (eM kS eI) (eM kS eI))) eI (eL eS) eI) k)), none]) := fn_sim (X := ⟨eN, fun (k : ((((List (Str × Int)) × (List (Str × Int))) × Int × (List Str) × Int))) => [some (.own ((eO4 c_Shelf (eZ (eO2 c_Stock (eM kS eI) (eM kS eI))) eI (eL eS) eI) k)), none], Empty.elim, fun (k : ((((List (Str × Int)) × (List (Str × Int))) × Int × (List Str) × Int))) => [some (.own ((eO4 c_Shelf (eZ (eO2 c_Stock (eM kS eI) (eM kS eI))) eI (eL eS) eI) k)), none]⟩) (ts_sub (sp' := [some (.own ((eO4 c_Shelf (eZ (eO2 c_Stock (eM kS eI) (eM kS eI))) eI (eL eS) eI) v0)), some (.ro (eS v1))]) (ts_pad (ts_assoc (ts_dist (s_if (tp_b (xp_l (Ty.ep_2 (cp_c (ep_vc rfl (.inr rfl) ((fun _ => rfl) v1)) (cp_c (Ty.ep_F (cp_c (ep_vo rfl rfl) (cp_n rfl))) (cp_n (zo (o_niS _ rfl rfl)))))))) (ts_raise (sS (sZ sN))) (ts_skip (ts_assoc (ts_df (po := fun (v0_1 : (((List (Str × Int)) × (List (Str × Int))) × Int × (List Str) × Int)) => [some (.own ((eO4 c_Shelf (eZ (eO2 c_Stock (eM kS eI) (eM kS eI))) eI (eL eS) eI) v0_1)), some (.ro (eS v1))]) (df_mutp (γ := Unit) (c := ()) (fd := fun _ => [eS v1]) (f := (eO4 c_Shelf (eZ (eO2 c_Stock (eM kS eI) (eM kS eI))) eI (eL eS) eI)) (pl_f (pl_v rfl) rfl rfl rfl rfl) rfl rfl rfl (rw_mc rfl (.inr rfl) ((fun _ => rfl) v1) (rw_n (ta_r ta_n))) rfl (mu_gd (fun h => (q_rem h)) rfl) (sS (sZ sN))) (fun (v0_1 : (((List (Str × Int)) × (List (Str × Int))) × Int × (List Str) × Int)) => (ts_df (po := fun (x3 : Int) => [some (.own ((eO4 c_Shelf (eZ (eO2 c_Stock (eM kS eI) (eM kS eI))) eI (eL eS) eI) (v0_1.1, v0_1.2.1, v0_1.2.2.1, x3))), some (.ro (eS v1))]) (df_sto (Ty.ef_2 (ck_p (Ty.ep_F (cp_c (ep_vo rfl rfl) (cp_n rfl))) (ck_f (ef_M (Ty.ep_F (cp_c (ep_vo rfl rfl) (cp_n rfl))) rfl (ck_p (ep_vc rfl (.inr rfl) ((fun _ => rfl) v1)) (ck_n (gm_f (t_Stock_room_of_ok v0_1.1 v1) rfl)))) (fun (x2 : Int) => (ck_np (f := fun c => .own (eI c)) (zo (r_sub _ _))))))) (sS (sZ sN)) (pl_v rfl) rfl rfl (fun _ => rfl)) (fun (x3 : Int) => (ts_end (sS (sZ sN))))))))))))) (sS (sS sN))) (fun _ => ⟨rfl, rfl⟩) (fun _ => (pS (pZ pN))) (fun _ => (pS (pZ pN)))
noncomputable def t_cast_all_b0 (v1 : Str) (v3 : Int) (a10 : Str) (s9 : ((((List (Str × Int)) × (List (Str × Int))) × Int × (List Str) × Int))) : SR ((((List (Str × Int)) × (List (Str × Int))) × Int × (List Str) × Int)) Unit ((((List (Str × Int)) × (List (Str × Int))) × Int × (List Str) × Int)) ((((List (Str × Int)) × (List (Str × Int))) × Int × (List Str) × Int)) ((((List (Str × Int)) × (List (Str × Int))) × Int × (List Str) × Int)) := R.bindE s9 (R.orF (eqR eS a10 v1) (R.notF ((t_Shelf_holds s9 a10).r))) fun (x13 : Bool) => if x13 = true then .ex ⟨x_BadBook, [.int v3]⟩ s9 else RF.bindF (fun (k12 : ((((List (Str × Int)) × (List (Str × Int))) × Int × (List Str) × Int))) => k12) (t_Shelf_cast s9 a10) fun (_ : Unit) (k11 : ((((List (Str × Int)) × (List (Str × Int))) × Int × (List Str) × Int))) => .nx k11
noncomputable def t_cast_all (v0 : (((List (Str × Int)) × (List (Str × Int))) × Int × (List Str) × Int)) (v1 : Str) (v2 : (List Str)) (v3 : Int) : RF Unit ((((List (Str × Int)) × (List (Str × Int))) × Int × (List Str) × Int)) ((((List (Str × Int)) × (List (Str × Int))) × Int × (List Str) × Int)) := SR.fn (fun k => .ok () k) (SR.bind (σ := ((((List (Str × Int)) × (List (Str × Int))) × Int × (List Str) × Int))) (forR (t_cast_all_b0 v1 v3) v2 v0) fun (s9 : ((((List (Str × Int)) × (List (Str × Int))) × Int × (List Str) × Int))) => .nx s9 : SR ((((List (Str × Int)) × (List (Str × Int))) × Int × (List Str) × Int)) Unit ((((List (Str × Int)) × (List (Str × Int))) × Int × (List Str) × Int)) Empty ((((List (Str × Int)) × (List (Str × Int))) × Int × (List Str) × Int)))
theorem t_cast_all_ok (v0 : (((List (Str × Int)) × (List (Str × Int))) × Int × (List Str) × Int)) (v1 : Str) (v2 : (List Str)) (v3 : Int) : FSim (m_cast_all [.own ((eO4 c_Shelf (eZ (eO2 c_Stock (eM kS eI) (eM kS eI))) eI (eL eS) eI) v0), .ro (eS v1), .ro ((eL eS) v2), .ro (eI v3)]) (t_cast_all v0 v1 v2 v3) eN (fun (k : ((((List (Str × Int)) × (List (Str × Int))) × Int × (List Str) × Int))) => [some (.own ((eO4 c_Shelf (eZ (eO2 c_Stock (eM kS eI) (eM kS eI))) eI (eL eS) eI) k)), none, none, none]) (fun (k : ((((List (Str × Int)) × (List (Str × Int))) × Int × (List Str) × Int))) => [some (.own ((eO4 c_Shelf (eZ (eO2 c_Stock (eM kS eI) (eM kS eI))) eI (eL eS) eI) k)), none, none, none]) := fn_sim (X := ⟨eN, fun (k : ((((List (Str × Int)) × (List (Str × Int))) × Int × (List Str) × Int))) => [some (.own ((eO4 c_Shelf (eZ (eO2 c_Stock (eM kS eI) (eM kS eI))) eI (eL eS) eI) k)), none, none, none, none], Empty.elim, fun (k : ((((List (Str × Int)) × (List (Str × Int))) × Int × (List Str) × Int))) => [some (.own ((eO4 c_Shelf (eZ (eO2 c_Stock (eM kS eI) (eM kS eI))) eI (eL eS) eI) k)), none, none, none, none]⟩) (ts_sub (sp' := [some (.own ((eO4 c_Shelf (eZ (eO2 c_Stock (eM kS eI) (eM kS eI))) eI (eL eS) eI) v0)), some (.ro (eS v1)), some (.ro ((eL eS) v2)), some (.ro (eI v3)), none]) (ts_pad (ts_seq (J := fun (s9 : ((((List (Str × Int)) × (List (Str × Int))) × Int × (List Str) × Int))) => [some (.own ((eO4 c_Shelf (eZ (eO2 c_Stock (eM kS eI) (eM kS eI))) eI (eL eS) eI) s9)), some (.ro (eS v1)), some (.ro ((eL eS) v2)), some (.ro (eI v3)), none]) (s_forp (items := v2.map eS) (fz := []) (ip_any (ep_vr rfl rfl) rfl) (fr_0 (lp0 (e := eS) (J := fun (s9 : ((((List (Str × Int)) × (List (Str × Int))) × Int × (List Str) × Int))) => [some (.own ((eO4 c_Shelf (eZ (eO2 c_Stock (eM kS eI) (eM kS eI))) eI (eL eS) eI) s9)), some (.ro (eS v1)), some (.ro ((eL eS) v2)), some (.ro (eI v3)), none]) (sp1 := fun (a10 : Str) (s9 : ((((List (Str × Int)) × (List (Str × Int))) × Int × (List Str) × Int))) => [some (.own ((eO4 c_Shelf (eZ (eO2 c_Stock (eM kS eI) (eM kS eI))) eI (eL eS) eI) s9)), some (.ro (eS v1)), some (.ro ((eL eS) v2)), some (.ro (eI v3)), some (.own (eS a10))]) (sS (sS (sS (sS (sZ sN))))) (fun (a10 : Str) (s9 : ((((List (Str × Int)) × (List (Str × Int))) × Int × (List Str) × Int))) => (tg_c ((fun _ => rfl) _))) (fun (a10 : Str) (s9 : ((((List (Str × Int)) × (List (Str × Int))) × Int × (List Str) × Int))) => ts_pad (ts_assoc (ts_dist (s_iff (tf_or (tf_b (Ty.ef_2 (ck_p (ep_vc rfl (.inl rfl) ((fun _ => rfl) a10)) (ck_p (ep_vc rfl (.inr rfl) ((fun _ => rfl) v1)) (ck_n (zof (o_eq eqe_s _ _ rfl rfl))))))) (tf_no (tf_b (ef_M (ep_vo rfl rfl) rfl (ck_p (ep_vc rfl (.inl rfl) ((fun _ => rfl) a10)) (ck_n (gm_f (t_Shelf_holds_ok s9 a10) rfl))))))) (sS (sZ (sZ (sZ (sZ sN))))) (ts_raisex (vs := [.int v3]) (mas_c (ep_vc rfl (.inr rfl) ((fun _ => rfl) v3)) mas_n) rfl (sS (sZ (sZ (sZ (sZ sN)))))) (ts_skip (ts_dx (po := fun _ (k11 : ((((List (Str × Int)) × (List (Str × Int))) × Int × (List Str) × Int))) => [some (.own ((eO4 c_Shelf (eZ (eO2 c_Stock (eM kS eI) (eM kS eI))) eI (eL eS) eI) k11)), some (.ro (eS v1)), some (.ro ((eL eS) v2)), some (.ro (eI v3)), some (.own (eS a10))]) (dx_ex (xf_meth (po := fun (k : ((((List (Str × Int)) × (List (Str × Int))) × Int × (List Str) × Int))) => [some (.own ((eO4 c_Shelf (eZ (eO2 c_Stock (eM kS eI) (eM kS eI))) eI (eL eS) eI) k)), some (.ro (eS v1)), some (.ro ((eL eS) v2)), some (.ro (eI v3)), some (.own (eS a10))]) (px := fun (k : ((((List (Str × Int)) × (List (Str × Int))) × Int × (List Str) × Int))) => [some (.own ((eO4 c_Shelf (eZ (eO2 c_Stock (eM kS eI) (eM kS eI))) eI (eL eS) eI) k)), some (.ro (eS v1)), some (.ro ((eL eS) v2)), some (.ro (eI v3)), some (.own (eS a10))]) (hv_p (pl_v rfl) rfl rfl) (ca_p (pl_v rfl) (ca_r (ep_vc rfl (.inl rfl) ((fun _ => rfl) a10)) (ca_n (xc_1 (cs_p rfl rfl (cs_r okb_o cs_n)) (t_Shelf_cast_ok s9 a10) (fun _ => (bk_p rfl (bk_r bk_n))) (fun _ => (bk_p rfl (bk_r bk_n))))))))) (fun (k12 : ((((List (Str × Int)) × (List (Str × Int))) × Int × (List Str) × Int))) => (sS (sZ (sZ (sZ (sZ sN)))))) (fun _ (k11 : ((((List (Str × Int)) × (List (Str × Int))) × Int × (List Str) × Int))) => (ts_end (sS (sS (sS (sS (sZ sN)))))))))))))))) (fun (s9 : ((((List (Str × Int)) × (List (Str × Int))) × Int × (List Str) × Int))) => (ts_end (sS (sZ (sZ (sZ (sZ sN))))))))) (sS (sS (sS (sS (sZ sN)))))) (fun _ => ⟨rfl, rfl⟩) (fun _ => (pS (pZ (pZ (pZ pN))))) (fun _ => (pS (pZ (pZ (pZ pN)))))
noncomputable def t_Shelf_room_left (v0 : (((List (Str × Int)) × (List (Str × Int))) × Int × (List Str) × Int)) : RF Int Unit Unit := SR.fn (fun _ => .er) (.rt (v0.2.1 - v0.2.2.2) () : SR Unit Int Unit Empty Unit)
theorem t_Shelf_room_left_ok (v0 : (((List (Str × Int)) × (List (Str × Int))) × Int × (List Str) × Int)) : FSim (m_Shelf_room_left [.ro ((eO4 c_Shelf (eZ (eO2 c_Stock (eM kS eI) (eM kS eI))) eI (eL eS) eI) v0)]) (t_Shelf_room_left v0) eI (fun (k : Unit) => [none]) (fun (k : Unit) => [none]) := fn_sim (X := ⟨eI, fun (k : Unit) => [none], Empty.elim, fun (k : Unit) => [none]⟩) (ts_sub (sp' := [some (.ro ((eO4 c_Shelf (eZ (eO2 c_Stock (eM kS eI) (eM kS eI))) eI (eL eS) eI) v0))]) (ts_pad (ts_retp (xp_l (Ty.ep_2 (cp_c (Ty.ep_F (cp_c (ep_vr rfl rfl) (cp_n rfl))) (cp_c (Ty.ep_F (cp_c (ep_vr rfl rfl) (cp_n rfl))) (cp_n (zo (r_sub _ _))))))) (sZ sN))) (sS sN)) (fun _ => trivial) (fun _ => (pZ pN)) (fun _ => (pZ pN))
noncomputable def t_Shelf_put (v0 : (((List (Str × Int)) × (List (Str × Int))) × Int × (List Str) × Int)) (v1 : Str) : RF Unit ((((List (Str × Int)) × (List (Str × Int))) × Int × (List Str) × Int)) ((((List (Str × Int)) × (List (Str × Int))) × Int × (List Str) × Int)) := SR.fn (fun k => .ok () k) (R.bindE v0 ((t_Stock_room_of v0.1 v1).r) fun (v2_1 : Int) => if (decide (v1 ∈ v0.2.2.1)) = true then .ex ⟨x_There, []⟩ v0 else R.bindE v0 (R.bind ((t_Shelf_room_left v0).r) fun (x4 : Int) => .ok (decide (x4 < v2_1))) fun (x7 : Bool) => if x7 = true then .ex ⟨x_Full, []⟩ v0 else R.bindE v0 (R.gd (v0.2.2.1.length < 1000000) (v0.1, v0.2.1, (v0.2.2.1 ++ [v1]), v0.2.2.2)) fun (v0_5 : (((List (Str × Int)) × (List (Str × Int))) × Int × (List Str) × Int)) => lt (v0_5.2.2.2 + v2_1) fun (x6 : Int) => .nx (v0_5.1, v0_5.2.1, v0_5.2.2.1, x6) : SR ((((List (Str × Int)) × (List (Str × Int))) × Int × (List Str) × Int)) Unit ((((List (Str × Int)) × (List (Str × Int))) × Int × (List Str) × Int)) Empty ((((List (Str × Int)) × (List (Str × Int))) × Int × (List Str) × Int)))
theorem t_Shelf_put_ok (v0 : (((List (Str × Int)) × (List (Str × Int))) × Int × (List Str) × Int)) (v1 : Str) : FSim (m_Shelf_put [.own ((eO4 c_Shelf (eZ (eO2 c_Stock (eM kS eI) (eM kS eI))) eI (eL eS) eI) v0), .ro (eS v1)]) (t_Shelf_put v0 v1) eN (fun (k : ((((List (Str × Int)) × (List (Str × Int))) × Int × (List Str) × Int))) => [some (.own ((eO4 c_Shelf (eZ (eO2 c_Stock (eM kS eI) (eM kS eI))) eI (eL eS) eI) k)), none]) (fun (k : ((((List (Str × Int)) × (List (Str × Int))) × Int × (List Str) × Int))) => [some (.own ((eO4 c_Shelf (eZ (eO2 c_Stock (eM kS eI) (eM kS eI))) eI (eL eS) eI) k)), none]) := fn_sim (X := ⟨eN, fun (k : ((((List (Str × Int)) × (List (Str × Int))) × Int × (List Str) × Int))) => [some (.own ((eO4 c_Shelf (eZ (eO2 c_Stock (eM kS eI) (eM kS eI))) eI (eL eS) eI) k)), none, none], Empty.elim, fun (k : ((((List (Str × Int)) × (List (Str × Int))) × Int × (List Str) × Int))) => [some (.own ((eO4 c_Shelf (eZ (eO2 c_Stock (eM kS eI) (eM kS eI))) eI (eL eS) eI) k)), none, none]⟩) (ts_sub (sp' := [some (.own ((eO4 c_Shelf (eZ (eO2 c_Stock (eM kS eI) (eM kS eI))) eI (eL eS) eI) v0)), some (.ro (eS v1)), none]) (ts_pad (ts_assoc (ts_df (po := fun (v2_1 : Int) => [some (.own ((eO4 c_Shelf (eZ (eO2 c_Stock (eM kS eI) (eM kS eI))) eI (eL eS) eI) v0)), some (.ro (eS v1)), some (.own (eI v2_1))]) (df_set (ef_M (Ty.ep_F (cp_c (ep_vo rfl rfl) (cp_n rfl))) rfl (ck_p (ep_vc rfl (.inr rfl) ((fun _ => rfl) v1)) (ck_n (gm_f (t_Stock_room_of_ok v0.1 v1) rfl)))) (sS (sZ (sZ sN)))) (fun (v2_1 : Int) => (ts_assoc (ts_dist (s_if (tp_b (xp_l (Ty.ep_2 (cp_c (ep_vc rfl (.inr rfl) ((fun _ => rfl) v1)) (cp_c (Ty.ep_F (cp_c (ep_vo rfl rfl) (cp_n rfl))) (cp_n (zo (o_inS _ rfl rfl)))))))) (ts_raise (sS (sZ (sZ sN)))) (ts_skip (ts_assoc (ts_dist (s_iff (tf_b (Ty.ef_2 (ck_p (ep_vc rfl (.inl rfl) ((fun _ => rfl) v2_1)) (ck_f (ef_M (ep_vo rfl rfl) rfl (ck_n (gm_f (t_Shelf_room_left_ok v0) rfl))) (fun (x4 : Int) => (ck_np (f := fun c => .own (eB c)) (zo (r_gt _ _)))))))) (sS (sZ (sZ sN))) (ts_raise (sS (sZ (sZ sN)))) (ts_skip (ts_assoc (ts_df (po := fun (v0_5 : (((List (Str × Int)) × (List (Str × Int))) × Int × (List Str) × Int)) => [some (.own ((eO4 c_Shelf (eZ (eO2 c_Stock (eM kS eI) (eM kS eI))) eI (eL eS) eI) v0_5)), some (.ro (eS v1)), some (.own (eI v2_1))]) (df_mutp (γ := Unit) (c := ()) (fd := fun _ => [eS v1]) (f := (eO4 c_Shelf (eZ (eO2 c_Stock (eM kS eI) (eM kS eI))) eI (eL eS) eI)) (pl_f (pl_v rfl) rfl rfl rfl rfl) rfl rfl rfl (rw_mc rfl (.inr rfl) ((fun _ => rfl) v1) (rw_n (ta_r ta_n))) rfl (mu_gd (fun h => (q_app (e := eS) rfl h)) rfl) (sS (sZ (sZ sN)))) (fun (v0_5 : (((List (Str × Int)) × (List (Str × Int))) × Int × (List Str) × Int)) => (ts_lt (po := fun (x6 : Int) => [some (.own ((eO4 c_Shelf (eZ (eO2 c_Stock (eM kS eI) (eM kS eI))) eI (eL eS) eI) (v0_5.1, v0_5.2.1, v0_5.2.2.1, x6))), some (.ro (eS v1)), some (.own (eI v2_1))]) (dp_sto (xp_l (Ty.ep_2 (cp_c (Ty.ep_F (cp_c (ep_vo rfl rfl) (cp_n rfl))) (cp_c (ep_vc rfl (.inl rfl) ((fun _ => rfl) v2_1)) (cp_n (zo (r_add _ _))))))) (pl_v rfl) rfl rfl rfl) (fun (x6 : Int) => (ts_end (sS (sZ (sZ sN))))))))))))))))))))) (sS (sS (sZ sN)))) (fun _ => ⟨rfl, rfl⟩) (fun _ => (pS (pZ pN))) (fun _ => (pS (pZ pN)))
noncomputable def t_serve (v0 : (((List (Str × Int)) × (List (Str × Int))) × Int × (List Str) × Int)) (v1 : Str) (v2 : (Str × Bool × (List Str))) (v3 : Int) : RF Unit ((((List (Str × Int)) × (List (Str × Int))) × Int × (List Str) × Int)) ((((List (Str × Int)) × (List (Str × Int))) × Int × (List Str) × Int)) := SR.fn (fun k => .ok () k) (R.bindE v0 (R.orF (neR eS v2.1 v1) (R.bind ((t_Shelf_holds v0 v1).r) fun (x4 : Bool) => .ok (!decide (v2.2.1 = x4)))) fun (x16 : Bool) => if x16 = true then .ex ⟨x_BadBook, [.int v3]⟩ v0 else RF.bindF (fun (k6 : ((((List (Str × Int)) × (List (Str × Int))) × Int × (List Str) × Int))) => k6) (t_cast_all v0 v1 v2.2.2 v3) fun (_ : Unit) (k5 : ((((List (Str × Int)) × (List (Str × Int))) × Int × (List Str) × Int))) => if v2.2.1 = true then .rt () k5 else R.bindE k5 (R.bind ((t_Stock_room_of k5.1 v1).r) fun (x11 : Int) => R.bind ((t_Shelf_room_left k5).r) fun (x12 : Int) => .ok (decide (x12 < x11))) fun (x15 : Bool) => if x15 = true then .ex ⟨x_BadBook, [.int v3]⟩ k5 else RF.bindF (fun (k14 : ((((List (Str × Int)) × (List (Str × Int))) × Int × (List Str) × Int))) => k14) (t_Shelf_put k5 v1) fun (_ : Unit) (k13 : ((((List (Str × Int)) × (List (Str × Int))) × Int × (List Str) × Int))) => .nx k13 : SR ((((List (Str × Int)) × (List (Str × Int))) × Int × (List Str) × Int)) Unit ((((List (Str × Int)) × (List (Str × Int))) × Int × (List Str) × Int)) Empty ((((List (Str × Int)) × (List (Str × Int))) × Int × (List Str) × Int)))
theorem t_serve_ok (v0 : (((List (Str × Int)) × (List (Str × Int))) × Int × (List Str) × Int)) (v1 : Str) (v2 : (Str × Bool × (List Str))) (v3 : Int) : FSim (m_serve [.own ((eO4 c_Shelf (eZ (eO2 c_Stock (eM kS eI) (eM kS eI))) eI (eL eS) eI) v0), .ro (eS v1), .ro ((eU3 eS eB (eL eS)) v2), .ro (eI v3)]) (t_serve v0 v1 v2 v3) eN (fun (k : ((((List (Str × Int)) × (List (Str × Int))) × Int × (List Str) × Int))) => [some (.own ((eO4 c_Shelf (eZ (eO2 c_Stock (eM kS eI) (eM kS eI))) eI (eL eS) eI) k)), none, none, none]) (fun (k : ((((List (Str × Int)) × (List (Str × Int))) × Int × (List Str) × Int))) => [some (.own ((eO4 c_Shelf (eZ (eO2 c_Stock (eM kS eI) (eM kS eI))) eI (eL eS) eI) k)), none, none, none]) := fn_sim (X := ⟨eN, fun (k : ((((List (Str × Int)) × (List (Str × Int))) × Int × (List Str) × Int))) => [some (.own ((eO4 c_Shelf (eZ (eO2 c_Stock (eM kS eI) (eM kS eI))) eI (eL eS) eI) k)), none, none, none], Empty.elim, fun (k : ((((List (Str × Int)) × (List (Str × Int))) × Int × (List Str) × Int))) => [some (.own ((eO4 c_Shelf (eZ (eO2 c_Stock (eM kS eI) (eM kS eI))) eI (eL eS) eI) k)), none, none, none]⟩) (ts_sub (sp' := [some (.own ((eO4 c_Shelf (eZ (eO2 c_Stock (eM kS eI) (eM kS eI))) eI (eL eS) eI) v0)), some (.ro (eS v1)), some (.ro ((eU3 eS eB (eL eS)) v2)), some (.ro (eI v3))]) (ts_pad (ts_assoc (ts_dist (s_iff (tf_or (tf_b (Ty.ef_2 (ck_p (Ty.ep_I (cp_c (ep_vr rfl rfl) (cp_c ep_k (cp_n (ixt rfl (ix_k 0 rfl) (zp_c ((fun _ => rfl) _))))))) (ck_p (ep_vc rfl (.inr rfl) ((fun _ => rfl) v1)) (ck_n (zof (o_ne eqe_s _ _ rfl rfl))))))) (tf_b (Ty.ef_2 (ck_p (Ty.ep_I (cp_c (ep_vr rfl rfl) (cp_c ep_k (cp_n (ixt rfl (ix_k 1 rfl) (zp_c ((fun _ => rfl) _))))))) (ck_f (ef_M (ep_vo rfl rfl) rfl (ck_p (ep_vc rfl (.inr rfl) ((fun _ => rfl) v1)) (ck_n (gm_f (t_Shelf_holds_ok v0 v1) rfl)))) (fun (x4 : Bool) => (ck_np (f := fun c => .own (eB c)) (zo (o_neB _ _))))))))) (sS (sZ (sZ (sZ sN)))) (ts_raisex (vs := [.int v3]) (mas_c (ep_vc rfl (.inr rfl) ((fun _ => rfl) v3)) mas_n) rfl (sS (sZ (sZ (sZ sN))))) (ts_skip (ts_assoc (ts_dx (po := fun _ (k5 : ((((List (Str × Int)) × (List (Str × Int))) × Int × (List Str) × Int))) => [some (.own ((eO4 c_Shelf (eZ (eO2 c_Stock (eM kS eI) (eM kS eI))) eI (eL eS) eI) k5)), some (.ro (eS v1)), some (.ro ((eU3 eS eB (eL eS)) v2)), some (.ro (eI v3))]) (dx_ex (xf_call (po := fun (k : ((((List (Str × Int)) × (List (Str × Int))) × Int × (List Str) × Int))) => [some (.own ((eO4 c_Shelf (eZ (eO2 c_Stock (eM kS eI) (eM kS eI))) eI (eL eS) eI) k)), some (.ro (eS v1)), some (.ro ((eU3 eS eB (eL eS)) v2)), some (.ro (eI v3))]) (px := fun (k : ((((List (Str × Int)) × (List (Str × Int))) × Int × (List Str) × Int))) => [some (.own ((eO4 c_Shelf (eZ (eO2 c_Stock (eM kS eI) (eM kS eI))) eI (eL eS) eI) k)), some (.ro (eS v1)), some (.ro ((eU3 eS eB (eL eS)) v2)), some (.ro (eI v3))]) (ca_p (pl_v rfl) (ca_r (ep_vc rfl (.inr rfl) ((fun _ => rfl) v1)) (ca_r (Ty.ep_I (cp_c (ep_vr rfl rfl) (cp_c ep_k (cp_n (ixt rfl (ix_k 2 rfl) (zp_r rfl)))))) (ca_r (ep_vc rfl (.inr rfl) ((fun _ => rfl) v3)) (ca_n (xc_1 (cs_p rfl rfl (cs_r okb_o (cs_r okb_r (cs_r okb_o cs_n)))) (t_cast_all_ok v0 v1 v2.2.2 v3) (fun _ => (bk_p rfl (bk_r (bk_r (bk_r bk_n))))) (fun _ => (bk_p rfl (bk_r (bk_r (bk_r bk_n))))))))))))) (fun (k6 : ((((List (Str × Int)) × (List (Str × Int))) × Int × (List Str) × Int))) => (sS (sZ (sZ (sZ sN))))) (fun _ (k5 : ((((List (Str × Int)) × (List (Str × Int))) × Int × (List Str) × Int))) => (ts_assoc (ts_dist (s_if (tp_b (xp_l (Ty.ep_I (cp_c (ep_vr rfl rfl) (cp_c ep_k (cp_n (ixt rfl (ix_k 1 rfl) (zp_c ((fun _ => rfl) _))))))))) (ts_retn rfl (sS (sZ (sZ (sZ sN))))) (ts_skip (ts_assoc (ts_dist (s_iff (tf_b (Ty.ef_2 (ck_f (ef_M (Ty.ep_F (cp_c (ep_vo rfl rfl) (cp_n rfl))) rfl (ck_p (ep_vc rfl (.inr rfl) ((fun _ => rfl) v1)) (ck_n (gm_f (t_Stock_room_of_ok k5.1 v1) rfl)))) (fun (x11 : Int) => (ck_f (ef_M (ep_vo rfl rfl) rfl (ck_n (gm_f (t_Shelf_room_left_ok k5) rfl))) (fun (x12 : Int) => (ck_np (f := fun c => .own (eB c)) (zo (r_gt _ _))))))))) (sS (sZ (sZ (sZ sN)))) (ts_raisex (vs := [.int v3]) (mas_c (ep_vc rfl (.inr rfl) ((fun _ => rfl) v3)) mas_n) rfl (sS (sZ (sZ (sZ sN))))) (ts_skip (ts_dx (po := fun _ (k13 : ((((List (Str × Int)) × (List (Str × Int))) × Int × (List Str) × Int))) => [some (.own ((eO4 c_Shelf (eZ (eO2 c_Stock (eM kS eI) (eM kS eI))) eI (eL eS) eI) k13)), some (.ro (eS v1)), some (.ro ((eU3 eS eB (eL eS)) v2)), some (.ro (eI v3))]) (dx_ex (xf_meth (po := fun (k : ((((List (Str × Int)) × (List (Str × Int))) × Int × (List Str) × Int))) => [some (.own ((eO4 c_Shelf (eZ (eO2 c_Stock (eM kS eI) (eM kS eI))) eI (eL eS) eI) k)), some (.ro (eS v1)), some (.ro ((eU3 eS eB (eL eS)) v2)), some (.ro (eI v3))]) (px := fun (k : ((((List (Str × Int)) × (List (Str × Int))) × Int × (List Str) × Int))) => [some (.own ((eO4 c_Shelf (eZ (eO2 c_Stock (eM kS eI) (eM kS eI))) eI (eL eS) eI) k)), some (.ro (eS v1)), some (.ro ((eU3 eS eB (eL eS)) v2)), some (.ro (eI v3))]) (hv_p (pl_v rfl) rfl rfl) (ca_p (pl_v rfl) (ca_r (ep_vc rfl (.inr rfl) ((fun _ => rfl) v1)) (ca_n (xc_1 (cs_p rfl rfl (cs_r okb_o cs_n)) (t_Shelf_put_ok k5 v1) (fun _ => (bk_p rfl (bk_r bk_n))) (fun _ => (bk_p rfl (bk_r bk_n))))))))) (fun (k14 : ((((List (Str × Int)) × (List (Str × Int))) × Int × (List Str) × Int))) => (sS (sZ (sZ (sZ sN))))) (fun _ (k13 : ((((List (Str × Int)) × (List (Str × Int))) × Int × (List Str) × Int))) => (ts_end (sS (sZ (sZ (sZ sN))))))))))))))))))))))) (sS (sS (sS (sS sN))))) (fun _ => ⟨rfl, rfl⟩) (fun _ => (pS (pZ (pZ (pZ pN))))) (fun _ => (pS (pZ (pZ (pZ pN)))))
noncomputable def t_Shelf_lying (v0 : (((List (Str × Int)) × (List (Str × Int))) × Int × (List Str) × Int)) : RF (List Str) Unit Unit := SR.fn (fun _ => .er) (.rt v0.2.2.1 () : SR Unit (List Str) Unit Empty Unit)
theorem t_Shelf_lying_ok (v0 : (((List (Str × Int)) × (List (Str × Int))) × Int × (List Str) × Int)) : FSim (m_Shelf_lying [.ro ((eO4 c_Shelf (eZ (eO2 c_Stock (eM kS eI) (eM kS eI))) eI (eL eS) eI) v0)]) (t_Shelf_lying v0) (eL eS) (fun (k : Unit) => [none]) (fun (k : Unit) => [none]) := fn_sim (X := ⟨(eL eS), fun (k : Unit) => [none], Empty.elim, fun (k : Unit) => [none]⟩) (ts_sub (sp' := [some (.ro ((eO4 c_Shelf (eZ (eO2 c_Stock (eM kS eI) (eM kS eI))) eI (eL eS) eI) v0))]) (ts_pad (ts_retp (xp_l (Ty.ep_N (cp_c (Ty.ep_F (cp_c (ep_vr rfl rfl) (cp_n rfl))) (cp_n (zo (o_listL (e := eS) rfl (fun _ => rfl))))))) (sZ sN))) (sS sN)) (fun _ => trivial) (fun _ => (pZ pN)) (fun _ => (pZ pN))
noncomputable def t_lying_after_b0 (v3 : (List (Str × Bool × (List Str)))) (a15 : (Int × Str)) (s14 : ((((List (Str × Int)) × (List (Str × Int))) × Int × (List Str) × Int) × (List (List Str)))) : SR ((((List (Str × Int)) × (List (Str × Int))) × Int × (List Str) × Int) × (List (List Str))) (List (List Str)) Unit ((((List (Str × Int)) × (List (Str × Int))) × Int × (List Str) × Int) × (List (List Str))) Unit := if (decide ((v3.length : Int) ≤ a15.1)) = true then .ex ⟨x_BadBook, [.int a15.1]⟩ () else RF.bindF (fun (k18 : ((((List (Str × Int)) × (List (Str × Int))) × Int × (List Str) × Int))) => ()) (R.bindF s14.1 (getI v3 a15.1) fun (x16 : (Str × Bool × (List Str))) => t_serve s14.1 a15.2 x16 a15.1) fun (_ : Unit) (k17 : ((((List (Str × Int)) × (List (Str × Int))) × Int × (List Str) × Int))) => R.bindE () (R.bind (R.bind ((t_Shelf_lying k17).r) fun (x19 : (List Str)) => .ok x19) fun (x19 : (List Str)) => R.gd (s14.2.length < 1000000) (s14.2 ++ [x19])) fun (v5_20 : (List (List Str))) => .nx (k17, v5_20)
noncomputable def t_lying_after (v0 : ((List (Str × Int)) × (List (Str × Int)))) (v1 : (List Str)) (v2 : Int) (v3 : (List (Str × Bool × (List Str)))) : RF (List (List Str)) Unit Unit := SR.fn (fun _ => .er) (R.bindE () ((t_check_asks v0 v1 v2).r) fun (_ : Bool) => R.bindE () ((t_Shelf_init () v0 v2).mk) fun (v4_1 : (((List (Str × Int)) × (List (Str × Int))) × Int × (List Str) × Int)) => SR.bind (σ := ((((List (Str × Int)) × (List (Str × Int))) × Int × (List Str) × Int) × (List (List Str)))) (forR (t_lying_after_b0 v3) (enL v1) (v4_1, [])) fun (s14 : ((((List (Str × Int)) × (List (Str × Int))) × Int × (List Str) × Int) × (List (List Str)))) => if (decide ((v1.length : Int) < (v3.length : Int))) = true then .ex ⟨x_BadBook, [.int (v1.length : Int)]⟩ () else .rt s14.2 () : SR Unit (List (List Str)) Unit Empty Unit)
theorem t_lying_after_ok (v0 : ((List (Str × Int)) × (List (Str × Int)))) (v1 : (List Str)) (v2 : Int) (v3 : (List (Str × Bool × (List Str)))) : FSim (m_lying_after [.ro ((eZ (eO2 c_Stock (eM kS eI) (eM kS eI))) v0), .ro ((eL eS) v1), .ro (eI v2), .ro ((eL (eU3 eS eB (eL eS))) v3)]) (t_lying_after v0 v1 v2 v3) (eL (eL eS)) (fun (k : Unit) => [none, none, none, none]) (fun (k : Unit) => [none, none, none, none]) := fn_sim (X := ⟨(eL (eL eS)), fun (k : Unit) => [none, none, none, none, none, none, none, none], Empty.elim, fun (k : Unit) => [none, none, none, none, none, none, none, none]⟩) (ts_sub (sp' := [some (.ro ((eZ (eO2 c_Stock (eM kS eI) (eM kS eI))) v0)), some (.ro ((eL eS) v1)), some (.ro (eI v2)), some (.ro ((eL (eU3 eS eB (eL eS))) v3)), none, none, none, none]) (ts_pad (ts_assoc (ts_df (po := fun _ => [some (.ro ((eZ (eO2 c_Stock (eM kS eI) (eM kS eI))) v0)), some (.ro ((eL eS) v1)), some (.ro (eI v2)), some (.ro ((eL (eU3 eS eB (eL eS))) v3)), none, none, none, none]) (df_ex (Ty.ef_C (ck_p (ep_vc rfl (.inr rfl) ((fun _ => rfl) v0)) (ck_p (ep_vr rfl rfl) (ck_p (ep_vc rfl (.inr rfl) ((fun _ => rfl) v2)) (ck_n (gc_f (t_check_asks_ok v0 v1 v2) rfl)))))) (sZ (sZ (sZ (sZ (sZ (sZ (sZ (sZ sN))))))))) (fun _ => (ts_assoc (ts_df (po := fun (v4_1 : (((List (Str × Int)) × (List (Str × Int))) × Int × (List Str) × Int)) => [some (.ro ((eZ (eO2 c_Stock (eM kS eI) (eM kS eI))) v0)), some (.ro ((eL eS) v1)), some (.ro (eI v2)), some (.ro ((eL (eU3 eS eB (eL eS))) v3)), some (.own ((eO4 c_Shelf (eZ (eO2 c_Stock (eM kS eI) (eM kS eI))) eI (eL eS) eI) v4_1)), none, none, none]) (df_set (Ty.ef_K (ck_p (ep_vc rfl (.inr rfl) ((fun _ => rfl) v0)) (ck_p (ep_vc rfl (.inr rfl) ((fun _ => rfl) v2)) (ck_n (gk_f (t_Shelf_init_ok () v0 v2) rfl (fun _ => ⟨_, rfl⟩)))))) (sZ (sZ (sZ (sZ (sZ (sZ (sZ (sZ sN))))))))) (fun (v4_1 : (((List (Str × Int)) × (List (Str × Int))) × Int × (List Str) × Int)) => (ts_assoc (ts_dp (sp' := [some (.ro ((eZ (eO2 c_Stock (eM kS eI) (eM kS eI))) v0)), some (.ro ((eL eS) v1)), some (.ro (eI v2)), some (.ro ((eL (eU3 eS eB (eL eS))) v3)), some (.own ((eO4 c_Shelf (eZ (eO2 c_Stock (eM kS eI) (eM kS eI))) eI (eL eS) eI) v4_1)), some (.own ((eL (eL eS)) ([]))), none, none]) (dp_set (xp_lst (γ := Unit) (c := ()) (f := fun _ => []) (rw_n ta_n) (len_ok rfl))) (ts_assoc (ts_seq (J := fun (s14 : ((((List (Str × Int)) × (List (Str × Int))) × Int × (List Str) × Int) × (List (List Str)))) => [some (.ro ((eZ (eO2 c_Stock (eM kS eI) (eM kS eI))) v0)), some (.ro ((eL eS) v1)), some (.ro (eI v2)), some (.ro ((eL (eU3 eS eB (eL eS))) v3)), some (.own ((eO4 c_Shelf (eZ (eO2 c_Stock (eM kS eI) (eM kS eI))) eI (eL eS) eI) s14.1)), some (.own ((eL (eL eS)) s14.2)), none, none]) (s_forp (items := (enL v1).map (eU2 eI eS)) (fz := []) (ip_enL (r := .ro ((eL eS) v1)) (ep_vr rfl rfl)) (fr_0 (lp0 (e := (eU2 eI eS)) (J := fun (s14 : ((((List (Str × Int)) × (List (Str × Int))) × Int × (List Str) × Int) × (List (List Str)))) => [some (.ro ((eZ (eO2 c_Stock (eM kS eI) (eM kS eI))) v0)), some (.ro ((eL eS) v1)), some (.ro (eI v2)), some (.ro ((eL (eU3 eS eB (eL eS))) v3)), some (.own ((eO4 c_Shelf (eZ (eO2 c_Stock (eM kS eI) (eM kS eI))) eI (eL eS) eI) s14.1)), some (.own ((eL (eL eS)) s14.2)), none, none]) (sp1 := fun (a15 : (Int × Str)) (s14 : ((((List (Str × Int)) × (List (Str × Int))) × Int × (List Str) × Int) × (List (List Str)))) => [some (.ro ((eZ (eO2 c_Stock (eM kS eI) (eM kS eI))) v0)), some (.ro ((eL eS) v1)), some (.ro (eI v2)), some (.ro ((eL (eU3 eS eB (eL eS))) v3)), some (.own ((eO4 c_Shelf (eZ (eO2 c_Stock (eM kS eI) (eM kS eI))) eI (eL eS) eI) s14.1)), some (.own ((eL (eL eS)) s14.2)), some (.own (eI a15.1)), some (.own (eS a15.2))]) (sS (sS (sS (sS (sS (sS (sZ (sZ sN)))))))) (fun (a15 : (Int × Str)) (s14 : ((((List (Str × Int)) × (List (Str × Int))) × Int × (List Str) × Int) × (List (List Str)))) => (tg_t (tgs_c (tg_c ((fun _ => rfl) _)) (tgs_c (tg_c ((fun _ => rfl) _)) tgs_n)))) (fun (a15 : (Int × Str)) (s14 : ((((List (Str × Int)) × (List (Str × Int))) × Int × (List Str) × Int) × (List (List Str)))) => ts_pad (ts_assoc (ts_dist (s_if (tp_b (xp_l (Ty.ep_2 (cp_c (ep_vc rfl (.inl rfl) ((fun _ => rfl) a15.1)) (cp_c (Ty.ep_N (cp_c (ep_vr rfl rfl) (cp_n (zo (o_lenL (e := (eU3 eS eB (eL eS))) (xs := v3) rfl (by intro _ h; cases h)))))) (cp_n (zo (r_ge _ _)))))))) (ts_raisex (vs := [.int a15.1]) (mas_c (ep_vc rfl (.inl rfl) ((fun _ => rfl) a15.1)) mas_n) rfl (sZ (sZ (sZ (sZ (sZ (sZ (sZ (sZ sN))))))))) (ts_skip (ts_assoc (ts_dx (po := fun _ (k17 : ((((List (Str × Int)) × (List (Str × Int))) × Int × (List Str) × Int))) => [some (.ro ((eZ (eO2 c_Stock (eM kS eI) (eM kS eI))) v0)), some (.ro ((eL eS) v1)), some (.ro (eI v2)), some (.ro ((eL (eU3 eS eB (eL eS))) v3)), some (.own ((eO4 c_Shelf (eZ (eO2 c_Stock (eM kS eI) (eM kS eI))) eI (eL eS) eI) k17)), some (.own ((eL (eL eS)) s14.2)), some (.own (eI a15.1)), some (.own (eS a15.2))]) (dx_ex (xf_call (po := fun (k : ((((List (Str × Int)) × (List (Str × Int))) × Int × (List Str) × Int))) => [some (.ro ((eZ (eO2 c_Stock (eM kS eI) (eM kS eI))) v0)), some (.ro ((eL eS) v1)), some (.ro (eI v2)), some (.ro ((eL (eU3 eS eB (eL eS))) v3)), some (.own ((eO4 c_Shelf (eZ (eO2 c_Stock (eM kS eI) (eM kS eI))) eI (eL eS) eI) k)), some (.own ((eL (eL eS)) s14.2)), some (.own (eI a15.1)), some (.own (eS a15.2))]) (px := fun (k : ((((List (Str × Int)) × (List (Str × Int))) × Int × (List Str) × Int))) => [some (.ro ((eZ (eO2 c_Stock (eM kS eI) (eM kS eI))) v0)), some (.ro ((eL eS) v1)), some (.ro (eI v2)), some (.ro ((eL (eU3 eS eB (eL eS))) v3)), some (.own ((eO4 c_Shelf (eZ (eO2 c_Stock (eM kS eI) (eM kS eI))) eI (eL eS) eI) k)), some (.own ((eL (eL eS)) s14.2)), some (.own (eI a15.1)), some (.own (eS a15.2))]) (ca_p (pl_v rfl) (ca_r (ep_vc rfl (.inl rfl) ((fun _ => rfl) a15.2)) (ca_rf (Ty.ef_I (ck_p (ep_vr rfl rfl) (ck_p (ep_vc rfl (.inl rfl) ((fun _ => rfl) a15.1)) (ck_n (ixl (e := (eU3 eS eB (eL eS))) rfl (fun x => zp_r rfl)))))) (sS (sS (sS (sS (sS (sS (sS (sS sN)))))))) (fun (x16 : (Str × Bool × (List Str))) => (ca_r (ep_vc rfl (.inl rfl) ((fun _ => rfl) a15.1)) (ca_n (xc_1 (cs_p rfl rfl (cs_r okb_o (cs_r okb_r (cs_r okb_o cs_n)))) (t_serve_ok s14.1 a15.2 x16 a15.1) (fun _ => (bk_p rfl (bk_r (bk_r (bk_r bk_n))))) (fun _ => (bk_p rfl (bk_r (bk_r (bk_r bk_n)))))))))))))) (fun (k18 : ((((List (Str × Int)) × (List (Str × Int))) × Int × (List Str) × Int))) => (sZ (sZ (sZ (sZ (sZ (sZ (sZ (sZ sN))))))))) (fun _ (k17 : ((((List (Str × Int)) × (List (Str × Int))) × Int × (List Str) × Int))) => (ts_df (po := fun (v5_20 : (List (List Str))) => [some (.ro ((eZ (eO2 c_Stock (eM kS eI) (eM kS eI))) v0)), some (.ro ((eL eS) v1)), some (.ro (eI v2)), some (.ro ((eL (eU3 eS eB (eL eS))) v3)), some (.own ((eO4 c_Shelf (eZ (eO2 c_Stock (eM kS eI) (eM kS eI))) eI (eL eS) eI) k17)), some (.own ((eL (eL eS)) v5_20)), some (.own (eI a15.1)), some (.own (eS a15.2))]) (df_mut (fd := fun (x19 : (List Str)) => [(eL eS) x19]) (f := (eL (eL eS))) (pl_v rfl) rfl rfl rfl (rw_f (ef_M (ep_vo rfl rfl) rfl (ck_n (gm_f (t_Shelf_lying_ok k17) rfl))) (fun (x19 : (List Str)) => (rw_n (ta_r ta_n)))) rfl (fun (x19 : (List Str)) => (mu_gd (fun h => (q_app (e := (eL eS)) rfl h)) rfl)) (sZ (sZ (sZ (sZ (sZ (sZ (sZ (sZ sN))))))))) (fun (v5_20 : (List (List Str))) => (ts_end (sS (sS (sS (sS (sS (sS (sZ (sZ sN)))))))))))))))))))))) (fun (s14 : ((((List (Str × Int)) × (List (Str × Int))) × Int × (List Str) × Int) × (List (List Str)))) => (ts_assoc (ts_dist (s_if (tp_b (xp_l (Ty.ep_2 (cp_c (Ty.ep_N (cp_c (ep_vr rfl rfl) (cp_n (zo (o_lenL (e := (eU3 eS eB (eL eS))) (xs := v3) rfl (by intro _ h; cases h)))))) (cp_c (Ty.ep_N (cp_c (ep_vr rfl rfl) (cp_n (zo (o_lenL (e := eS) (xs := v1) rfl (by intro _ h; cases h)))))) (cp_n (zo (r_gt _ _)))))))) (ts_raisex (vs := [.int (v1.length : Int)]) (mas_c (Ty.ep_N (cp_c (ep_vr rfl rfl) (cp_n (zo (o_lenL (e := eS) (xs := v1) rfl (by intro _ h; cases h)))))) mas_n) rfl (sZ (sZ (sZ (sZ (sZ (sZ (sZ (sZ sN))))))))) (ts_skip (ts_retp (xp_mv rfl rfl) (sZ (sZ (sZ (sZ (sZ (sZ (sZ (sZ sN))))))))))))))))))))))))) (sS (sS (sS (sS (sZ (sZ (sZ (sZ sN))))))))) (fun _ => trivial) (fun _ => (pZ (pZ (pZ (pZ pN))))) (fun _ => (pZ (pZ (pZ (pZ pN)))))
noncomputable def tL_lists_b0  (a4 : ((List Str) × (List Str))) (s3 : Unit) : SR Unit Bool Unit Unit Unit := R.bindE () (R.orF (.ok false) (neR (eL eS) a4.1 a4.2)) fun (x5 : Bool) => if x5 = true then .rt false () else .nx ()
noncomputable def tL_lists (v0 : (List (List Str))) (v1 : (List (List Str))) : RF Bool Unit Unit := SR.fn (fun _ => .er) (if (!decide ((v0.length : Int) = (v1.length : Int))) = true then .rt false () else SR.bind (σ := Unit) (forR tL_lists_b0 (List.zip v0 v1) ()) fun (s3 : Unit) => .rt true () : SR Unit Bool Unit Empty Unit)
theorem tL_lists_ok (v0 : (List (List Str))) (v1 : (List (List Str))) : FSim (mL_lists [.ro ((eL (eL eS)) v0), .ro ((eL (eL eS)) v1)]) (tL_lists v0 v1) eB (fun (k : Unit) => [none, none]) (fun (k : Unit) => [none, none]) := fn_sim (X := ⟨eB, fun (k : Unit) => [none, none, none, none], Empty.elim, fun (k : Unit) => [none, none, none, none]⟩) (ts_sub (sp' := [some (.ro ((eL (eL eS)) v0)), some (.ro ((eL (eL eS)) v1)), none, none]) (ts_pad (ts_assoc (ts_dist (s_if (tp_orf (tp_no (tp_b (xp_l (Ty.ep_N (cp_c (ep_vr rfl rfl) (cp_c ep_k (cp_n (zo (fIsi_mk (t := "list") (u := "list") (b := true) rfl (by decide +kernel)))))))))) (tp_b (xp_l (Ty.ep_2 (cp_c (Ty.ep_N (cp_c (ep_vr rfl rfl) (cp_n (zo (o_lenL (e := (eL eS)) (xs := v0) rfl (by intro _ h; cases h)))))) (cp_c (Ty.ep_N (cp_c (ep_vr rfl rfl) (cp_n (zo (o_lenL (e := (eL eS)) (xs := v1) rfl (by intro _ h; cases h)))))) (cp_n (zo (o_neI _ _))))))))) (ts_retp (xp_l ep_k) (sZ (sZ (sZ (sZ sN))))) (ts_skip (ts_assoc (ts_seq (J := fun (s3 : Unit) => [some (.ro ((eL (eL eS)) v0)), some (.ro ((eL (eL eS)) v1)), none, none]) (s_forp (items := (List.zip v0 v1).map (eU2 (eL eS) (eL eS))) (fz := []) (ip_zpL (ep_vr rfl rfl) (ep_vr rfl rfl) rfl rfl) (fr_0 (lp0 (e := (eU2 (eL eS) (eL eS))) (J := fun (s3 : Unit) => [some (.ro ((eL (eL eS)) v0)), some (.ro ((eL (eL eS)) v1)), none, none]) (sp1 := fun (a4 : ((List Str) × (List Str))) (s3 : Unit) => [some (.ro ((eL (eL eS)) v0)), some (.ro ((eL (eL eS)) v1)), some (.ro ((eL eS) a4.1)), some (.ro ((eL eS) a4.2))]) (sS (sS (sZ (sZ sN)))) (fun (a4 : ((List Str) × (List Str))) (s3 : Unit) => (tg_t (tgs_c (tg_r rfl) (tgs_c (tg_r rfl) tgs_n)))) (fun (a4 : ((List Str) × (List Str))) (s3 : Unit) => ts_pad (ts_dist (s_iff (tf_or (tf_p (tp_no (tp_b (xp_l (Ty.ep_N (cp_c (ep_vr rfl rfl) (cp_c ep_k (cp_n (zo (fIsi_mk (t := "list") (u := "list") (b := true) rfl (by decide +kernel))))))))))) (tf_b (Ty.ef_2 (ck_p (ep_vr rfl rfl) (ck_p (ep_vr rfl rfl) (ck_n (zof (o_ne (eqe_l eqe_s) _ _ rfl rfl)))))))) (sZ (sZ (sZ (sZ sN)))) (ts_retp (xp_l ep_k) (sZ (sZ (sZ (sZ sN))))) (ts_skip (ts_end (sS (sS (sZ (sZ sN)))))))))))) (fun (s3 : Unit) => (ts_retp (xp_l ep_k) (sZ (sZ (sZ (sZ sN))))))))))))) (sS (sS (sZ (sZ sN))))) (fun _ => trivial) (fun _ => (pZ (pZ pN))) (fun _ => (pZ (pZ pN)))
noncomputable def t_law_b0 (v0 : (List Int)) (v2_5 : (List Str)) (v3_8 : Int) (a26 : Int) (s25 : ((List (Str × Int)))) : SR ((List (Str × Int))) Bool Unit ((List (Str × Int))) Unit := R.bindE () (R.bind (R.bind (R.bind (R.bind (R.bind ((tL_cell_at v0 (2 : Int)).r) fun (x27 : Int) => .ok (x27 / (4 : Int))) fun (x28 : Int) => (tL_mix x28 a26).r) fun (x29 : Int) => modR x29 v3_8) fun (x30 : Int) => .ok ((1 : Int) + x30)) fun (x31 : Int) => R.bind (getI v2_5 a26) fun (x32 : Str) => R.gd (s25.length < 1000000) (dS s25 x32 x31)) fun (v4_33 : (List (Str × Int))) => .nx v4_33
noncomputable def t_law_b1 (x71 : ((List (Str × Bool × (List Str))) × (List (List Str)))) (pk : (List (List Str) × List (List Str))) (n_88 : Int) (a87 : (List Str)) (s86 : Unit) : SR ((List Str) × Unit) Bool Unit ((List Str) × Unit) Unit := R.bindE () (R.gd (a87.length < 1000000) (a87 ++ [("zz" : Str)])) fun (v16_90 : (List Str)) => R.bindE () (R.andF (.ok (decide ((n_88 + (1 : Int)) < ((pk.1.length : Int) + 1 + (pk.2.length : Int))))) (R.bind (getMk pk (n_88 + (1 : Int))) fun (x97 : (List Str)) => R.bind (getI x71.2 (n_88 + (1 : Int))) fun (x98 : (List Str)) => neR (eL eS) x97 x98)) fun (x99 : Bool) => if x99 = true then .rt false () else .nx (v16_90, ())
noncomputable def t_law_b2  (a107 : (Str × Bool × (List Str))) (s106 : Unit) : SR ((List Str) × Unit) Bool Unit ((List Str) × Unit) Unit := R.bindE () (R.gd (a107.2.2.length < 1000000) (a107.2.2 ++ [("zz" : Str)])) fun (v20_110 : (List Str)) => .nx (v20_110, ())
noncomputable def t_law (v0 : (List Int)) : RF Bool Unit Unit := SR.fn (fun _ => .er) (R.bindE () (R.bind (R.bind ((tL_cell_at v0 (0 : Int)).r) fun (x1 : Int) => .ok (x1 % (10 : Int))) fun (x2 : Int) => .ok ((1 : Int) + x2)) fun (v1_3 : Int) => R.bindE () (R.bind ((tL_cell_at v0 (1 : Int)).r) fun (x4 : Int) => (tL_names x4 v1_3).r) fun (v2_5 : (List Str)) => R.bindE () (R.bind (R.bind ((tL_cell_at v0 (2 : Int)).r) fun (x6 : Int) => .ok (x6 % (4 : Int))) fun (x7 : Int) => getI ([(1 : Int), (4 : Int), (20 : Int), (1000 : Int)]) x7) fun (v3_8 : Int) => SR.bind (σ := ((List (Str × Int)))) (R.bindE () (rg1R v1_3) fun (x34 : List Int) => forR (t_law_b0 v0 v2_5 v3_8) x34 ([])) fun (s25 : ((List (Str × Int)))) => R.bindE () (R.bind (R.ofO (gMaxV (s25.map (·.2)))) fun (x40 : Int) => R.bind (R.bind ((tL_cell_at v0 (3 : Int)).r) fun (x38 : Int) => R.bind (R.bind (R.bind (R.bind ((tL_cell_at v0 (3 : Int)).r) fun (x35 : Int) => .ok (x35 / (31 : Int))) fun (x36 : Int) => .ok (x36 % (4 : Int))) fun (x37 : Int) => getI ([(31 : Int), (31 : Int), (2000 : Int), (990001 : Int)]) x37) fun (x39 : Int) => modR x38 x39) fun (x41 : Int) => .ok (x40 + x41)) fun (v6_42 : Int) => lt (cutL v0 (some (4 : Int)) (some (204 : Int))) fun (v7_43 : (List Int)) => SR.bind (σ := ((List Int))) (R.bindE () (R.bind (R.bind (R.bind ((tL_cell_at v0 (0 : Int)).r) fun (x50 : Int) => .ok (x50 / (10 : Int))) fun (x51 : Int) => .ok (x51 % (6 : Int))) fun (x52 : Int) => .ok (decide (x52 = (1 : Int)))) fun (x63 : Bool) => if x63 = true then R.bindE () (R.bind (rg1R (200 : Int)) fun (x61 : List Int) => Ty.lcG x61 (fun (a59 : Int) => .ok true) (fun (a59 : Int) => R.bind ((tL_cell_at v0 (4 : Int)).r) fun (x60 : Int) => (tL_mix x60 a59).r)) fun (v7_62 : (List Int)) => .nx v7_62 else .nx v7_43) fun (s58 : ((List Int))) => R.bindE () (Ty.lcG s58 (fun (a64 : Int) => .ok true) (fun (a64 : Int) => R.bind (modR a64 v1_3) fun (x65 : Int) => getI v2_5 x65)) fun (v8_66 : (List Str)) => R.bindE () (R.bind (R.bind (Ty.lcG s25 (fun (a67 : (Str × Int)) => .ok true) (fun (a67 : (Str × Int)) => .ok (a67.1, (3 : Int), a67.2))) fun (x68 : (List (Str × Int × Int))) => (t_Stock_init () x68).mk) fun (x69 : ((List (Str × Int)) × (List (Str × Int)))) => .ok x69) fun (v9_70 : ((List (Str × Int)) × (List (Str × Int)))) => R.bindE () ((tL_run v8_66 s58 s25 v6_42).r) fun (x71 : ((List (Str × Bool × (List Str))) × (List (List Str)))) => R.bindE () ((tL_copy x71.1).r) fun (v12_72 : (List (Str × Bool × (List Str)))) => R.bindE () ((t_lying_after v9_70 v8_66 v6_42 v12_72).r) fun (v14_73 : (List (List Str))) => R.bindE () (R.orF (R.notF ((tL_lists v14_73 x71.2).r)) (R.orF (neR (eL (eU3 eS eB (eL eS))) v12_72 x71.1) (neR (eL eS) v8_66 v8_66))) fun (x115 : Bool) => if x115 = true then .rt false () else SR.bind (σ := (List (List Str) × Unit)) (alE (t_law_b1 x71) [] v14_73 ()) fun (s100 : (List (List Str) × Unit)) => R.bindE () (.ok ([])) fun (v14_101 : (List (List Str))) => R.bindE () ((t_lying_after v9_70 v8_66 v6_42 v12_72).r) fun (v17_102 : (List (List Str))) => SR.bind (σ := (List (Str × Bool × (List Str)) × Unit)) (alT t_law_b2 [] v12_72 ()) fun (s111 : (List (Str × Bool × (List Str)) × Unit)) => R.bindE () (.ok ([])) fun (v12_112 : (List (Str × Bool × (List Str)))) => R.bindE () (.ok ([])) fun (v13_113 : (List Str)) => R.bindE () ((tL_lists v17_102 x71.2).r) fun (x114 : Bool) => .rt x114 () : SR Unit Bool Unit Empty Unit)
theorem t_law_ok (v0 : (List Int)) : FSim (m_law [.ro (eQ v0)]) (t_law v0) eB (fun (k : Unit) => [none]) (fun (k : Unit) => [none]) := fn_sim (X := ⟨eB, fun (k : Unit) => [none, none, none, none, none, none, none, none, none, none, none, none, none, none, none, none, none, none, none, none, none, none, none], Empty.elim, fun (k : Unit) => [none, none, none, none, none, none, none, none, none, none, none, none, none, none, none, none, none, none, none, none, none, none, none]⟩) (ts_sub (sp' := [some (.ro (eQ v0)), none, none, none, none, none, none, none, none, none, none, none, none, none, none, none, none, none, none, none, none, none, none]) (ts_pad (ts_assoc (ts_df (po := fun (v1_3 : Int) => [some (.ro (eQ v0)), some (.own (eI v1_3)), none, none, none, none, none, none, none, none, none, none, none, none, none, none, none, none, none, none, none, none, none]) (df_set (Ty.ef_2 (ck_p ep_k (ck_f (Ty.ef_2 (ck_f (Ty.ef_C (ck_p (ep_vr rfl rfl) (ck_p ep_k (ck_n (gc_f (tL_cell_at_ok v0 (0 : Int)) rfl))))) (fun (x1 : Int) => (ck_p ep_k (ck_np (f := fun c => .own (eI c)) (zo (r_modp (b := 10) (by decide)))))))) (fun (x2 : Int) => (ck_np (f := fun c => .own (eI c)) (zo (r_add _ _))))))) (sZ (sZ (sZ (sZ (sZ (sZ (sZ (sZ (sZ (sZ (sZ (sZ (sZ (sZ (sZ (sZ (sZ (sZ (sZ (sZ (sZ (sZ (sZ sN)))))))))))))))))))))))) (fun (v1_3 : Int) => (ts_assoc (ts_df (po := fun (v2_5 : (List Str)) => [some (.ro (eQ v0)), some (.own (eI v1_3)), some (.own ((eL eS) v2_5)), none, none, none, none, none, none, none, none, none, none, none, none, none, none, none, none, none, none, none, none]) (df_set (Ty.ef_C (ck_f (Ty.ef_C (ck_p (ep_vr rfl rfl) (ck_p ep_k (ck_n (gc_f (tL_cell_at_ok v0 (1 : Int)) rfl))))) (fun (x4 : Int) => (ck_p (ep_vc rfl (.inl rfl) ((fun _ => rfl) v1_3)) (ck_n (gc_f (tL_names_ok x4 v1_3) rfl)))))) (sZ (sZ (sZ (sZ (sZ (sZ (sZ (sZ (sZ (sZ (sZ (sZ (sZ (sZ (sZ (sZ (sZ (sZ (sZ (sZ (sZ (sZ (sZ sN)))))))))))))))))))))))) (fun (v2_5 : (List Str)) => (ts_assoc (ts_df (po := fun (v3_8 : Int) => [some (.ro (eQ v0)), some (.own (eI v1_3)), some (.own ((eL eS) v2_5)), some (.own (eI v3_8)), none, none, none, none, none, none, none, none, none, none, none, none, none, none, none, none, none, none, none]) (df_set (Ty.ef_I (ck_p (Ty.ep_Z (cp_c (Ty.ep_D (cp_c ep_k (cp_c ep_k (cp_c ep_k (cp_c ep_k (cp_n (gd_ok rfl rfl))))))) (cp_n rfl))) (ck_f (Ty.ef_2 (ck_f (Ty.ef_C (ck_p (ep_vr rfl rfl) (ck_p ep_k (ck_n (gc_f (tL_cell_at_ok v0 (2 : Int)) rfl))))) (fun (x6 : Int) => (ck_p ep_k (ck_np (f := fun c => .own (eI c)) (zo (r_modp (b := 4) (by decide)))))))) (fun (x7 : Int) => (ck_n (ixz (e := eI) rfl (fun x => zq_c ((fun _ => rfl) x)))))))) (sZ (sZ (sZ (sZ (sZ (sZ (sZ (sZ (sZ (sZ (sZ (sZ (sZ (sZ (sZ (sZ (sZ (sZ (sZ (sZ (sZ (sZ (sZ sN)))))))))))))))))))))))) (fun (v3_8 : Int) => (ts_assoc (ts_dp (sp' := [some (.ro (eQ v0)), some (.own (eI v1_3)), some (.own ((eL eS) v2_5)), some (.own (eI v3_8)), some (.own ((eM kS eI) ([]))), none, none, none, none, none, none, none, none, none, none, none, none, none, none, none, none, none, none]) (dp_set (xp_l ep_nd)) (ts_assoc (ts_seq (J := fun (s25 : ((List (Str × Int)))) => [some (.ro (eQ v0)), some (.own (eI v1_3)), some (.own ((eL eS) v2_5)), some (.own (eI v3_8)), some (.own ((eM kS eI) s25)), none, none, none, none, none, none, none, none, none, none, none, none, none, none, none, none, none, none]) (s_forf (it := fun c => List.map eI c) (fz := []) (if_r1 (r := .own (eI v1_3)) (ep_vc rfl (.inl rfl) ((fun _ => rfl) v1_3)) rfl) (sZ (sZ (sZ (sZ (sZ (sZ (sZ (sZ (sZ (sZ (sZ (sZ (sZ (sZ (sZ (sZ (sZ (sZ (sZ (sZ (sZ (sZ (sZ sN))))))))))))))))))))))) (fun _ => (fr_0 (lp0 (e := eI) (J := fun (s25 : ((List (Str × Int)))) => [some (.ro (eQ v0)), some (.own (eI v1_3)), some (.own ((eL eS) v2_5)), some (.own (eI v3_8)), some (.own ((eM kS eI) s25)), none, none, none, none, none, none, none, none, none, none, none, none, none, none, none, none, none, none]) (sp1 := fun (a26 : Int) (s25 : ((List (Str × Int)))) => [some (.ro (eQ v0)), some (.own (eI v1_3)), some (.own ((eL eS) v2_5)), some (.own (eI v3_8)), some (.own ((eM kS eI) s25)), some (.own (eI a26)), none, none, none, none, none, none, none, none, none, none, none, none, none, none, none, none, none]) (sS (sS (sS (sS (sS (sZ (sZ (sZ (sZ (sZ (sZ (sZ (sZ (sZ (sZ (sZ (sZ (sZ (sZ (sZ (sZ (sZ (sZ sN))))))))))))))))))))))) (fun (a26 : Int) (s25 : ((List (Str × Int)))) => (tg_c ((fun _ => rfl) _))) (fun (a26 : Int) (s25 : ((List (Str × Int)))) => ts_pad (ts_df (po := fun (v4_33 : (List (Str × Int))) => [some (.ro (eQ v0)), some (.own (eI v1_3)), some (.own ((eL eS) v2_5)), some (.own (eI v3_8)), some (.own ((eM kS eI) v4_33)), some (.own (eI a26)), none, none, none, none, none, none, none, none, none, none, none, none, none, none, none, none, none]) (df_subf (i := 4) (sp := [some (.ro (eQ v0)), some (.own (eI v1_3)), some (.own ((eL eS) v2_5)), some (.own (eI v3_8)), some (.own ((eM kS eI) s25)), some (.own (eI a26)), none, none, none, none, none, none, none, none, none, none, none, none, none, none, none, none, none]) (G := fun (x31 : Int) (x32 : Str) => R.gd (s25.length < 1000000) (dS s25 x32 x31)) (fc := .str) (f := (eM kS eI)) (Ty.ef_2 (ck_p ep_k (ck_f (Ty.ef_2 (ck_f (Ty.ef_C (ck_f (Ty.ef_2 (ck_f (Ty.ef_C (ck_p (ep_vr rfl rfl) (ck_p ep_k (ck_n (gc_f (tL_cell_at_ok v0 (2 : Int)) rfl))))) (fun (x27 : Int) => (ck_p ep_k (ck_np (f := fun c => .own (eI c)) (zo (r_divp (b := 4) (by decide) (by decide)))))))) (fun (x28 : Int) => (ck_p (ep_vc rfl (.inl rfl) ((fun _ => rfl) a26)) (ck_n (gc_f (tL_mix_ok x28 a26) rfl)))))) (fun (x29 : Int) => (ck_p (ep_vc rfl (.inl rfl) ((fun _ => rfl) v3_8)) (ck_n (zof (o_mod _ _))))))) (fun (x30 : Int) => (ck_np (f := fun c => .own (eI c)) (zo (r_add _ _))))))) (pl_v rfl) (Ty.ef_I (ck_p (ep_vo rfl rfl) (ck_p (ep_vc rfl (.inl rfl) ((fun _ => rfl) a26)) (ck_n (ixl (e := eS) rfl (fun x => zp_c ((fun _ => rfl) x))))))) (sZ (sZ (sZ (sZ (sZ (sZ (sZ (sZ (sZ (sZ (sZ (sZ (sZ (sZ (sZ (sZ (sZ (sZ (sZ (sZ (sZ (sZ (sZ sN))))))))))))))))))))))) rfl rfl (fun (x31 : Int) (x32 : Str) => (mu_gd (fun h => (o_dset ke_s (e := eI) rfl rfl (fun _ => rfl) h)) rfl))) (fun (v4_33 : (List (Str × Int))) => (ts_end (sS (sS (sS (sS (sS (sZ (sZ (sZ (sZ (sZ (sZ (sZ (sZ (sZ (sZ (sZ (sZ (sZ (sZ (sZ (sZ (sZ (sZ sN))))))))))))))))))))))))))))))) (fun (s25 : ((List (Str × Int)))) => (ts_assoc (ts_df (po := fun (v6_42 : Int) => [some (.ro (eQ v0)), some (.own (eI v1_3)), some (.own ((eL eS) v2_5)), some (.own (eI v3_8)), some (.own ((eM kS eI) s25)), none, some (.own (eI v6_42)), none, none, none, none, none, none, none, none, none, none, none, none, none, none, none, none]) (df_set (Ty.ef_2 (ck_f (Ty.ef_1 (ck_p (ep_vo rfl rfl) (ck_n (zof (o_vals (kf := kS) rfl))))) (fun (x40 : Int) => (ck_f (Ty.ef_2 (ck_f (Ty.ef_C (ck_p (ep_vr rfl rfl) (ck_p ep_k (ck_n (gc_f (tL_cell_at_ok v0 (3 : Int)) rfl))))) (fun (x38 : Int) => (ck_f (Ty.ef_I (ck_p (Ty.ep_Z (cp_c (Ty.ep_D (cp_c ep_k (cp_c ep_k (cp_c ep_k (cp_c ep_k (cp_n (gd_ok rfl rfl))))))) (cp_n rfl))) (ck_f (Ty.ef_2 (ck_f (Ty.ef_2 (ck_f (Ty.ef_C (ck_p (ep_vr rfl rfl) (ck_p ep_k (ck_n (gc_f (tL_cell_at_ok v0 (3 : Int)) rfl))))) (fun (x35 : Int) => (ck_p ep_k (ck_np (f := fun c => .own (eI c)) (zo (r_divp (b := 31) (by decide) (by decide)))))))) (fun (x36 : Int) => (ck_p ep_k (ck_np (f := fun c => .own (eI c)) (zo (r_modp (b := 4) (by decide)))))))) (fun (x37 : Int) => (ck_n (ixz (e := eI) rfl (fun x => zq_c ((fun _ => rfl) x)))))))) (fun (x39 : Int) => (ck_n (zof (o_mod _ _)))))))) (fun (x41 : Int) => (ck_np (f := fun c => .own (eI c)) (zo (r_add _ _)))))))) (sZ (sZ (sZ (sZ (sZ (sZ (sZ (sZ (sZ (sZ (sZ (sZ (sZ (sZ (sZ (sZ (sZ (sZ (sZ (sZ (sZ (sZ (sZ sN)))))))))))))))))))))))) (fun (v6_42 : Int) => (ts_assoc (ts_lt (po := fun (v7_43 : (List Int)) => [some (.ro (eQ v0)), some (.own (eI v1_3)), some (.own ((eL eS) v2_5)), some (.own (eI v3_8)), some (.own ((eM kS eI) s25)), none, some (.own (eI v6_42)), some (.own ((eL eI) v7_43)), none, none, none, none, none, none, none, none, none, none, none, none, none, none, none]) (dp_set (xp_l (Ty.ep_N (cp_c (ep_sl (ep_vr rfl rfl) (po_s ep_k rfl) (po_s ep_k rfl) (o_slQ _ _ _)) (cp_n (zo (o_listL (e := eI) rfl (fun _ => rfl)))))))) (fun (v7_43 : (List Int)) => (ts_assoc (ts_seq (J := fun (s58 : ((List Int))) => [some (.ro (eQ v0)), some (.own (eI v1_3)), some (.own ((eL eS) v2_5)), some (.own (eI v3_8)), some (.own ((eM kS eI) s25)), none, some (.own (eI v6_42)), some (.own ((eL eI) s58)), none, none, none, none, none, none, none, none, none, none, none, none, none, none, none]) (s_iff (tf_b (Ty.ef_2 (ck_f (Ty.ef_2 (ck_f (Ty.ef_2 (ck_f (Ty.ef_C (ck_p (ep_vr rfl rfl) (ck_p ep_k (ck_n (gc_f (tL_cell_at_ok v0 (0 : Int)) rfl))))) (fun (x50 : Int) => (ck_p ep_k (ck_np (f := fun c => .own (eI c)) (zo (r_divp (b := 10) (by decide) (by decide)))))))) (fun (x51 : Int) => (ck_p ep_k (ck_np (f := fun c => .own (eI c)) (zo (r_modp (b := 6) (by decide)))))))) (fun (x52 : Int) => (ck_p ep_k (ck_np (f := fun c => .own (eB c)) (zo (o_eqI _ _)))))))) (sZ (sZ (sZ (sZ (sZ (sZ (sZ (sZ (sZ (sZ (sZ (sZ (sZ (sZ (sZ (sZ (sZ (sZ (sZ (sZ (sZ (sZ (sZ sN))))))))))))))))))))))) (ts_pad (ts_df (po := fun (v7_62 : (List Int)) => [some (.ro (eQ v0)), some (.own (eI v1_3)), some (.own ((eL eS) v2_5)), some (.own (eI v3_8)), some (.own ((eM kS eI) s25)), none, some (.own (eI v6_42)), some (.own ((eL eI) v7_62)), none, none, none, none, none, none, none, none, none, none, none, none, none, none, none]) (df_set (ef_lcOf (g := fun c => c) (e0 := eI) (f := eI) (sp1 := fun (a59 : Int) => [some (.ro (eQ v0)), some (.ro (eI v1_3)), some (.ro ((eL eS) v2_5)), some (.ro (eI v3_8)), some (.ro ((eM kS eI) s25)), some (.own (eI a59)), some (.ro (eI v6_42)), some (.ro ((eL eI) v7_43)), none, none, none, none, none, none, none, none, none, none, none, none, none, none, none]) (if_r1 (r := .own (eI (200 : Int))) ep_k rfl) rfl (fun (a59 : Int) => (tg_c ((fun _ => rfl) _))) (fun (a59 : Int) => tf_true) (fun (a59 : Int) => (Ty.ef_C (ck_f (Ty.ef_C (ck_p (ep_vr rfl rfl) (ck_p ep_k (ck_n (gc_f (tL_cell_at_ok v0 (4 : Int)) rfl))))) (fun (x60 : Int) => (ck_p (ep_vc rfl (.inl rfl) ((fun _ => rfl) a59)) (ck_n (gc_f (tL_mix_ok x60 a59) rfl))))))) (fun _ => rfl)) (sZ (sZ (sZ (sZ (sZ (sZ (sZ (sZ (sZ (sZ (sZ (sZ (sZ (sZ (sZ (sZ (sZ (sZ (sZ (sZ (sZ (sZ (sZ sN)))))))))))))))))))))))) (fun (v7_62 : (List Int)) => (ts_end (sS (sS (sS (sS (sS (sZ (sS (sS (sZ (sZ (sZ (sZ (sZ (sZ (sZ (sZ (sZ (sZ (sZ (sZ (sZ (sZ (sZ sN))))))))))))))))))))))))))) (ts_pad (ts_skip (ts_end (sS (sS (sS (sS (sS (sZ (sS (sS (sZ (sZ (sZ (sZ (sZ (sZ (sZ (sZ (sZ (sZ (sZ (sZ (sZ (sZ (sZ sN))))))))))))))))))))))))))) (fun (s58 : ((List Int))) => (ts_assoc (ts_df (po := fun (v8_66 : (List Str)) => [some (.ro (eQ v0)), some (.own (eI v1_3)), some (.own ((eL eS) v2_5)), some (.own (eI v3_8)), some (.own ((eM kS eI) s25)), none, some (.own (eI v6_42)), some (.own ((eL eI) s58)), some (.own ((eL eS) v8_66)), none, none, none, none, none, none, none, none, none, none, none, none, none, none]) (df_set (ef_lc (e0 := eI) (f := eS) (ip_any (ep_vo rfl rfl) rfl) rfl (fun (a64 : Int) => tf_true) (fun (a64 : Int) => (Ty.ef_I (ck_p (ep_vr rfl rfl) (ck_f (Ty.ef_2 (ck_p (ep_vc rfl (.inl rfl) ((fun _ => rfl) a64)) (ck_p (ep_vc rfl (.inr rfl) ((fun _ => rfl) v1_3)) (ck_n (zof (o_mod _ _)))))) (fun (x65 : Int) => (ck_n (ixl (e := eS) rfl (fun x => zp_c ((fun _ => rfl) x))))))))) (fun _ => rfl) (fun _ => rfl)) (sZ (sZ (sZ (sZ (sZ (sZ (sZ (sZ (sZ (sZ (sZ (sZ (sZ (sZ (sZ (sZ (sZ (sZ (sZ (sZ (sZ (sZ (sZ sN)))))))))))))))))))))))) (fun (v8_66 : (List Str)) => (ts_assoc (ts_df (po := fun (v9_70 : ((List (Str × Int)) × (List (Str × Int)))) => [some (.ro (eQ v0)), some (.own (eI v1_3)), some (.own ((eL eS) v2_5)), some (.own (eI v3_8)), some (.own ((eM kS eI) s25)), none, some (.own (eI v6_42)), some (.own ((eL eI) s58)), some (.own ((eL eS) v8_66)), some (.own ((eZ (eO2 c_Stock (eM kS eI) (eM kS eI))) v9_70)), none, none, none, none, none, none, none, none, none, none, none, none, none]) (df_set (Ty.ef_Z (ck_f (Ty.ef_K (ck_f (ef_lcI (f := (eU3 eS eI eI)) (sp1 := fun (a67 : (Str × Int)) => [some (.ro (eQ v0)), some (.ro (eI v1_3)), some (.ro ((eL eS) v2_5)), some (.ro (eI v3_8)), some (.ro ((eM kS eI) s25)), none, some (.ro (eI v6_42)), some (.ro ((eL eI) s58)), some (.ro ((eL eS) v8_66)), none, none, none, none, none, none, none, none, none, some (.own (eS a67.1)), none, none, none, some (.own (eI a67.2))]) (kf := kS) (e := eI) (ek := eS) (fun _ => rfl) rfl (fun (a67 : (Str × Int)) => (tg_t (tgs_c (tg_c ((fun _ => rfl) _)) (tgs_c (tg_c ((fun _ => rfl) _)) tgs_n)))) (fun (a67 : (Str × Int)) => tf_true) (fun (a67 : (Str × Int)) => (ef_p (f := fun c => .own ((eU3 eS eI eI) c)) (Ty.ep_D (cp_c (ep_vc rfl (.inl rfl) ((fun _ => rfl) a67.1)) (cp_c ep_k (cp_c (ep_vc rfl (.inl rfl) ((fun _ => rfl) a67.2)) (cp_n (gd_ok rfl rfl)))))))) (fun _ => rfl) (fun _ => rfl)) (fun (x68 : (List (Str × Int × Int))) => (ck_n (gk_f (t_Stock_init_ok () x68) rfl (fun _ => ⟨_, rfl⟩)))))) (fun (x69 : ((List (Str × Int)) × (List (Str × Int)))) => (ck_np (f := fun c => .own ((eZ (eO2 c_Stock (eM kS eI) (eM kS eI))) c)) rfl)))) (sZ (sZ (sZ (sZ (sZ (sZ (sZ (sZ (sZ (sZ (sZ (sZ (sZ (sZ (sZ (sZ (sZ (sZ (sZ (sZ (sZ (sZ (sZ sN)))))))))))))))))))))))) (fun (v9_70 : ((List (Str × Int)) × (List (Str × Int)))) => (ts_assoc (ts_df (po := fun (x71 : ((List (Str × Bool × (List Str))) × (List (List Str)))) => [some (.ro (eQ v0)), some (.own (eI v1_3)), some (.own ((eL eS) v2_5)), some (.own (eI v3_8)), some (.own ((eM kS eI) s25)), none, some (.own (eI v6_42)), some (.own ((eL eI) s58)), some (.own ((eL eS) v8_66)), some (.own ((eZ (eO2 c_Stock (eM kS eI) (eM kS eI))) v9_70)), some (.own ((eL (eU3 eS eB (eL eS))) x71.1)), some (.own ((eL (eL eS)) x71.2)), none, none, none, none, none, none, none, none, none, none, none]) (df_uno (fa := (eU2 (eL (eU3 eS eB (eL eS))) (eL (eL eS)))) (Ty.ef_C (ck_p (ep_vo rfl rfl) (ck_p (ep_vo rfl rfl) (ck_p (ep_vo rfl rfl) (ck_p (ep_vc rfl (.inl rfl) ((fun _ => rfl) v6_42)) (ck_n (gc_f (tL_run_ok v8_66 s58 s25 v6_42) rfl))))))) (sZ (sZ (sZ (sZ (sZ (sZ (sZ (sZ (sZ (sZ (sZ (sZ (sZ (sZ (sZ (sZ (sZ (sZ (sZ (sZ (sZ (sZ (sZ sN))))))))))))))))))))))) (fun (x71 : ((List (Str × Bool × (List Str))) × (List (List Str)))) => (tgo_t (tgos_c tgo_n (tgos_c tgo_n tgos_n))))) (fun (x71 : ((List (Str × Bool × (List Str))) × (List (List Str)))) => (ts_assoc (ts_df (po := fun (v12_72 : (List (Str × Bool × (List Str)))) => [some (.ro (eQ v0)), some (.own (eI v1_3)), some (.own ((eL eS) v2_5)), some (.own (eI v3_8)), some (.own ((eM kS eI) s25)), none, some (.own (eI v6_42)), some (.own ((eL eI) s58)), some (.own ((eL eS) v8_66)), some (.own ((eZ (eO2 c_Stock (eM kS eI) (eM kS eI))) v9_70)), some (.own ((eL (eU3 eS eB (eL eS))) x71.1)), some (.own ((eL (eL eS)) x71.2)), some (.own ((eL (eU3 eS eB (eL eS))) v12_72)), none, none, none, none, none, none, none, none, none, none]) (df_set (Ty.ef_C (ck_p (ep_vo rfl rfl) (ck_n (gc_f (tL_copy_ok x71.1) rfl)))) (sZ (sZ (sZ (sZ (sZ (sZ (sZ (sZ (sZ (sZ (sZ (sZ (sZ (sZ (sZ (sZ (sZ (sZ (sZ (sZ (sZ (sZ (sZ sN)))))))))))))))))))))))) (fun (v12_72 : (List (Str × Bool × (List Str)))) => (ts_assoc (ts_dp (sp' := [some (.ro (eQ v0)), some (.own (eI v1_3)), some (.own ((eL eS) v2_5)), some (.own (eI v3_8)), some (.own ((eM kS eI) s25)), none, some (.own (eI v6_42)), some (.own ((eL eI) s58)), some (.own ((eL eS) v8_66)), some (.own ((eZ (eO2 c_Stock (eM kS eI) (eM kS eI))) v9_70)), some (.own ((eL (eU3 eS eB (eL eS))) x71.1)), some (.own ((eL (eL eS)) x71.2)), some (.own ((eL (eU3 eS eB (eL eS))) v12_72)), some (.own ((eL eS) v8_66)), none, none, none, none, none, none, none, none, none]) (dp_set (xp_l (Ty.ep_N (cp_c (ep_vo rfl rfl) (cp_n (zo (o_listL (e := eS) rfl (fun _ => rfl)))))))) (ts_assoc (ts_df (po := fun (v14_73 : (List (List Str))) => [some (.ro (eQ v0)), some (.own (eI v1_3)), some (.own ((eL eS) v2_5)), some (.own (eI v3_8)), some (.own ((eM kS eI) s25)), none, some (.own (eI v6_42)), some (.own ((eL eI) s58)), some (.own ((eL eS) v8_66)), some (.own ((eZ (eO2 c_Stock (eM kS eI) (eM kS eI))) v9_70)), some (.own ((eL (eU3 eS eB (eL eS))) x71.1)), some (.own ((eL (eL eS)) x71.2)), some (.own ((eL (eU3 eS eB (eL eS))) v12_72)), some (.own ((eL eS) v8_66)), some (.own ((eL (eL eS)) v14_73)), none, none, none, none, none, none, none, none]) (df_set (Ty.ef_C (ck_p (ep_vc rfl (.inl rfl) ((fun _ => rfl) v9_70)) (ck_p (ep_vo rfl rfl) (ck_p (ep_vc rfl (.inl rfl) ((fun _ => rfl) v6_42)) (ck_p (ep_vo rfl rfl) (ck_n (gc_f (t_lying_after_ok v9_70 v8_66 v6_42 v12_72) rfl))))))) (sZ (sZ (sZ (sZ (sZ (sZ (sZ (sZ (sZ (sZ (sZ (sZ (sZ (sZ (sZ (sZ (sZ (sZ (sZ (sZ (sZ (sZ (sZ sN)))))))))))))))))))))))) (fun (v14_73 : (List (List Str))) => (ts_assoc (ts_dist (s_iff (tf_or (tf_no (tf_b (Ty.ef_C (ck_p (ep_vo rfl rfl) (ck_p (ep_vo rfl rfl) (ck_n (gc_f (tL_lists_ok v14_73 x71.2) rfl))))))) (tf_or (tf_b (Ty.ef_2 (ck_p (ep_vo rfl rfl) (ck_p (ep_vo rfl rfl) (ck_n (zof (o_ne (eqe_l (eqe_u3 eqe_s eqe_b (eqe_l eqe_s))) _ _ rfl rfl))))))) (tf_b (Ty.ef_2 (ck_p (ep_vo rfl rfl) (ck_p (ep_vo rfl rfl) (ck_n (zof (o_ne (eqe_l eqe_s) _ _ rfl rfl))))))))) (sZ (sZ (sZ (sZ (sZ (sZ (sZ (sZ (sZ (sZ (sZ (sZ (sZ (sZ (sZ (sZ (sZ (sZ (sZ (sZ (sZ (sZ (sZ sN))))))))))))))))))))))) (ts_retp (xp_l ep_k) (sZ (sZ (sZ (sZ (sZ (sZ (sZ (sZ (sZ (sZ (sZ (sZ (sZ (sZ (sZ (sZ (sZ (sZ (sZ (sZ (sZ (sZ (sZ sN)))))))))))))))))))))))) (ts_skip (ts_assoc (ts_seq (J := fun (s100 : (List (List Str) × Unit)) => [none, none, none, none, none, none, some (.own (eI v6_42)), none, none, some (.own ((eZ (eO2 c_Stock (eM kS eI) (eM kS eI))) v9_70)), none, some (.own ((eL (eL eS)) x71.2)), some (.own ((eL (eU3 eS eB (eL eS))) v12_72)), some (.own ((eL eS) v8_66)), some (.own ((eL (eL eS)) s100.1)), none, none, none, none, none, none, none, none]) (s_forE2 (X2 := (⟨eB, fun (k : Unit) => [none, none, none, none, none, none, none, none, none, none, none, none, none, none, none, none, none, none, none, none, none, none, none], Empty.elim, fun (_ : Unit) => [none, none, none, none, none, none, none, none, none, none, none, none, none, none, none, none, none, none, none, none, none, none, none]⟩ : Xt Bool Unit Empty Unit)) (K := [14, 11, 9, 13, 6, 12]) (i := 14) (q0 := 15) (j := 16) (e := (eL eS)) (J := fun (s86 : Unit) => [none, none, none, none, none, none, some (.own (eI v6_42)), none, none, some (.own ((eZ (eO2 c_Stock (eM kS eI) (eM kS eI))) v9_70)), none, some (.own ((eL (eL eS)) x71.2)), some (.own ((eL (eU3 eS eB (eL eS))) v12_72)), some (.own ((eL eS) v8_66)), none, none, none, none, none, none, none, none, none]) (Jb := fun (aop : Addr) (pk : (List (List Str) × List (List Str))) (n_88 : Int) (a87 : (List Str)) (s86 : Unit) => [none, none, none, none, none, none, some (.own (eI v6_42)), none, none, some (.own ((eZ (eO2 c_Stock (eM kS eI) (eM kS eI))) v9_70)), none, some (.own ((eL (eL eS)) x71.2)), some (.own ((eL (eU3 eS eB (eL eS))) v12_72)), some (.own ((eL eS) v8_66)), some (.own ((eMkL aop (eL eS)) pk)), some (.own (eI n_88)), some (.own ((eL eS) a87)), none, none, none, none, none, none]) (Jc := fun (aop : Addr) (pk : (List (List Str) × List (List Str))) (a89 : (List Str)) (s86 : Unit) => [none, none, none, none, none, none, some (.own (eI v6_42)), none, none, some (.own ((eZ (eO2 c_Stock (eM kS eI) (eM kS eI))) v9_70)), none, some (.own ((eL (eL eS)) x71.2)), some (.own ((eL (eU3 eS eB (eL eS))) v12_72)), some (.own ((eL eS) v8_66)), some (.own ((eMkL aop (eL eS)) pk)), none, some (.own ((eL eS) a89)), none, none, none, none, none, none]) (Jf := fun (s100 : (List (List Str) × Unit)) => [none, none, none, none, none, none, some (.own (eI v6_42)), none, none, some (.own ((eZ (eO2 c_Stock (eM kS eI) (eM kS eI))) v9_70)), none, some (.own ((eL (eL eS)) x71.2)), some (.own ((eL (eU3 eS eB (eL eS))) v12_72)), some (.own ((eL eS) v8_66)), some (.own ((eL (eL eS)) s100.1)), none, none, none, none, none, none, none, none]) (by decide) (by decide) (fun _ => rfl) (fun _ => ⟨(by decide : (14 : Nat) < 23), (by decide : (16 : Nat) < 23), (by decide : (15 : Nat) < 23)⟩) (fun _ _ _ _ _ => rfl) (fun _ _ _ _ => rfl) (fun _ => rfl) (sZ (sZ (sZ (sZ (sZ (sZ (sS (sZ (sZ (sS (sZ (sS (sS (sS (sS (sZ (sZ (sZ (sZ (sZ (sZ (sZ (sZ sN))))))))))))))))))))))) (fun (aop : Addr) (pk : (List (List Str) × List (List Str))) (n_88 : Int) (a87 : (List Str)) (s86 : Unit) => ts_pad (ts_assoc (ts_df (po := fun (v16_90 : (List Str)) => [none, none, none, none, none, none, some (.own (eI v6_42)), none, none, some (.own ((eZ (eO2 c_Stock (eM kS eI) (eM kS eI))) v9_70)), none, some (.own ((eL (eL eS)) x71.2)), some (.own ((eL (eU3 eS eB (eL eS))) v12_72)), some (.own ((eL eS) v8_66)), some (.own ((eMkL aop (eL eS)) pk)), some (.own (eI n_88)), some (.own ((eL eS) v16_90)), none, none, none, none, none, none]) (df_mutp (γ := Unit) (c := ()) (fd := fun _ => [eS ("zz" : Str)]) (f := (eL eS)) (pl_v rfl) rfl rfl rfl (rw_p ep_k (rw_n (ta_r ta_n))) rfl (mu_gd (fun h => (q_app (e := eS) rfl h)) rfl) (sZ (sZ (sZ (sZ (sZ (sZ (sZ (sZ (sZ (sZ (sZ (sZ (sZ (sZ (sZ (sZ (sZ (sZ (sZ (sZ (sZ (sZ (sZ sN)))))))))))))))))))))))) (fun (v16_90 : (List Str)) => (ts_dist (s_iff (tf_an (tf_p (tp_b (xp_l (Ty.ep_2 (cp_c (Ty.ep_2 (cp_c (ep_vc rfl (.inl rfl) ((fun _ => rfl) n_88)) (cp_c ep_k (cp_n (zo (r_add _ _)))))) (cp_c (Ty.ep_N (cp_c (ep_vo rfl rfl) (cp_n (zo (o_lenK (e := (eL eS)) rfl))))) (cp_n (zo (r_lt _ _))))))))) (tf_b (Ty.ef_2 (ck_f (Ty.ef_I (ck_p (ep_vo rfl rfl) (ck_p (Ty.ep_2 (cp_c (ep_vc rfl (.inl rfl) ((fun _ => rfl) n_88)) (cp_c ep_k (cp_n (zo (r_add _ _)))))) (ck_n (ixk (e := (eL eS)) rfl (fun x => zp_b rfl)))))) (fun (x97 : (List Str)) => (ck_f (Ty.ef_I (ck_p (ep_vo rfl rfl) (ck_p (Ty.ep_2 (cp_c (ep_vc rfl (.inl rfl) ((fun _ => rfl) n_88)) (cp_c ep_k (cp_n (zo (r_add _ _)))))) (ck_n (ixl (e := (eL eS)) rfl (fun x => zp_b rfl)))))) (fun (x98 : (List Str)) => (ck_n (zof (o_ne (eqe_l eqe_s) _ _ rfl rfl)))))))))) (sZ (sZ (sZ (sZ (sZ (sZ (sZ (sZ (sZ (sZ (sZ (sZ (sZ (sZ (sZ (sZ (sZ (sZ (sZ (sZ (sZ (sZ (sZ sN))))))))))))))))))))))) (ts_retp (xp_l ep_k) (sZ (sZ (sZ (sZ (sZ (sZ (sZ (sZ (sZ (sZ (sZ (sZ (sZ (sZ (sZ (sZ (sZ (sZ (sZ (sZ (sZ (sZ (sZ sN)))))))))))))))))))))))) (ts_skip (ts_end (sZ (sZ (sZ (sZ (sZ (sZ (sS (sZ (sZ (sS (sZ (sS (sS (sS (sS (sZ (sS (sZ (sZ (sZ (sZ (sZ (sZ sN))))))))))))))))))))))))))))))) (fun _ => rfl) (fun _ _ => rfl) (fun _ _ => rfl)) (fun (s100 : (List (List Str) × Unit)) => (ts_assoc (ts_df (po := fun (v14_101 : (List (List Str))) => [none, none, none, none, none, none, some (.own (eI v6_42)), none, none, some (.own ((eZ (eO2 c_Stock (eM kS eI) (eM kS eI))) v9_70)), none, some (.own ((eL (eL eS)) x71.2)), some (.own ((eL (eU3 eS eB (eL eS))) v12_72)), some (.own ((eL eS) v8_66)), some (.own ((eL (eL eS)) v14_101)), none, none, none, none, none, none, none, none]) (df_mutp (γ := Unit) (c := ()) (fd := fun _ => []) (f := (eL (eL eS))) (pl_v rfl) rfl rfl rfl (rw_n ta_n) rfl (mu_ok (q_clr (e := (eL eS))) rfl) (sZ (sZ (sZ (sZ (sZ (sZ (sZ (sZ (sZ (sZ (sZ (sZ (sZ (sZ (sZ (sZ (sZ (sZ (sZ (sZ (sZ (sZ (sZ sN)))))))))))))))))))))))) (fun (v14_101 : (List (List Str))) => (ts_assoc (ts_df (po := fun (v17_102 : (List (List Str))) => [none, none, none, none, none, none, some (.own (eI v6_42)), none, none, some (.own ((eZ (eO2 c_Stock (eM kS eI) (eM kS eI))) v9_70)), none, some (.own ((eL (eL eS)) x71.2)), some (.own ((eL (eU3 eS eB (eL eS))) v12_72)), some (.own ((eL eS) v8_66)), some (.own ((eL (eL eS)) v14_101)), none, none, some (.own ((eL (eL eS)) v17_102)), none, none, none, none, none]) (df_set (Ty.ef_C (ck_p (ep_vc rfl (.inl rfl) ((fun _ => rfl) v9_70)) (ck_p (ep_vo rfl rfl) (ck_p (ep_vc rfl (.inl rfl) ((fun _ => rfl) v6_42)) (ck_p (ep_vo rfl rfl) (ck_n (gc_f (t_lying_after_ok v9_70 v8_66 v6_42 v12_72) rfl))))))) (sZ (sZ (sZ (sZ (sZ (sZ (sZ (sZ (sZ (sZ (sZ (sZ (sZ (sZ (sZ (sZ (sZ (sZ (sZ (sZ (sZ (sZ (sZ sN)))))))))))))))))))))))) (fun (v17_102 : (List (List Str))) => (ts_assoc (ts_seq (J := fun (s111 : (List (Str × Bool × (List Str)) × Unit)) => [none, none, none, none, none, none, none, none, none, none, none, some (.own ((eL (eL eS)) x71.2)), some (.own ((eL (eU3 eS eB (eL eS))) s111.1)), some (.own ((eL eS) v8_66)), none, none, none, some (.own ((eL (eL eS)) v17_102)), none, none, none, none, none]) (s_forT2 (X2 := (⟨eB, fun (k : Unit) => [none, none, none, none, none, none, none, none, none, none, none, none, none, none, none, none, none, none, none, none, none, none, none], Empty.elim, fun (_ : Unit) => [none, none, none, none, none, none, none, none, none, none, none, none, none, none, none, none, none, none, none, none, none, none, none]⟩ : Xt Bool Unit Empty Unit)) (K := [12, 17, 11, 13]) (i := 12) (p0 := 18) (q0 := 19) (j := 20) (e1 := eS) (e2 := eB) (e := (eL eS)) (J := fun (s106 : Unit) => [none, none, none, none, none, none, none, none, none, none, none, some (.own ((eL (eL eS)) x71.2)), none, some (.own ((eL eS) v8_66)), none, none, none, some (.own ((eL (eL eS)) v17_102)), none, none, none, none, none]) (Jb := fun (ds : List D) (a107 : (Str × Bool × (List Str))) (s106 : Unit) => [none, none, none, none, none, none, none, none, none, none, none, some (.own ((eL (eL eS)) x71.2)), some (.own (eW ds)), some (.own ((eL eS) v8_66)), none, none, none, some (.own ((eL (eL eS)) v17_102)), some (.own (eS a107.1)), some (.own (eB a107.2.1)), some (.own ((eL eS) a107.2.2)), none, none]) (Jc := fun (ds : List D) (a109 : (List Str)) (s106 : Unit) => [none, none, none, none, none, none, none, none, none, none, none, some (.own ((eL (eL eS)) x71.2)), some (.own (eW ds)), some (.own ((eL eS) v8_66)), none, none, none, some (.own ((eL (eL eS)) v17_102)), none, none, some (.own ((eL eS) a109)), none, none]) (Jf := fun (s111 : (List (Str × Bool × (List Str)) × Unit)) => [none, none, none, none, none, none, none, none, none, none, none, some (.own ((eL (eL eS)) x71.2)), some (.own ((eL (eU3 eS eB (eL eS))) s111.1)), some (.own ((eL eS) v8_66)), none, none, none, some (.own ((eL (eL eS)) v17_102)), none, none, none, none, none]) (by decide) (by decide) (by decide) (fun _ => rfl) (fun _ => ⟨_, rfl⟩) (fun _ => ⟨_, rfl⟩) (fun _ => ⟨(by decide : (12 : Nat) < 23), (by decide : (20 : Nat) < 23), (by decide : (19 : Nat) < 23), (by decide : (18 : Nat) < 23)⟩) (fun _ _ _ => rfl) (fun _ _ _ => rfl) (fun _ => rfl) (sZ (sZ (sZ (sZ (sZ (sZ (sZ (sZ (sZ (sZ (sZ (sS (sS (sS (sZ (sZ (sZ (sS (sZ (sZ (sZ (sZ (sZ sN))))))))))))))))))))))) (fun (ds : List D) (a107 : (Str × Bool × (List Str))) (s106 : Unit) => ts_pad (ts_df (po := fun (v20_110 : (List Str)) => [none, none, none, none, none, none, none, none, none, none, none, some (.own ((eL (eL eS)) x71.2)), some (.own (eW ds)), some (.own ((eL eS) v8_66)), none, none, none, some (.own ((eL (eL eS)) v17_102)), some (.own (eS a107.1)), some (.own (eB a107.2.1)), some (.own ((eL eS) v20_110)), none, none]) (df_mutp (γ := Unit) (c := ()) (fd := fun _ => [eS ("zz" : Str)]) (f := (eL eS)) (pl_v rfl) rfl rfl rfl (rw_p ep_k (rw_n (ta_r ta_n))) rfl (mu_gd (fun h => (q_app (e := eS) rfl h)) rfl) (sZ (sZ (sZ (sZ (sZ (sZ (sZ (sZ (sZ (sZ (sZ (sZ (sZ (sZ (sZ (sZ (sZ (sZ (sZ (sZ (sZ (sZ (sZ sN)))))))))))))))))))))))) (fun (v20_110 : (List Str)) => (ts_end (sZ (sZ (sZ (sZ (sZ (sZ (sZ (sZ (sZ (sZ (sZ (sS (sS (sS (sZ (sZ (sZ (sS (sZ (sZ (sS (sZ (sZ sN))))))))))))))))))))))))))) (fun _ => rfl) (fun _ _ => rfl) (fun _ _ => rfl)) (fun (s111 : (List (Str × Bool × (List Str)) × Unit)) => (ts_assoc (ts_df (po := fun (v12_112 : (List (Str × Bool × (List Str)))) => [none, none, none, none, none, none, none, none, none, none, none, some (.own ((eL (eL eS)) x71.2)), some (.own ((eL (eU3 eS eB (eL eS))) v12_112)), some (.own ((eL eS) v8_66)), none, none, none, some (.own ((eL (eL eS)) v17_102)), none, none, none, none, none]) (df_mutp (γ := Unit) (c := ()) (fd := fun _ => []) (f := (eL (eU3 eS eB (eL eS)))) (pl_v rfl) rfl rfl rfl (rw_n ta_n) rfl (mu_ok (q_clr (e := (eU3 eS eB (eL eS)))) rfl) (sZ (sZ (sZ (sZ (sZ (sZ (sZ (sZ (sZ (sZ (sZ (sZ (sZ (sZ (sZ (sZ (sZ (sZ (sZ (sZ (sZ (sZ (sZ sN)))))))))))))))))))))))) (fun (v12_112 : (List (Str × Bool × (List Str)))) => (ts_assoc (ts_df (po := fun (v13_113 : (List Str)) => [none, none, none, none, none, none, none, none, none, none, none, some (.own ((eL (eL eS)) x71.2)), some (.own ((eL (eU3 eS eB (eL eS))) v12_112)), some (.own ((eL eS) v13_113)), none, none, none, some (.own ((eL (eL eS)) v17_102)), none, none, none, none, none]) (df_mutp (γ := Unit) (c := ()) (fd := fun _ => []) (f := (eL eS)) (pl_v rfl) rfl rfl rfl (rw_n ta_n) rfl (mu_ok (q_clr (e := eS)) rfl) (sZ (sZ (sZ (sZ (sZ (sZ (sZ (sZ (sZ (sZ (sZ (sZ (sZ (sZ (sZ (sZ (sZ (sZ (sZ (sZ (sZ (sZ (sZ sN)))))))))))))))))))))))) (fun (v13_113 : (List Str)) => (ts_retf (g := fun (x114 : Bool) => x114) (Ty.ef_C (ck_p (ep_vo rfl rfl) (ck_p (ep_vo rfl rfl) (ck_n (gc_f (tL_lists_ok v17_102 x71.2) rfl))))) (fun _ => rfl) (sZ (sZ (sZ (sZ (sZ (sZ (sZ (sZ (sZ (sZ (sZ (sZ (sZ (sZ (sZ (sZ (sZ (sZ (sZ (sZ (sZ (sZ (sZ sN))))))))))))))))))))))) (sZ (sZ (sZ (sZ (sZ (sZ (sZ (sZ (sZ (sZ (sZ (sZ (sZ (sZ (sZ (sZ (sZ (sZ (sZ (sZ (sZ (sZ (sZ sN))))))))))))))))))))))))))))))))))))))))))))))))))))))))))))))))))))))))))))))))))))))) (sS (sZ (sZ (sZ (sZ (sZ (sZ (sZ (sZ (sZ (sZ (sZ (sZ (sZ (sZ (sZ (sZ (sZ (sZ (sZ (sZ (sZ (sZ sN)))))))))))))))))))))))) (fun _ => trivial) (fun _ => (pZ pN)) (fun _ => (pZ pN))
end G
namespace G
open PySem L2 Tr Ty
def cell (ns : List Int) (k : Nat) : Int := ns.getD k 0
abbrev FG : Str := "0123456789"
abbrev LT : Str := "abcdefghijklmnopqrstuvwxyz"
abbrev SG : Str := "abcdefghijklmnopqrstuvwxyz0123456789"
theorem fg_cps : FG.cps.toList = [48, 49, 50, 51, 52, 53, 54, 55, 56, 57] := by decide +kernel
theorem lt_cps : LT.cps.toList = [97, 98, 99, 100, 101, 102, 103, 104, 105, 106, 107, 108, 109, 110, 111, 112, 113, 114, 115, 116, 117, 118, 119, 120, 121, 122] := by decide +kernel
theorem sg_cps : SG.cps.toList = [97, 98, 99, 100, 101, 102, 103, 104, 105, 106, 107, 108, 109, 110, 111, 112, 113, 114, 115, 116, 117, 118, 119, 120, 121, 122, 48, 49, 50, 51, 52, 53, 54, 55, 56, 57] := by decide +kernel
def dig (c : Nat) : Bool := decide (48 ≤ c ∧ c ≤ 57)
def lett (c : Nat) : Bool := decide (97 ≤ c ∧ c ≤ 122)
def dl (c : Nat) : Bool := lett c || dig c
theorem mem_fg (c : Nat) : decide (c ∈ FG.cps.toList) = dig c := by
  rw [fg_cps, dig, decide_eq_decide]; simp; omega
theorem mem_lt (c : Nat) : decide (c ∈ LT.cps.toList) = lett c := by
  rw [lt_cps, lett, decide_eq_decide]; simp; omega
/-- a text by its signs -/
def tx (cs : List Nat) : Str := ⟨cs.toArray⟩
@[simp] theorem tx_cps (cs : List Nat) : (tx cs).cps.toList = cs := by simp [tx]
@[simp] theorem tx_len (cs : List Nat) : (tx cs).length = cs.length := by simp [tx, Str.length]
theorem tx_of (z : Str) : z = tx z.cps.toList := by simp [tx]
theorem tx_app (a b : List Nat) : tx a ++ tx b = tx (a ++ b) := by
  rw [tx_of (tx a ++ tx b), x_cps]; simp
theorem tx_inj {a b : List Nat} : tx a = tx b ↔ a = b := ⟨fun h => by have := congrArg (fun z : Str => z.cps.toList) h; simpa using this, fun h => by rw [h]⟩
theorem tx_nil : ("" : Str) = tx [] := by decide +kernel
def nmL (cs : List Nat) : Bool := decide (1 ≤ cs.length ∧ cs.length ≤ 8) && cs.all dl && (match cs with | c :: _ => lett c | [] => false)
def nm (z : Str) : Bool := nmL z.cps.toList
theorem nm_tx (cs : List Nat) : nm (tx cs) = nmL cs := by simp [nm]
theorem nm_len {z : Str} (h : nm z = true) : 1 ≤ z.length ∧ z.length ≤ 8 := by
  simp only [nm, nmL, Bool.and_eq_true, decide_eq_true_eq] at h
  rw [← x_len]; exact h.1.1
theorem dl_ok {c : Nat} (h : dl c = true) : c < 1000 := by
  simp only [dl, lett, dig, Bool.or_eq_true, decide_eq_true_eq] at h; omega
theorem nm_ok {z : Str} (h : nm z = true) : OkT 8 z := by
  refine ⟨strOk_iff.mpr fun c hc => ?_, (nm_len h).2⟩
  simp only [nm, nmL, Bool.and_eq_true] at h
  have := dl_ok (List.all_eq_true.mp h.1.2 c hc)
  omega
def PyOk (n : Nat) (d : D) : Prop := ∃ p, toPy d = some p ∧ p.canLay0 = true ∧ p.depth ≤ n
theorem PyOk.mono {n m : Nat} {d : D} (h : PyOk n d) (k : n ≤ m) : PyOk m d := by
  obtain ⟨p, h1, h2, h3⟩ := h
  exact ⟨p, h1, h2, Nat.le_trans h3 k⟩
def sgL : List Nat := [97, 98, 99, 100, 101, 102, 103, 104, 105, 106, 107, 108, 109, 110, 111, 112, 113, 114, 115, 116, 117, 118, 119, 120, 121, 122, 48, 49, 50, 51, 52, 53, 54, 55, 56, 57]
def sgn (i n : Int) : Nat := sgL.getD (i % n).toNat 0
theorem sg_tx : SG = tx sgL := by rw [tx_of SG, sg_cps]; rfl
theorem sgl_dl : ∀ k : Nat, k < 36 → dl (sgL.getD k 0) = true := by decide
theorem sgl_lett : ∀ k : Nat, k < 26 → lett (sgL.getD k 0) = true := by decide
theorem sgl_inj : ∀ k : Nat, k < 36 → ∀ l : Nat, l < 36 → sgL.getD k 0 = sgL.getD l 0 → k = l := by decide
theorem sgn_dl {i n : Int} (h0 : 0 < n) (hn : n ≤ 36) : dl (sgn i n) = true := by
  have b1 := Int.emod_nonneg i (show n ≠ 0 by omega)
  have b2 := Int.emod_lt_of_pos i h0
  exact sgl_dl _ (by omega)
theorem sgn_lett {i : Int} : lett (sgn i 26) = true := by
  have b2 := Int.emod_lt_of_pos i (show (0 : Int) < 26 by omega)
  exact sgl_lett _ (by omega)
theorem sgn_inj {i j n : Int} (h0 : 0 < n) (hn : n ≤ 36) (h : sgn i n = sgn j n) : i % n = j % n := by
  have b1 := Int.emod_nonneg i (show n ≠ 0 by omega)
  have b2 := Int.emod_lt_of_pos i h0
  have b3 := Int.emod_nonneg j (show n ≠ 0 by omega)
  have b4 := Int.emod_lt_of_pos j h0
  have := sgl_inj _ (by omega) _ (by omega) h
  omega
/-- a drawn name: long signs, the first a letter -/
def drawn (f : Nat → Int) (long : Nat) : List Nat := (List.range long).map fun j => if j = 0 then sgn (f j) 26 else sgn (f j) 36
theorem drawn_len (f : Nat → Int) (long : Nat) : (drawn f long).length = long := by simp [drawn]
theorem drawn_nm (f : Nat → Int) {long : Nat} (h1 : 1 ≤ long) (h8 : long ≤ 8) : nm (tx (drawn f long)) = true := by
  rw [nm_tx]
  have hall : (drawn f long).all dl = true := by
    rw [List.all_eq_true]
    intro c hc
    obtain ⟨j, _, rfl⟩ := List.mem_map.mp hc
    split
    · exact sgn_dl (by decide) (by decide)
    · exact sgn_dl (by decide) (by decide)
  obtain ⟨l, rfl⟩ : ∃ l, long = l + 1 := ⟨long - 1, by omega⟩
  have hd : drawn f (l + 1) = sgn (f 0) 26 :: ((List.range l).map fun j => sgn (f (j + 1)) 36) := by
    simp [drawn, List.range_succ_eq_map, List.map_map, Function.comp]
  unfold nmL
  rw [hall, drawn_len]
  rw [hd]
  simp [sgn_lett, h8]
theorem drawn_succ (f : Nat → Int) (l : Nat) : drawn f (l + 1) = drawn f l ++ [if l = 0 then sgn (f l) 26 else sgn (f l) 36] := by
  simp [drawn, List.range_succ]
theorem drawn_at {f : Nat → Int} {long j : Nat} (h : j < long) : (drawn f long)[j]? = some (if j = 0 then sgn (f j) 26 else sgn (f j) 36) := by
  simp [drawn, h]
theorem emod_small {a k l n : Int} (h0 : 0 < n) (hk : 0 ≤ k ∧ k < n) (hl : 0 ≤ l ∧ l < n) (h : (a + k) % n = (a + l) % n) : k = l := by
  have h1 : (a + k - (a + l)) % n = 0 := Int.emod_eq_emod_iff_emod_sub_eq_zero.mp h
  have h2 : (k - l) % n = 0 := by rw [show a + k - (a + l) = k - l by omega] at h1; exact h1
  obtain ⟨q, hq⟩ := Int.dvd_of_emod_eq_zero h2
  have : q = 0 := by
    rcases Int.lt_trichotomy q 0 with h | h | h
    · have : n * q ≤ n * (-1) := Int.mul_le_mul_of_nonneg_left (by omega) (by omega)
      omega
    · exact h
    · have : n * 1 ≤ n * q := Int.mul_le_mul_of_nonneg_left (by omega) (by omega)
      omega
  subst this
  omega
section
variable {α β γ κ ζ σ σ' ρ l ξ : Type}
theorem atI_nn (xs : List α) {i : Int} (h : 0 ≤ i) : L2.atI xs i = xs[i.toNat]? := by
  obtain ⟨k, rfl⟩ : ∃ k : Nat, i = k := ⟨i.toNat, by omega⟩
  rw [Tr.atI_nat, Int.toNat_natCast]
theorem getI_ok {xs : List α} {i : Int} {x : α} (h : 0 ≤ i) (hx : xs[i.toNat]? = some x) : getI xs i = .ok x := by
  unfold getI; rw [atI_nn xs h, hx]; rfl
theorem getS_tx {cs : List Nat} {i : Int} {c : Nat} (h : 0 ≤ i) (hc : cs[i.toNat]? = some c) (hl : cs.length ≤ 1000000) : getS (tx cs) i = .ok c := by
  unfold getS
  rw [if_pos (by rw [tx_len]; exact hl), tx_cps, atI_nn _ h, hc]; rfl
theorem addS_tx {a b : List Nat} (h : a.length + b.length ≤ 1000000) : addS (tx a) (tx b) = .ok (tx (a ++ b)) := by
  unfold addS
  rw [gd_t (by rw [tx_len, tx_len]; exact h), tx_app]
theorem chS_tx (c : Nat) : chS c = tx [c] := rfl
theorem mulR_ok {a b : Int} (ha : a.natAbs < 10 ^ 900) (hb : b.natAbs < 10 ^ 900) : mulR a b = .ok (a * b) := gd_t (mul_ok ha hb) _
theorem modR_ok {a b : Int} (h : 0 < b) : modR a b = .ok (a % b) := by
  unfold modR; rw [gd_t (by omega), fmd_pos h]
theorem divR_ok {a b : Int} (h : 0 < b) (hb : b.natAbs < 10 ^ 900) : divR a b = .ok (a / b) := by
  unfold divR; rw [gd_t (div_ok (by omega) hb), fdv_pos h]
theorem rg1_ok {n : Int} (h0 : -1000000 ≤ n) (h1 : n ≤ 100000000) : rg1R n = .ok (rgL 0 n.toNat) := gd_t (decide_eq_true (by omega)) _
theorem rgL_eq (n : Nat) : rgL 0 n = (List.range n).map fun k : Nat => (k : Int) := by
  unfold rgL; apply List.map_congr_left; intro a _; omega
theorem rgL_len (lo : Int) (n : Nat) : (rgL lo n).length = n := by simp [rgL]
theorem rgL_mem {n : Nat} {i : Int} (h : i ∈ rgL 0 n) : 0 ≤ i ∧ i < n := by
  rw [rgL_eq] at h
  obtain ⟨k, hk, rfl⟩ := List.mem_map.mp h
  rw [List.mem_range] at hk; omega
theorem lcG_ok {xs : List α} {E : α → R β} {g : α → β} (hl : xs.length ≤ 1000000) (h : ∀ a ∈ xs, E a = .ok (g a)) : Ty.lcG xs (fun _ => .ok true) E = .ok (xs.map g) := by
  have : ∀ ys : List α, (∀ a ∈ ys, E a = .ok (g a)) → lcR (fun _ => .ok true) E ys = .ok (ys.map g) := fun ys => by
    induction ys with
    | nil => intro _; rfl
    | cons a ys ih => intro h; simp only [lcR, h a List.mem_cons_self, ih fun b hb => h b (List.mem_cons_of_mem _ hb), List.map_cons]
  unfold Ty.lcG; rw [if_pos hl, this xs h]
theorem lcG_okf {xs : List α} {t : α → R Bool} {p : α → Bool} {E : α → R β} {g : α → β} (hl : xs.length ≤ 1000000) (ht : ∀ a ∈ xs, t a = .ok (p a)) (h : ∀ a ∈ xs, p a = true → E a = .ok (g a)) : Ty.lcG xs t E = .ok ((xs.filter p).map g) := by
  have : ∀ ys : List α, (∀ a ∈ ys, t a = .ok (p a)) → (∀ a ∈ ys, p a = true → E a = .ok (g a)) → lcR t E ys = .ok ((ys.filter p).map g) := fun ys => by
    induction ys with
    | nil => intro _ _; rfl
    | cons a ys ih =>
      intro ht h
      have ih := ih (fun b hb => ht b (List.mem_cons_of_mem _ hb)) fun b hb => h b (List.mem_cons_of_mem _ hb)
      have h1 := ht a List.mem_cons_self
      cases hp : p a with
      | true => simp only [lcR, h1, hp, h a List.mem_cons_self hp, ih, List.filter_cons, reduceIte, List.map_cons]
      | false => simp only [lcR, h1, hp, ih, List.filter_cons, Bool.false_eq_true, reduceIte]
  unfold Ty.lcG; rw [if_pos hl, this xs ht h]
/-- a loop that only goes on -/
theorem forR_fold {B : α → σ → SR σ ρ κ σ ξ} {g : σ → α → σ} {P : Nat → σ → Prop} : ∀ (xs : List α) (k : Nat) (s : σ), P k s → (∀ j a s, xs[j]? = some a → P (k + j) s → B a s = .nx (g s a) ∧ P (k + j + 1) (g s a)) → (forR B xs s : SR σ ρ κ l ξ) = .nx (xs.foldl g s) ∧ P (k + xs.length) (xs.foldl g s)
  | [], k, s, h, _ => ⟨rfl, h⟩
  | a :: xs, k, s, h, st => by
    obtain ⟨e, h1⟩ := st 0 a s rfl h
    have ih := forR_fold xs (k + 1) (g s a) h1 fun j b t hj hp => by
      have := st (j + 1) b t (by simpa using hj) (by rw [show k + (j + 1) = k + 1 + j by omega]; exact hp)
      rw [show k + (j + 1) + 1 = k + 1 + j + 1 by omega] at this
      exact this
    rw [show k + 1 + xs.length = k + (a :: xs).length by simp; omega] at ih
    refine ⟨?_, ih.2⟩
    simp only [forR, e]; exact ih.1
end
theorem forR_step {α σ ρ κ l ξ : Type} {B : α → σ → SR σ ρ κ σ ξ} {a : α} {as : List α} {s t : σ} (h : B a s = .nx t) : (forR B (a :: as) s : SR σ ρ κ l ξ) = forR B as t := by simp only [forR, h]
theorem dS_new {α γ : Type} [DecidableEq γ] {ps : List (γ × α)} {a : γ} {v : α} (h : a ∉ ps.map (·.1)) : dS ps a v = ps ++ [(a, v)] := if_neg h
theorem dG_mem {α γ : Type} [DecidableEq γ] {ps : List (γ × α)} {a : γ} (h : a ∈ ps.map (·.1)) : ∃ v, dG ps a = some v ∧ (a, v) ∈ ps := by
  have h1 := dG_some a ps
  rw [dH, decide_eq_true h] at h1
  obtain ⟨v, hv⟩ := Option.isSome_iff_exists.mp h1
  refine ⟨v, hv, ?_⟩
  unfold dG at hv
  simp only [Option.map_eq_some_iff] at hv
  obtain ⟨q, h2, rfl⟩ := hv
  have := List.find?_some h2
  simp at this
  rw [← this]; exact List.mem_of_find?_eq_some h2
theorem sg_get {i n : Int} (h0 : 0 < n) (hn : n ≤ 36) : getS SG (i % n) = .ok (sgn i n) := by
  have h1 := Int.emod_nonneg i (show n ≠ 0 by omega)
  have h2 := Int.emod_lt_of_pos i h0
  rw [sg_tx]
  refine getS_tx h1 ?_ (by decide)
  rw [List.getElem?_eq_getElem (by rw [show sgL.length = 36 from rfl]; omega)]
  unfold sgn
  rw [List.getD_eq_getElem?_getD, List.getElem?_eq_getElem (by rw [show sgL.length = 36 from rfl]; omega)]; rfl
theorem lt_get {i : Int} : getS LT (i % 26) = .ok (sgn i 26) := by
  have h1 := Int.emod_nonneg i (show (26 : Int) ≠ 0 by decide)
  have h2 := Int.emod_lt_of_pos i (show (0 : Int) < 26 by decide)
  have e : LT = tx (sgL.take 26) := by decide +kernel
  rw [e]
  refine getS_tx h1 ?_ (by decide)
  unfold sgn
  rw [List.getElem?_take_of_lt (by omega), List.getD_eq_getElem?_getD, List.getElem?_eq_getElem (by rw [show sgL.length = 36 from rfl]; omega)]; rfl
theorem nodup_map {α β : Type} {f : α → β} {xs : List α} (hn : xs.Nodup) (h : ∀ a ∈ xs, ∀ b ∈ xs, f a = f b → a = b) : (xs.map f).Nodup := by
  rw [List.nodup_iff_pairwise_ne, List.pairwise_map]
  exact List.Pairwise.imp_of_mem (fun ha hb hab e => hab (h _ ha _ hb e)) hn
theorem foldl_app {α β : Type} (f : α → β) : ∀ (xs : List α) (acc : List β), xs.foldl (fun s a => s ++ [f a]) acc = acc ++ xs.map f
  | [], acc => by simp
  | a :: xs, acc => by simp [foldl_app f xs]
theorem rgL_succ (lo : Int) (m : Nat) : rgL lo (m + 1) = lo :: rgL (lo + 1) m := by
  unfold rgL
  rw [List.range_succ_eq_map, List.map_cons, List.map_map]
  refine congr (congrArg _ (by simp)) ?_
  apply List.map_congr_left; intro a _; simp only [Function.comp]; omega
def fN (c : Int) (at_ k : Int) (j : Nat) : Int := c / (64 + 7 * (j : Int)) + (if (j : Int) = at_ then 1 else 0) * k
abbrev nameL (c at_ : Int) (long : Nat) (k : Nat) : Str := tx (drawn (fN c at_ (k : Int)) long)
theorem name_inj {c at_ : Int} {long : Nat} {k l : Nat} (ha : 0 ≤ at_ ∧ at_ < long) (hk : k < 26) (hl : l < 26) (h : nameL c at_ long k = nameL c at_ long l) : k = l := by
  have h1 := congrArg (fun x : List Nat => x[at_.toNat]?) (tx_inj.mp h)
  try simp only at h1
  rw [drawn_at (by omega), drawn_at (by omega)] at h1
  have e : ∀ x : Nat, fN c at_ (x : Int) at_.toNat = c / (64 + 7 * (at_.toNat : Int)) + (x : Int) := fun x => by
    unfold fN; rw [if_pos (by omega)]; omega
  rw [e, e] at h1
  have h2 := Option.some.inj h1
  have : (k : Int) = (l : Int) := by
    split at h2
    · exact emod_small (by decide) (by omega) (by omega) (sgn_inj (by decide) (by decide) h2)
    · exact emod_small (n := 36) (by decide) (by omega) (by omega) (sgn_inj (by decide) (by decide) h2)
  omega
theorem nm_app {a : List Nat} {q : Nat} (h : nmL a = true) (hl : a.length ≤ 7) (hq : dl q = true) : nmL (a ++ [q]) = true := by
  unfold nmL at h ⊢
  simp only [Bool.and_eq_true, decide_eq_true_eq] at h ⊢
  obtain ⟨⟨h1, h2⟩, h3⟩ := h
  refine ⟨⟨?_, ?_⟩, ?_⟩
  · simp; omega
  · simp [h2, hq]
  · cases a with
    | nil => simp at h1
    | cons x a => exact h3
theorem n19_b0 (c at_ : Int) (k j : Nat) (hk : k ≤ 1000) (hj : j < 8) : tL_names_b0 c LT at_ (k : Int) (j : Int) (tx (drawn (fN c at_ k) j)) = .nx (tx (drawn (fN c at_ k) (j + 1))) := by
  have dl := drawn_len (fN c at_ k) j
  have hm : mulR (if (decide ((j : Int) = at_)) = true then (1 : Int) else 0) (k : Int) = .ok ((if (j : Int) = at_ then 1 else 0) * (k : Int)) := by
    by_cases h : (j : Int) = at_
    · rw [if_pos (by simpa using h), if_pos h]; exact mulR_ok (by decide) (by omega)
    · rw [if_neg (by simpa using h), if_neg h]; exact mulR_ok (by decide) (by omega)
  have l26 : lenS LT = .ok 26 := by unfold lenS; rw [show LT.length = 26 by decide +kernel]; exact gd_t (by decide) _
  have l36 : lenS SG = .ok 36 := by unfold lenS; rw [show SG.length = 36 by decide +kernel]; exact gd_t (by decide) _
  have ap : addS LT ("0123456789" : Str) = .ok SG := by unfold addS; rw [show LT ++ ("0123456789" : Str) = SG by decide +kernel, gd_t (by decide +kernel)]
  have e : c / (64 + 7 * (j : Int)) + (if (j : Int) = at_ then 1 else 0) * (k : Int) = fN c at_ k j := rfl
  unfold tL_names_b0
  rw [divR_ok (by omega) (by omega), bind_ok, hm, bind_ok]
  by_cases h0 : j = 0
  · rw [if_neg (by simp; omega), sbind_nx, bindE_ok, e, l26, bind_ok, modR_ok (by decide), bind_ok, lt_get, bind_ok, chS_tx, addS_tx (by simp; omega), bindE_ok, drawn_succ, if_pos h0]
  · rw [if_pos (by simp; omega), ap, bindE_ok, sbind_nx, bindE_ok, e, l36, bind_ok, modR_ok (by decide), bind_ok, sg_get (by decide) (by decide), bind_ok, chS_tx, addS_tx (by simp; omega), bindE_ok, drawn_succ, if_neg h0]
theorem n19_l {l : Type} (c at_ : Int) (k : Nat) (hk : k ≤ 1000) (n : Nat) (hn : n ≤ 8) : ∀ m j : Nat, j + m = n → (forR (tL_names_b0 c LT at_ (k : Int)) (rgL (j : Int) m) (tx (drawn (fN c at_ k) j)) : SR Str (List Str) Unit l Unit) = .nx (tx (drawn (fN c at_ k) n))
  | 0, j, h => by have : j = n := by omega
                  subst this; rfl
  | m + 1, j, h => by
    rw [rgL_succ]
    simp only [forR, n19_b0 c at_ k j hk (by omega)]
    have := n19_l (l := l) c at_ k hk n hn m (j + 1) (by omega)
    rw [show (((j + 1 : Nat) : Int)) = (j : Int) + 1 by omega] at this
    exact this
theorem n19_b1 (c long at_ : Int) (hl : 1 ≤ long ∧ long ≤ 8) (k : Nat) (hk : k ≤ 100) (zs : List Str) (hz : zs.length < 1000) : tL_names_b1 c LT long at_ (k : Int) zs = .nx (zs ++ [nameL c at_ long.toNat k]) := by
  have f : (forR (tL_names_b0 c LT at_ (k : Int)) (rgL 0 long.toNat) (tx []) : SR Str (List Str) Unit (List Str) Unit) = .nx (tx (drawn (fN c at_ k) long.toNat)) := n19_l c at_ k (by omega) long.toNat (by omega) long.toNat 0 (by omega)
  unfold tL_names_b1
  rw [lt_v, rg1_ok (by omega) (by omega), bindE_ok, tx_nil, f, sbind_nx, gd_t (by omega), bindE_ok]
theorem names19_l (c long at_ : Int) (hl : 1 ≤ long ∧ long ≤ 8) (m : Nat) (hm : m ≤ 100) : (forR (tL_names_b1 c LT long at_) (rgL 0 m) [] : SR (List Str) (List Str) Unit Empty Unit) = .nx ((List.range m).map (nameL c at_ long.toNat)) := by
  obtain ⟨f1, f2⟩ := forR_fold (ρ := List Str) (κ := Unit) (ξ := Unit) (l := Empty) (B := tL_names_b1 c LT long at_) (g := fun s a => s ++ [nameL c at_ long.toNat a.toNat]) (P := fun j s => s.length = j) (rgL 0 m) 0 [] rfl fun j a s hj hp => by
    have hm' := rgL_mem (List.mem_of_getElem? hj)
    have hj2 : j < m := by
      have := (List.getElem?_eq_some_iff.mp hj).1
      rwa [rgL_len] at this
    have := n19_b1 c long at_ hl a.toNat (by omega) s (by omega)
    rw [show ((a.toNat : Nat) : Int) = a by omega] at this
    exact ⟨this, by simp [hp]⟩
  rw [f1, foldl_app, List.nil_append, rgL_eq, List.map_map]; rfl
theorem setI_ok {α : Type} {xs : List α} {i : Int} {x : α} (h : 0 ≤ i) (h2 : i < xs.length) : setI xs i x = some (xs.set i.toNat x) := by
  obtain ⟨k, rfl⟩ : ∃ k : Nat, i = k := ⟨i.toNat, by omega⟩
  unfold setI
  have : ixN xs.length (k : Int) = some k := by unfold ixN; simp; omega
  rw [this]; rfl
theorem names19 (c : Int) (m : Nat) (hm : 1 ≤ m ∧ m ≤ 26) : ∃ zs : List Str, tL_names c (m : Int) = .ok zs () ∧ zs.length = m ∧ (∀ z ∈ zs, nm z = true) ∧ zs.Nodup := by
  have rg := rg1_ok (n := (m : Int)) (by omega) (by omega)
  rw [Int.toNat_natCast] at rg
  have hl : 1 ≤ 1 + c % 8 ∧ 1 + c % 8 ≤ 8 := by omega
  generalize hL : 1 + c % 8 = long at *
  have g1 := Int.emod_nonneg (c / 8) (show long ≠ 0 by omega)
  have g2 := Int.emod_lt_of_pos (c / 8) (show 0 < long by omega)
  generalize hA : c / 8 % long = at_ at *
  have hnm : ∀ j : Nat, nm (nameL c at_ long.toNat j) = true := fun j => drawn_nm _ (by omega) (by omega)
  have pn : ∀ z ∈ (List.range m).map (nameL c at_ long.toNat), nm z = true := fun z hz => by
    obtain ⟨j, _, rfl⟩ := List.mem_map.mp hz
    exact hnm j
  have pd : ((List.range m).map (nameL c at_ long.toNat)).Nodup := nodup_map List.nodup_range fun a ha b hb h => by
    rw [List.mem_range] at ha hb
    exact name_inj (long := long.toNat) ⟨g1, by omega⟩ (by omega) (by omega) h
  by_cases hc : 1 < (m : Int) ∧ long < 8 ∧ c / 5 % 2 = 1
  · obtain ⟨h1, h2, h3⟩ := hc
    let z' : Str := tx (drawn (fN c at_ ((0 : Nat) : Int)) long.toNat ++ [55])
    have hz' : nm z' = true := by
      rw [nm_tx]
      have := hnm 0
      rw [nm_tx] at this
      exact nm_app this (by rw [drawn_len]; omega) (by decide)
    have hset : ((List.range m).map (nameL c at_ long.toNat)).set (m - 1) z' = (List.range m).map fun j : Nat => if j = m - 1 then z' else nameL c at_ long.toNat j := by
      apply List.ext_getElem (by simp)
      intro i h1 h2
      simp only [List.getElem_set, List.getElem_map, List.getElem_range]
      by_cases hi : m - 1 = i
      · rw [if_pos hi, if_pos hi.symm]
      · rw [if_neg hi, if_neg (fun z => hi z.symm)]
    refine ⟨((List.range m).map (nameL c at_ long.toNat)).set (m - 1) z', ?_, by simp, fun z hz => ?_, ?_⟩
    · have g0 : getI ((List.range m).map (nameL c at_ long.toNat)) 0 = .ok (nameL c at_ long.toNat 0) := getI_ok (by decide) (by rw [List.getElem?_map, Int.toNat_zero, List.getElem?_range (by omega)]; rfl)
      have ad : addS (nameL c at_ long.toNat 0) ("7" : Str) = .ok z' := by
        rw [show ("7" : Str) = tx [55] by decide +kernel]
        exact addS_tx (by rw [drawn_len]; simp; omega)
      have st : setI ((List.range m).map (nameL c at_ long.toNat)) ((m : Int) - 1) z' = some (((List.range m).map (nameL c at_ long.toNat)).set (m - 1) z') := by
        rw [setI_ok (by omega) (by rw [List.length_map, List.length_range]; omega), show ((m : Int) - 1).toNat = m - 1 by omega]
      unfold tL_names
      rw [lt_v, hL, lt_v, modR_ok (by omega), hA, bindE_ok, rg, bindE_ok, names19_l c long at_ hl m (by omega), sbind_nx, if_pos (by simp; omega), g0, bind_ok, ad, bind_ok, bind_ok, st, show R.ofO (some (((List.range m).map (nameL c at_ long.toNat)).set (m - 1) z')) = .ok (((List.range m).map (nameL c at_ long.toNat)).set (m - 1) z') from rfl, bind_ok, bindE_ok, sbind_nx, fn_rt]
    · rw [hset] at hz
      obtain ⟨j, _, rfl⟩ := List.mem_map.mp hz
      split
      · exact hz'
      · exact hnm j
    · rw [hset]
      have hne : ∀ j : Nat, z' ≠ nameL c at_ long.toNat j := fun j h => by
        have := congrArg List.length (tx_inj.mp h)
        simp [drawn_len] at this
      refine nodup_map List.nodup_range fun a ha b hb h => ?_
      rw [List.mem_range] at ha hb
      split at h
      · split at h
        · omega
        · exact absurd h (hne _)
      · split at h
        · exact absurd h.symm (hne _)
        · exact name_inj (long := long.toNat) ⟨g1, by omega⟩ (by omega) (by omega) h
  · refine ⟨_, ?_, by simp, pn, pd⟩
    unfold tL_names
    rw [lt_v, hL, lt_v, modR_ok (by omega), hA, bindE_ok, rg, bindE_ok, names19_l c long at_ hl m (by omega), sbind_nx, if_neg (by simp; omega), sbind_nx, fn_rt]
abbrev Row3 := Str × Int × Int
abbrev Stk := List (Str × Int) × List (Str × Int)
structure GoodR (q : Row3) : Prop where
  n : nm q.1 = true
  c : 0 ≤ q.2.1 ∧ q.2.1 ≤ 10 ^ 30
  m : 1 ≤ q.2.2 ∧ q.2.2 ≤ 1000
theorem lt_mem (c : Nat) : decide (c ∈ ("abcdefghijklmnopqrstuvwxyz" : Str).cps.toList) = lett c := mem_lt c
theorem fg_mem (c : Nat) : decide (c ∈ ("0123456789" : Str).cps.toList) = dig c := mem_fg c
theorem isname_b (c : Nat) : t_is_name_b0 c () = if dl c = true then .nx () else .rt false () := by
  unfold t_is_name_b0
  rw [lt_mem, fg_mem, dl]
  cases lett c <;> cases dig c <;> rfl
theorem isname_l : ∀ cs : List Nat, (forR t_is_name_b0 cs () : SR Unit Bool Unit Empty Unit) = if cs.all dl = true then .nx () else .rt false ()
  | [] => rfl
  | c :: cs => by
    by_cases h : dl c = true
    · have b : t_is_name_b0 c () = .nx () := by rw [isname_b, if_pos h]
      simp only [forR, b, List.all_cons, h, Bool.true_and]; exact isname_l cs
    · have b : t_is_name_b0 c () = .rt false () := by rw [isname_b, if_neg h]
      simp only [forR, b, List.all_cons, Bool.not_eq_true] at h ⊢
      simp [h]
theorem isname_ok {z : Str} (h : nm z = true) : t_is_name z = .ok true () := by
  have hl := nm_len h
  have h0 := h
  simp only [nm, nmL, Bool.and_eq_true] at h0
  have h1 : lenS z = .ok (z.length : Int) := gd_t (by omega) _
  unfold t_is_name
  have e1 : decide ((z.length : Int) < 1) = false := decide_eq_false (by omega)
  have e2 : decide ((8 : Int) < z.length) = false := decide_eq_false (by omega)
  have e3 : R.orF (.ok false) (R.orF (R.bind (lenS z) fun x8 => .ok (decide (x8 < (1 : Int)))) (R.bind (lenS z) fun x10 => .ok (decide ((8 : Int) < x10)))) = .ok false := by
    rw [h1]; simp only [bind_ok, e1, e2, R.orF]; rfl
  rw [e3, bindE_ok, if_neg (by decide), isname_l, if_pos h0.1.2, sbind_nx]
  cases hc : z.cps.toList with
  | nil => rw [hc] at h0; simp at h0
  | cons c cs =>
    rw [hc] at h0
    have hg : getS z 0 = .ok c := by
      have hz := tx_of z
      rw [hz, hc]
      exact getS_tx (by omega) rfl (by have := x_len z; rw [hc] at this; omega)
    have h02 : lett c = true := h0.2
    rw [hg, bind_ok, bindE_ok, fn_rt, lt_mem, h02]
def stk (g : List Row3) : Stk := (g.map fun q => (q.1, q.2.1), g.map fun q => (q.1, q.2.2))
theorem stk_b {acc : List Row3} {q : Row3} (h : GoodR q) (hn : q.1 ∉ acc.map (·.1)) (hl : acc.length < 1000) : t_Stock_init_b0 q (stk acc) = .nx (stk (acc ++ [q])) := by
  have k1 : (stk acc).1.map (·.1) = acc.map (·.1) := by simp [stk]
  have k2 : (stk acc).2.map (·.1) = acc.map (·.1) := by simp [stk]
  have d1 : dH (stk acc).1 q.1 = false := by rw [dH, k1]; exact decide_eq_false hn
  have w : ∀ i : Int, (t_is_whole i).r = .ok true := fun i => rfl
  have e1 : ((decide (q.2.1 < (0 : Int))) || (decide ((10 ^ 30 : Int) < q.2.1))) = false := by
    rw [decide_eq_false (by have := h.c.1; omega), decide_eq_false (by have := h.c.2; omega)]; rfl
  have e2 : ((decide (q.2.2 < (1 : Int))) || (decide ((1000 : Int) < q.2.2))) = false := by
    rw [decide_eq_false (by have := h.m.1; omega), decide_eq_false (by have := h.m.2; omega)]; rfl
  unfold t_Stock_init_b0
  rw [isname_ok h.n, rf_ok]
  simp only [R.notF, bind_ok, bindE_ok, Bool.not_true, Bool.false_eq_true, reduceIte, d1, w, R.orF, e1, e2]
  rw [gd_t (by simp [stk]; omega), bindE_ok, gd_t (by simp [stk]; omega), bindE_ok, dS_new (by rw [k1]; exact hn), dS_new (by rw [k2]; exact hn)]
  simp [stk]
theorem stk_l : ∀ (g acc : List Row3), (∀ q ∈ g, GoodR q) → ((acc ++ g).map (·.1)).Nodup → acc.length + g.length < 1000 → (forR t_Stock_init_b0 g (stk acc) : SR Stk Unit Stk Empty D) = .nx (stk (acc ++ g))
  | [], acc, _, _, _ => by rw [List.append_nil]; rfl
  | q :: g, acc, hg, hN, hl => by
    have fresh : q.1 ∉ acc.map (·.1) := by
      intro hm
      rw [List.map_append, List.map_cons] at hN
      exact (List.nodup_append.mp hN).2.2 _ hm _ List.mem_cons_self rfl
    simp only [List.length_cons] at hl
    simp only [forR, stk_b (hg q List.mem_cons_self) fresh (by omega)]
    have := stk_l g (acc ++ [q]) (fun q' h => hg q' (List.mem_cons_of_mem _ h)) (by rw [List.append_assoc]; exact hN) (by simp; omega)
    rw [this, List.append_assoc]; rfl
theorem stk_ok {g : List Row3} (hg : ∀ q ∈ g, GoodR q) (hN : (g.map (·.1)).Nodup) (hl : g.length ≤ 60) : t_Stock_init () g = .ok () (stk g) := by
  unfold t_Stock_init
  rw [if_neg (by simp; omega)]
  have := stk_l g [] hg hN (by simp; omega)
  rw [show (([], []) : Stk) = stk [] from rfl, this, sbind_nx, fn_nx, List.nil_append]
/-- a thing's room -/
def rmz (g : List Row3) (z : Str) : Int := (dG (stk g).2 z).getD 0
theorem rmz_g {g : List Row3} {z : Str} (h : z ∈ g.map (·.1)) : dG (stk g).2 z = some (rmz g z) ∧ ∃ q ∈ g, q.1 = z ∧ q.2.2 = rmz g z := by
  have k2 : (stk g).2.map (·.1) = g.map (·.1) := by simp [stk]
  obtain ⟨v, h1, h2⟩ := dG_mem (ps := (stk g).2) (by rw [k2]; exact h)
  have : rmz g z = v := by rw [rmz, h1]; rfl
  rw [this]
  refine ⟨h1, ?_⟩
  simp only [stk, List.mem_map] at h2
  obtain ⟨q, hq, e⟩ := h2
  cases e
  exact ⟨q, hq, rfl, rfl⟩
theorem room_ok {g : List Row3} {z : Str} (h : z ∈ g.map (·.1)) : t_Stock_room_of (stk g) z = .ok (rmz g z) () := by
  have k2 : (stk g).2.map (·.1) = g.map (·.1) := by simp [stk]
  have d : dH (stk g).2 z = true := by rw [dH, k2]; exact decide_eq_true h
  unfold t_Stock_room_of
  rw [d, if_neg (by decide), getD, (rmz_g h).1]; rfl
abbrev Shf := Stk × Int × List Str × Int
theorem need_ok {p : Int} (h : 1 ≤ p ∧ p ≤ 1000000) : t_need_places p = .ok p () := by
  have w : (t_is_whole p).r = .ok true := rfl
  have e : ((decide (p < (1 : Int))) || (decide ((1000000 : Int) < p))) = false := by
    rw [decide_eq_false (by omega), decide_eq_false (by omega)]; rfl
  unfold t_need_places
  rw [w]; simp only [R.notF, bind_ok, Bool.not_true, R.orF, Bool.false_eq_true, reduceIte, e, bindE_ok, fn_rt]
theorem shf_ok (s : Stk) {p : Int} (h : 1 ≤ p ∧ p ≤ 1000000) : t_Shelf_init () s p = .ok () (s, p, [], 0) := by
  unfold t_Shelf_init; rw [need_ok h]; rfl
section
variable {g : List Row3} {p : Int} {th : List Str} {u : Int}
theorem holds_ok (z : Str) : t_Shelf_holds (stk g, p, th, u) z = .ok (decide (z ∈ th)) () := rfl
theorem left_ok : t_Shelf_room_left (stk g, p, th, u) = .ok (p - u) () := rfl
theorem lying_ok : t_Shelf_lying (stk g, p, th, u) = .ok th () := rfl
theorem put_ok {z : Str} (hz : z ∈ g.map (·.1)) (hn : z ∉ th) (hr : rmz g z ≤ p - u) (hl : th.length < 1000) : t_Shelf_put (stk g, p, th, u) z = .ok () (stk g, p, th ++ [z], u + rmz g z) := by
  unfold t_Shelf_put
  simp only [room_ok hz, rf_ok, bindE_ok, left_ok, bind_ok]
  rw [if_neg (by simpa using hn), if_neg (by simp; omega), gd_t (by omega)]; rfl
theorem cast_ok {z : Str} (hz : z ∈ g.map (·.1)) (hn : z ∈ th) : t_Shelf_cast (stk g, p, th, u) z = .ok () (stk g, p, th.erase z, u - rmz g z) := by
  unfold t_Shelf_cast
  rw [if_neg (by simpa using hn), gd_t hn, bindE_ok]
  simp only [room_ok hz, rf_ok, bind_ok, bindE_ok, fn_nx]
end
/-- asks that are all there and not too wide -/
theorem chk_l {g : List Row3} {p : Int} (hw : ∀ z ∈ g.map (·.1), rmz g z ≤ p) : ∀ (as : List (Int × Str)), (∀ q ∈ as, q.2 ∈ g.map (·.1)) → (forR (t_check_asks_b0 (stk g) p) as () : SR Unit Bool Unit Empty Unit) = .nx ()
  | [], _ => rfl
  | q :: as, h => by
    have hz := h q List.mem_cons_self
    have k1 : (stk g).1.map (·.1) = g.map (·.1) := by simp [stk]
    have hh : t_Stock_has (stk g) q.2 = .ok true () := by
      unfold t_Stock_has; rw [dH, k1, decide_eq_true hz]; rfl
    have b : t_check_asks_b0 (stk g) p q () = .nx () := by
      have := hw _ hz
      unfold t_check_asks_b0
      rw [hh, rf_ok]
      simp only [R.notF, bind_ok, bindE_ok, Bool.not_true, Bool.false_eq_true, reduceIte, room_ok hz, rf_ok]
      rw [if_neg (by simpa using this)]
    simp only [forR, b]
    exact chk_l hw as fun q' h' => h q' (List.mem_cons_of_mem _ h')
theorem enL_snd {α : Type} (xs : List α) : ∀ q ∈ enL xs, q.2 ∈ xs := fun q hq => by
  simp only [enL, List.mem_map] at hq
  obtain ⟨⟨a, i⟩, h1, rfl⟩ := hq
  have := List.mem_zipIdx h1
  simp at this
  rw [this.2]; exact List.getElem_mem _
theorem chk_ok {g : List Row3} {p : Int} {asks : List Str} (hp : 1 ≤ p ∧ p ≤ 1000000) (hl : asks.length ≤ 200) (hz : ∀ z ∈ asks, z ∈ g.map (·.1)) (hw : ∀ z ∈ g.map (·.1), rmz g z ≤ p) : t_check_asks (stk g) asks p = .ok true () := by
  unfold t_check_asks
  rw [need_ok hp, rf_ok, bindE_ok, if_neg (by simp; omega), chk_l hw _ fun q hq => hz _ (enL_snd asks q hq)]; rfl
abbrev BRow := Str × Bool × List Str
theorem sum_erase (rm : Str → Int) {y : Str} : ∀ {th : List Str}, y ∈ th → ((th.erase y).map rm).sum = (th.map rm).sum - rm y
  | [], h => by simp at h
  | a :: th, h => by
    by_cases e : a = y
    · subst e
      rw [List.erase_cons_head]
      simp only [List.map_cons, List.sum_cons]; omega
    · rw [List.erase_cons_tail (by simpa using e)]
      have := sum_erase rm (th := th) (by
        rcases List.mem_cons.mp h with h | h
        · exact absurd h.symm e
        · exact h)
      simp only [List.map_cons, List.sum_cons, this]; omega
theorem nodup_le : ∀ (a b : List Str), a.Nodup → (∀ z ∈ a, z ∈ b) → a.length ≤ b.length
  | [], b, _, _ => by simp
  | x :: a, b, hn, hs => by
    have hx : x ∈ b := hs x List.mem_cons_self
    rw [List.nodup_cons] at hn
    have := nodup_le a (b.erase x) hn.2 fun z hz => (List.mem_erase_of_ne (show z ≠ x from fun e => hn.1 (by rw [← e]; exact hz))).mpr (hs z (List.mem_cons_of_mem _ hz))
    rw [List.length_erase_of_mem hx] at this
    have := List.length_pos_of_mem hx
    simp only [List.length_cons]; omega
/-- what lies: different things of the stock; left and they together are the places -/
structure Lie (g : List Row3) (p : Int) (th : List Str) (left : Int) : Prop where
  nd : th.Nodup
  sub : ∀ z ∈ th, z ∈ g.map (·.1)
  sum : left = p - (th.map (rmz g)).sum
section
variable {g : List Row3} {p left : Int} {th : List Str}
theorem Lie.nil : Lie g p [] p := ⟨by simp, by simp, by simp⟩
theorem Lie.len (h : Lie g p th left) : th.length ≤ g.length := by
  have := nodup_le th (g.map (·.1)) h.nd h.sub
  rwa [List.length_map] at this
theorem Lie.erase (h : Lie g p th left) {y : Str} (hy : y ∈ th) : Lie g p (th.erase y) (left + rmz g y) :=
  ⟨h.nd.erase y, fun z hz => h.sub z (List.mem_of_mem_erase hz), by rw [sum_erase (rmz g) hy, h.sum]; omega⟩
theorem Lie.put (h : Lie g p th left) {z : Str} (hz : z ∈ g.map (·.1)) (hn : z ∉ th) : Lie g p (th ++ [z]) (left - rmz g z) :=
  ⟨List.nodup_append.mpr ⟨h.nd, by simp, fun a ha b hb => by rw [List.mem_singleton] at hb; subst hb; exact fun e => hn (e ▸ ha)⟩,
   fun y hy => by
    rcases List.mem_append.mp hy with hy | hy
    · exact h.sub y hy
    · rw [List.mem_singleton] at hy; subst hy; exact hz,
   by rw [List.map_append, List.sum_append, h.sum]; simp; omega⟩
theorem Lie.ne (h : Lie g p th left) {r : Int} (hr : r ≤ p) (hl : left < r) : th ≠ [] := fun e => by
  have := h.sum
  rw [e] at this
  simp at this
  omega
end
def castW (rm : Str → Int) (z : Str) : List Str → List Str → Int → Option (List Str × Int)
  | [], th, left => some (th, left)
  | y :: ys, th, left => if y = z ∨ y ∉ th then none else castW rm z ys (th.erase y) (left + rm y)
def stepW (rm : Str → Int) (z : Str) (r : BRow) (th : List Str) (left : Int) : Option (List Str × Int) :=
  if r.1 ≠ z ∨ r.2.1 ≠ decide (z ∈ th) then none else
  match castW rm z r.2.2 th left with
  | none => none
  | some s => if r.2.1 = true then some s else if s.2 < rm z then none else some (s.1 ++ [z], s.2 - rm z)
def walkW (rm : Str → Int) : List Str → List BRow → Int → List Str → Int → List (List Str) → Int ⊕ List (List Str)
  | [], [], _, _, _, acc => .inr acc
  | [], _ :: _, n, _, _, _ => .inl n
  | _ :: _, [], n, _, _, _ => .inl n
  | z :: zs, r :: rs, n, th, left, acc => match stepW rm z r th left with
    | none => .inl n
    | some s => walkW rm zs rs (n + 1) s.1 s.2 (acc ++ [s.1])
abbrev ROk (r : BRow) : Prop := nm r.1 = true ∧ ∀ z ∈ r.2.2, nm z = true
theorem nm_pz (n : Nat) {z : Str} (h : nm z = true) : Ty.PyOk n (eS z) := py_s n (nm_ok h).s
theorem eqS_ok {a b : Str} (ha : nm a = true) (hb : nm b = true) : eqR eS a b = .ok (decide (a = b)) := by
  unfold eqR; rw [R.gc_ok ⟨nm_pz 60 ha, nm_pz 60 hb⟩]
theorem neS_ok {a b : Str} (ha : nm a = true) (hb : nm b = true) : neR eS a b = .ok (!decide (a = b)) := by
  unfold neR; rw [R.gc_ok ⟨nm_pz 60 ha, nm_pz 60 hb⟩]
section
variable {g : List Row3} {p : Int}
theorem castW_lie {z : Str} : ∀ (ys th : List Str) (left : Int) {s : List Str × Int}, Lie g p th left → castW (rmz g) z ys th left = some s → Lie g p s.1 s.2 ∧ (∀ y ∈ s.1, y ∈ th) ∧ (z ∈ th → z ∈ s.1) ∧ s.1.length ≤ th.length ∧ (∀ y ∈ ys, y ∈ th ∧ y ≠ z) ∧ ys.Nodup
  | [], th, left, s, hL, h => by cases h; exact ⟨hL, fun y h => h, fun h => h, Nat.le_refl _, by simp, by simp⟩
  | y :: ys, th, left, s, hL, h => by
    unfold castW at h
    split at h
    · cases h
    · rename_i hc
      have hz : y ≠ z := fun e => hc (.inl e)
      have hm : y ∈ th := Classical.byContradiction fun e => hc (.inr e)
      obtain ⟨h1, h2, h3, h4, h5, h6⟩ := castW_lie ys _ _ (hL.erase hm) h
      refine ⟨h1, fun x hx => List.mem_of_mem_erase (h2 x hx), fun hx => h3 ((List.mem_erase_of_ne (fun e => hz e.symm)).mpr hx), ?_, fun x hx => ?_, ?_⟩
      · rw [List.length_erase_of_mem hm] at h4; omega
      · rcases List.mem_cons.mp hx with rfl | hx
        · exact ⟨hm, hz⟩
        · exact ⟨List.mem_of_mem_erase (h5 x hx).1, (h5 x hx).2⟩
      · rw [List.nodup_cons]
        refine ⟨fun hx => ?_, h6⟩
        have := (h5 y hx).1
        exact (hL.nd.not_mem_erase) this
theorem stepW_lie {z : Str} {r : BRow} {th : List Str} {left : Int} {s : List Str × Int} (hz : z ∈ g.map (·.1)) (hL : Lie g p th left) (h : stepW (rmz g) z r th left = some s) : Lie g p s.1 s.2 ∧ r.1 = z ∧ r.2.1 = decide (z ∈ th) ∧ (∀ y ∈ s.1, y ∈ th ∨ y = z) ∧ s.1.length ≤ th.length + 1 := by
  unfold stepW at h
  split at h
  · cases h
  · rename_i hc
    have e1 : r.1 = z := Classical.byContradiction fun e => hc (.inl e)
    have e2 : r.2.1 = decide (z ∈ th) := Classical.byContradiction fun e => hc (.inr e)
    cases hk : castW (rmz g) z r.2.2 th left with
    | none => rw [hk] at h; cases h
    | some t =>
      rw [hk] at h
      obtain ⟨c1, c2, c3, c4, _, _⟩ := castW_lie _ _ _ hL hk
      simp only at h
      split at h
      · cases h; exact ⟨c1, e1, e2, fun y hy => .inl (c2 y hy), by omega⟩
      · rename_i ht
        split at h
        · cases h
        · cases h
          have hn : z ∉ t.1 := fun hz' => ht (by rw [e2]; exact decide_eq_true (c2 z hz'))
          refine ⟨c1.put hz hn, e1, e2, fun y hy => ?_, by simp; omega⟩
          rcases List.mem_append.mp hy with hy | hy
          · exact .inl (c2 y hy)
          · exact .inr (by simpa using hy)
theorem cast_l {z : Str} {n : Int} (hz : nm z = true) : ∀ (ys th : List Str) (left : Int), (∀ y ∈ ys, nm y = true) → Lie g p th left →
    (forR (t_cast_all_b0 z n) ys (stk g, p, th, p - left) : SR Shf Unit Shf Empty Shf) = match castW (rmz g) z ys th left with
      | some s => .nx (stk g, p, s.1, p - s.2)
      | none => (match (forR (t_cast_all_b0 z n) ys (stk g, p, th, p - left) : SR Shf Unit Shf Empty Shf) with | .ex _ s => .ex ⟨x_BadBook, [.int n]⟩ s | _ => .er)
  | [], th, left, _, _ => rfl
  | y :: ys, th, left, hy, hL => by
    have y1 := hy y List.mem_cons_self
    have t0 : R.orF (eqR eS y z) (R.notF ((t_Shelf_holds (stk g, p, th, p - left) y).r)) = .ok (decide (y = z) || !decide (y ∈ th)) := by
      rw [eqS_ok y1 hz, holds_ok, rf_ok]
      cases decide (y = z) <;> rfl
    by_cases hc : y = z ∨ y ∉ th
    · have e : castW (rmz g) z (y :: ys) th left = none := if_pos hc
      have b : t_cast_all_b0 z n y (stk g, p, th, p - left) = .ex ⟨x_BadBook, [.int n]⟩ (stk g, p, th, p - left) := by
        unfold t_cast_all_b0
        rw [t0, bindE_ok, if_pos]
        rcases hc with h | h
        · simp [h]
        · simp [h]
      rw [e]
      simp only [forR, b]
    · have e : castW (rmz g) z (y :: ys) th left = castW (rmz g) z ys (th.erase y) (left + rmz g y) := if_neg hc
      have hm : y ∈ th := Classical.byContradiction fun e => hc (.inr e)
      have b : t_cast_all_b0 z n y (stk g, p, th, p - left) = .nx (stk g, p, th.erase y, p - (left + rmz g y)) := by
        unfold t_cast_all_b0
        rw [t0, bindE_ok, if_neg (by simp; exact ⟨fun e => hc (.inl e), hm⟩), cast_ok (hL.sub y hm) hm]
        show SR.nx (stk g, p, th.erase y, p - left - rmz g y) = _
        rw [show p - left - rmz g y = p - (left + rmz g y) by omega]
      rw [e]
      simp only [forR, b]
      exact cast_l hz ys _ _ (fun x hx => hy x (List.mem_cons_of_mem _ hx)) (hL.erase hm)
theorem castall_ok {z : Str} {n : Int} (hz : nm z = true) {ys th : List Str} {left : Int} (hy : ∀ y ∈ ys, nm y = true) (hL : Lie g p th left) {s : List Str × Int} (h : castW (rmz g) z ys th left = some s) : t_cast_all (stk g, p, th, p - left) z ys n = .ok () (stk g, p, s.1, p - s.2) := by
  unfold t_cast_all
  rw [cast_l hz ys th left hy hL, h]; rfl
theorem castall_no {z : Str} {n : Int} (hz : nm z = true) : ∀ {ys th : List Str} {left : Int}, (∀ y ∈ ys, nm y = true) → Lie g p th left → castW (rmz g) z ys th left = none → ∃ s, (forR (t_cast_all_b0 z n) ys (stk g, p, th, p - left) : SR Shf Unit Shf Empty Shf) = .ex ⟨x_BadBook, [.int n]⟩ s
  | [], th, left, _, _, h => by cases h
  | y :: ys, th, left, hy, hL, h => by
    have y1 := hy y List.mem_cons_self
    have t0 : R.orF (eqR eS y z) (R.notF ((t_Shelf_holds (stk g, p, th, p - left) y).r)) = .ok (decide (y = z) || !decide (y ∈ th)) := by
      rw [eqS_ok y1 hz, holds_ok, rf_ok]
      cases decide (y = z) <;> rfl
    by_cases hc : y = z ∨ y ∉ th
    · have b : t_cast_all_b0 z n y (stk g, p, th, p - left) = .ex ⟨x_BadBook, [.int n]⟩ (stk g, p, th, p - left) := by
        unfold t_cast_all_b0
        rw [t0, bindE_ok, if_pos]
        rcases hc with h | h
        · simp [h]
        · simp [h]
      exact ⟨(stk g, p, th, p - left), by simp only [forR, b]⟩
    · have e : castW (rmz g) z (y :: ys) th left = castW (rmz g) z ys (th.erase y) (left + rmz g y) := if_neg hc
      have hm : y ∈ th := Classical.byContradiction fun e => hc (.inr e)
      have b : t_cast_all_b0 z n y (stk g, p, th, p - left) = .nx (stk g, p, th.erase y, p - (left + rmz g y)) := by
        unfold t_cast_all_b0
        rw [t0, bindE_ok, if_neg (by simp; exact ⟨fun e => hc (.inl e), hm⟩), cast_ok (hL.sub y hm) hm]
        show SR.nx (stk g, p, th.erase y, p - left - rmz g y) = _
        rw [show p - left - rmz g y = p - (left + rmz g y) by omega]
      rw [e] at h
      obtain ⟨s, hs⟩ := castall_no hz (fun x hx => hy x (List.mem_cons_of_mem _ hx)) (hL.erase hm) h
      exact ⟨s, by simp only [forR, b]; exact hs⟩
theorem serve_ok {z : Str} {r : BRow} {n : Int} (hz : z ∈ g.map (·.1)) (hzn : nm z = true) (hr : ROk r) {th : List Str} {left : Int} (hL : Lie g p th left) (hg : g.length ≤ 60) :
    match stepW (rmz g) z r th left with
    | some s => t_serve (stk g, p, th, p - left) z r n = .ok () (stk g, p, s.1, p - s.2)
    | none => ∃ k, t_serve (stk g, p, th, p - left) z r n = .ex ⟨x_BadBook, [.int n]⟩ k := by
  have t0 : R.orF (neR eS r.1 z) (R.bind ((t_Shelf_holds (stk g, p, th, p - left) z).r) fun (x4 : Bool) => .ok (!decide (r.2.1 = x4))) = .ok (!decide (r.1 = z) || !decide (r.2.1 = decide (z ∈ th))) := by
    rw [neS_ok hr.1 hzn, holds_ok, rf_ok, bind_ok]
    cases decide (r.1 = z) <;> rfl
  by_cases hc : r.1 ≠ z ∨ r.2.1 ≠ decide (z ∈ th)
  · have e : stepW (rmz g) z r th left = none := if_pos hc
    rw [e]
    refine ⟨(stk g, p, th, p - left), ?_⟩
    unfold t_serve
    rw [t0, bindE_ok, if_pos]
    · rfl
    · rcases hc with h | h
      · simp [h]
      · simp [h]
  · have e1 : r.1 = z := Classical.byContradiction fun e => hc (.inl e)
    have e2 : r.2.1 = decide (z ∈ th) := Classical.byContradiction fun e => hc (.inr e)
    have c0 : (!decide (r.1 = z) || !decide (r.2.1 = decide (z ∈ th))) = false := by rw [decide_eq_true e1, decide_eq_true e2]; rfl
    have e : stepW (rmz g) z r th left = match castW (rmz g) z r.2.2 th left with
      | none => none
      | some s => if r.2.1 = true then some s else if s.2 < rmz g z then none else some (s.1 ++ [z], s.2 - rmz g z) := if_neg hc
    rw [e]
    cases hk : castW (rmz g) z r.2.2 th left with
    | none =>
      obtain ⟨s, hs⟩ := castall_no (n := n) hzn hr.2 hL hk
      refine ⟨s, ?_⟩
      unfold t_serve
      rw [t0, bindE_ok, if_neg (by rw [c0]; decide)]
      have : t_cast_all (stk g, p, th, p - left) z r.2.2 n = .ex ⟨x_BadBook, [.int n]⟩ s := by unfold t_cast_all; rw [hs]; rfl
      rw [this]; rfl
    | some t =>
      obtain ⟨c1, c2, c3, c4, _, _⟩ := castW_lie _ _ _ hL hk
      have hca := castall_ok (n := n) hzn hr.2 hL hk
      have len := hL.len
      simp only
      by_cases ht : r.2.1 = true
      · rw [if_pos ht]
        simp only
        unfold t_serve
        rw [t0, bindE_ok, if_neg (by rw [c0]; decide), hca]
        show SR.fn _ (if r.2.1 = true then _ else _) = _
        rw [if_pos ht]; rfl
      · rw [if_neg ht]
        have hn : z ∉ t.1 := fun hz' => ht (by rw [e2]; exact decide_eq_true (c2 z hz'))
        by_cases hlt : t.2 < rmz g z
        · rw [if_pos hlt]
          refine ⟨(stk g, p, t.1, p - t.2), ?_⟩
          unfold t_serve
          rw [t0, bindE_ok, if_neg (by rw [c0]; decide), hca]
          show SR.fn _ (if r.2.1 = true then _ else _) = _
          rw [if_neg ht]
          simp only [room_ok hz, rf_ok, bind_ok, left_ok, bindE_ok]
          rw [if_pos (by simp; omega)]; rfl
        · rw [if_neg hlt]
          simp only
          unfold t_serve
          rw [t0, bindE_ok, if_neg (by rw [c0]; decide), hca]
          show SR.fn _ (if r.2.1 = true then _ else _) = _
          rw [if_neg ht]
          simp only [room_ok hz, rf_ok, bind_ok, left_ok, bindE_ok]
          rw [if_neg (by simp; omega), put_ok hz hn (by omega) (by omega)]
          show SR.fn _ (.nx (stk g, p, t.1 ++ [z], p - t.2 + rmz g z)) = _
          rw [show p - t.2 + rmz g z = p - (t.2 - rmz g z) by omega]; rfl
/-- the walk over all asks -/
theorem walk_l (hg : g.length ≤ 60) (hgn : ∀ z ∈ g.map (·.1), nm z = true) (book : List BRow) (hb : ∀ r ∈ book, ROk r) : ∀ (asks : List Str) (n : Nat) (th : List Str) (left : Int) (acc : List (List Str)), (∀ z ∈ asks, z ∈ g.map (·.1)) → Lie g p th left → acc.length = n → n + asks.length < 1000 → n ≤ book.length →
    match walkW (rmz g) asks (book.drop n) n th left acc with
    | .inl m => (forR (t_lying_after_b0 book) ((asks.zipIdx n).map fun q => ((q.2 : Int), q.1)) ((stk g, p, th, p - left), acc) : SR (Shf × List (List Str)) (List (List Str)) Unit Empty Unit) = .ex ⟨x_BadBook, [.int m]⟩ () ∨ (∃ s f, (forR (t_lying_after_b0 book) ((asks.zipIdx n).map fun q => ((q.2 : Int), q.1)) ((stk g, p, th, p - left), acc) : SR (Shf × List (List Str)) (List (List Str)) Unit Empty Unit) = .nx (s, f)) ∧ m = (n + asks.length : Nat) ∧ n + asks.length < book.length
    | .inr f => (∃ s, (forR (t_lying_after_b0 book) ((asks.zipIdx n).map fun q => ((q.2 : Int), q.1)) ((stk g, p, th, p - left), acc) : SR (Shf × List (List Str)) (List (List Str)) Unit Empty Unit) = .nx (s, f)) ∧ n + asks.length = book.length
  | [], n, th, left, acc, _, hL, ha, hl, hn => by
    cases hd : book.drop n with
    | nil =>
      rw [List.drop_eq_nil_iff] at hd
      exact ⟨⟨_, rfl⟩, by simp; omega⟩
    | cons r rs =>
      have : n < book.length := by
        have := congrArg List.length hd
        simp at this; omega
      exact .inr ⟨⟨_, _, rfl⟩, by simp, by simpa using this⟩
  | z :: asks, n, th, left, acc, hz, hL, ha, hl, hn => by
    have hz0 := hz z List.mem_cons_self
    simp only [List.length_cons] at hl
    cases hd : book.drop n with
    | nil =>
      rw [List.drop_eq_nil_iff] at hd
      refine .inl ?_
      have b : t_lying_after_b0 book ((n : Int), z) ((stk g, p, th, p - left), acc) = .ex ⟨x_BadBook, [.int n]⟩ () := by
        unfold t_lying_after_b0
        rw [if_pos (by simp; omega)]
      simp only [List.zipIdx_cons, List.map_cons, forR, b]
    | cons r rs =>
      have hlt : n < book.length := by
        have := congrArg List.length hd
        simp at this; omega
      have hr : book[n]? = some r := by
        have := congrArg List.head? hd
        rw [List.head?_drop] at this; exact this
      have hrs : book.drop (n + 1) = rs := by
        have := congrArg List.tail hd
        rw [List.tail_drop] at this; exact this
      have ok := hb r (List.mem_of_getElem? hr)
      have sv := serve_ok (n := (n : Int)) hz0 (hgn z hz0) ok hL hg
      have gi : getI book (n : Int) = .ok r := getI_ok (by omega) (by rw [Int.toNat_natCast]; exact hr)
      cases hs : stepW (rmz g) z r th left with
      | none =>
        rw [hs] at sv
        obtain ⟨k, sv⟩ := sv
        have b : t_lying_after_b0 book ((n : Int), z) ((stk g, p, th, p - left), acc) = .ex ⟨x_BadBook, [.int n]⟩ () := by
          unfold t_lying_after_b0
          rw [if_neg (by simp; omega)]
          dsimp only
          rw [gi]
          show RF.bindF _ (t_serve _ _ _ _) _ = _
          rw [sv]; rfl
        simp only [walkW, hs]
        refine .inl ?_
        simp only [List.zipIdx_cons, List.map_cons, forR, b]
      | some s =>
        rw [hs] at sv
        obtain ⟨s1, _, _, _, s5⟩ := stepW_lie hz0 hL hs
        have b : t_lying_after_b0 book ((n : Int), z) ((stk g, p, th, p - left), acc) = .nx ((stk g, p, s.1, p - s.2), acc ++ [s.1]) := by
          unfold t_lying_after_b0
          rw [if_neg (by simp; omega)]
          dsimp only
          rw [gi]
          show RF.bindF _ (t_serve _ _ _ _) _ = _
          rw [sv]
          show R.bindE () (R.bind (R.bind ((t_Shelf_lying (stk g, p, s.1, p - s.2)).r) _) _) _ = _
          rw [lying_ok, rf_ok, bind_ok, bind_ok, gd_t (by omega), bindE_ok]
        have ih := walk_l hg hgn book hb asks (n + 1) s.1 s.2 (acc ++ [s.1]) (fun y hy => hz y (List.mem_cons_of_mem _ hy)) s1 (by simp [ha]) (by omega) (by omega)
        rw [hrs] at ih
        simp only [walkW, hs]
        rw [show (((n + 1 : Nat)) : Int) = (n : Int) + 1 by omega] at ih
        rw [show n + (z :: asks).length = n + 1 + asks.length by simp; omega]
        simp only [List.zipIdx_cons, List.map_cons, forR, b]
        exact ih
theorem lying_after_ok (hg : g.length ≤ 60) (hgn : ∀ z ∈ g.map (·.1), nm z = true) (hp : 1 ≤ p ∧ p ≤ 1000000) (hw : ∀ z ∈ g.map (·.1), rmz g z ≤ p) {book : List BRow} (hb : ∀ r ∈ book, ROk r) {asks : List Str} (hz : ∀ z ∈ asks, z ∈ g.map (·.1)) (hl : asks.length ≤ 200) :
    t_lying_after (stk g) asks p book = match walkW (rmz g) asks book 0 [] p [] with
      | .inl m => .ex ⟨x_BadBook, [.int m]⟩ ()
      | .inr f => .ok f () := by
  have w := walk_l (p := p) hg hgn book hb asks 0 [] p [] hz Lie.nil rfl (by omega) (by omega)
  have en : enL asks = (asks.zipIdx 0).map fun q => ((q.2 : Int), q.1) := rfl
  have mk : ((t_Shelf_init () (stk g) p).mk) = .ok (stk g, p, [], 0) := by rw [shf_ok _ hp]; rfl
  have z0 : ((stk g, p, [], 0) : Shf) = (stk g, p, [], p - p) := by rw [Int.sub_self]
  unfold t_lying_after
  rw [chk_ok hp hl hz hw, rf_ok, bindE_ok, mk, bindE_ok, z0, en]
  rw [List.drop_zero, show (((0 : Nat)) : Int) = 0 from rfl] at w
  cases hk : walkW (rmz g) asks book 0 [] p [] with
  | inl m =>
    rw [hk] at w
    rcases w with w | ⟨⟨s, f, w⟩, rfl, w3⟩
    · rw [w]; rfl
    · rw [w, sbind_nx, if_pos (by simp; omega)]
      simp only [Nat.zero_add]; rfl
  | inr f =>
    rw [hk] at w
    obtain ⟨⟨s, w⟩, w2⟩ := w
    rw [w, sbind_nx, if_neg (by simp; omega)]; rfl
end
theorem cell_ok (ns : List Int) {k : Int} (h : 0 ≤ k) : ∃ c, tL_cell_at ns k = .ok c () := by
  unfold tL_cell_at
  by_cases h2 : k < ns.length
  · rw [if_pos (by simpa using h2)]
    have hk : k.toNat < ns.length := by omega
    rw [getI_ok h (List.getElem?_eq_getElem hk), bindE_ok, fn_rt]; exact ⟨_, rfl⟩
  · rw [if_neg (by simpa using h2), fn_rt]; exact ⟨_, rfl⟩
theorem mix_ok (c : Int) {k : Int} (h0 : 0 ≤ k) (h1 : k ≤ 1000) : ∃ v, tL_mix c k = .ok v () := by
  unfold tL_mix
  have : 0 ≤ c % 1000000007 := Int.emod_nonneg _ (by decide)
  have : c % 1000000007 < 1000000007 := Int.emod_lt_of_pos _ (by decide)
  rw [lt_v, mulR_ok (by omega) (by omega), bind_ok, bind_ok, bind_ok, bindE_ok, fn_rt]; exact ⟨_, rfl⟩
theorem nd_inj {α : Type} {l : List α} (hn : l.Nodup) {i j : Nat} (hi : i < l.length) (hj : j < l.length) (h : l[i] = l[j]) : i = j := by
  rw [List.nodup_iff_pairwise_ne, List.pairwise_iff_getElem] at hn
  rcases Nat.lt_trichotomy i j with c | c | c
  · exact absurd h (hn i j hi hj c)
  · exact c
  · exact absurd h.symm (hn j i hj hi c)
theorem erase_idx : ∀ {l : List Str}, l.Nodup → ∀ {k : Nat} (hk : k < l.length), l.erase l[k] = l.eraseIdx k
  | a :: l, hn, 0, hk => by simp
  | a :: l, hn, k + 1, hk => by
    rw [List.nodup_cons] at hn
    have hk' : k < l.length := by simpa using hk
    have ne : ¬ (a == l[k]) = true := by simp; exact fun e => hn.1 (e ▸ List.getElem_mem hk')
    rw [List.getElem_cons_succ, List.erase_cons_tail ne, erase_idx hn.2 hk']; rfl
theorem rooms_l19 {ρ κ l ξ : Type} {B : Int → List (Str × Int) → SR (List (Str × Int)) ρ κ (List (Str × Int)) ξ} {zs : List Str} {b : Int} (hN : zs.Nodup) (hB : ∀ (j : Nat) (s : List (Str × Int)), j < zs.length → s.length < 1000 → ∃ v, 1 ≤ v ∧ v ≤ b ∧ B (j : Int) s = .nx (dS s (zs.getD j "") v)) (hl : zs.length < 1000) :
    ∀ (m j : Nat) (s : List (Str × Int)), j + m ≤ zs.length → s.map (·.1) = zs.take j → (∀ q ∈ s, 1 ≤ q.2 ∧ q.2 ≤ b) → ∃ rs, (forR B (rgL (j : Int) m) s : SR (List (Str × Int)) ρ κ l ξ) = .nx rs ∧ rs.map (·.1) = zs.take (j + m) ∧ ∀ q ∈ rs, 1 ≤ q.2 ∧ q.2 ≤ b
  | 0, j, s, _, h1, h2 => ⟨s, rfl, h1, h2⟩
  | m + 1, j, s, hj, h1, h2 => by
    have sl : s.length = j := by
      have := congrArg List.length h1
      simp at this; omega
    obtain ⟨v, v1, v2, hb⟩ := hB j s (by omega) (by omega)
    have gj : zs.getD j "" = zs[j]'(by omega) := by rw [List.getD_eq_getElem?_getD, List.getElem?_eq_getElem (by omega)]; rfl
    have nw : zs.getD j "" ∉ s.map (·.1) := by
      rw [h1, gj]
      intro hm
      obtain ⟨i, hi, e⟩ := List.getElem_of_mem hm
      rw [List.getElem_take] at e
      have hi' : i < j := by simp at hi; omega
      exact absurd (nd_inj hN _ _ e) (by omega)
    rw [rgL_succ]
    simp only [forR, hb]
    rw [dS_new nw]
    have := rooms_l19 (l := l) hN hB hl m (j + 1) (s ++ [(zs.getD j "", v)]) (by omega) (by rw [List.map_append, h1, List.take_succ, gj, List.getElem?_eq_getElem (by omega)]; rfl) (fun q hq => by
      rcases List.mem_append.mp hq with hq | hq
      · exact h2 q hq
      · rw [List.mem_singleton] at hq; subst hq; exact ⟨v1, v2⟩)
    rw [show (((j + 1 : Nat)) : Int) = (j : Int) + 1 by omega, show j + 1 + m = j + (m + 1) by omega] at this
    exact this
theorem mkstk (rs : List (Str × Int)) : (stk (rs.map fun q => ((q.1, 3, q.2) : Row3))).2 = rs := by
  simp only [stk, List.map_map]
  exact (List.map_congr_left fun q _ => rfl).trans (List.map_id _)
theorem max_ok {rs : List (Str × Int)} {b : Int} (h0 : rs ≠ []) (h : ∀ q ∈ rs, 1 ≤ q.2 ∧ q.2 ≤ b) : ∃ w, gMaxV (rs.map (·.2)) = some w ∧ 1 ≤ w ∧ w ≤ b ∧ ∀ q ∈ rs, q.2 ≤ w := by
  cases hm : gMaxV (rs.map (·.2)) with
  | none =>
    have : (rs.map (·.2)).max? = none := hm
    rw [List.max?_eq_none_iff] at this
    exact absurd (List.map_eq_nil_iff.mp this) h0
  | some w =>
    have h2 : (rs.map (·.2)).max? = some w := hm
    obtain ⟨m1, m2⟩ := int_max h2
    obtain ⟨q, hq, e⟩ := List.mem_map.mp m1
    have := h q hq
    exact ⟨w, rfl, by omega, by omega, fun q hq => m2 _ (List.mem_map.mpr ⟨q, hq, rfl⟩)⟩
def sumW (rm : Str → Int) (l : List Str) : Int := (l.map rm).sum
theorem pop_w {l : List Str} (hn : l.Nodup) {i : Int} (h0 : 0 ≤ i) (h1 : i < l.length) (hl : l.length < 1000) : ∃ y, popI l i = some (y, l.erase y) ∧ y ∈ l := by
  have hk : i.toNat < l.length := by omega
  refine ⟨l[i.toNat], ?_, List.getElem_mem hk⟩
  unfold popI
  rw [if_pos ⟨by omega, by omega⟩]
  have : PySem.seqIndex? i l.length = some i.toNat := by
    unfold PySem.seqIndex?
    simp; omega
  rw [this, erase_idx hn hk]
  simp [hk]
section
variable {g : List Row3} {p : Int} {rs : List (Str × Int)} (hrs : ∀ y ∈ g.map (·.1), getD rs y = .ok (rmz g y))
structure GI (g : List Row3) (th : List Str) (z : Str) (L0 : Int) (s : List Str × Int × List Str × Int) : Prop where
  n1 : s.1.Nodup
  n2 : s.2.2.1.Nodup
  m1 : ∀ y ∈ s.1, y ∈ th ∧ y ≠ z ∧ y ∉ s.2.2.1
  m2 : ∀ y ∈ s.2.2.1, y ∈ th ∧ y ≠ z
  t : sumW (rmz g) s.1 + sumW (rmz g) s.2.2.1 = sumW (rmz g) (th.filter fun y => !decide (y = z))
  l : s.2.1 + sumW (rmz g) s.2.2.1 = L0
include hrs in
theorem gone_wh {th : List Str} (ht : ∀ y ∈ th, y ∈ g.map (·.1)) (tl : th.length < 900) {z : Str} {L0 more : Int} : ∀ (n f : Nat) (s : List Str × Int × List Str × Int), s.1.length ≤ n → n < f → GI g th z L0 s →
    ∃ s', (whR (tL_gone_c0 more) (fun _ => ()) (tL_gone_w0 rs) f s : SR (List Str × Int × List Str × Int) (List Str) Unit Empty Unit) = .nx s' ∧ GI g th z L0 s' ∧ (s'.1 = [] ∨ s'.2.1 ≤ 0)
  | n, 0, _, _, h, _ => absurd h (Nat.not_lt_zero _)
  | n, f + 1, s, hn, hf, G => by
    obtain ⟨oth, lacks, gone, pick⟩ := s
    have g2 := G.n2
    have gl : gone.length ≤ th.length := nodup_le gone th g2 fun y hy => (G.m2 y hy).1
    have ol : oth.length ≤ th.length := nodup_le oth th G.n1 fun y hy => (G.m1 y hy).1
    have c : tL_gone_c0 more (oth, lacks, gone, pick) = .ok ((decide ((0 : Int) < (oth.length : Int))) && ((decide ((gone.length : Int) < more)) || (decide ((0 : Int) < lacks)))) := rfl
    cases hc : (decide ((0 : Int) < (oth.length : Int))) && ((decide ((gone.length : Int) < more)) || (decide ((0 : Int) < lacks))) with
    | false =>
      rw [hc] at c
      refine ⟨_, by simp only [whR, c], G, ?_⟩
      simp only
      by_cases h0 : oth = []
      · exact .inl h0
      · refine .inr ?_
        have := List.length_pos_iff.mpr h0
        rw [decide_eq_true (by omega), Bool.true_and, Bool.or_eq_false_iff] at hc
        have := hc.2
        simp at this; exact this
    | true =>
      rw [hc] at c
      simp only [Bool.and_eq_true, decide_eq_true_eq] at hc
      cases n with
      | zero => simp only at hn; omega
      | succ n =>
        have p1 := Int.emod_nonneg pick (show (oth.length : Int) ≠ 0 by omega)
        have p2 := Int.emod_lt_of_pos pick hc.1
        obtain ⟨y, hy, ym⟩ := pop_w (l := oth) G.n1 p1 p2 (by omega)
        have ym : y ∈ oth := ym
        have b : tL_gone_w0 rs (oth, lacks, gone, pick) = .nx (oth.erase y, lacks - rmz g y, gone ++ [y], pick / 5) := by
          unfold tL_gone_w0
          dsimp only
          rw [modR_ok hc.1, bind_ok, bind_ok, hy]
          show R.bindE () (R.gd (gone.length < 1000000) (gone ++ [y])) _ = _
          rw [gd_t (by omega), bindE_ok, hrs y (ht y (G.m1 y ym).1), bind_ok, bindE_ok, lt_v]
        have le := List.length_erase_of_mem ym
        have lp := List.length_pos_of_mem ym
        obtain ⟨s', h1, h2, h3⟩ := gone_wh (z := z) (L0 := L0) (more := more) ht tl n f (oth.erase y, lacks - rmz g y, gone ++ [y], pick / 5) (by simp only at hn ⊢; omega) (by omega) (by
          refine ⟨G.n1.erase y, ?_, fun x hx => ?_, fun x hx => ?_, ?_, ?_⟩
          · exact List.nodup_append.mpr ⟨g2, by simp, fun a ha b hb => by rw [List.mem_singleton] at hb; subst hb; exact fun e => (G.m1 _ ym).2.2 (e ▸ ha)⟩
          · have hx' := List.mem_of_mem_erase hx
            refine ⟨(G.m1 x hx').1, (G.m1 x hx').2.1, fun h => ?_⟩
            rcases List.mem_append.mp h with h | h
            · exact (G.m1 x hx').2.2 h
            · rw [List.mem_singleton] at h; subst h; exact G.n1.not_mem_erase hx
          · rcases List.mem_append.mp hx with h | h
            · exact G.m2 x h
            · rw [List.mem_singleton] at h; subst h; exact ⟨(G.m1 _ ym).1, (G.m1 _ ym).2.1⟩
          · have := G.t
            simp only [sumW] at this ⊢
            rw [sum_erase (rmz g) ym, List.map_append, List.sum_append]
            simp; omega
          · have := G.l
            simp only [sumW] at this ⊢
            rw [List.map_append, List.sum_append]
            simp; omega)
        exact ⟨s', by simp only [whR, c, b]; exact h1, h2, h3⟩
include hrs in
theorem gone_ok (hgn : ∀ z ∈ g.map (·.1), nm z = true) (hg : g.length ≤ 60) {th : List Str} {left : Int} (hL : Lie g p th left) {z : Str} (hz : z ∈ g.map (·.1)) (hr : rmz g z ≤ p) (c : Int) :
    ∃ gone, tL_gone th rs z left c = .ok gone () ∧ gone.Nodup ∧ (∀ y ∈ gone, y ∈ th ∧ y ≠ z) ∧ (z ∉ th → rmz g z ≤ left + sumW (rmz g) gone) := by
  have len := hL.len
  have fl := lcG_okf (xs := th) (t := fun (a1 : Str) => neR eS a1 z) (p := fun y => !decide (y = z)) (E := fun (a1 : Str) => .ok a1) (g := fun a => a) (by omega) (fun y hy => neS_ok (hgn y (hL.sub y hy)) (hgn z hz)) (fun _ _ _ => rfl)
  rw [List.map_id'] at fl
  have key : ∀ L0 : Int, L0 = (if z ∈ th then 0 else rmz g z - left) → ∃ s', (whR (tL_gone_c0 (mxI 0 (c / 16 % 5 - 2))) (fun _ => ()) (tL_gone_w0 rs) FUEL (th.filter fun y => !decide (y = z), L0, [], c / 80) : SR (List Str × Int × List Str × Int) (List Str) Unit Empty Unit) = .nx s' ∧ s'.2.2.1.Nodup ∧ (∀ y ∈ s'.2.2.1, y ∈ th ∧ y ≠ z) ∧ (z ∉ th → rmz g z ≤ left + sumW (rmz g) s'.2.2.1) := fun L0 hL0 => by
    obtain ⟨s', h1, h2, h3⟩ := gone_wh (z := z) (L0 := L0) (more := mxI 0 (c / 16 % 5 - 2)) hrs (fun y hy => hL.sub y hy) (by omega) th.length FUEL (th.filter fun y => !decide (y = z), L0, [], c / 80) (List.length_filter_le _ _) (by unfold FUEL; omega)
      ⟨hL.nd.filter _, by simp, fun y hy => by
        rw [List.mem_filter] at hy
        exact ⟨hy.1, by simpa using hy.2, by simp⟩, by simp, by simp [sumW], by simp [sumW]⟩
    refine ⟨s', h1, h2.n2, h2.m2, fun hm => ?_⟩
    have t := h2.t
    have l := h2.l
    rw [if_neg hm] at hL0
    have fi : (th.filter fun y => !decide (y = z)) = th := List.filter_eq_self.mpr fun y hy => by simp; exact fun e => hm (e ▸ hy)
    rw [fi] at t
    have su := hL.sum
    have su' : sumW (rmz g) th = p - left := by unfold sumW; omega
    rcases h3 with h3 | h3
    · rw [h3] at t
      simp only [sumW, List.map_nil, List.sum_nil] at t su' l ⊢
      omega
    · omega
  unfold tL_gone
  rw [fl, bindE_ok, lt_v]
  by_cases hm : z ∈ th
  · obtain ⟨s', h1, h2⟩ := key 0 (by rw [if_pos hm])
    rw [if_neg (by simpa using hm), sbind_nx, lt_v, h1, sbind_nx, fn_rt]
    exact ⟨_, rfl, h2⟩
  · obtain ⟨s', h1, h2⟩ := key (rmz g z - left) (by rw [if_neg hm])
    rw [if_pos (by simpa using hm), hrs z hz, bind_ok, bindE_ok, sbind_nx, lt_v, h1, sbind_nx, fn_rt]
    exact ⟨_, rfl, h2⟩
/-- what is cast off in order -/
theorem castW_ok {z : Str} : ∀ (ys th : List Str) (left : Int), th.Nodup → ys.Nodup → (∀ y ∈ ys, y ∈ th ∧ y ≠ z) → ∃ s, castW (rmz g) z ys th left = some s ∧ s.2 = left + sumW (rmz g) ys
  | [], th, left, _, _, _ => ⟨_, rfl, by simp [sumW]⟩
  | y :: ys, th, left, hn, hy, h => by
    have y0 := h y List.mem_cons_self
    rw [List.nodup_cons] at hy
    obtain ⟨s, h1, h2⟩ := castW_ok (z := z) ys (th.erase y) (left + rmz g y) (hn.erase y) hy.2 fun x hx => ⟨(List.mem_erase_of_ne (fun e => hy.1 (by rw [← e]; exact hx))).mpr (h x (List.mem_cons_of_mem _ hx)).1, (h x (List.mem_cons_of_mem _ hx)).2⟩
    refine ⟨s, ?_, by rw [h2]; simp [sumW]; omega⟩
    unfold castW
    rw [if_neg (by rintro (e | e); exact y0.2 e; exact e y0.1)]; exact h1
theorem stepW_ok {z : Str} {gone th : List Str} {left : Int} (hL : Lie g p th left) (hn : gone.Nodup) (hm : ∀ y ∈ gone, y ∈ th ∧ y ≠ z) (hr : z ∉ th → rmz g z ≤ left + sumW (rmz g) gone) :
    ∃ s, castW (rmz g) z gone th left = some s ∧ stepW (rmz g) z (z, decide (z ∈ th), gone) th left = some (if z ∈ th then s else (s.1 ++ [z], s.2 - rmz g z)) := by
  obtain ⟨s, h1, h2⟩ := castW_ok (g := g) (z := z) gone th left hL.nd hn hm
  refine ⟨s, h1, ?_⟩
  unfold stepW
  rw [if_neg (by simp), h1]
  by_cases h : z ∈ th
  · simp [h]
  · have := hr h
    simp only [h, decide_false, Bool.false_eq_true, if_false]
    rw [if_neg (by omega)]
end
/-- the run that made a book -/
def RunW (g : List Row3) (p : Int) : List Str → List BRow → List (List Str × Int) → List Str → Int → Prop
  | [], [], [], _, _ => True
  | z :: zs, r :: rs, a :: as, th, left => a = (th, left) ∧ Lie g p th left ∧ r.1 = z ∧ r.2.1 = decide (z ∈ th) ∧ (∀ y ∈ r.2.2, y ∈ th ∧ y ≠ z) ∧ r.2.2.Nodup ∧ ∃ s, stepW (rmz g) z r th left = some s ∧ RunW g p zs rs as s.1 s.2
  | _, _, _, _, _ => False
section
variable {g : List Row3} {p : Int}
theorem runW_len : ∀ {zs : List Str} {rs : List BRow} {as : List (List Str × Int)} {th : List Str} {left : Int}, RunW g p zs rs as th left → rs.length = zs.length ∧ as.length = zs.length
  | [], [], [], _, _, _ => ⟨rfl, rfl⟩
  | z :: zs, r :: rs, a :: as, th, left, h => by
    obtain ⟨_, _, _, _, _, _, s, _, h⟩ := h
    have := runW_len h
    simp only [List.length_cons]; omega
theorem runW_at : ∀ {zs : List Str} {rs : List BRow} {as : List (List Str × Int)} {th : List Str} {left : Int}, RunW g p zs rs as th left → ∀ {k : Nat} {z : Str}, zs[k]? = some z → ∃ r a, rs[k]? = some r ∧ as[k]? = some a ∧ Lie g p a.1 a.2 ∧ r.1 = z ∧ r.2.1 = decide (z ∈ a.1) ∧ (∀ y ∈ r.2.2, y ∈ a.1 ∧ y ≠ z) ∧ r.2.2.Nodup ∧
      ∀ (bad : List BRow), bad.take k = rs.take k → (∀ r', bad[k]? = some r' → stepW (rmz g) z r' a.1 a.2 = none) → ∀ (n : Int) acc, walkW (rmz g) zs bad n th left acc = .inl (n + k)
  | z :: zs, r :: rs, a :: as, th, left, h, 0, z', hk => by
    obtain ⟨h1, h2, h3, h4, h5, h6, s, hs, h⟩ := h
    subst h1
    cases hk
    refine ⟨r, _, rfl, rfl, h2, h3, h4, h5, h6, fun bad _ hb n acc => ?_⟩
    cases bad with
    | nil => simp [walkW]
    | cons r' bad => simp [walkW, hb r' rfl]
  | z :: zs, r :: rs, a :: as, th, left, h, k + 1, z', hk => by
    obtain ⟨h1, h2, h3, h4, h5, h6, s, hs, h⟩ := h
    obtain ⟨r0, a0, e1, e2, e3, e4, e5, e6, e7, e8⟩ := runW_at h (k := k) (z := z') (by simpa using hk)
    refine ⟨r0, a0, by simpa using e1, by simpa using e2, e3, e4, e5, e6, e7, fun bad hb hn n acc => ?_⟩
    cases bad with
    | nil => simp at hb
    | cons r' bad =>
      simp only [List.take_succ_cons, List.cons.injEq] at hb
      obtain ⟨rfl, hb⟩ := hb
      simp only [walkW, hs]
      rw [e8 bad hb (fun r1 h1 => hn r1 (by simpa using h1)) (n + 1) (acc ++ [s.1])]
      congr 1; omega
theorem runW_ok {hgn : ∀ z ∈ g.map (·.1), nm z = true} : ∀ {zs : List Str} {rs : List BRow} {as : List (List Str × Int)} {th : List Str} {left : Int}, (∀ z ∈ zs, z ∈ g.map (·.1)) → RunW g p zs rs as th left → ∀ r ∈ rs, ROk r
  | [], [], [], _, _, _, _, r, hr => by simp at hr
  | z :: zs, r0 :: rs, a :: as, th, left, hz, h, r, hr => by
    obtain ⟨h1, h2, h3, h4, h5, h6, s, hs, h⟩ := h
    rcases List.mem_cons.mp hr with rfl | hr
    · exact ⟨by rw [h3]; exact hgn _ (hz z List.mem_cons_self), fun y hy => hgn _ (h2.sub y (h5 y hy).1)⟩
    · exact runW_ok (hgn := hgn) (fun y hy => hz y (List.mem_cons_of_mem _ hy)) h r hr
end
theorem lcG_ex {α β : Type} {xs : List α} {E : α → R β} {P : β → Prop} (hl : xs.length ≤ 1000000) (h : ∀ a ∈ xs, ∃ b, E a = .ok b ∧ P b) : ∃ ys : List β, Ty.lcG xs (fun _ => .ok true) E = .ok ys ∧ ys.length = xs.length ∧ ∀ y ∈ ys, P y := by
  have : ∀ xs : List α, (∀ a ∈ xs, ∃ b, E a = .ok b ∧ P b) → ∃ ys : List β, lcR (fun _ => .ok true) E xs = .ok ys ∧ ys.length = xs.length ∧ ∀ y ∈ ys, P y := fun xs => by
    induction xs with
    | nil => intro _; exact ⟨[], rfl, rfl, by simp⟩
    | cons a xs ih =>
      intro h
      obtain ⟨b, h1, h2⟩ := h a List.mem_cons_self
      obtain ⟨ys, i1, i2, i3⟩ := ih fun b hb => h b (List.mem_cons_of_mem _ hb)
      refine ⟨b :: ys, by simp only [lcR, h1, i1], by simp [i2], fun y hy => ?_⟩
      rcases List.mem_cons.mp hy with e | e
      · rw [e]; exact h2
      · exact i3 y e
  obtain ⟨ys, h1, h2, h3⟩ := this xs h
  exact ⟨ys, by unfold Ty.lcG; rw [if_pos hl, h1], h2, h3⟩
theorem cut_le {α : Type} (xs : List α) (lo hi : Option Int) : (cutL xs lo hi).length ≤ xs.length := by
  unfold cutL; simp; omega
section
variable {g : List Row3} {p : Int} {rs : List (Str × Int)} (hrs : ∀ y ∈ g.map (·.1), getD rs y = .ok (rmz g y))
include hrs in
theorem run_in {z : Str} {l : Type} : ∀ (ys th : List Str) (left : Int) {s : List Str × Int}, Lie g p th left → castW (rmz g) z ys th left = some s → (forR (tL_run_b0 rs) ys (th, left) : SR (List Str × Int) (List BRow × List (List Str)) Unit l Unit) = .nx s
  | [], th, left, s, _, h => by cases h; rfl
  | y :: ys, th, left, s, hL, h => by
    unfold castW at h
    split at h
    · cases h
    · rename_i hc
      have hm : y ∈ th := Classical.byContradiction fun e => hc (.inr e)
      have b : tL_run_b0 rs y (th, left) = .nx (th.erase y, left + rmz g y) := by
        unfold tL_run_b0
        rw [gd_t hm, bindE_ok, hrs y (hL.sub y hm), bind_ok, bindE_ok]
      simp only [forR, b]
      exact run_in ys _ _ (hL.erase hm) h
include hrs in
theorem run_l (hgn : ∀ z ∈ g.map (·.1), nm z = true) (hg : g.length ≤ 60) (hw : ∀ z ∈ g.map (·.1), rmz g z ≤ p) : ∀ (qs : List (Str × Int)) (bk : List BRow) (bh : List (List Str)) (th : List Str) (left : Int), (∀ q ∈ qs, q.1 ∈ g.map (·.1)) → Lie g p th left → bk.length + qs.length < 1000 → bh.length + qs.length < 1000 →
    ∃ rows as told s, (forR (tL_run_b1 rs) qs (bk, bh, th, left) : SR (List BRow × List (List Str) × List Str × Int) (List BRow × List (List Str)) Unit Empty Unit) = .nx (bk ++ rows, bh ++ told, s) ∧ RunW g p (qs.map (·.1)) rows as th left ∧
      (∀ (n : Int) acc, walkW (rmz g) (qs.map (·.1)) rows n th left acc = .inr (acc ++ told)) ∧ (∀ t ∈ told, t.length ≤ 60 ∧ ∀ z ∈ t, nm z = true)
  | [], bk, bh, th, left, _, _, _, _ => ⟨[], [], [], (th, left), by simp [forR], trivial, fun n acc => by simp [walkW], by simp⟩
  | q :: qs, bk, bh, th, left, hq, hL, h1, h2 => by
    simp only [List.length_cons] at h1 h2
    have hz := hq q List.mem_cons_self
    have len := hL.len
    obtain ⟨gone, e1, e2, e3, e4⟩ := gone_ok hrs hgn hg hL hz (hw _ hz) q.2
    obtain ⟨s, s1, s2⟩ := stepW_ok hL e2 e3 e4
    obtain ⟨c1, c2, c3, c4, _, _⟩ := castW_lie _ _ _ hL s1
    have b : tL_run_b1 rs q (bk, bh, th, left) = .nx (bk ++ [(q.1, decide (q.1 ∈ th), gone)], bh ++ [(if q.1 ∈ th then s else (s.1 ++ [q.1], s.2 - rmz g q.1)).1], if q.1 ∈ th then s else (s.1 ++ [q.1], s.2 - rmz g q.1)) := by
      unfold tL_run_b1
      dsimp only
      rw [lt_v, e1, rf_ok, bindE_ok, run_in hrs gone th left hL s1, sbind_nx]
      by_cases hm : q.1 ∈ th
      · rw [if_neg (by simpa using hm), sbind_nx, gd_t (by omega), bindE_ok, gd_t (by omega), bindE_ok, if_pos hm]
      · rw [if_pos (by simpa using hm), gd_t (by omega), bindE_ok, hrs _ hz, bind_ok, bindE_ok, sbind_nx, gd_t (by omega), bindE_ok, gd_t (by omega), bindE_ok, if_neg hm]
    obtain ⟨L', _, _, _, _⟩ := stepW_lie hz hL s2
    generalize hS : (if q.1 ∈ th then s else (s.1 ++ [q.1], s.2 - rmz g q.1)) = S at *
    obtain ⟨th', left'⟩ := S
    obtain ⟨rows, as, told, s', i1, i2, i3, i4⟩ := run_l hgn hg hw qs (bk ++ [(q.1, decide (q.1 ∈ th), gone)]) (bh ++ [th']) th' left' (fun x hx => hq x (List.mem_cons_of_mem _ hx)) L' (by simp; omega) (by simp; omega)
    refine ⟨(q.1, decide (q.1 ∈ th), gone) :: rows, (th, left) :: as, th' :: told, s', ?_, ?_, fun n acc => ?_, fun t ht => ?_⟩
    · simp only [forR, b]
      rw [i1]; simp
    · exact ⟨rfl, hL, rfl, rfl, e3, e2, _, s2, i2⟩
    · simp only [List.map_cons, walkW, s2]
      rw [i3, List.append_assoc]; rfl
    · rcases List.mem_cons.mp ht with rfl | ht
      · exact ⟨Nat.le_trans L'.len hg, fun z hz => hgn z (L'.sub z hz)⟩
      · exact i4 t ht
include hrs in
theorem run_ok (hgn : ∀ z ∈ g.map (·.1), nm z = true) (hg : g.length ≤ 60) (hw : ∀ z ∈ g.map (·.1), rmz g z ≤ p) {asks : List Str} {cells : List Int} (hl : asks.length = cells.length) (hl2 : asks.length ≤ 200) (hz : ∀ z ∈ asks, z ∈ g.map (·.1)) :
    ∃ rows as told, tL_run asks cells rs p = .ok (rows, told) () ∧ RunW g p asks rows as [] p ∧ walkW (rmz g) asks rows 0 [] p [] = .inr told ∧ (∀ t ∈ told, t.length ≤ 60 ∧ ∀ z ∈ t, nm z = true) := by
  obtain ⟨rows, as, told, s, h1, h2, h3, h4⟩ := run_l hrs hgn hg hw (List.zip asks cells) [] [] [] p (fun q hq => hz _ (List.of_mem_zip (a := q.1) (b := q.2) hq).1) Lie.nil (by simp; omega) (by simp; omega)
  rw [List.map_fst_zip (by omega)] at h2 h3
  refine ⟨rows, as, told, ?_, h2, by rw [h3]; rfl, h4⟩
  unfold tL_run
  rw [h1, sbind_nx, fn_rt]; rfl
end
theorem nms_py (n : Nat) {zs : List Str} (h : ∀ z ∈ zs, nm z = true) : Ty.PyOk (n + 1) (eL eS zs) := py_l (n := n) fun z hz => nm_pz _ (h z hz)
theorem nms_same {zs : List Str} (h : ∀ z ∈ zs, nm z = true) : neR (eL eS) zs zs = .ok false := by
  have : Ty.PyOk 60 (eL eS zs) := (nms_py 0 h).mono (by decide)
  unfold neR; rw [R.gc_ok ⟨this, this⟩]; simp
theorem bk_same {b : List BRow} (h : ∀ r ∈ b, ROk r) : neR (eL (eU3 eS eB (eL eS))) b b = .ok false := by
  have : Ty.PyOk 60 (eL (eU3 eS eB (eL eS)) b) := (py_l (n := 2) fun r hr => py_u3 (n := 1) (nm_pz _ (h r hr).1) (py_b _ _) (nms_py 0 (h r hr).2)).mono (by decide)
  unfold neR; rw [R.gc_ok ⟨this, this⟩]; simp
theorem lists_l {l : Type} : ∀ (ts : List (List Str)), (∀ t ∈ ts, ∀ z ∈ t, nm z = true) → (forR tL_lists_b0 (List.zip ts ts) () : SR Unit Bool Unit l Unit) = .nx ()
  | [], _ => rfl
  | t :: ts, h => by
    have b : tL_lists_b0 (t, t) () = .nx () := by
      unfold tL_lists_b0
      dsimp only
      rw [nms_same (h t List.mem_cons_self)]; rfl
    rw [List.zip_cons_cons, forR_step b]
    exact lists_l ts fun u hu => h u (List.mem_cons_of_mem _ hu)
theorem lists_ok {ts : List (List Str)} (h : ∀ t ∈ ts, ∀ z ∈ t, nm z = true) : tL_lists ts ts = .ok true () := by
  unfold tL_lists
  rw [decide_eq_true rfl, if_neg (by decide), lists_l ts h, sbind_nx, fn_rt]
theorem al_e {T0 : List (List Str)} (hT : ∀ t ∈ T0, t.length ≤ 60 ∧ ∀ z ∈ t, nm z = true) (bk : List BRow) : ∀ (rest done : List (List Str)), T0.drop done.length = rest → ∃ r, (alE (t_law_b1 (bk, T0)) done rest () : SR (List (List Str) × Unit) Bool Unit Empty Unit) = .nx (r, ())
  | [], done, _ => ⟨done, rfl⟩
  | t :: rest, done, hd => by
    have ht : t ∈ T0 := List.mem_of_mem_drop (i := done.length) (by rw [hd]; exact List.mem_cons_self)
    have hd2 : T0.drop (done.length + 1) = rest := by
      have := congrArg List.tail hd
      rw [List.tail_drop] at this; exact this
    have b : t_law_b1 (bk, T0) (done, rest) (done.length : Int) t () = .nx (t ++ [("zz" : Str)], ()) := by
      unfold t_law_b1
      rw [gd_t (by have := (hT t ht).1; omega), bindE_ok]
      dsimp only
      cases rest with
      | nil =>
        rw [decide_eq_false (by simp)]; rfl
      | cons u rest =>
        have hu : T0[done.length + 1]? = some u := by
          have := congrArg List.head? hd2
          rw [List.head?_drop] at this; exact this
        have gm : getMk (done, u :: rest) ((done.length : Int) + 1) = .ok u := by
          unfold getMk
          rw [show (done.length : Int) + 1 = ((done.length + 1 : Nat) : Int) by omega, Tr.atI_nat]
          simp
        rw [decide_eq_true (by simp; omega), gm, bind_ok, getI_ok (by omega) (x := u) (by rw [show ((done.length : Int) + 1).toNat = done.length + 1 by omega]; exact hu), bind_ok, nms_same (hT u (List.mem_of_getElem? hu)).2]; rfl
    obtain ⟨r, h⟩ := al_e hT bk rest (done ++ [t ++ [("zz" : Str)]]) (by rw [List.length_append, List.length_singleton]; exact hd2)
    refine ⟨r, ?_⟩
    simp only [alE, b]
    exact h
theorem al_t : ∀ (rest done : List BRow), (∀ r ∈ rest, r.2.2.length ≤ 1000) → ∃ r, (alT t_law_b2 done rest () : SR (List BRow × Unit) Bool Unit Empty Unit) = .nx (r, ())
  | [], done, _ => ⟨done, rfl⟩
  | t :: rest, done, h => by
    have b : t_law_b2 t () = .nx (t.2.2 ++ [("zz" : Str)], ()) := by
      unfold t_law_b2
      rw [gd_t (by have := h t List.mem_cons_self; omega), bindE_ok]
    obtain ⟨r, e⟩ := al_t rest (done ++ [(t.1, t.2.1, t.2.2 ++ [("zz" : Str)])]) fun q hq => h q (List.mem_cons_of_mem _ hq)
    refine ⟨r, ?_⟩
    simp only [alT, b]
    exact e
theorem lawT (ns : List Int) (hl : ns.length ≤ 63) : t_law ns = .ok true () := by
  have cell : ∀ k : Int, 0 ≤ k → ∃ c, (tL_cell_at ns k).r = .ok c := fun k h => by
    obtain ⟨c, e⟩ := cell_ok ns h
    exact ⟨c, by rw [e]; rfl⟩
  obtain ⟨c0, h0⟩ := cell 0 (by decide)
  obtain ⟨c1, h1⟩ := cell 1 (by decide)
  obtain ⟨c2, h2⟩ := cell 2 (by decide)
  obtain ⟨c3, h3⟩ := cell 3 (by decide)
  obtain ⟨c4, h4⟩ := cell 4 (by decide)
  obtain ⟨m, hm, m1, m2⟩ : ∃ m : Nat, 1 + c0 % 10 = (m : Int) ∧ 1 ≤ m ∧ m ≤ 10 := ⟨(1 + c0 % 10).toNat, by omega, by omega, by omega⟩
  obtain ⟨zs, n1, n2, n3, n4⟩ := names19 c1 m (by omega)
  obtain ⟨wd, hwd, wd1, wd2⟩ : ∃ d : Int, getI [1, 4, 20, 1000] (c2 % 4) = .ok d ∧ 1 ≤ d ∧ d ≤ 1000 := by
    have : c2 % 4 = 0 ∨ c2 % 4 = 1 ∨ c2 % 4 = 2 ∨ c2 % 4 = 3 := by omega
    rcases this with h | h | h | h <;> rw [h]
    · exact ⟨1, rfl, by omega, by omega⟩
    · exact ⟨4, rfl, by omega, by omega⟩
    · exact ⟨20, rfl, by omega, by omega⟩
    · exact ⟨1000, rfl, by omega, by omega⟩
  have hB : ∀ (j : Nat) (s : List (Str × Int)), j < zs.length → s.length < 1000 → ∃ v, 1 ≤ v ∧ v ≤ 1000 ∧ t_law_b0 ns zs wd (j : Int) s = .nx (dS s (zs.getD j "") v) := fun j s hj hs => by
    obtain ⟨v, hv⟩ := mix_ok (c2 / 4) (k := (j : Int)) (by omega) (by omega)
    have gz : getI zs (j : Int) = .ok (zs.getD j "") := getI_ok (by omega) (by rw [Int.toNat_natCast, List.getD_eq_getElem?_getD, List.getElem?_eq_getElem (by omega)]; rfl)
    have e1 := Int.emod_nonneg v (show wd ≠ 0 by omega)
    have e2 := Int.emod_lt_of_pos v (show 0 < wd by omega)
    refine ⟨1 + v % wd, by omega, by omega, ?_⟩
    unfold t_law_b0
    rw [h2, bind_ok, bind_ok, hv, rf_ok, bind_ok, modR_ok (by omega), bind_ok, bind_ok, gz, bind_ok, gd_t (by omega), bindE_ok]
  obtain ⟨rs, r1, r2, r3⟩ := rooms_l19 (l := Empty) (B := t_law_b0 ns zs wd) (zs := zs) (b := 1000) n4 hB (by omega) zs.length 0 [] (by omega) (by simp) (by simp)
  rw [Nat.zero_add, List.take_length] at r2
  have r1 : (forR (t_law_b0 ns zs wd) (rgL 0 zs.length) [] : SR (List (Str × Int)) Bool Unit Empty Unit) = .nx rs := r1
  have rl : rs.length = m := by rw [← n2, ← r2, List.length_map]
  rw [n2] at r1
  obtain ⟨w, w1, w2, w3, w4⟩ := max_ok (b := 1000) (fun h => by rw [h] at rl; simp at rl; omega) r3
  let g : List Row3 := rs.map fun q => (q.1, 3, q.2)
  have gk : g.map (·.1) = zs := by rw [← r2]; simp [g, Function.comp]
  have gs : (stk g).2 = rs := mkstk rs
  have g60 : g.length ≤ 60 := by simp [g]; omega
  have hgn : ∀ z ∈ g.map (·.1), nm z = true := fun z hz => n3 z (by rw [gk] at hz; exact hz)
  have hgood : ∀ q ∈ g, GoodR q := fun q hq => by
    obtain ⟨x, hx, rfl⟩ := List.mem_map.mp hq
    have := r3 x hx
    exact ⟨hgn _ (List.mem_map.mpr ⟨_, hq, rfl⟩), ⟨by show (0 : Int) ≤ 3; decide, by show (3 : Int) ≤ 10 ^ 30; decide⟩, by simp only; omega⟩
  have hN : (g.map (·.1)).Nodup := by rw [gk]; exact n4
  have hrs : ∀ y ∈ g.map (·.1), getD rs y = .ok (rmz g y) := fun y hy => by rw [getD, ← gs, (rmz_g hy).1]; rfl
  obtain ⟨d, hd, d1, d2⟩ : ∃ d : Int, getI [31, 31, 2000, 990001] (c3 / 31 % 4) = .ok d ∧ 1 ≤ d ∧ d ≤ 990001 := by
    have : c3 / 31 % 4 = 0 ∨ c3 / 31 % 4 = 1 ∨ c3 / 31 % 4 = 2 ∨ c3 / 31 % 4 = 3 := by omega
    rcases this with h | h | h | h <;> rw [h]
    · exact ⟨31, rfl, by omega, by omega⟩
    · exact ⟨31, rfl, by omega, by omega⟩
    · exact ⟨2000, rfl, by omega, by omega⟩
    · exact ⟨990001, rfl, by omega, by omega⟩
  obtain ⟨p, hpe⟩ : ∃ p, p = w + c3 % d := ⟨_, rfl⟩
  have p37 := Int.emod_nonneg c3 (show d ≠ 0 by omega)
  have p38 := Int.emod_lt_of_pos c3 (show (0 : Int) < d by omega)
  have hp : 1 ≤ p ∧ p ≤ 1000000 := by omega
  have hw : ∀ z ∈ g.map (·.1), rmz g z ≤ p := fun z hz => by
    obtain ⟨_, q, hq, _, e⟩ := rmz_g hz
    obtain ⟨x, hx, rfl⟩ := List.mem_map.mp hq
    have := w4 x hx
    rw [← e]; simp only; omega
  have lcS := lcG_ok (xs := rs) (E := fun (a67 : Str × Int) => .ok ((a67.1, (3 : Int), a67.2) : Row3)) (g := fun q => (q.1, 3, q.2)) (by omega) fun _ _ => rfl
  have hst := stk_ok hgood hN g60
  obtain ⟨cells, hC, cl⟩ : ∃ cells : List Int, (R.bindE () (R.bind (R.bind (R.bind (R.ok c0) fun (x50 : Int) => .ok (x50 / (10 : Int))) fun (x51 : Int) => .ok (x51 % (6 : Int))) fun (x52 : Int) => .ok (decide (x52 = (1 : Int)))) fun (x63 : Bool) => if x63 = true then R.bindE () (R.bind (rg1R (200 : Int)) fun (x61 : List Int) => Ty.lcG x61 (fun (a59 : Int) => .ok true) (fun (a59 : Int) => R.bind ((tL_cell_at ns (4 : Int)).r) fun (x60 : Int) => (tL_mix x60 a59).r)) fun (v7_62 : (List Int)) => .nx v7_62 else .nx (cutL ns (some (4 : Int)) (some (204 : Int))) : SR (List Int) Bool Unit Empty Unit) = .nx cells ∧ cells.length ≤ 200 := by
    rw [bind_ok, bind_ok, bind_ok, bindE_ok]
    split
    · obtain ⟨ys, y1, y2, _⟩ := lcG_ex (xs := rgL 0 200) (E := fun (a59 : Int) => R.bind ((tL_cell_at ns (4 : Int)).r) fun (x60 : Int) => (tL_mix x60 a59).r) (P := fun _ => True) (by rw [rgL_len]; omega) fun a ha => by
        have := rgL_mem ha
        obtain ⟨v, hv⟩ := mix_ok c4 (k := a) (by omega) (by omega)
        exact ⟨v, by rw [h4, bind_ok, hv]; rfl, trivial⟩
      rw [rgL_len] at y2
      rw [rg1_ok (by decide) (by decide), bind_ok, show (200 : Int).toNat = 200 from rfl, y1, bindE_ok]
      exact ⟨ys, rfl, by omega⟩
    · exact ⟨_, rfl, by have := cut_le ns (some (4 : Int)) (some (204 : Int)); omega⟩
  have lcA := lcG_ok (xs := cells) (E := fun (a64 : Int) => R.bind (modR a64 (m : Int)) fun (x65 : Int) => getI zs x65) (g := fun a : Int => zs.getD (a % (m : Int)).toNat "") (by omega) fun a _ => by
    have a1 := Int.emod_nonneg a (show (m : Int) ≠ 0 by omega)
    have a2 := Int.emod_lt_of_pos a (show (0 : Int) < m by omega)
    rw [modR_ok (by omega), bind_ok]
    exact getI_ok a1 (by rw [List.getD_eq_getElem?_getD, List.getElem?_eq_getElem (by omega)]; rfl)
  generalize hA : cells.map (fun a : Int => zs.getD (a % (m : Int)).toNat "") = asks at *
  have al : asks.length = cells.length := by rw [← hA, List.length_map]
  have az : ∀ z ∈ asks, z ∈ g.map (·.1) := fun z hz => by
    rw [← hA] at hz
    obtain ⟨a, _, rfl⟩ := List.mem_map.mp hz
    have a1 := Int.emod_nonneg a (show (m : Int) ≠ 0 by omega)
    have a2 := Int.emod_lt_of_pos a (show (0 : Int) < m by omega)
    rw [gk, List.getD_eq_getElem?_getD, List.getElem?_eq_getElem (by omega)]
    exact List.getElem_mem _
  obtain ⟨rows, as, told, hrun, hR, hW, hT⟩ := run_ok hrs hgn g60 hw al (by omega) az
  obtain ⟨rl1, rl2⟩ := runW_len hR
  have rok := runW_ok (hgn := hgn) az hR
  have lya : t_lying_after (stk g) asks p rows = .ok told () := by
    rw [lying_after_ok g60 hgn hp hw rok az (by omega), hW]
  have cpy : tL_copy rows = .ok rows () := by
    have := lcG_ok (xs := rows) (E := fun (a1 : BRow) => .ok (a1.1, a1.2.1, a1.2.2)) (g := fun a => a) (by omega) fun _ _ => rfl
    rw [List.map_id'] at this
    unfold tL_copy
    rw [this, bindE_ok, fn_rt]
  have goneL : ∀ r ∈ rows, r.2.2.length ≤ 1000 := fun r hr => by
    obtain ⟨k, hk, e⟩ := List.getElem_of_mem hr
    have hka : k < asks.length := by omega
    obtain ⟨r', a, f1, f2, f3, f4, f5, f6, f7, _⟩ := runW_at hR (List.getElem?_eq_getElem hka)
    rw [List.getElem?_eq_getElem hk, e] at f1
    cases f1
    have := nodup_le r.2.2 a.1 f7 fun y hy => (f6 y hy).1
    have := f3.len
    omega
  obtain ⟨q1, e1⟩ := al_e (T0 := told) hT rows told [] (by simp)
  obtain ⟨q2, e2⟩ := al_t rows [] goneL
  have lk := lists_ok (ts := told) fun t ht => (hT t ht).2
  unfold t_law
  rw [h0, bind_ok, bind_ok, hm, bindE_ok, h1, bind_ok, n1, rf_ok, bindE_ok, h2, bind_ok, bind_ok, hwd, bindE_ok, rg1_ok (by omega) (by omega), bindE_ok, Int.toNat_natCast, r1, sbind_nx]
  rw [w1, show R.ofO (some w) = .ok w from rfl, bind_ok, h3, bind_ok, bind_ok, bind_ok, bind_ok, hd, bind_ok, modR_ok (by omega), bind_ok, bindE_ok, ← hpe, lt_v, hC, sbind_nx, lcA, bindE_ok, lcS, bind_ok, hst, mk_ok, bind_ok, bindE_ok, hrun, rf_ok, bindE_ok]
  dsimp only
  rw [cpy, rf_ok, bindE_ok, lya, rf_ok, bindE_ok, lk, rf_ok, bk_same rok, nms_same fun z hz => hgn z (az z hz)]
  show SR.fn _ (R.bindE () (.ok false) _) = _
  rw [bindE_ok, if_neg (by decide), e1, sbind_nx, bindE_ok, bindE_ok, e2, sbind_nx, bindE_ok, bindE_ok, lk, rf_ok, bindE_ok, fn_rt]
theorem lawEq (ns : List Int) (hl : ns.length ≤ 63) : ∃ as, m_law [.ro (.scr ns)] = .ok (.im (.bl true)) as := by
  have h := t_law_ok ns
  rw [lawT ns hl] at h
  obtain ⟨as, h, _⟩ := h
  exact ⟨as, h⟩
end G
open PySem PySem.W PyProof.Rows
set_option maxRecDepth 100000 in
set_option maxHeartbeats 0 in
theorem PySem.Challenge.cw_castoff_k14_lawful_books_holds : PySem.Challenge.rw_castoff_k14_lawful_books.Holds := by
  w_on; o_law; k_head; (case hw => w_witness2)
  k_fill
  refine Tr.walk_law (l := PySem.Challenge.rw_castoff_k14_lawful_books) (k := 8) (x := "_law_script") (mf := G.m_law) rfl rfl ⟨rfl, by decide, by decide⟩ (fun w h Y => PySem.W.kIn_of Y) ?F G.lawEq
  case F =>
    intro w mg fa h KX GG hmg
    refine' Tr.all_tab2 (tab := G.tab) (fun _ _ _ => ⟨rfl, rfl⟩) (G.all_mk KX GG hmg ?ac0 ?pg0 ?hd0 ?po0 ?sa0 ?mm0 ?kc0 ?nf0_stock ?nf0_places ?nf0_there ?nf0_used ?ac1 ?pg1 ?hd1 ?po1 ?sa1 ?mm1 ?kc1 ?nf1_costs ?nf1_rooms ?g_NoName ?g_NoNumber ?g_Twice ?g_TooMany ?g_Unknown ?g_TooWide ?g_There ?g_NotThere ?g_Full ?g_BadBook ?xi5 ?xt5 ?xi6 ?xt6 ?xi10 ?xt10 ?mi0 ?if29 ?mi1 ?if35 ?mf0_cast ?if34 ?mf0_holds ?if31 ?mf0_lying ?if30 ?mf0_put ?if33 ?mf0_room_left ?if32 ?mf1_has ?if37 ?mf1_room_of ?if40 ?a9 ?l9 ?c9 ?k9 ?a6 ?l6 ?c6 ?k6 ?a0 ?l0 ?c0 ?k0 ?l35 ?c35 ?k35 ?a10 ?l10 ?c10 ?k10 ?a11 ?l11 ?c11 ?k11 ?a12 ?l12 ?c12 ?k12 ?a1 ?l1 ?c1 ?k1 ?l37 ?c37 ?k37 ?l40 ?c40 ?k40 ?a2 ?l2 ?c2 ?k2 ?l29 ?c29 ?k29 ?l34 ?c34 ?k34 ?l31 ?c31 ?k31 ?a3 ?l3 ?c3 ?k3 ?l32 ?c32 ?k32 ?l33 ?c33 ?k33 ?a4 ?l4 ?c4 ?k4 ?l30 ?c30 ?k30 ?a5 ?l5 ?c5 ?k5 ?a13 ?l13 ?c13 ?k13 ?a7 ?l7 ?c7 ?k7 ?a8 ?l8 ?c8 ?k8 ?a14 ?l14 ?c14 ?k14 ?l20 ?c20 ?k20 ?l22 ?c22 ?k22 ?l27 ?c27 ?k27 ?z_bool ?z_enumerate ?z_int ?z_isinstance ?z_len ?z_list ?z_max ?z_range ?z_str ?z_zip ?c_FIGURES ?c_LETTERS ?c_MOST_ASKS ?c_MOST_PLACES ?e1 ?k_NoName ?b_1 ?t_1 ?e2 ?k_NoNumber ?b_2 ?t_2 ?e3 ?k_Twice ?b_3 ?t_3 ?e4 ?k_TooMany ?b_4 ?t_4 ?b_5 ?t_5 ?b_6 ?t_6 ?e7 ?k_There ?b_7 ?t_7 ?e8 ?k_NotThere ?b_8 ?t_8 ?e9 ?k_Full ?b_9 ?t_9 ?b_10 ?t_10 ?lx5 ?xs5 ?k_Unknown ?xn5_name ?xn5_place ?lx6 ?xs6 ?k_TooWide ?xn6_name ?xn6_place ?lx10 ?xs10 ?k_BadBook ?xn10_place)
    (case ac0 => k_is)
    (case pg0 => k_is)
    (case hd0 => k_is)
    (case po0 => k_is)
    (case sa0 => k_is)
    (case mm0 => k_is)
    (case kc0 => k_is)
    (case nf0_stock => k_is)
    (case nf0_places => k_is)
    (case nf0_there => k_is)
    (case nf0_used => k_is)
    (case ac1 => k_is)
    (case pg1 => k_is)
    (case hd1 => k_is)
    (case po1 => k_is)
    (case sa1 => k_is)
    (case mm1 => k_is)
    (case kc1 => k_is)
    (case nf1_costs => k_is)
    (case nf1_rooms => k_is)
    (case g_NoName => k_is)
    (case g_NoNumber => k_is)
    (case g_Twice => k_is)
    (case g_TooMany => k_is)
    (case g_Unknown => k_is)
    (case g_TooWide => k_is)
    (case g_There => k_is)
    (case g_NotThere => k_is)
    (case g_Full => k_is)
    (case g_BadBook => k_is)
    (case xi5 => k_is)
    (case xt5 => k_is)
    (case xi6 => k_is)
    (case xt6 => k_is)
    (case xi10 => k_is)
    (case xt10 => k_is)
    (case mi0 => k_is)
    (case if29 => k_is)
    (case mi1 => k_is)
    (case if35 => k_is)
    (case mf0_cast => k_is)
    (case if34 => k_is)
    (case mf0_holds => k_is)
    (case if31 => k_is)
    (case mf0_lying => k_is)
    (case if30 => k_is)
    (case mf0_put => k_is)
    (case if33 => k_is)
    (case mf0_room_left => k_is)
    (case if32 => k_is)
    (case mf1_has => k_is)
    (case if37 => k_is)
    (case mf1_room_of => k_is)
    (case if40 => k_is)
    (case a9 => k_is)
    (case l9 => k_is)
    (case c9 => k_is)
    (case k9 => k_is)
    (case a6 => k_is)
    (case l6 => k_is)
    (case c6 => k_is)
    (case k6 => k_is)
    (case a0 => k_is)
    (case l0 => k_is)
    (case c0 => k_is)
    (case k0 => k_is)
    (case l35 => k_is)
    (case c35 => k_is)
    (case k35 => k_is)
    (case a10 => k_is)
    (case l10 => k_is)
    (case c10 => k_is)
    (case k10 => k_is)
    (case a11 => k_is)
    (case l11 => k_is)
    (case c11 => k_is)
    (case k11 => k_is)
    (case a12 => k_is)
    (case l12 => k_is)
    (case c12 => k_is)
    (case k12 => k_is)
    (case a1 => k_is)
    (case l1 => k_is)
    (case c1 => k_is)
    (case k1 => k_is)
    (case l37 => k_is)
    (case c37 => k_is)
    (case k37 => k_is)
    (case l40 => k_is)
    (case c40 => k_is)
    (case k40 => k_is)
    (case a2 => k_is)
    (case l2 => k_is)
    (case c2 => k_is)
    (case k2 => k_is)
    (case l29 => k_is)
    (case c29 => k_is)
    (case k29 => k_is)
    (case l34 => k_is)
    (case c34 => k_is)
    (case k34 => k_is)
    (case l31 => k_is)
    (case c31 => k_is)
    (case k31 => k_is)
    (case a3 => k_is)
    (case l3 => k_is)
    (case c3 => k_is)
    (case k3 => k_is)
    (case l32 => k_is)
    (case c32 => k_is)
    (case k32 => k_is)
    (case l33 => k_is)
    (case c33 => k_is)
    (case k33 => k_is)
    (case a4 => k_is)
    (case l4 => k_is)
    (case c4 => k_is)
    (case k4 => k_is)
    (case l30 => k_is)
    (case c30 => k_is)
    (case k30 => k_is)
    (case a5 => k_is)
    (case l5 => k_is)
    (case c5 => k_is)
    (case k5 => k_is)
    (case a13 => k_is)
    (case l13 => k_is)
    (case c13 => k_is)
    (case k13 => k_is)
    (case a7 => k_is)
    (case l7 => k_is)
    (case c7 => k_is)
    (case k7 => k_is)
    (case a8 => k_is)
    (case l8 => k_is)
    (case c8 => k_is)
    (case k8 => k_is)
    (case a14 => k_is)
    (case l14 => k_is)
    (case c14 => k_is)
    (case k14 => k_is)
    (case l20 => k_is)
    (case c20 => k_is)
    (case k20 => k_is)
    (case l22 => k_is)
    (case c22 => k_is)
    (case k22 => k_is)
    (case l27 => k_is)
    (case c27 => k_is)
    (case k27 => k_is)
    (case z_bool => k_is)
    (case z_enumerate => k_is)
    (case z_int => k_is)
    (case z_isinstance => k_is)
    (case z_len => k_is)
    (case z_list => k_is)
    (case z_max => k_is)
    (case z_range => k_is)
    (case z_str => k_is)
    (case z_zip => k_is)
    (case c_FIGURES => k_is)
    (case c_LETTERS => k_is)
    (case c_MOST_ASKS => k_is)
    (case c_MOST_PLACES => k_is)
    (case e1 => k_exc)
    (case k_NoName => k_is)
    (case b_1 => k_is)
    (case t_1 => k_is)
    (case e2 => k_exc)
    (case k_NoNumber => k_is)
    (case b_2 => k_is)
    (case t_2 => k_is)
    (case e3 => k_exc)
    (case k_Twice => k_is)
    (case b_3 => k_is)
    (case t_3 => k_is)
    (case e4 => k_exc)
    (case k_TooMany => k_is)
    (case b_4 => k_is)
    (case t_4 => k_is)
    (case b_5 => k_is)
    (case t_5 => k_is)
    (case b_6 => k_is)
    (case t_6 => k_is)
    (case e7 => k_exc)
    (case k_There => k_is)
    (case b_7 => k_is)
    (case t_7 => k_is)
    (case e8 => k_exc)
    (case k_NotThere => k_is)
    (case b_8 => k_is)
    (case t_8 => k_is)
    (case e9 => k_exc)
    (case k_Full => k_is)
    (case b_9 => k_is)
    (case t_9 => k_is)
    (case b_10 => k_is)
    (case t_10 => k_is)
    (case lx5 => exact ⟨_, _, _, _, _, _, _, _, _, _, _, _, _, _, _, by k_is, by decide +kernel⟩)
    (case xs5 => k_is)
    (case k_Unknown => k_is)
    (case xn5_name => k_is)
    (case xn5_place => k_is)
    (case lx6 => exact ⟨_, _, _, _, _, _, _, _, _, _, _, _, _, _, _, by k_is, by decide +kernel⟩)
    (case xs6 => k_is)
    (case k_TooWide => k_is)
    (case xn6_name => k_is)
    (case xn6_place => k_is)
    (case lx10 => exact ⟨_, _, _, _, _, _, _, _, _, _, _, _, _, _, _, by k_is, by decide +kernel⟩)
    (case xs10 => k_is)
    (case k_BadBook => k_is)
    (case xn10_place => k_is)
